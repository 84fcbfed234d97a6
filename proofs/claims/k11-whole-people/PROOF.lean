import PyProof.Rows.All
import Wide.All
import OpenK.AllK
import Wide.FinOn
import HandS.ForMost
import HandS.IsInst
import HandS.Zip
import HandS.Deep
import HandS.TupAny
import HandS.TupMul
import HandS.Walk
import HandS.Conv
import HandS.Style
import HandS.Strs
import HandS.Set
import HandS.SetFor
import KE.KSortedM
import HandS.Iter
import HandS.Text
import HandS.RaiseMore
import KE.KIndexOf
import KE.KDictKeyed
import HandS.More
import HandS.Codes
import PySem.Challenge.RW_turnhalls_k11_whole_people
set_option Elab.async false
set_option linter.all false
set_option maxRecDepth 100000
set_option maxHeartbeats 4000000
namespace TH
open PySem L2
/-! ## data and heaps -/
mutual
/-- v stands for the datum d; lists within are tracked ones -/
inductive Dq (K : PySem.W.Frag) (H : Hp) : V → PyData → Prop
  | non : Dq K H .non .none
  | bl (b : Bool) : Dq K H (.bl b) (.bool b)
  | int (i : Int) : Dq K H (.int i) (.int i)
  | str (x : Str) : Dq K H (.str x) (.str x)
  | lst {a : Addr} {xs : List V} {ds : List PyData} : H a = some (.lst xs) → DqAll K H xs ds → Dq K H (.ref a) (.list ds)
  | tup {a : Addr} {xs : List V} {ds : List PyData} : SqT K H a xs → DqAll K H xs ds → Dq K H (.ref a) (.tuple ds)
inductive DqAll (K : PySem.W.Frag) (H : Hp) : List V → List PyData → Prop
  | nil : DqAll K H [] []
  | cons {v : V} {vs : List V} {d : PyData} {ds : List PyData} : Dq K H v d → DqAll K H vs ds → DqAll K H (v :: vs) (d :: ds)
end
mutual
theorem Dq.dp {K : PySem.W.Frag} {H : Hp} : ∀ {v : V} {d : PyData}, Dq K H v d → Dp K H v d
  | _, _, .non => .non
  | _, _, .bl b => .bl b
  | _, _, .int i => .int i
  | _, _, .str x => .str x
  | _, _, .lst hs ha => .lst (.of hs) ha.dp
  | _, _, .tup hs ha => .tup hs ha.dp
theorem DqAll.dp {K : PySem.W.Frag} {H : Hp} : ∀ {vs : List V} {ds : List PyData}, DqAll K H vs ds → DpAll K H vs ds
  | _, _, .nil => .nil
  | _, _, .cons h t => .cons h.dp t.dp
end

mutual
theorem dp_same {K : PySem.W.Frag} {H H' : Hp} (e : Same H H') : ∀ {v : V} {d : PyData}, Dq K H v d → Dq K H' v d
  | _, _, .non => .non
  | _, _, .bl b => .bl b
  | _, _, .int i => .int i
  | _, _, .str x => .str x
  | _, _, .lst hs ha => .lst (e _ _ hs) (dps_same e ha)
  | _, _, .tup hs ha => .tup (by
      rcases hs with (h | ⟨o, h⟩) | h
      · exact .inl (.inl (e _ _ h))
      · exact .inl (.inr ⟨o, e _ _ h⟩)
      · exact .inr h) (dps_same e ha)
theorem dps_same {K : PySem.W.Frag} {H H' : Hp} (e : Same H H') : ∀ {vs : List V} {ds : List PyData}, DqAll K H vs ds → DqAll K H' vs ds
  | _, _, .nil => .nil
  | _, _, .cons h t => .cons (dp_same e h) (dps_same e t)
end
/-- tuples and what is locked stay -/
def Tk (H H' : Hp) : Prop := (∀ a xs, H a = some (.tup xs) → H' a = some (.tup xs)) ∧ ∀ a o u, H a = some (.frz o u) → H' a = some (.frz o u)
theorem Tk.refl (H : Hp) : Tk H H := ⟨fun _ _ h => h, fun _ _ _ h => h⟩
theorem Same.tk {H H' : Hp} (e : Same H H') : Tk H H' := ⟨fun a _ h => e a _ h, fun a _ _ h => e a _ h⟩
theorem Tk.trans {H H1 H2 : Hp} (a : Tk H H1) (b : Tk H1 H2) : Tk H H2 := ⟨fun x _ h => b.1 x _ (a.1 x _ h), fun x _ _ h => b.2 x _ _ (a.2 x _ _ h)⟩
mutual
/-- no list within -/
def noL : PyData → Bool
  | .none => true
  | .bool _ => true
  | .int _ => true
  | .str _ => true
  | .list _ => false
  | .tuple ds => noLs ds
  | .dict _ => false
def noLs : List PyData → Bool
  | [] => true
  | d :: ds => noL d && noLs ds
end
theorem noLs_iff : ∀ {ds : List PyData}, noLs ds = true ↔ ∀ d ∈ ds, noL d = true
  | [] => by simp [noLs]
  | d :: ds => by simp [noLs, noLs_iff (ds := ds)]
theorem sqt_tk {K : PySem.W.Frag} {H H' : Hp} {a : Addr} {xs : List V} (e : Tk H H') (h : SqT K H a xs) : SqT K H' a xs := by
  rcases h with (h | ⟨o, h⟩) | h
  · exact .inl (.inl (e.1 _ _ h))
  · exact .inl (.inr ⟨o, e.2 _ _ _ h⟩)
  · exact .inr h
mutual
theorem dp_tk {K : PySem.W.Frag} {H H' : Hp} (e : Tk H H') : ∀ {v : V} {d : PyData}, Dq K H v d → noL d = true → Dq K H' v d
  | _, _, .non, _ => .non
  | _, _, .bl b, _ => .bl b
  | _, _, .int i, _ => .int i
  | _, _, .str x, _ => .str x
  | _, _, .lst _ _, n => by simp [noL] at n
  | _, _, .tup hs ha, n => .tup (sqt_tk e hs) (dps_tk e ha (by simpa [noL] using n))
theorem dps_tk {K : PySem.W.Frag} {H H' : Hp} (e : Tk H H') : ∀ {vs : List V} {ds : List PyData}, DqAll K H vs ds → noLs ds = true → DqAll K H' vs ds
  | _, _, .nil, _ => .nil
  | _, _, .cons h t, n => by
    simp only [noLs, Bool.and_eq_true] at n
    exact .cons (dp_tk e h n.1) (dps_tk e t n.2)
end
theorem DqAll.length {K : PySem.W.Frag} {H : Hp} : ∀ {vs : List V} {ds : List PyData}, DqAll K H vs ds → vs.length = ds.length
  | _, _, .nil => rfl
  | _, _, .cons _ t => by simp [DqAll.length t]
theorem DqAll.get {K : PySem.W.Frag} {H : Hp} : ∀ {vs : List V} {ds : List PyData} {i : Nat} {v : V}, DqAll K H vs ds → vs[i]? = some v → ∃ d, ds[i]? = some d ∧ Dq K H v d
  | _, _, _, _, .nil, e => by simp at e
  | _, _, 0, _, .cons h _, e => by simp at e; subst e; exact ⟨_, rfl, h⟩
  | _, _, i + 1, v, .cons _ t, e => by
    obtain ⟨d, h1, h2⟩ := DqAll.get (i := i) (v := v) t (by simpa using e)
    exact ⟨d, by simpa using h1, h2⟩
theorem DqAll.get' {K : PySem.W.Frag} {H : Hp} : ∀ {vs : List V} {ds : List PyData} {i : Nat} {d : PyData}, DqAll K H vs ds → ds[i]? = some d → ∃ v, vs[i]? = some v ∧ Dq K H v d
  | _, _, _, _, .nil, e => by simp at e
  | _, _, 0, _, .cons h _, e => by simp at e; subst e; exact ⟨_, rfl, h⟩
  | _, _, i + 1, v, .cons _ t, e => by
    obtain ⟨d, h1, h2⟩ := DqAll.get' (i := i) (d := v) t (by simpa using e)
    exact ⟨d, by simpa using h1, h2⟩
theorem DqAll.append {K : PySem.W.Frag} {H : Hp} : ∀ {vs ws : List V} {ds es : List PyData}, DqAll K H vs ds → DqAll K H ws es → DqAll K H (vs ++ ws) (ds ++ es)
  | _, _, _, _, .nil, s => s
  | _, _, _, _, .cons h t, s => .cons h (DqAll.append t s)
theorem DqAll.take {K : PySem.W.Frag} {H : Hp} : ∀ {vs : List V} {ds : List PyData} (n : Nat), DqAll K H vs ds → DqAll K H (vs.take n) (ds.take n)
  | _, _, 0, _ => .nil
  | _, _, _ + 1, .nil => .nil
  | _, _, n + 1, .cons h t => .cons h (DqAll.take n t)
theorem DqAll.drop {K : PySem.W.Frag} {H : Hp} : ∀ {vs : List V} {ds : List PyData} (n : Nat), DqAll K H vs ds → DqAll K H (vs.drop n) (ds.drop n)
  | _, _, 0, h => h
  | _, _, _ + 1, .nil => .nil
  | _, _, n + 1, .cons _ t => DqAll.drop n t
theorem DqAll.set {K : PySem.W.Frag} {H : Hp} {v : V} {d : PyData} (hd : Dq K H v d) : ∀ {vs : List V} {ds : List PyData} (n : Nat), DqAll K H vs ds → DqAll K H (vs.set n v) (ds.set n d)
  | _, _, _, .nil => .nil
  | _, _, 0, .cons _ t => .cons hd t
  | _, _, n + 1, .cons h t => .cons h (DqAll.set hd n t)
theorem DqAll.ints {K : PySem.W.Frag} {H : Hp} : ∀ {vs : List V} {ns : List Int}, DqAll K H vs (ns.map PyData.int) → vs = ns.map V.int
  | _, [], .nil => rfl
  | _, n :: ns, .cons h t => by cases h; rw [DqAll.ints t]; rfl
theorem DqAll.strs {K : PySem.W.Frag} {H : Hp} : ∀ {vs : List V} {ns : List Str}, DqAll K H vs (ns.map PyData.str) → vs = ns.map V.str
  | _, [], .nil => rfl
  | _, n :: ns, .cons h t => by cases h; rw [DqAll.strs t]; rfl
theorem DqAll.bls {K : PySem.W.Frag} {H : Hp} : ∀ {vs : List V} {ns : List Bool}, DqAll K H vs (ns.map PyData.bool) → vs = ns.map V.bl
  | _, [], .nil => rfl
  | _, n :: ns, .cons h t => by cases h; rw [DqAll.bls t]; rfl
theorem dps_ints {K : PySem.W.Frag} {H : Hp} : ∀ (ns : List Int), DqAll K H (ns.map V.int) (ns.map PyData.int)
  | [] => .nil
  | n :: ns => .cons (.int n) (dps_ints ns)
theorem dps_strs {K : PySem.W.Frag} {H : Hp} : ∀ (ns : List Str), DqAll K H (ns.map V.str) (ns.map PyData.str)
  | [] => .nil
  | n :: ns => .cons (.str n) (dps_strs ns)
theorem same_new {H : Hp} {p : Addr} {o : HO} (h : H p = none) : Same H (upd H p o) := fun a u e => by
  rw [upd_ne (ne_of_none e h)]
  exact e

/-! ## slots and expressions -/
structure EnvD (K : PySem.W.Frag) (H : Hp) (σ : L2.St) (r : List (Option PyData)) : Prop where
  len : σ.length = r.length
  get : ∀ (i : Nat) (d : PyData), r[i]? = some (some d) → ∃ v, σ[i]? = some (some v) ∧ Dq K H v d
theorem EnvD.same {K : PySem.W.Frag} {H H' : Hp} {σ : L2.St} {r : List (Option PyData)} (E : EnvD K H σ r) (e : Same H H') : EnvD K H' σ r := ⟨E.len, fun i d h => by
  obtain ⟨v, h1, h2⟩ := E.get i d h
  exact ⟨v, h1, dp_same e h2⟩⟩
theorem EnvD.set {K : PySem.W.Frag} {H : Hp} {σ : L2.St} {r : List (Option PyData)} {v : V} {d : PyData} (E : EnvD K H σ r) (i : Nat) (h : Dq K H v d) : EnvD K H (σ.set i (some v)) (r.set i (some d)) := by
  refine ⟨by simp [E.len], fun j e q => ?_⟩
  by_cases hj : i = j
  · subst hj
    by_cases hl : i < r.length
    · rw [List.getElem?_set_self hl] at q
      cases q
      exact ⟨v, List.getElem?_set_self (by rw [E.len]; exact hl), h⟩
    · rw [List.getElem?_eq_none (by simpa using hl)] at q
      cases q
  · rw [List.getElem?_set_ne hj] at q ⊢
    exact E.get j e q
/-- what is wanted behind a pure expression -/
abbrev QD (K : PySem.W.Frag) (H : Hp) (d : PyData) : VK := fun v H' => Same H H' ∧ Dq K H' v d
/-- e gives d, and changes nothing -/
structure EV (X : Cx) (e : Expr) (r : List (Option PyData)) (d : PyData) : Prop where
  run : ∀ (pins : List (Addr × Obj)) (s : Shared) (σ : L2.St) (H : Hp), Inv X pins σ H s → EnvD X.K H σ r → wpAny (model X.prog X.w) X.A (eval e X.env) (EP X pins σ (QD X.K H d)) X.xe s
/-- the reading that any expression has -/
def tE (X : Cx) (e : Expr) : TE := fun σ H Q => ∀ (pins : List (Addr × Obj)) (s : Shared), Inv X pins σ H s → wpAny (model X.prog X.w) X.A (eval e X.env) (EP X pins σ Q) X.xe s
theorem pe_any {X : Cx} {e : Expr} : PE X e (tE X e) := ⟨fun pins s σ H Q I h => h pins s I⟩
theorem EV.use {X : Cx} {e : Expr} {r : List (Option PyData)} {d : PyData} (h : EV X e r d) {σ : L2.St} {H : Hp} {Q : VK} (E : EnvD X.K H σ r) (q : ∀ v H', Same H H' → Dq X.K H' v d → Q v H') : tE X e σ H Q := fun pins s I =>
  thn (h.run pins s σ H I E) fun u s' ⟨v, H', I', rv, e1, e2⟩ => ⟨v, H', I', rv, q v H' e1 e2⟩
theorem EV.mk' {X : Cx} {e : Expr} {r : List (Option PyData)} {d : PyData} {t : TE} (p : PE X e t) (h : ∀ σ H, EnvD X.K H σ r → t σ H (QD X.K H d)) : EV X e r d :=
  ⟨fun pins s σ H I E => p.run pins s σ H _ I (h σ H E)⟩
theorem EV.cast {X : Cx} {e : Expr} {r : List (Option PyData)} {d d' : PyData} (h : EV X e r d) (q : d = d') : EV X e r d' := q ▸ h
/-- a new list -/
abbrev QL (K : PySem.W.Frag) (H : Hp) (ds : List PyData) : VK := fun v H' => ∃ p vs, v = .ref p ∧ H p = none ∧ Same H H' ∧ H' p = some (.lst vs) ∧ DqAll K H' vs ds
structure EVL (X : Cx) (e : Expr) (r : List (Option PyData)) (ds : List PyData) : Prop where
  run : ∀ (pins : List (Addr × Obj)) (s : Shared) (σ : L2.St) (H : Hp), Inv X pins σ H s → EnvD X.K H σ r → wpAny (model X.prog X.w) X.A (eval e X.env) (EP X pins σ (QL X.K H ds)) X.xe s
theorem EVL.mk' {X : Cx} {e : Expr} {r : List (Option PyData)} {d : List PyData} {t : TE} (p : PE X e t) (h : ∀ σ H, EnvD X.K H σ r → t σ H (QL X.K H d)) : EVL X e r d :=
  ⟨fun pins s σ H I E => p.run pins s σ H _ I (h σ H E)⟩
theorem EVL.use {X : Cx} {e : Expr} {r : List (Option PyData)} {ds : List PyData} (h : EVL X e r ds) {σ : L2.St} {H : Hp} {Q : VK} (E : EnvD X.K H σ r) (q : ∀ p vs H', H p = none → Same H H' → H' p = some (.lst vs) → DqAll X.K H' vs ds → Q (.ref p) H') : tE X e σ H Q := fun pins s I =>
  thn (h.run pins s σ H I E) fun u s' ⟨v, H', I', rv, p, vs, ev, e1, e2, e3, e4⟩ => ⟨v, H', I', rv, by subst ev; exact q p vs H' e1 e2 e3 e4⟩
theorem EVL.ev {X : Cx} {e : Expr} {r : List (Option PyData)} {ds : List PyData} (h : EVL X e r ds) : EV X e r (.list ds) :=
  ⟨fun pins s σ H I E => thn (h.run pins s σ H I E) fun u s' ⟨v, H', I', rv, p, vs, ev, e1, e2, e3, e4⟩ => ⟨v, H', I', rv, e2, by subst ev; exact .lst e3 e4⟩⟩
theorem EVL.cast {X : Cx} {e : Expr} {r : List (Option PyData)} {d d' : List PyData} (h : EVL X e r d) (q : d = d') : EVL X e r d' := q ▸ h
/-- arguments -/
def tA (X : Cx) (es : List Expr) : TA := fun σ H Q => ∀ (pos : Pos) (pins : List (Addr × Obj)) (s : Shared), Inv X pins σ H s → wpAny (model X.prog X.w) X.A (spliced (backTo pos (starEach es X.env))) (AP X pins σ Q) X.xe s
theorem pa_any {X : Cx} {es : List Expr} : PA X es (tA X es) := ⟨fun pos pins s σ H Q I h => h pos pins s I⟩
structure EVS (X : Cx) (es : List Expr) (r : List (Option PyData)) (ds : List PyData) : Prop where
  run : ∀ (pos : Pos) (pins : List (Addr × Obj)) (s : Shared) (σ : L2.St) (H : Hp), Inv X pins σ H s → EnvD X.K H σ r → wpAny (model X.prog X.w) X.A (spliced (backTo pos (starEach es X.env))) (AP X pins σ (fun vs H' => Same H H' ∧ DqAll X.K H' vs ds)) X.xe s
theorem EVS.use {X : Cx} {es : List Expr} {r : List (Option PyData)} {ds : List PyData} (h : EVS X es r ds) {σ : L2.St} {H : Hp} {Q : List V → Hp → Prop} (E : EnvD X.K H σ r) (q : ∀ vs H', Same H H' → DqAll X.K H' vs ds → Q vs H') : tA X es σ H Q := fun pos pins s I =>
  thn (h.run pos pins s σ H I E) fun u s' ⟨v, H', I', rv, e1, e2⟩ => ⟨v, H', I', rv, q v H' e1 e2⟩
theorem es_nil {X : Cx} {r : List (Option PyData)} : EVS X [] r [] :=
  ⟨fun pos pins s σ H I E => pa_nil.run pos pins s σ H _ I ⟨Same.refl H, .nil⟩⟩
theorem es_cons {X : Cx} {e : Expr} {es : List Expr} {r : List (Option PyData)} {d : PyData} {ds : List PyData} (h : EV X e r d) (hr : EVS X es r ds)
    (hs : starEach (e :: es) X.env = (false, eval e X.env) :: starEach es X.env := by rfl) : EVS X (e :: es) r (d :: ds) :=
  ⟨fun pos pins s σ H I E => (pa_cons pe_any pa_any hs).run pos pins s σ H _ I (h.use E fun v H1 e1 dv => hr.use (E.same e1) fun vs H2 e2 dvs => ⟨e1.trans e2, .cons (dp_same e2 dv) dvs⟩)⟩

/-! ## tests -/
structure EVT (X : Cx) (e : Expr) (r : List (Option PyData)) (b : Bool) : Prop where
  run : ∀ (pins : List (Addr × Obj)) (s : Shared) (σ : L2.St) (H : Hp), Inv X pins σ H s → EnvD X.K H σ r → wpAny (model X.prog X.w) X.A (isTrue e X.env (eval e X.env)) (TP X pins σ (fun c H' => c = b ∧ Same H H')) X.xe s
def tT (X : Cx) (e : Expr) : TT := fun σ H Q => ∀ (pins : List (Addr × Obj)) (s : Shared), Inv X pins σ H s → wpAny (model X.prog X.w) X.A (isTrue e X.env (eval e X.env)) (TP X pins σ Q) X.xe s
theorem pt_any {X : Cx} {e : Expr} : PT X e (tT X e) := ⟨fun pins s σ H Q I h => h pins s I⟩
theorem EVT.use {X : Cx} {e : Expr} {r : List (Option PyData)} {b : Bool} (h : EVT X e r b) {σ : L2.St} {H : Hp} {Q : Bool → Hp → Prop} (E : EnvD X.K H σ r) (q : ∀ H', Same H H' → Q b H') : tT X e σ H Q := fun pins s I =>
  thn (h.run pins s σ H I E) fun c s' ⟨H', I', e1, e2⟩ => ⟨H', I', by subst e1; exact q H' e2⟩
theorem EVT.mk' {X : Cx} {e : Expr} {r : List (Option PyData)} {b : Bool} {t : TT} (p : PT X e t) (h : ∀ σ H, EnvD X.K H σ r → t σ H (fun c H' => c = b ∧ Same H H')) : EVT X e r b :=
  ⟨fun pins s σ H I E => p.run pins s σ H _ I (h σ H E)⟩
theorem EVT.cast {X : Cx} {e : Expr} {r : List (Option PyData)} {d d' : Bool} (h : EVT X e r d) (q : d = d') : EVT X e r d' := q ▸ h
/-- and, or: whatever the whole is -/
structure EVW (X : Cx) (e : Expr) (r : List (Option PyData)) (b : Bool) : Prop where
  run : ∀ (wh : Sem Value) (pins : List (Addr × Obj)) (s : Shared) (σ : L2.St) (H : Hp), Inv X pins σ H s → EnvD X.K H σ r → wpAny (model X.prog X.w) X.A (isTrue e X.env wh) (TP X pins σ (fun c H' => c = b ∧ Same H H')) X.xe s
theorem EVW.t {X : Cx} {e : Expr} {r : List (Option PyData)} {b : Bool} (h : EVW X e r b) : EVT X e r b := ⟨h.run _⟩
def tW (X : Cx) (e : Expr) : TT := fun σ H Q => ∀ (wh : Sem Value) (pins : List (Addr × Obj)) (s : Shared), Inv X pins σ H s → wpAny (model X.prog X.w) X.A (isTrue e X.env wh) (TP X pins σ Q) X.xe s
theorem pw_any {X : Cx} {e : Expr} : PW X e (tW X e) := ⟨fun wh pins s σ H Q I h => h wh pins s I⟩
theorem EVW.use {X : Cx} {e : Expr} {r : List (Option PyData)} {b : Bool} (h : EVW X e r b) {σ : L2.St} {H : Hp} {Q : Bool → Hp → Prop} (E : EnvD X.K H σ r) (q : ∀ H', Same H H' → Q b H') : tW X e σ H Q := fun wh pins s I =>
  thn (h.run wh pins s σ H I E) fun c s' ⟨H', I', e1, e2⟩ => ⟨H', I', by subst e1; exact q H' e2⟩
theorem EVW.mk' {X : Cx} {e : Expr} {r : List (Option PyData)} {b : Bool} {t : TT} (p : PW X e t) (h : ∀ σ H, EnvD X.K H σ r → t σ H (fun c H' => c = b ∧ Same H H')) : EVW X e r b :=
  ⟨fun wh pins s σ H I E => p.run wh pins s σ H _ I (h σ H E)⟩
section
variable {X : Cx} {r : List (Option PyData)} {a b c : Expr} {rest : List Expr} {pos : Pos} {x y : Bool}
theorem ew_and1 (h : EVT X a r x) : EVW X (.BoolOp .And [a] pos) r x := .mk' (pw_and1 pt_any) fun σ H E => h.use E fun H' e => ⟨rfl, e⟩
theorem ew_or1 (h : EVT X a r x) : EVW X (.BoolOp .Or [a] pos) r x := .mk' (pw_or1 pt_any) fun σ H E => h.use E fun H' e => ⟨rfl, e⟩
theorem ew_and (h : EVT X a r x) (h2 : x = true → EVW X (.BoolOp .And (b :: rest) pos) r y) : EVW X (.BoolOp .And (a :: b :: rest) pos) r (x && y) := .mk' (pw_and pt_any pw_any) fun σ H E => h.use E fun H' e => by
  cases x with
  | true => exact iteT ((h2 rfl).use (E.same e) fun H2 e2 => ⟨rfl, e.trans e2⟩)
  | false => exact iteF ⟨rfl, e⟩
theorem ew_or (h : EVT X a r x) (h2 : x = false → EVW X (.BoolOp .Or (b :: rest) pos) r y) : EVW X (.BoolOp .Or (a :: b :: rest) pos) r (x || y) := .mk' (pw_or pt_any pw_any) fun σ H E => h.use E fun H' e => by
  cases x with
  | true => exact iteT ⟨rfl, e⟩
  | false => exact iteF ((h2 rfl).use (E.same e) fun H2 e2 => ⟨rfl, e.trans e2⟩)
theorem et_not (h : EVT X a r x) : EVT X (.UnaryOp .Not a pos) r (!x) := .mk' (pt_not pt_any) fun σ H E => h.use E fun H' e => ⟨rfl, e⟩
theorem et_val (h : EV X a r (.bool x)) (he : ∀ whole, isTrue a X.env whole = (do let v ← whole; standAt a.pos; holding [v] (truthy v)) := by intro _; rfl) : EVT X a r x := .mk' (pt_val pe_any he) fun σ H E => h.use E fun v H' e d => by
  cases d
  exact ⟨_, rfl, rfl, e⟩
theorem ev_one {op : BoolOp} {d : PyData} (h : EV X a r d) : EV X (.BoolOp op [a] pos) r d := .mk' (pe_one pe_any) fun σ H E => h.use E fun v H' e d => ⟨e, d⟩
theorem ev_and (h : EV X a r (.bool x)) (h2 : x = true → EV X (.BoolOp .And (b :: rest) pos) r (.bool y)) : EV X (.BoolOp .And (a :: b :: rest) pos) r (.bool (x && y)) := .mk' (pe_and pe_any pe_any) fun σ H E => h.use E fun v H' e d => by
  cases d
  refine ⟨_, rfl, ?_⟩
  cases x with
  | true => exact iteT ((h2 rfl).use (E.same e) fun v H2 e2 d => ⟨e.trans e2, d⟩)
  | false => exact iteF ⟨e, .bl _⟩
theorem ev_or (h : EV X a r (.bool x)) (h2 : x = false → EV X (.BoolOp .Or (b :: rest) pos) r (.bool y)) : EV X (.BoolOp .Or (a :: b :: rest) pos) r (.bool (x || y)) := .mk' (pe_or pe_any pe_any) fun σ H E => h.use E fun v H' e d => by
  cases d
  refine ⟨_, rfl, ?_⟩
  cases x with
  | true => exact iteT ⟨e, .bl _⟩
  | false => exact iteF ((h2 rfl).use (E.same e) fun v H2 e2 d => ⟨e.trans e2, d⟩)
theorem ev_not (h : EV X a r (.bool x)) : EV X (.UnaryOp .Not a pos) r (.bool (!x)) := .mk' (pe_not pe_any) fun σ H E => h.use E fun v H' e d => by
  cases d
  exact ⟨_, rfl, e, .bl _⟩
theorem ev_if {d : PyData} (h : EVT X c r x) (h1 : x = true → EV X a r d) (h2 : x = false → EV X b r d) : EV X (.IfExp c a b pos) r d := .mk' (pe_ifExp pt_any pe_any pe_any) fun σ H E => h.use E fun H' e => by
  cases x with
  | true => exact iteT ((h1 rfl).use (E.same e) fun v H2 e2 d => ⟨e.trans e2, d⟩)
  | false => exact iteF ((h2 rfl).use (E.same e) fun v H2 e2 d => ⟨e.trans e2, d⟩)
/-! ## names and constants -/
theorem ev_var {i : Nat} {n : Str} {d : PyData} (hN : X.N[i]? = some n) (hv : Vis X.env.scope n) (h : r[i]? = some (some d)) (hd : (n == ("__debug__" : Str)) = false := by decide) (hcd : (n == ("__classdict__" : Str)) = false := by decide) : EV X (.Name n pos) r d := .mk' (pe_var hN hv hd hcd) fun σ H E => by
  obtain ⟨v, h1, h2⟩ := E.get i d h
  exact ⟨v, h1, Same.refl H, h2⟩
theorem ev_int {i : Int} {j} : EV X (.Constant (.int i) j pos) r (.int i) := .mk' pe_int fun σ H E => ⟨Same.refl H, .int i⟩
theorem ev_str {z : Str} {j} : EV X (.Constant (.str z) j pos) r (.str z) := .mk' pe_str fun σ H E => ⟨Same.refl H, .str z⟩
theorem ev_bl {z : Bool} {j} : EV X (.Constant (.bool z) j pos) r (.bool z) := .mk' pe_bl fun σ H E => ⟨Same.refl H, .bl z⟩
theorem ev_non {j} : EV X (.Constant .none j pos) r .none := .mk' pe_non fun σ H E => ⟨Same.refl H, .non⟩
/-- a name of the module that holds data -/
theorem ev_glob {n : Str} {v : V} {u : Value} {d : PyData} (hg : Gl X n) (hm : X.mg n = some u) (rv : RelV v u) (h : ∀ H, Dq X.K H v d) (hd : (n == ("__debug__" : Str)) = false := by decide) : EV X (.Name n pos) r d :=
  .mk' (pe_glob hg hm rv hd) fun σ H E => ⟨Same.refl H, h H⟩
theorem ev_tup {es : List Expr} {k} {ds : List PyData} (h : EVS X es r ds) (hz : ds.length ≤ 1000) : EV X (.Tuple es k pos) r (.tuple ds) := .mk' (pe_tup pa_any) fun σ H E => h.use E fun vs H' e d =>
  ⟨Nat.le_trans (by rw [d.length]; exact hz) (by decide), fun p hp => ⟨e.trans (same_new hp), .tup (.of upd_same) (dps_same (same_new hp) d)⟩⟩
theorem el_lst {es : List Expr} {ds : List PyData} (h : EVS X es r ds) (hz : ds.length ≤ 1000) : EVL X (.List es pos) r ds := .mk' (pe_lst pa_any) fun σ H E => h.use E fun vs H' e d =>
  ⟨Nat.le_trans (by rw [d.length]; exact hz) (by decide), fun p hp => ⟨p, vs, rfl, e.free hp, e.trans (same_new hp), upd_same, dps_same (same_new hp) d⟩⟩
end
end TH

namespace TH
open PySem L2
/-- a two-place operation on values that stand for data -/
def OpD (X : Cx) (f : Value → Value → Sem Value) (d e z : PyData) : Prop :=
  ∀ (pins : List (Addr × Obj)) (s : Shared) (σ : L2.St) (H : Hp) (x y : V) (u v : Value), Inv X pins σ H s → RelV x u → RelV y v → Dq X.K H x d → Dq X.K H y e → wpAny (model X.prog X.w) X.A (f u v) (EP X pins σ (QD X.K H z)) X.xe s
def OpL (X : Cx) (f : Value → Value → Sem Value) (d e : PyData) (z : List PyData) : Prop :=
  ∀ (pins : List (Addr × Obj)) (s : Shared) (σ : L2.St) (H : Hp) (x y : V) (u v : Value), Inv X pins σ H s → RelV x u → RelV y v → Dq X.K H x d → Dq X.K H y e → wpAny (model X.prog X.w) X.A (f u v) (EP X pins σ (QL X.K H z)) X.xe s
theorem OpD.of {X : Cx} {f : Value → Value → Sem Value} {t : R2} {d e z : PyData} (ho : OpR X f t) (h : ∀ x y H, Dq X.K H x d → Dq X.K H y e → t x y H (QD X.K H z)) : OpD X f d e z :=
  fun pins s σ H x y u v I rx ry dx dy => ho pins s σ H x y u v _ I rx ry (h x y H dx dy)
theorem OpL.of {X : Cx} {f : Value → Value → Sem Value} {t : R2} {d e : PyData} {z : List PyData} (ho : OpR X f t) (h : ∀ x y H, Dq X.K H x d → Dq X.K H y e → t x y H (QL X.K H z)) : OpL X f d e z :=
  fun pins s σ H x y u v I rx ry dx dy => ho pins s σ H x y u v _ I rx ry (h x y H dx dy)
theorem OpD.opR {X : Cx} {f : Value → Value → Sem Value} {d e z : PyData} (h : OpD X f d e z) : OpR X f (fun x y H Q => Dq X.K H x d ∧ Dq X.K H y e ∧ ∀ v H', Same H H' → Dq X.K H' v z → Q v H') :=
  fun pins s σ H x y u v Q I rx ry ⟨dx, dy, q⟩ => thn (h pins s σ H x y u v I rx ry dx dy) fun w s' ⟨v', H', I', rv, e1, e2⟩ => ⟨v', H', I', rv, q v' H' e1 e2⟩
theorem OpL.opR {X : Cx} {f : Value → Value → Sem Value} {d e : PyData} {z : List PyData} (h : OpL X f d e z) : OpR X f (fun x y H Q => Dq X.K H x d ∧ Dq X.K H y e ∧ ∀ v H', QL X.K H z v H' → Q v H') :=
  fun pins s σ H x y u v Q I rx ry ⟨dx, dy, q⟩ => thn (h pins s σ H x y u v I rx ry dx dy) fun w s' ⟨v', H', I', rv, e1⟩ => ⟨v', H', I', rv, q v' H' e1⟩
theorem QL.back {K : PySem.W.Frag} {H H1 H' : Hp} {z : List PyData} {v : V} (e : Same H H1) (q : QL K H1 z v H') : QL K H z v H' := by
  obtain ⟨p, vs, ev, e1, e2, e3, e4⟩ := q
  exact ⟨p, vs, ev, e.free e1, e.trans e2, e3, e4⟩
section
variable {X : Cx} {r : List (Option PyData)} {a b c : Expr} {pos : Pos} {d e z : PyData}
theorem ev_bin {op : Operator} (ha : EV X a r d) (hb : EV X b r e) (ho : OpD X (binaryOp op) d e z) : EV X (.BinOp a op b pos) r z := .mk' (pe_op ho.opR pe_any pe_any) fun σ H E =>
  ha.use E fun x H1 e1 dx => hb.use (E.same e1) fun y H2 e2 dy => ⟨dp_same e2 dx, dy, fun v H3 e3 dv => ⟨(e1.trans e2).trans e3, dv⟩⟩
theorem el_bin {op : Operator} {z : List PyData} (ha : EV X a r d) (hb : EV X b r e) (ho : OpL X (binaryOp op) d e z) : EVL X (.BinOp a op b pos) r z := .mk' (pe_op ho.opR pe_any pe_any) fun σ H E =>
  ha.use E fun x H1 e1 dx => hb.use (E.same e1) fun y H2 e2 dy => ⟨dp_same e2 dx, dy, fun v H3 q => q.back (e1.trans e2)⟩
theorem ev_cmp {op : CmpOp} {k : Bool} (ha : EV X a r d) (hb : EV X b r e) (ho : OpD X (compareOp op) d e (.bool k)) (hm : behindInMarks op b = false) : EV X (.Compare a [op] [b] pos) r (.bool k) := .mk' (pe_cmpR ho.opR pe_any pe_any hm) fun σ H E =>
  ha.use E fun x H1 e1 dx => hb.use (E.same e1) fun y H2 e2 dy => ⟨dp_same e2 dx, dy, fun v H3 e3 dv => ⟨(e1.trans e2).trans e3, dv⟩⟩
theorem et_cmp {op : CmpOp} {k : Bool} (ha : EV X a r d) (hb : EV X b r e) (ho : OpD X (compareOp op) d e (.bool k)) (hm : behindInMarks op b = false) : EVT X (.Compare a [op] [b] pos) r k := .mk' (pt_cmpR ho.opR pe_any pe_any hm) fun σ H E =>
  ha.use E fun x H1 e1 dx => hb.use (E.same e1) fun y H2 e2 dy => ⟨dp_same e2 dx, dy, fun v H3 e3 dv => by
    cases dv
    exact ⟨_, rfl, rfl, (e1.trans e2).trans e3⟩⟩
/-- a op1 b op2 c -/
theorem ev_chain {op op' : CmpOp} {k k' : Bool} {g : PyData} (ha : EV X a r d) (hb : EV X b r e) (hc : k = true → EV X c r g) (ho : OpD X (compareOp op) d e (.bool k)) (ho' : k = true → OpD X (compareOp op') e g (.bool k'))
    (hm : lastMarks [op, op'] [b, c] = false := by with_unfolding_all rfl) : EV X (.Compare a [op, op'] [b, c] pos) r (.bool (k && k')) := by
  cases k with
  | true => exact .mk' (pe_chain ho.opR (ho' rfl).opR pe_any pe_any pe_any hm) fun σ H E =>
      ha.use E fun x H1 e1 dx => hb.use (E.same e1) fun y H2 e2 dy => ⟨dp_same e2 dx, dy, fun v H3 e3 dv => by
        cases dv
        refine ⟨_, rfl, iteT ((hc rfl).use (E.same ((e1.trans e2).trans e3)) fun w H4 e4 dw => ⟨dp_same (e3.trans e4) dy, dw, fun v' H5 e5 dv' => ⟨(((e1.trans e2).trans e3).trans e4).trans e5, dv'⟩⟩)⟩⟩
  | false => exact .mk' (pe_chain ho.opR (r' := fun _ _ _ _ => False) (fun _ _ _ _ _ _ _ _ _ _ _ _ h => h.elim) pe_any pe_any (tc := fun _ _ _ => False) ⟨fun _ _ _ _ _ _ h => h.elim⟩ hm) (by
      intro σ H E
      refine ha.use E fun x H1 e1 dx => hb.use (E.same e1) fun y H2 e2 dy => ⟨dp_same e2 dx, dy, fun v H3 e3 dv => ?_⟩
      cases dv
      exact ⟨_, rfl, iteF ⟨(e1.trans e2).trans e3, .bl _⟩⟩)
theorem et_chain {op op' : CmpOp} {k k' : Bool} {g : PyData} (ha : EV X a r d) (hb : EV X b r e) (hc : k = true → EV X c r g) (ho : OpD X (compareOp op) d e (.bool k)) (ho' : k = true → OpD X (compareOp op') e g (.bool k'))
    (hm : lastMarks [op, op'] [b, c] = false := by with_unfolding_all rfl) : EVT X (.Compare a [op, op'] [b, c] pos) r (k && k') := by
  cases k with
  | true => exact .mk' (pt_chain ho.opR (ho' rfl).opR pe_any pe_any pe_any hm) fun σ H E =>
      ha.use E fun x H1 e1 dx => hb.use (E.same e1) fun y H2 e2 dy => ⟨dp_same e2 dx, dy, fun v H3 e3 dv => by
        cases dv
        refine ⟨_, rfl, iteT ((hc rfl).use (E.same ((e1.trans e2).trans e3)) fun w H4 e4 dw => ⟨dp_same (e3.trans e4) dy, dw, fun v' H5 e5 dv' => by
          cases dv'
          exact ⟨_, rfl, by simp, (((e1.trans e2).trans e3).trans e4).trans e5⟩⟩)⟩⟩
  | false => exact .mk' (pt_chain ho.opR (r' := fun _ _ _ _ => False) (fun _ _ _ _ _ _ _ _ _ _ _ _ h => h.elim) pe_any pe_any (tc := fun _ _ _ => False) ⟨fun _ _ _ _ _ _ h => h.elim⟩ hm) (by
      intro σ H E
      refine ha.use E fun x H1 e1 dx => hb.use (E.same e1) fun y H2 e2 dy => ⟨dp_same e2 dx, dy, fun v H3 e3 dv => ?_⟩
      cases dv
      exact ⟨_, rfl, iteF ⟨_, rfl, by simp, (e1.trans e2).trans e3⟩⟩)
/-! ### ints -/
variable {i j : Int}
theorem od_add : OpD X (binaryOp .Add) (.int i) (.int j) (.int (i + j)) := .of op_add fun x y H dx dy => by cases dx; cases dy; exact ⟨_, _, rfl, rfl, Same.refl H, .int _⟩
theorem od_sub : OpD X (binaryOp .Sub) (.int i) (.int j) (.int (i - j)) := .of op_sub fun x y H dx dy => by cases dx; cases dy; exact ⟨_, _, rfl, rfl, Same.refl H, .int _⟩
theorem od_mul (h : CMul i j) : OpD X (binaryOp .Mult) (.int i) (.int j) (.int (i * j)) := .of op_mul fun x y H dx dy => by cases dx; cases dy; exact ⟨_, _, rfl, rfl, h, Same.refl H, .int _⟩
theorem od_fdiv (h : CDiv i j) : OpD X (binaryOp .FloorDiv) (.int i) (.int j) (.int (i / j)) := .of op_fdiv fun x y H dx dy => by cases dx; cases dy; exact ⟨_, _, rfl, rfl, h, Same.refl H, .int _⟩
theorem od_mod (h : 0 < j) : OpD X (binaryOp .Mod) (.int i) (.int j) (.int (i % j)) := .of op_mod fun x y H dx dy => by cases dx; cases dy; exact ⟨_, _, rfl, rfl, h, Same.refl H, .int _⟩
theorem od_pow (h : CPow i j) : OpD X (binaryOp .Pow) (.int i) (.int j) (.int (i ^ j.toNat)) := .of op_pow fun x y H dx dy => by cases dx; cases dy; exact ⟨_, _, rfl, rfl, h, Same.refl H, .int _⟩
theorem oc_lt : OpD X (compareOp .Lt) (.int i) (.int j) (.bool (decide (i < j))) := .of op_lt fun x y H dx dy => by cases dx; cases dy; exact ⟨_, _, rfl, rfl, Same.refl H, .bl _⟩
theorem oc_le : OpD X (compareOp .LtE) (.int i) (.int j) (.bool (decide (i ≤ j))) := .of op_le fun x y H dx dy => by cases dx; cases dy; exact ⟨_, _, rfl, rfl, Same.refl H, .bl _⟩
theorem oc_gt : OpD X (compareOp .Gt) (.int i) (.int j) (.bool (decide (j < i))) := .of op_gt fun x y H dx dy => by cases dx; cases dy; exact ⟨_, _, rfl, rfl, Same.refl H, .bl _⟩
theorem oc_ge : OpD X (compareOp .GtE) (.int i) (.int j) (.bool (decide (j ≤ i))) := .of op_ge fun x y H dx dy => by cases dx; cases dy; exact ⟨_, _, rfl, rfl, Same.refl H, .bl _⟩
theorem oc_eqI : OpD X (compareOp .Eq) (.int i) (.int j) (.bool (decide (i = j))) := .of op_eq fun x y H dx dy => by
  cases dx; cases dy
  refine ⟨rfl, Same.refl H, ?_⟩
  rw [show decide (V.int i = V.int j) = decide (i = j) by rw [dec_int, Bool.beq_eq_decide_eq]]
  exact .bl _
theorem oc_neI : OpD X (compareOp .NotEq) (.int i) (.int j) (.bool (!decide (i = j))) := .of op_ne fun x y H dx dy => by
  cases dx; cases dy
  refine ⟨rfl, Same.refl H, ?_⟩
  rw [show decide (V.int i = V.int j) = decide (i = j) by rw [dec_int, Bool.beq_eq_decide_eq]]
  exact .bl _
/-! ### data of any kind -/
theorem oc_eq {k : Nat} (hr : Room k X.A) (h1 : SeqAt.shaped d = true) (h2 : SeqAt.shaped e = true) : OpD X (compareOp .Eq) d e (.bool (PyData.eqv d e)) := .of (op_eqD hr.units) fun x y H dx dy => ⟨d, e, dx.dp, dy.dp, h1, h2, Same.refl H, .bl _⟩
theorem oc_ne {k : Nat} (hr : Room k X.A) (h1 : SeqAt.shaped d = true) (h2 : SeqAt.shaped e = true) : OpD X (compareOp .NotEq) d e (.bool (!PyData.eqv d e)) := .of (op_neD hr.units) fun x y H dx dy => ⟨d, e, dx.dp, dy.dp, h1, h2, Same.refl H, .bl _⟩
theorem room65 {k : Nat} {A : Around} (hr : Room k A) : A.units + 65 < cLine := by have := hr.un; omega
theorem oc_inL {k : Nat} {ds : List PyData} (hr : Room k X.A) (h1 : SeqAt.shaped d = true) (h2 : SeqAt.shaped (.list ds) = true) : OpD X (compareOp .In) d (.list ds) (.bool (ds.any fun y => PyData.eqv y d)) := .of (op_inD (room65 hr)) fun x y H dx dy => ⟨d, ds, dx.dp, dy.dp, h1, h2, Same.refl H, .bl _⟩
theorem oc_notInL {k : Nat} {ds : List PyData} (hr : Room k X.A) (h1 : SeqAt.shaped d = true) (h2 : SeqAt.shaped (.list ds) = true) : OpD X (compareOp .NotIn) d (.list ds) (.bool (!ds.any fun y => PyData.eqv y d)) := .of (op_notInD (room65 hr)) fun x y H dx dy => ⟨d, ds, dx.dp, dy.dp, h1, h2, Same.refl H, .bl _⟩
theorem oc_inT {k : Nat} {ds : List PyData} (hr : Room k X.A) (h1 : SeqAt.shaped d = true) (h2 : SeqAt.shaped (.tuple ds) = true) : OpD X (compareOp .In) d (.tuple ds) (.bool (ds.any fun y => PyData.eqv y d)) := fun pins s σ H x y u v I rx ry dx dy => by
  obtain ⟨as, r1⟩ := Dp.reads I d x u dx.dp rx
  obtain ⟨bs, r2⟩ := Dp.reads I (.tuple ds) y v dy.dp ry
  exact SeqAt.in_tuple_reads r2 r1 (SeqAt.canLay_of_shaped h2) (SeqAt.canLay_of_shaped h1) (PyProof.Rows.room_in_shaped h1 (room65 hr)) ⟨.bl _, H, I, rfl, Same.refl H, .bl _⟩
theorem oc_notInT {k : Nat} {ds : List PyData} (hr : Room k X.A) (h1 : SeqAt.shaped d = true) (h2 : SeqAt.shaped (.tuple ds) = true) : OpD X (compareOp .NotIn) d (.tuple ds) (.bool (!ds.any fun y => PyData.eqv y d)) := fun pins s σ H x y u v I rx ry dx dy => by
  obtain ⟨as, r1⟩ := Dp.reads I d x u dx.dp rx
  obtain ⟨bs, r2⟩ := Dp.reads I (.tuple ds) y v dy.dp ry
  exact SeqAt.notIn_tuple_reads r2 r1 (SeqAt.canLay_of_shaped h2) (SeqAt.canLay_of_shaped h1) (PyProof.Rows.room_in_shaped h1 (room65 hr)) ⟨.bl _, H, I, rfl, Same.refl H, .bl _⟩
def isNon : PyData → Bool
  | .none => true
  | _ => false
theorem dq_non {K : PySem.W.Frag} {H : Hp} {v : V} {d : PyData} (h : Dq K H v d) : decide (v = .non) = isNon d := by cases h <;> rfl
theorem oc_isN : OpD X (compareOp .Is) d .none (.bool (isNon d)) := .of op_isN fun x y H dx dy => by
  cases dy
  rw [← dq_non dx]
  exact ⟨rfl, Same.refl H, .bl _⟩
theorem oc_notN : OpD X (compareOp .IsNot) d .none (.bool (!isNon d)) := .of op_notN fun x y H dx dy => by
  cases dy
  rw [← dq_non dx]
  exact ⟨rfl, Same.refl H, .bl _⟩
/-! ### texts, tuples, lists -/
theorem od_catS {p q : Str} (h : p.length + q.length ≤ 100000) : OpD X (binaryOp .Add) (.str p) (.str q) (.str (p ++ q)) := .of op_add_str fun x y H dx dy => by
  cases dx; cases dy
  exact ⟨_, _, rfl, rfl, Nat.le_trans h (by decide), Same.refl H, .str _⟩
theorem od_catT {xs ys : List PyData} (h : xs.length + ys.length ≤ 100000) : OpD X (binaryOp .Add) (.tuple xs) (.tuple ys) (.tuple (xs ++ ys)) := .of op_catA fun x y H dx dy => by
  cases dx with
  | tup hs ha =>
    cases dy with
    | tup hs' ha' =>
      refine ⟨_, _, _, _, rfl, rfl, hs, hs', Nat.le_trans (by rw [ha.length, ha'.length]; exact h) (by decide), fun e0 => ?_, fun _ e0 => ?_, fun _ _ p hp => ?_⟩
      · subst e0
        cases ha
        exact ⟨Same.refl H, .tup hs' ha'⟩
      · subst e0
        cases ha'
        rw [List.append_nil]
        exact ⟨Same.refl H, .tup hs ha⟩
      · exact ⟨same_new hp, .tup (.of upd_same) (dps_same (same_new hp) (ha.append ha'))⟩
theorem ol_cat {xs ys : List PyData} (h : xs.length + ys.length ≤ 100000) : OpL X (binaryOp .Add) (.list xs) (.list ys) (xs ++ ys) := .of op_cat fun x y H dx dy => by
  cases dx with
  | lst hs ha =>
    cases dy with
    | lst hs' ha' =>
      exact ⟨_, _, _, _, rfl, rfl, hs, hs', Nat.le_trans (by rw [ha.length, ha'.length]; exact h) (by decide), fun p hp => ⟨p, _, rfl, hp, same_new hp, upd_same, dps_same (same_new hp) (ha.append ha')⟩⟩
theorem ol_rep {xs : List PyData} (h1 : 0 ≤ j) (h2 : xs.length * j.toNat ≤ 100000) (h3 : j ≤ 100000) : OpL X (binaryOp .Mult) (.list xs) (.int j) ((List.replicate j.toNat xs).flatten) := .of op_rep fun x y H dx dy => by
  cases dx with
  | lst hs ha =>
    cases dy
    refine ⟨_, _, _, rfl, rfl, hs, by omega, by omega, Nat.le_trans (by rw [ha.length]; exact h2) (by decide), fun p hp => ⟨p, _, rfl, hp, same_new hp, upd_same, dps_same (same_new hp) ?_⟩⟩
    have q : ∀ n : Nat, DqAll X.K H (List.replicate n _).flatten (List.replicate n xs).flatten := fun n => by
      induction n with
      | zero => exact .nil
      | succ n ih =>
        rw [List.replicate_succ, List.replicate_succ, List.flatten_cons, List.flatten_cons]
        exact ha.append ih
    exact q _
/-! ### items and slices -/
def IxD (X : Cx) (d e z : PyData) : Prop := ∃ t : R2, IxR X t ∧ ∀ x y H, Dq X.K H x d → Dq X.K H y e → ∀ Q : VK, (∀ v H', Same H H' → Dq X.K H' v z → Q v H') → t x y H Q
theorem ev_ix (ha : EV X a r d) (hb : EV X b r e) (h : IxD X d e z) (hs : PlainIx b := by intro _ _; rfl) : EV X (.Subscript a b pos) r z := by
  obtain ⟨t, ht, h⟩ := h
  exact .mk' (pe_ix ht pe_any pe_any hs) fun σ H E => ha.use E fun x H1 e1 dx => hb.use (E.same e1) fun y H2 e2 dy => h x y H2 (dp_same e2 dx) dy _ fun v H3 e3 dv => ⟨(e1.trans e2).trans e3, dv⟩
theorem atI_dq {K : PySem.W.Frag} {H : Hp} {vs : List V} {ds : List PyData} (h : DqAll K H vs ds) (e : atI ds i = some z) : ∃ v, atI vs i = some v ∧ Dq K H v z := by
  unfold atI at e ⊢
  rw [h.length]
  cases q : ixN ds.length i with
  | none => rw [q] at e; cases e
  | some n =>
    rw [q] at e
    obtain ⟨v, h1, h2⟩ := h.get' (i := n) (d := z) e
    exact ⟨v, h1, h2⟩
theorem ix_T {ds : List PyData} (h : atI ds i = some z) : IxD X (.tuple ds) (.int i) z := ⟨_, ix_tup, fun x y H dx dy Q q => by
  cases dx with
  | tup hs ha =>
    cases dy
    obtain ⟨v, h1, h2⟩ := atI_dq ha h
    exact ⟨_, _, _, v, rfl, rfl, hs, h1, q v H (Same.refl H) h2⟩⟩
theorem ix_L {ds : List PyData} (h : atI ds i = some z) : IxD X (.list ds) (.int i) z := ⟨_, ix_list, fun x y H dx dy Q q => by
  cases dx with
  | lst hs ha =>
    cases dy
    obtain ⟨v, h1, h2⟩ := atI_dq ha h
    exact ⟨_, _, _, v, rfl, rfl, .of hs, h1, q v H (Same.refl H) h2⟩⟩
/-- the items of xs[lo:hi] -/
def cutD (xs : List PyData) (lo hi : Option Int) : List PyData := (xs.drop (HT.sIx xs.length 0 lo)).take (HT.sIx xs.length xs.length hi - HT.sIx xs.length 0 lo)
theorem cut_dq {K : PySem.W.Frag} {H : Hp} {vs : List V} {ds : List PyData} (h : DqAll K H vs ds) (lo hi : Option Int) : DqAll K H (cutV vs lo hi) (cutD ds lo hi) := by
  unfold cutV cutD
  rw [h.length]
  exact (h.drop _).take _
/-- an optional part of a slice -/
structure EVO (X : Cx) (e : Option Expr) (r : List (Option PyData)) (o : Option Int) : Prop where
  run : ∃ t : TO, PO X e t ∧ ∀ σ H, EnvD X.K H σ r → ∀ Q : Option Int → Hp → Prop, (∀ H', Same H H' → Q o H') → t σ H Q
theorem eo_none : EVO X none r none := ⟨_, po_none, fun σ H _ Q q => q H (Same.refl H)⟩
theorem eo_some (h : EV X a r (.int i)) : EVO X (some a) r (some i) := ⟨_, po_some pe_any, fun σ H E Q q => h.use E fun v H' e d => by
  cases d
  exact ⟨_, rfl, q H' e⟩⟩
theorem ev_slT {lo hi : Option Expr} {p2 : Pos} {l u : Option Int} {ds : List PyData} (ha : EV X a r (.tuple ds)) (hl : EVO X lo r l) (hh : EVO X hi r u) : EV X (.Subscript a (.Slice lo hi none p2) pos) r (.tuple (cutD ds l u)) := by
  obtain ⟨tl, pl, hl⟩ := hl.run
  obtain ⟨tu, pu, hh⟩ := hh.run
  refine .mk' (pe_slice sl_tupA pe_any pl pu) fun σ H E => ha.use E fun x H1 e1 dx => hl σ H1 (E.same e1) _ fun H2 e2 => hh σ H2 (E.same (e1.trans e2)) _ fun H3 e3 => ?_
  have dx' := dp_same (e2.trans e3) dx
  cases dx' with
  | tup hs hq =>
    refine ⟨_, _, rfl, hs, fun w => ⟨(e1.trans e2).trans e3, ?_⟩, fun _ p hp => ⟨((e1.trans e2).trans e3).trans (same_new hp), .tup (.of upd_same) (dps_same (same_new hp) (cut_dq hq l u))⟩⟩
    have q : cutD ds l u = ds := by
      unfold cutD
      rw [← hq.length, w.1, w.2, hq.length, List.drop_zero, Nat.sub_zero, List.take_length]
    rw [q]
    exact .tup hs hq
theorem el_slL {lo hi : Option Expr} {p2 : Pos} {l u : Option Int} {ds : List PyData} (ha : EV X a r (.list ds)) (hl : EVO X lo r l) (hh : EVO X hi r u) : EVL X (.Subscript a (.Slice lo hi none p2) pos) r (cutD ds l u) := by
  obtain ⟨tl, pl, hl⟩ := hl.run
  obtain ⟨tu, pu, hh⟩ := hh.run
  refine .mk' (pe_slice sl_list pe_any pl pu) fun σ H E => ha.use E fun x H1 e1 dx => hl σ H1 (E.same e1) _ fun H2 e2 => hh σ H2 (E.same (e1.trans e2)) _ fun H3 e3 => ?_
  have dx' := dp_same (e2.trans e3) dx
  cases dx' with
  | lst hs hq =>
    exact ⟨_, _, rfl, .of hs, fun p hp => ⟨p, _, rfl, ((e1.trans e2).trans e3).free hp, ((e1.trans e2).trans e3).trans (same_new hp), upd_same, dps_same (same_new hp) (cut_dq hq l u)⟩⟩
/-! ### calls of what is built in -/
def CaD (X : Cx) (f : Value) (ds : List PyData) (z : PyData) : Prop := ∃ t : List V → Hp → VK → Prop, CallR X f t ∧ ∀ xs H, DqAll X.K H xs ds → t xs H (QD X.K H z)
def CaL (X : Cx) (f : Value) (ds : List PyData) (z : List PyData) : Prop := ∃ t : List V → Hp → VK → Prop, CallR X f t ∧ ∀ xs H, DqAll X.K H xs ds → t xs H (QL X.K H z)
theorem CaD.callR {f : Value} {ds : List PyData} (h : CaD X f ds z) : CallR X f (fun xs H Q => DqAll X.K H xs ds ∧ ∀ v H', Same H H' → Dq X.K H' v z → Q v H') := by
  obtain ⟨t, ht, h⟩ := h
  exact fun pins s σ H xs us Q I r ⟨d, q⟩ => thn (ht pins s σ H xs us _ I r (h xs H d)) fun w s' ⟨v', H', I', rv, e1, e2⟩ => ⟨v', H', I', rv, q v' H' e1 e2⟩
theorem CaL.callR {f : Value} {ds z : List PyData} (h : CaL X f ds z) : CallR X f (fun xs H Q => DqAll X.K H xs ds ∧ ∀ v H', QL X.K H z v H' → Q v H') := by
  obtain ⟨t, ht, h⟩ := h
  exact fun pins s σ H xs us Q I r ⟨d, q⟩ => thn (ht pins s σ H xs us _ I r (h xs H d)) fun w s' ⟨v', H', I', rv, e1⟩ => ⟨v', H', I', rv, q v' H' e1⟩
variable {n : Str} {p : Pos} {es : List Expr} {ds : List PyData} {id T : String}
theorem ev_callB (hc : CaD X (.builtin id) ds z) (hg : Gl X n) (hm : X.mg n = none) (hv : bootBuiltins n = some (.builtin id)) (ha : EVS X (a :: es) r ds) (hn : n ≠ "__name__" := by decide) (hdb : (n == ("__debug__" : Str)) = false := by decide)
    (he : starEach (a :: es) X.env = (false, eval a X.env) :: starEach es X.env := by rfl) (hpl : (backTo pos (starEach es X.env)).any (·.1) = false := by rfl) : EV X (.Call (.Name n p) (a :: es) [] pos) r z :=
  .mk' (pe_callB hc.callR hg hm hv pa_any hn hdb he hpl) fun σ H E => ha.use E fun vs H1 e1 dv => ⟨dv, fun v H2 e2 d => ⟨e1.trans e2, d⟩⟩
theorem el_callB {z : List PyData} (hc : CaL X (.builtin id) ds z) (hg : Gl X n) (hm : X.mg n = none) (hv : bootBuiltins n = some (.builtin id)) (ha : EVS X (a :: es) r ds) (hn : n ≠ "__name__" := by decide) (hdb : (n == ("__debug__" : Str)) = false := by decide)
    (he : starEach (a :: es) X.env = (false, eval a X.env) :: starEach es X.env := by rfl) (hpl : (backTo pos (starEach es X.env)).any (·.1) = false := by rfl) : EVL X (.Call (.Name n p) (a :: es) [] pos) r z :=
  .mk' (pe_callB hc.callR hg hm hv pa_any hn hdb he hpl) fun σ H E => ha.use E fun vs H1 e1 dv => ⟨dv, fun v H2 q => q.back e1⟩
theorem ev_callTy (hc : CaD X (.type T) ds z) (hg : Gl X n) (hm : X.mg n = none) (hv : bootBuiltins n = some (.type T)) (ha : EVS X (a :: es) r ds) (hn : n ≠ "__name__" := by decide) (hdb : (n == ("__debug__" : Str)) = false := by decide)
    (he : starEach (a :: es) X.env = (false, eval a X.env) :: starEach es X.env := by rfl) (hpl : (backTo pos (starEach es X.env)).any (·.1) = false := by rfl) : EV X (.Call (.Name n p) (a :: es) [] pos) r z :=
  .mk' (pe_callTy hc.callR hg hm hv pa_any hn hdb he hpl) fun σ H E => ha.use E fun vs H1 e1 dv => ⟨dv, fun v H2 e2 d => ⟨e1.trans e2, d⟩⟩
theorem el_callTy {z : List PyData} (hc : CaL X (.type T) ds z) (hg : Gl X n) (hm : X.mg n = none) (hv : bootBuiltins n = some (.type T)) (ha : EVS X (a :: es) r ds) (hn : n ≠ "__name__" := by decide) (hdb : (n == ("__debug__" : Str)) = false := by decide)
    (he : starEach (a :: es) X.env = (false, eval a X.env) :: starEach es X.env := by rfl) (hpl : (backTo pos (starEach es X.env)).any (·.1) = false := by rfl) : EVL X (.Call (.Name n p) (a :: es) [] pos) r z :=
  .mk' (pe_callTy hc.callR hg hm hv pa_any hn hdb he hpl) fun σ H E => ha.use E fun vs H1 e1 dv => ⟨dv, fun v H2 q => q.back e1⟩
theorem dq1 {K : PySem.W.Frag} {H : Hp} {xs : List V} (h : DqAll K H xs [d]) : ∃ v, xs = [v] ∧ Dq K H v d := by
  cases h with
  | cons h t => cases t; exact ⟨_, rfl, h⟩
theorem dq2 {K : PySem.W.Frag} {H : Hp} {xs : List V} (h : DqAll K H xs [d, e]) : ∃ v w, xs = [v, w] ∧ Dq K H v d ∧ Dq K H w e := by
  cases h with
  | cons h t =>
    obtain ⟨w, rfl, hw⟩ := dq1 t
    exact ⟨_, _, rfl, h, hw⟩
theorem ca_lenT {xs : List PyData} : CaD X (.builtin "len") [.tuple xs] (.int xs.length) := ⟨_, call_len_seq, fun vs H h => by
  obtain ⟨v, rfl, hv⟩ := dq1 h
  cases hv with
  | tup hs ha => exact ⟨_, _, rfl, .inr hs, by rw [← ha.length]; exact ⟨Same.refl H, .int _⟩⟩⟩
theorem ca_lenL {xs : List PyData} : CaD X (.builtin "len") [.list xs] (.int xs.length) := ⟨_, call_len_seq, fun vs H h => by
  obtain ⟨v, rfl, hv⟩ := dq1 h
  cases hv with
  | lst hs ha => exact ⟨_, _, rfl, .inl (.of hs), by rw [← ha.length]; exact ⟨Same.refl H, .int _⟩⟩⟩
theorem ca_any {bs : List Bool} (hc : X.calm = true) : CaD X (.builtin "any") [.list (bs.map .bool)] (.bool (bs.any fun q => q)) := ⟨_, cr_any hc, fun vs H h => by
  obtain ⟨v, rfl, hv⟩ := dq1 h
  cases hv with
  | lst hs ha => exact ⟨_, bs, rfl, by rw [ha.bls] at hs; exact .of hs, Same.refl H, .bl _⟩⟩
theorem ca_all {bs : List Bool} (hc : X.calm = true) : CaD X (.builtin "all") [.list (bs.map .bool)] (.bool (bs.all fun q => q)) := ⟨_, cr_all hc, fun vs H h => by
  obtain ⟨v, rfl, hv⟩ := dq1 h
  cases hv with
  | lst hs ha => exact ⟨_, bs, rfl, by rw [ha.bls] at hs; exact .of hs, Same.refl H, .bl _⟩⟩
theorem ca_sumL {ns : List Int} (hc : X.calm = true) : CaD X (.builtin "sum") [.list (ns.map .int)] (.int ns.sum) := ⟨_, cr_sum hc, fun vs H h => by
  obtain ⟨v, rfl, hv⟩ := dq1 h
  cases hv with
  | lst hs ha => exact ⟨_, ns, rfl, by rw [ha.ints] at hs; exact .of hs, Same.refl H, .int _⟩⟩
theorem ca_abs : CaD X (.builtin "abs") [.int i] (.int (if i < 0 then -i else i)) := ⟨_, call_abs, fun vs H h => by
  obtain ⟨v, rfl, hv⟩ := dq1 h
  cases hv
  exact ⟨_, rfl, Same.refl H, .int _⟩⟩
theorem ca_tupleL {xs : List PyData} : CaD X (.type "tuple") [.list xs] (.tuple xs) := ⟨_, call_tuple_of, fun vs H h => by
  obtain ⟨v, rfl, hv⟩ := dq1 h
  cases hv with
  | lst hs ha => exact ⟨_, _, rfl, .inl ⟨.of hs, fun l hl => ⟨same_new hl, .tup (.of upd_same) (dps_same (same_new hl) ha)⟩⟩⟩⟩
theorem cl_listT {xs : List PyData} : CaL X (.type "list") [.tuple xs] xs := ⟨_, call_list_of, fun vs H h => by
  obtain ⟨v, rfl, hv⟩ := dq1 h
  cases hv with
  | tup hs ha => exact ⟨_, _, rfl, .inr hs, fun l hl => ⟨l, _, rfl, hl, same_new hl, upd_same, dps_same (same_new hl) ha⟩⟩⟩
theorem cl_listL {xs : List PyData} : CaL X (.type "list") [.list xs] xs := ⟨_, call_list_of, fun vs H h => by
  obtain ⟨v, rfl, hv⟩ := dq1 h
  cases hv with
  | lst hs ha => exact ⟨_, _, rfl, .inl (.of hs), fun l hl => ⟨l, _, rfl, hl, same_new hl, upd_same, dps_same (same_new hl) ha⟩⟩⟩
theorem ca_intI : CaD X (.type "int") [.int i] (.int i) := ⟨_, call_int1, fun vs H h => by
  obtain ⟨v, rfl, hv⟩ := dq1 h
  cases hv
  exact .inl ⟨_, rfl, Same.refl H, .int _⟩⟩
theorem ca_intB {k : Bool} : CaD X (.type "int") [.bool k] (.int (if k then 1 else 0)) := ⟨_, call_int1, fun vs H h => by
  obtain ⟨v, rfl, hv⟩ := dq1 h
  cases hv
  exact .inr ⟨_, rfl, Same.refl H, .int _⟩⟩
end
end TH

namespace TH
open PySem L2
/-! ## isinstance -/
def tyN : PyData → String
  | .none => "NoneType"
  | .bool _ => "bool"
  | .int _ => "int"
  | .str _ => "str"
  | .list _ => "list"
  | .tuple _ => "tuple"
  | .dict _ => "dict"
theorem dq_ty {K : PySem.W.Frag} {H : Hp} {v : V} {d : PyData} (h : Dq K H v d) : TyX K H v (.type (tyN d)) := by
  cases h with
  | non => exact .base .non
  | bl b => exact .base (.bl b)
  | int i => exact .base (.int i)
  | str x => exact .base (.str x)
  | lst hs _ => exact .base (.lst hs)
  | tup hs _ =>
    rcases hs with (h | ⟨o, h⟩) | ⟨o, its, n, h1, h2, _⟩
    · exact .base (.tup h)
    · exact .fTuple h
    · exact .kTuple h1 h2
section
variable {X : Cx} {r : List (Option PyData)} {a : Expr} {p p2 pos : Pos} {d : PyData} {n : Str}
theorem ev_isi {T : String} {b : Bool} (ha : EV X a r d) (hb : kitB (tyN d) T = some b) (hg : Gl X "isinstance") (hm : X.mg "isinstance" = none) (hg2 : Gl X n) (hm2 : X.mg n = none) (hv : bootBuiltins n = some (.type T)) (hn : n ≠ "__name__" := by decide) (hd : (n == ("__debug__" : Str)) = false := by decide)
    (hs : starEach [a, .Name n p2] X.env = (false, eval a X.env) :: starEach [.Name n p2] X.env := by rfl) (hpl : (backTo pos (starEach [.Name n p2] X.env)).any (·.1) = false := by rfl) : EV X (.Call (.Name "isinstance" p) [a, .Name n p2] [] pos) r (.bool b) :=
  .mk' (pe_callB call_isi hg hm (by decide +kernel) (pa_cons pe_any (pa_cons (pe_bltn (v := .ty T) hg2 hm2 hv rfl hn hd) pa_nil) hs) (by decide) (by decide) hs hpl) fun σ H E => ha.use E fun v H1 e1 dv =>
    ⟨v, .ty T, _, _, b, rfl, .ty T, dq_ty dv, kit_ty hb, e1, .bl b⟩
end
/-! ## calls of the text's own defs -/
def spR (K : PySem.W.Frag) (ar : Nat) (rel : List PyData → PyData → Prop) : Sp := fun vs H Q _ => vs.length = ar ∧ ∃ ds z, DqAll K H vs ds ∧ rel ds z ∧ ∀ v H', Same H H' → Dq K H' v z → Q v H'
def spL (K : PySem.W.Frag) (ar : Nat) (rel : List PyData → List PyData → Prop) : Sp := fun vs H Q _ => vs.length = ar ∧ ∃ ds z, DqAll K H vs ds ∧ rel ds z ∧ ∀ v H', QL K H z v H' → Q v H'
/-- the module's name n is a def that keeps the promise sp -/
structure FnD (P : Program) (w : World) (K : PySem.W.Frag) (mg : Str → Option Value) (base : Heap) (k : Nat) (n : Str) (sp : Sp) : Prop where
  ex : ∃ (f : Addr) (fd : FuncData) (ps : List Str), mg n = some (.ref f) ∧ PySem.W.keepIn K (.ref f) = true ∧ Binds K fd ps [] ∧ FnOk P w K mg base CX0 k f fd ps sp
section
variable {X : Cx} {r : List (Option PyData)} {a : Expr} {es : List Expr} {p pos : Pos} {n : Str} {k ar : Nat} {ds : List PyData}
theorem ev_call {rel : List PyData → PyData → Prop} {z : PyData} (F : FnD X.prog X.w X.K X.mg X.base k n (spR X.K ar rel)) (hr : Room k X.A) (hg : Gl X n) (ha : EVS X (a :: es) r ds) (hl : ds.length = ar) (h : rel ds z) (hdb : (n == ("__debug__" : Str)) = false := by decide)
    (he : starEach (a :: es) X.env = (false, eval a X.env) :: starEach es X.env := by rfl) (hpl : (backTo pos (starEach es X.env)).any (·.1) = false := by rfl) : EV X (.Call (.Name n p) (a :: es) [] pos) r z := by
  obtain ⟨f, fd, ps, h1, h2, h3, h4⟩ := F.ex
  exact .mk' (pe_call h4 hr hg h1 h2 h3 .nil pass0 pa_any hdb he hpl) fun σ H E => ha.use E fun vs H1 e1 dv => ⟨by rw [List.append_nil, dv.length, hl], ds, z, by rw [List.append_nil]; exact dv, h, fun v H2 e2 d => ⟨e1.trans e2, d⟩⟩
theorem el_call {rel : List PyData → List PyData → Prop} {z : List PyData} (F : FnD X.prog X.w X.K X.mg X.base k n (spL X.K ar rel)) (hr : Room k X.A) (hg : Gl X n) (ha : EVS X (a :: es) r ds) (hl : ds.length = ar) (h : rel ds z) (hdb : (n == ("__debug__" : Str)) = false := by decide)
    (he : starEach (a :: es) X.env = (false, eval a X.env) :: starEach es X.env := by rfl) (hpl : (backTo pos (starEach es X.env)).any (·.1) = false := by rfl) : EVL X (.Call (.Name n p) (a :: es) [] pos) r z := by
  obtain ⟨f, fd, ps, h1, h2, h3, h4⟩ := F.ex
  exact .mk' (pe_call h4 hr hg h1 h2 h3 .nil pass0 pa_any hdb he hpl) fun σ H E => ha.use E fun vs H1 e1 dv => ⟨by rw [List.append_nil, dv.length, hl], ds, z, by rw [List.append_nil]; exact dv, h, fun v H2 q => q.back e1⟩
end
/-! ## what is walked -/
/-- while Rl holds of the heap it gives ds, one after the other -/
structure Wk (K : PySem.W.Frag) (Rl : Hp → Hp → Prop) (J : It) (H : Hp) (ds : List PyData) : Prop where
  go : ∀ i H2, Rl H H2 → i < ds.length → J.go i H2
  stop : ∀ H2, Rl H H2 → J.stop ds.length H2
  yld : ∀ i H2 x H3, Rl H H2 → i < ds.length → J.yld i H2 x H3 → Same H2 H3 ∧ ∃ d, ds[i]? = some d ∧ Dq K H3 x d
structure ITR (Rl : Hp → Hp → Prop) (X : Cx) (tg iter : Expr) (r : List (Option PyData)) (ds : List PyData) : Prop where
  run : ∃ wi : TI, PI X tg iter wi ∧ ∀ σ H, EnvD X.K H σ r → ∀ R : It → Hp → Prop, (∀ J H1, Same H H1 → Wk X.K Rl J H1 ds → R J H1) → wi σ H R
theorem Wk.weak {K : PySem.W.Frag} {Rl Rl' : Hp → Hp → Prop} {J : It} {H : Hp} {ds : List PyData} (w : Wk K Rl J H ds) (h : ∀ H', Rl' H H' → Rl H H') : Wk K Rl' J H ds :=
  ⟨fun i H2 e => w.go i H2 (h _ e), fun H2 e => w.stop H2 (h _ e), fun i H2 x H3 e => w.yld i H2 x H3 (h _ e)⟩
theorem ITR.same {X : Cx} {tg iter : Expr} {r : List (Option PyData)} {ds : List PyData} (h : ITR Tk X tg iter r ds) : ITR Same X tg iter r ds := by
  obtain ⟨wi, h1, h2⟩ := h.run
  exact ⟨wi, h1, fun σ H E R q => h2 σ H E R fun J H1 e w => q J H1 e (w.weak fun H' e => Same.tk e)⟩
section
variable {X : Cx} {r : List (Option PyData)} {tg a b : Expr} {p pos : Pos} {ds es : List PyData}
theorem it_tup (h : EV X a r (.tuple ds)) (hn : noLs ds = true) : ITR Tk X tg a r ds := ⟨_, pi_tup pe_any, fun σ H E R q => h.use E fun v H1 e1 dv => by
  cases dv with
  | tup hs ha =>
    refine ⟨_, rfl, ⟨_, hs⟩, q _ H1 e1 ⟨fun i H2 e hi => ?_, fun H2 e => ?_, fun i H2 x H3 e hi y => ?_⟩⟩
    · rw [← ha.length] at hi
      exact walk_tup.goes i H2 hi (sqt_tk e hs)
    · rw [← ha.length]
      exact walk_tup.stops H2 (sqt_tk e hs)
    · rw [← ha.length] at hi
      obtain ⟨h1, h2⟩ := walk_tup.yields i H2 x H3 hi (sqt_tk e hs) y
      subst h1
      obtain ⟨d, h3, h4⟩ := (dps_tk e ha hn).get h2
      exact ⟨Same.refl _, d, h3, h4⟩⟩
theorem it_tupS (h : EV X a r (.tuple ds)) : ITR Same X tg a r ds := ⟨_, pi_tup pe_any, fun σ H E R q => h.use E fun v H1 e1 dv => by
  cases dv with
  | tup hs ha =>
    refine ⟨_, rfl, ⟨_, hs⟩, q _ H1 e1 ⟨fun i H2 e hi => ?_, fun H2 e => ?_, fun i H2 x H3 e hi y => ?_⟩⟩
    · rw [← ha.length] at hi
      exact walk_tup.goes i H2 hi (sqt_tk (Same.tk e) hs)
    · rw [← ha.length]
      exact walk_tup.stops H2 (sqt_tk (Same.tk e) hs)
    · rw [← ha.length] at hi
      obtain ⟨h1, h2⟩ := walk_tup.yields i H2 x H3 hi (sqt_tk (Same.tk e) hs) y
      subst h1
      obtain ⟨d, h3, h4⟩ := (dps_same e ha).get h2
      exact ⟨Same.refl _, d, h3, h4⟩⟩
theorem it_list (h : EV X a r (.list ds)) : ITR Same X tg a r ds := ⟨_, pi_list pe_any, fun σ H E R q => h.use E fun v H1 e1 dv => by
  cases dv with
  | lst hs ha =>
    refine ⟨_, rfl, ⟨_, .of hs⟩, q _ H1 e1 ⟨fun i H2 e hi => ?_, fun H2 e => ?_, fun i H2 x H3 e hi y => ?_⟩⟩
    · rw [← ha.length] at hi
      exact walk_list.goes i H2 hi (.of (e _ _ hs))
    · rw [← ha.length]
      exact walk_list.stops H2 (.of (e _ _ hs))
    · rw [← ha.length] at hi
      obtain ⟨h1, h2⟩ := walk_list.yields i H2 x H3 hi (.of (e _ _ hs)) y
      subst h1
      obtain ⟨d, h3, h4⟩ := (dps_same e ha).get h2
      exact ⟨Same.refl _, d, h3, h4⟩⟩
/-- 0, 1, .. n - 1 -/
def rgD (n : Nat) : List PyData := (List.range n).map fun (i : Nat) => .int (i : Int)
theorem it_range {n : Nat} (h : EVS X [a] r [.int n]) (hb : n < 1000000) (hg : Gl X "range") (hm : X.mg "range" = none) (hs : starEach [a] X.env = [(false, eval a X.env)] := by rfl) : ITR Tk X tg (.Call (.Name "range" p) [a] [] pos) r (rgD n) :=
  ⟨_, pi_range1 hg hm pa_any hs, fun σ H E R q => h.use E fun vs H1 e1 dv => by
    obtain ⟨v, rfl, hv⟩ := dq1 dv
    cases hv
    refine ⟨_, rfl, by omega, by omega, q _ H1 e1 ?_⟩
    have hl : (rgD n).length = n := by simp [rgD]
    refine ⟨fun i H2 e hi => ?_, fun H2 e => ?_, fun i H2 x H3 e hi y => ?_⟩
    · rw [hl] at hi
      show i < (n : Int).toNat
      omega
    · rw [hl]
      show (n : Int).toNat ≤ n
      omega
    · rw [hl] at hi
      obtain ⟨h1, h2⟩ := y
      subst h1 h2
      refine ⟨Same.refl _, .int (i : Nat), ?_, ?_⟩
      · simp [rgD, hi]
      · have : (0 : Int) + (i : Nat) = (i : Nat) := by omega
        rw [this]
        exact .int _⟩
/-- the reading that any source has -/
def tI (X : Cx) (tg iter : Expr) : TI := fun σ H R => ∀ (pins : List (Addr × Obj)) (s : Shared), Inv X pins σ H s → wpAny (model X.prog X.w) X.A (eval iter X.env) (fun v s1 => wpAny (model X.prog X.w) X.A (pyIter v) (PIE X pins σ tg R) X.xe s1) X.xe s
theorem pi_any : PI X tg a (tI X tg a) := ⟨fun pins s σ H R I h => h pins s I⟩
theorem ITR.use {Rl : Hp → Hp → Prop} (h : ITR Rl X tg a r ds) {σ : L2.St} {H : Hp} {R : It → Hp → Prop} (E : EnvD X.K H σ r) (q : ∀ J H1, Same H H1 → Wk X.K Rl J H1 ds → R J H1) : tI X tg a σ H R := by
  obtain ⟨wi, h1, h2⟩ := h.run
  exact fun pins s I => h1.run pins s σ H R I (h2 σ H E R q)
end
/-! ## targets -/
/-- the store of a value that stands for d: what the slots hold then -/
def RdG (K : PySem.W.Frag) (g : TG) (d : PyData) (u : List (Option PyData) → List (Option PyData)) (sl : List Nat) : Prop := ∀ (v : V) (σ : L2.St) (H : Hp) (r : List (Option PyData)) (Q : L2.St → Hp → Prop), Dq K H v d → EnvD K H σ r →
    (∀ σ', EnvD K H σ' (u r) → (∀ vs : List Nat, (∀ i ∈ sl, i ∈ vs) → wipe σ' vs = wipe σ vs) → Q σ' H) → g v σ H Q
theorem wipe_set {σ : L2.St} {i : Nat} {o : Option V} : ∀ {vs : List Nat}, i ∈ vs → wipe (σ.set i o) vs = wipe σ vs
  | [], h => by simp at h
  | v :: vs, h => by
    unfold wipe
    by_cases hv : i ∈ vs
    · rw [wipe_set hv]
    · have e : i = v := by simpa [hv] using h
      subst e
      have q : ∀ (ws : List Nat), i ∉ ws → wipe (σ.set i o) ws = (wipe σ ws).set i o := by
        intro ws
        induction ws with
        | nil => intro _; rfl
        | cons w ws ih =>
          intro hn
          simp only [List.mem_cons, not_or] at hn
          unfold wipe
          rw [ih hn.2, List.set_comm _ _ hn.1]
      rw [q vs hv, List.set_set]
theorem wipe_twice (σ : L2.St) (vs : List Nat) : wipe (wipe σ vs) vs = wipe σ vs := by
  have q : ∀ (ws : List Nat), (∀ i ∈ ws, i ∈ vs) → wipe (wipe σ ws) vs = wipe σ vs := by
    intro ws
    induction ws with
    | nil => intro _; rfl
    | cons w ws ih =>
      intro h
      show wipe ((wipe σ ws).set w none) vs = wipe σ vs
      rw [wipe_set (h w List.mem_cons_self), ih fun i hi => h i (List.mem_cons_of_mem _ hi)]
  exact q vs fun _ h => h
theorem rg_name {K : PySem.W.Frag} (i : Nat) (d : PyData) : RdG K (gName i) d (fun r => r.set i (some d)) [i] := fun v σ H r Q dv E q =>
  q _ (E.set i dv) fun vs h => wipe_set (h i (by simp))
theorem rg_two {K : PySem.W.Frag} (i j : Nat) (d e : PyData) : RdG K (gTup K 2 (gCons (gName i) (gCons (gName j) gNil))) (.tuple [d, e]) (fun r => (r.set i (some d)).set j (some e)) [i, j] := fun v σ H r Q dv E q => by
  cases dv with
  | tup hs ha =>
    obtain ⟨x, y, rfl, hx, hy⟩ := dq2 ha
    exact ⟨_, _, rfl, hs, rfl, x, [y], rfl, y, [], rfl, rfl, q _ ((E.set i hx).set j hy) fun vs h => by rw [wipe_set (h j (by simp)), wipe_set (h i (by simp))]⟩
theorem rg_three {K : PySem.W.Frag} (i j k : Nat) (d e f : PyData) : RdG K (gTup K 3 (gCons (gName i) (gCons (gName j) (gCons (gName k) gNil)))) (.tuple [d, e, f]) (fun r => ((r.set i (some d)).set j (some e)).set k (some f)) [i, j, k] := fun v σ H r Q dv E q => by
  cases dv with
  | tup hs ha =>
    cases ha with
    | cons hx ha =>
      obtain ⟨y, z, rfl, hy, hz⟩ := dq2 ha
      exact ⟨_, _, rfl, hs, rfl, _, _, rfl, y, _, rfl, z, [], rfl, rfl, q _ (((E.set i hx).set j hy).set k hz) fun vs h => by rw [wipe_set (h k (by simp)), wipe_set (h j (by simp)), wipe_set (h i (by simp))]⟩
/-! ## comprehensions -/
def wipeR (r : List (Option PyData)) : List Nat → List (Option PyData)
  | [] => r
  | v :: vs => (wipeR r vs).set v none
theorem wipeR_some {r : List (Option PyData)} {i : Nat} {x : PyData} : ∀ {vs : List Nat}, (wipeR r vs)[i]? = some (some x) → r[i]? = some (some x) ∧ i ∉ vs
  | [], h => ⟨h, by simp⟩
  | v :: vs, h => by
    unfold wipeR at h
    by_cases hi : v = i
    · subst hi
      by_cases hv : v < (wipeR r vs).length
      · rw [List.getElem?_set_self hv] at h; cases h
      · rw [List.getElem?_eq_none (by simpa using hv)] at h; cases h
    · rw [List.getElem?_set_ne hi] at h
      obtain ⟨h1, h2⟩ := wipeR_some h
      exact ⟨h1, by simp only [List.mem_cons, not_or]; exact ⟨fun e => hi e.symm, h2⟩⟩
theorem wipeR_length (r : List (Option PyData)) : ∀ vs : List Nat, (wipeR r vs).length = r.length
  | [] => rfl
  | v :: vs => by unfold wipeR; rw [List.length_set, wipeR_length r vs]
theorem EnvD.wipe {K : PySem.W.Frag} {H : Hp} {σ : L2.St} {r : List (Option PyData)} (E : EnvD K H σ r) (vs : List Nat) : EnvD K H (L2.wipe σ vs) (wipeR r vs) := by
  refine ⟨by rw [wipe_length, wipeR_length, E.len], fun i d h => ?_⟩
  obtain ⟨h1, h2⟩ := wipeR_some h
  obtain ⟨v, h3, h4⟩ := E.get i d h1
  exact ⟨v, by rw [wipe_out h2]; exact h3, h4⟩
/-- a clause's tests -/
structure EVTs (X : Cx) (ifs : List Expr) (r : List (Option PyData)) (b : Bool) : Prop where
  run : ∃ t : TT, PTs X ifs t ∧ ∀ σ H, EnvD X.K H σ r → ∀ Q : Bool → Hp → Prop, (∀ H', Same H H' → Q b H') → t σ H Q
theorem ets_nil {X : Cx} {r : List (Option PyData)} : EVTs X [] r true := ⟨tYes, pts_nil, fun σ H _ Q q => q H (Same.refl H)⟩
theorem ets_one {X : Cx} {r : List (Option PyData)} {c : Expr} {b : Bool} (h : EVT X c r b) : EVTs X [c] r b := ⟨_, pts_one pt_any, fun σ H E Q q => h.use E q⟩
def tTs (X : Cx) (ifs : List Expr) : TT := fun σ H Q => ∀ (pins : List (Addr × Obj)) (s : Shared), Inv X pins σ H s →
  wpAny (model X.prog X.w) X.A (forIn ifs true fun c r => if r = true then do let ok ← isTrue c X.env (eval c X.env); pure (ForInStep.yield ok) else pure (ForInStep.yield r)) (TP X pins σ Q) X.xe s
theorem EVTs.use {X : Cx} {ifs : List Expr} {r : List (Option PyData)} {b : Bool} (h : EVTs X ifs r b) {σ : L2.St} {H : Hp} {Q : Bool → Hp → Prop} (E : EnvD X.K H σ r) (q : ∀ H', Same H H' → Q b H') : tTs X ifs σ H Q := by
  obtain ⟨t, h1, h2⟩ := h.run
  exact fun pins s I => h1.run pins s σ H Q I (h2 σ H E Q q)
/-- of every block's context at once -/
abbrev Blk (X : Cx) (scope : Scope) (P : Cx → Prop) : Prop := ∀ (s : Shared) (H : Hp) (C : Addr) (cl : List (Str × Addr)) (fp : List Addr), P (X.blk s H scope (compEnvC scope cl C X.env) fp)
theorem take_succ {α : Type} {l : List α} {i : Nat} {x : α} (h : l[i]? = some x) : l.take (i + 1) = l.take i ++ [x] := by
  rw [List.take_add_one, h]; rfl
section
variable {X : Cx} {r : List (Option PyData)} {elt tg iter tg1 iter1 : Expr} {ifs ifs1 : List Expr} {scope : Scope} {own : List (Str × Nat)} {pos spos py : Pos} {g g1 : TG} {ds : List PyData} {u u1 : PyData → List (Option PyData) → List (Option PyData)} {sl sl1 : List Nat} {pt : PyData → Bool} {f : PyData → PyData}
theorem lc_read (hi : ITR Same X tg iter r ds) (hr : ∀ d ∈ ds, RdG X.K g d (u d) sl) (hsl : ∀ i ∈ sl, i ∈ own.map (·.2))
    (ht : ∀ d ∈ ds, Blk X scope fun Y => EVTs Y ifs (u d (wipeR r (own.map (·.2)))) (pt d)) (he : ∀ d ∈ ds, pt d = true → Blk X scope fun Y => EV Y elt (u d (wipeR r (own.map (·.2)))) (f d)) (hf : ∀ d ∈ ds, pt d = true → noL (f d) = true) (hz : ds.length ≤ 100000)
    {σ : L2.St} {H : Hp} (E : EnvD X.K H σ r) {Q : VK} (q : ∀ v H', QL X.K H ((ds.filter pt).map f) v H' → Q v H') :
    tLc (tI X tg iter) g (fun σ H Q => Blk X scope fun Y => tTs Y ifs σ H Q) (fun σ H Q => Blk X scope fun Y => tE Y elt σ H Q) (own.map (·.2)) σ H Q := by
  refine hi.use E fun J H1 e1 W D hD => ?_
  refine ⟨fun i m H' => m = ds.length - i ∧ i ≤ ds.length ∧ Same H1 H' ∧ ∃ vs, H' D = some (.lst vs) ∧ DqAll X.K H' vs (((ds.take i).filter pt).map f), ⟨ds.length, by simp, Nat.zero_le _, same_new hD, [], upd_same, .nil⟩, ?_⟩
  rintro i m H2 ⟨rfl, hi', e2, vs, hv, dv⟩
  by_cases hlt : i < ds.length
  · refine .inr ⟨W.go i H2 e2 hlt, fun H' => i + 1 ≤ ds.length ∧ Same H1 H' ∧ ∃ vs, H' D = some (.lst vs) ∧ DqAll X.K H' vs (((ds.take (i + 1)).filter pt).map f), fun H' h => ⟨_, by omega, rfl, h⟩, fun x H3 y => ?_⟩
    obtain ⟨e3, d, hd, dx⟩ := W.yld i H2 x H3 e2 hlt y
    have hm : d ∈ ds := List.mem_of_getElem? hd
    refine hr d hm x _ H3 _ _ dx ((E.same ((e1.trans e2).trans e3)).wipe (own.map (·.2))) fun σ2 E2 hw => ⟨(hw _ hsl).trans (wipe_twice _ _), ?_⟩
    intro s1 H0 C cl fp
    refine (ht d hm s1 H0 C cl fp).use E2 fun H4 e4 => ?_
    have ek : ds.take (i + 1) = ds.take i ++ [d] := take_succ hd
    cases hp : pt d with
    | true =>
      refine iteT fun s2 H0' C' cl' fp' => (he d hm hp s2 H0' C' cl' fp').use (E2.same e4) fun y H5 e5 dy => ?_
      have hv5 : H5 D = some (.lst vs) := e5 _ _ (e4 _ _ (e3 _ _ hv))
      have tk : Tk H5 (upd H5 D (.lst (vs ++ [y]))) := ⟨fun a xs h => by rw [upd_ne (ne_of h hv5 (by intro z; cases z))]; exact h, fun a o w h => by rw [upd_ne (ne_of h hv5 (by intro z; cases z))]; exact h⟩
      have hn : ∀ z ∈ ((ds.take i).filter pt).map f, noL z = true := fun z hz => by
        obtain ⟨w, hw, rfl⟩ := List.mem_map.mp hz
        obtain ⟨hw1, hw2⟩ := List.mem_filter.mp hw
        exact hf w (List.mem_of_mem_take hw1) hw2
      refine ⟨vs, hv5, ?_, by omega, fun a o h => ?_, vs ++ [y], upd_same, ?_⟩
      · have h1 := dv.length
        have h2 : (((ds.take i).filter pt).map f).length ≤ i := by
          rw [List.length_map]
          exact Nat.le_trans (List.length_filter_le _ _) (by rw [List.length_take]; omega)
        have : (100000 : Nat) < sizeLine := by decide
        omega
      · rw [upd_ne (ne_of_none h hD)]
        exact e5 _ _ (e4 _ _ (e3 _ _ (e2 _ _ h)))
      · rw [ek, List.filter_append, List.map_append]
        have hfil : [d].filter pt = [d] := by simp [hp]
        rw [hfil]
        refine (dps_tk tk (dps_same ((e3.trans e4).trans e5) dv) (noLs_iff.mpr hn)).append (.cons (dp_tk tk dy (hf d hm hp)) .nil)
    | false =>
      refine iteF ⟨by omega, (e2.trans e3).trans e4, vs, e4 _ _ (e3 _ _ hv), ?_⟩
      rw [ek, List.filter_append]
      have hfil : [d].filter pt = [] := by simp [hp]
      rw [hfil, List.append_nil]
      exact dps_same (e3.trans e4) dv
  · have e : i = ds.length := by omega
    subst e
    rw [List.take_length] at dv
    exact .inl ⟨W.stop H2 e2, q _ _ ⟨D, vs, rfl, e1.free hD, e1.trans e2, hv, dv⟩⟩
theorem el_lc (hc : X.calm = true) (hN : X.N.Nodup) (hi : ITR Same X tg iter r ds) (ok : BlkOk X.N X.env.scope scope own) (hg : Blk X scope fun Y => PG Y tg g) (hr : ∀ d ∈ ds, RdG X.K g d (u d) sl) (hsl : ∀ i ∈ sl, i ∈ own.map (·.2))
    (ht : ∀ d ∈ ds, Blk X scope fun Y => EVTs Y ifs (u d (wipeR r (own.map (·.2)))) (pt d)) (he : ∀ d ∈ ds, pt d = true → Blk X scope fun Y => EV Y elt (u d (wipeR r (own.map (·.2)))) (f d)) (hf : ∀ d ∈ ds, pt d = true → noL (f d) = true) (hz : ds.length ≤ 100000)
    (hs : ∀ x, foldedSetIterable iter X.env x = pure x := by intro _; rfl) : EVL X (.ListComp elt [⟨tg, iter, ifs, 0⟩] scope pos) r ((ds.filter pt).map f) :=
  .mk' (pe_lc hc hN pi_any ok hg (fun s H C cl fp => ⟨fun pins s1 σ H1 Q I h => h s H C cl fp pins s1 I⟩) (fun s H C cl fp => ⟨fun pins s1 σ H1 Q I h => h s H C cl fp pins s1 I⟩) hs) fun σ H E => lc_read hi hr hsl ht he hf hz E fun v H' h => h
/-- without a test -/
theorem el_map (hc : X.calm = true) (hN : X.N.Nodup) (hi : ITR Same X tg iter r ds) (ok : BlkOk X.N X.env.scope scope own) (hg : Blk X scope fun Y => PG Y tg g) (hr : ∀ d ∈ ds, RdG X.K g d (u d) sl) (hsl : ∀ i ∈ sl, i ∈ own.map (·.2))
    (he : ∀ d ∈ ds, Blk X scope fun Y => EV Y elt (u d (wipeR r (own.map (·.2)))) (f d)) (hf : ∀ d ∈ ds, noL (f d) = true) (hz : ds.length ≤ 100000)
    (hs : ∀ x, foldedSetIterable iter X.env x = pure x := by intro _; rfl) : EVL X (.ListComp elt [⟨tg, iter, [], 0⟩] scope pos) r (ds.map f) := by
  have q := el_lc (pos := pos) (pt := fun _ => true) (f := f) hc hN hi ok hg hr hsl (fun d hd _ _ _ _ _ => ets_nil) (fun d hd _ => he d hd) (fun d hd _ => hf d hd) hz hs
  have e : ds.filter (fun _ => true) = ds := List.filter_eq_self.mpr fun _ _ => rfl
  rw [e] at q
  exact q
end
end TH

namespace TH
open PySem L2
/-- D, a list that H1 does not know, gets one more item -/
theorem grow_tk {H : Hp} {D : Addr} {vs ws : List V} (h : H D = some (.lst vs)) : Tk H (upd H D (.lst ws)) :=
  ⟨fun a xs q => by rw [upd_ne (ne_of q h (by intro z; cases z))]; exact q, fun a o w q => by rw [upd_ne (ne_of q h (by intro z; cases z))]; exact q⟩
def envN (r : List (Option PyData)) : Bool := r.all fun o => match o with
  | none => true
  | some d => noL d
theorem envN_get {r : List (Option PyData)} (h : envN r = true) {i : Nat} {d : PyData} (e : r[i]? = some (some d)) : noL d = true := List.all_eq_true.mp h _ (List.mem_of_getElem? e)
theorem EnvD.tk {K : PySem.W.Frag} {H H' : Hp} {σ : L2.St} {r : List (Option PyData)} (E : EnvD K H σ r) (h : envN r = true) (e : Tk H H') : EnvD K H' σ r := ⟨E.len, fun i d q => by
  obtain ⟨v, h1, h2⟩ := E.get i d q
  exact ⟨v, h1, dp_tk e h2 (envN_get h q)⟩⟩
/-- some slots forgotten -/
structure Sub (rb r : List (Option PyData)) : Prop where
  len : rb.length = r.length
  get : ∀ (i : Nat) (d : PyData), rb[i]? = some (some d) → r[i]? = some (some d)
theorem Sub.refl (r : List (Option PyData)) : Sub r r := ⟨rfl, fun _ _ h => h⟩
theorem EnvD.sub {K : PySem.W.Frag} {H : Hp} {σ : L2.St} {r rb : List (Option PyData)} (E : EnvD K H σ r) (h : Sub rb r) : EnvD K H σ rb := ⟨by rw [E.len, h.len], fun i d q => E.get i d (h.get i d q)⟩
section
variable {X : Cx} {r rb : List (Option PyData)} {elt tg iter tg1 iter1 : Expr} {ifs ifs1 : List Expr} {scope : Scope} {own : List (Str × Nat)} {vs1 : List Nat} {pos spos py : Pos} {g g1 : TG} {ds : List PyData} {es : PyData → List PyData} {u u1 : PyData → List (Option PyData) → List (Option PyData)} {sl sl1 : List Nat} {pt : PyData → Bool} {pt1 : PyData → PyData → Bool} {f : PyData → PyData → PyData}
/-- what the two clauses give of d -/
def row2 (es : PyData → List PyData) (pt : PyData → Bool) (pt1 : PyData → PyData → Bool) (f : PyData → PyData → PyData) (d : PyData) : List PyData := if pt d = true then ((es d).filter (pt1 d)).map (f d) else []
theorem lc2_read (hi : ITR Same X tg iter r ds) (hsub : Sub rb r) (hr : ∀ d ∈ ds, RdG X.K g d (u d) sl) (hsl : ∀ i ∈ sl, i ∈ own.map (·.2)) (hr1 : ∀ d ∈ ds, ∀ e ∈ es d, RdG X.K g1 e (u1 e) sl1) (hsl1 : ∀ i ∈ sl1, i ∈ vs1) (hen : ∀ d ∈ ds, envN (u d (wipeR rb (own.map (·.2)))) = true)
    (ht : ∀ d ∈ ds, Blk X scope fun Y => EVTs Y ifs (u d (wipeR rb (own.map (·.2)))) (pt d))
    (hi1 : ∀ d ∈ ds, pt d = true → Blk X scope fun Y => ITR Tk Y tg1 iter1 (u d (wipeR rb (own.map (·.2)))) (es d))
    (ht1 : ∀ d ∈ ds, pt d = true → ∀ e ∈ es d, Blk X scope fun Y => EVTs Y ifs1 (u1 e (wipeR (u d (wipeR rb (own.map (·.2)))) vs1)) (pt1 d e))
    (he : ∀ d ∈ ds, pt d = true → ∀ e ∈ es d, pt1 d e = true → Blk X scope fun Y => EV Y elt (u1 e (wipeR (u d (wipeR rb (own.map (·.2)))) vs1)) (f d e)) (hf : ∀ d ∈ ds, pt d = true → ∀ e ∈ es d, pt1 d e = true → noL (f d e) = true)
    (hz : ∀ i, ((ds.take i).flatMap (row2 es pt pt1 f)).length ≤ 50000) (hz1 : ∀ d ∈ ds, (es d).length ≤ 40000)
    {σ : L2.St} {H : Hp} (E : EnvD X.K H σ r) {Q : VK} (q : ∀ v H', QL X.K H (ds.flatMap (row2 es pt pt1 f)) v H' → Q v H') :
    tLc2 (tI X tg iter) g (fun σ H Q => Blk X scope fun Y => tTs Y ifs σ H Q) (fun σ H R => Blk X scope fun Y => tI Y tg1 iter1 σ H R) g1 (fun σ H Q => Blk X scope fun Y => tTs Y ifs1 σ H Q) (fun σ H Q => Blk X scope fun Y => tE Y elt σ H Q) (own.map (·.2)) vs1 σ H Q := by
  refine hi.use E fun J H1 e1 W D hD => ?_
  have hnr : ∀ d ∈ ds, ∀ z ∈ row2 es pt pt1 f d, noL z = true := fun d hd z hw => by
    unfold row2 at hw
    by_cases hp : pt d = true
    · rw [if_pos hp] at hw
      obtain ⟨e, he1, rfl⟩ := List.mem_map.mp hw
      obtain ⟨h1, h2⟩ := List.mem_filter.mp he1
      exact hf d hd hp e h1 h2
    · rw [if_neg hp] at hw
      cases hw
  have hn : ∀ i, ∀ z ∈ (ds.take i).flatMap (row2 es pt pt1 f), noL z = true := fun i z hz => by
    obtain ⟨d, hd, hw⟩ := List.mem_flatMap.mp hz
    exact hnr d (List.mem_of_mem_take hd) z hw
  refine ⟨fun i m H' => m = ds.length - i ∧ i ≤ ds.length ∧ Same H1 H' ∧ ∃ vs, H' D = some (.lst vs) ∧ DqAll X.K H' vs ((ds.take i).flatMap (row2 es pt pt1 f)), ⟨ds.length, by simp, Nat.zero_le _, same_new hD, [], upd_same, .nil⟩, ?_⟩
  rintro i m H2 ⟨rfl, hi', e2, vs, hv, dv⟩
  by_cases hlt : i < ds.length
  · refine .inr ⟨W.go i H2 e2 hlt, fun H' => i + 1 ≤ ds.length ∧ Same H1 H' ∧ ∃ vs, H' D = some (.lst vs) ∧ DqAll X.K H' vs ((ds.take (i + 1)).flatMap (row2 es pt pt1 f)), fun H' h => ⟨_, by omega, rfl, h⟩, fun x H3 y => ?_⟩
    obtain ⟨e3, d, hd, dx⟩ := W.yld i H2 x H3 e2 hlt y
    have hm : d ∈ ds := List.mem_of_getElem? hd
    refine hr d hm x _ H3 _ _ dx (((E.sub hsub).same ((e1.trans e2).trans e3)).wipe (own.map (·.2))) fun σ2 E2 hw => ⟨(hw _ hsl).trans (wipe_twice _ _), ?_⟩
    intro s1 H0 C cl fp
    refine (ht d hm s1 H0 C cl fp).use E2 fun H4 e4 => ?_
    have ek : (ds.take (i + 1)).flatMap (row2 es pt pt1 f) = (ds.take i).flatMap (row2 es pt pt1 f) ++ row2 es pt pt1 f d := by rw [take_succ hd, List.flatMap_append, List.flatMap_singleton]
    cases hp : pt d with
    | true =>
      refine iteT fun s2 Ha Ca cla fpa => (hi1 d hm hp s2 Ha Ca cla fpa).use (E2.same e4) fun J1 H5 e5 W1 => ?_
      have e25 : Same H2 H5 := (e3.trans e4).trans e5
      have hrow : row2 es pt pt1 f d = ((es d).filter (pt1 d)).map (f d) := by unfold row2; rw [if_pos hp]
      have E5 := E2.same (e4.trans e5)
      refine ⟨fun j k H' => k = (es d).length - j ∧ j ≤ (es d).length ∧ Same H1 H' ∧ Tk H5 H' ∧ ∃ vs, H' D = some (.lst vs) ∧ DqAll X.K H' vs ((ds.take i).flatMap (row2 es pt pt1 f) ++ (((es d).take j).filter (pt1 d)).map (f d)),
        ⟨(es d).length, by simp, Nat.zero_le _, e2.trans e25, Tk.refl _, vs, e25 _ _ hv, by simpa using dps_same e25 dv⟩, ?_⟩
      rintro j k H6 ⟨rfl, hj', e6, t6, vs6, hv6, dv6⟩
      by_cases hjt : j < (es d).length
      · refine .inr ⟨W1.go j H6 t6 hjt, fun H' => j + 1 ≤ (es d).length ∧ Same H1 H' ∧ Tk H5 H' ∧ ∃ vs, H' D = some (.lst vs) ∧ DqAll X.K H' vs ((ds.take i).flatMap (row2 es pt pt1 f) ++ (((es d).take (j + 1)).filter (pt1 d)).map (f d)), fun H' h => ⟨_, by omega, rfl, h⟩, fun x7 H7 y7 => ?_⟩
        obtain ⟨e7, e, hde, dx7⟩ := W1.yld j H6 x7 H7 t6 hjt y7
        have hme : e ∈ es d := List.mem_of_getElem? hde
        have E7 : EnvD X.K H7 σ2 _ := E5.tk (hen d hm) (t6.trans (Same.tk e7))
        refine hr1 d hm e hme x7 _ H7 _ _ dx7 (E7.wipe vs1) fun σ3 E8 hw3 => ⟨(hw3 _ hsl1).trans (wipe_twice _ _), ?_⟩
        intro s3 Hb Cb clb fpb
        refine (ht1 d hm hp e hme s3 Hb Cb clb fpb).use E8 fun H8 e8 => ?_
        have ekj : (es d).take (j + 1) = (es d).take j ++ [e] := take_succ hde
        have hnj : ∀ z ∈ (ds.take i).flatMap (row2 es pt pt1 f) ++ (((es d).take j).filter (pt1 d)).map (f d), noL z = true := fun z hz => by
          rcases List.mem_append.mp hz with hz | hz
          · exact hn i z hz
          · obtain ⟨w, hw1, rfl⟩ := List.mem_map.mp hz
            obtain ⟨h1, h2⟩ := List.mem_filter.mp hw1
            exact hf d hm hp w (List.mem_of_mem_take h1) h2
        cases hq : pt1 d e with
        | true =>
          refine iteT fun s4 Hc Cc clc fpc => (he d hm hp e hme hq s4 Hc Cc clc fpc).use (E8.same e8) fun y9 H9 e9 dy9 => ?_
          have hv9 : H9 D = some (.lst vs6) := e9 _ _ (e8 _ _ (e7 _ _ hv6))
          refine ⟨vs6, hv9, ?_, by omega, fun a o h => ?_, ?_, vs6 ++ [y9], upd_same, ?_⟩
          · have h1 := dv6.length
            rw [List.length_append, List.length_map] at h1
            have h2 : (((es d).take j).filter (pt1 d)).length ≤ j := Nat.le_trans (List.length_filter_le _ _) (by rw [List.length_take]; omega)
            have h3 := hz i
            have h4 := hz1 d hm
            have : (100000 : Nat) < sizeLine := by decide
            omega
          · rw [upd_ne (ne_of_none h hD)]
            exact e9 _ _ (e8 _ _ (e7 _ _ (e6 _ _ h)))
          · exact (t6.trans (Same.tk ((e7.trans e8).trans e9))).trans (grow_tk hv9)
          · rw [ekj, List.filter_append, List.map_append, ← List.append_assoc]
            have hfil : [e].filter (pt1 d) = [e] := by simp [hq]
            rw [hfil]
            exact (dps_tk (grow_tk hv9) (dps_same ((e7.trans e8).trans e9) dv6) (noLs_iff.mpr hnj)).append (.cons (dp_tk (grow_tk hv9) dy9 (hf d hm hp e hme hq)) .nil)
        | false =>
          refine iteF ⟨by omega, (e6.trans e7).trans e8, t6.trans (Same.tk (e7.trans e8)), vs6, e8 _ _ (e7 _ _ hv6), ?_⟩
          rw [ekj, List.filter_append]
          have hfil : [e].filter (pt1 d) = [] := by simp [hq]
          rw [hfil, List.append_nil]
          exact dps_same (e7.trans e8) dv6
      · have ej : j = (es d).length := by omega
        subst ej
        rw [List.take_length] at dv6
        refine .inl ⟨W1.stop H6 t6, by omega, e6, vs6, hv6, ?_⟩
        rw [ek, hrow]
        exact dv6
    | false =>
      refine iteF ⟨by omega, (e2.trans e3).trans e4, vs, e4 _ _ (e3 _ _ hv), ?_⟩
      have hrow : row2 es pt pt1 f d = [] := by unfold row2; rw [if_neg (by rw [hp]; decide)]
      rw [ek, hrow, List.append_nil]
      exact dps_same (e3.trans e4) dv
  · have e : i = ds.length := by omega
    subst e
    rw [List.take_length] at dv
    exact .inl ⟨W.stop H2 e2, q _ _ ⟨D, vs, rfl, e1.free hD, e1.trans e2, hv, dv⟩⟩
theorem el_lc2 (hc : X.calm = true) (hN : X.N.Nodup) (hi : ITR Same X tg iter r ds) (ok : BlkOk X.N X.env.scope scope own) (hv : ∀ i ∈ vs1, i ∈ own.map (·.2)) (hg : Blk X scope fun Y => PG Y tg g) (hg1 : Blk X scope fun Y => PG Y tg1 g1)
    (hsub : Sub rb r) (hr : ∀ d ∈ ds, RdG X.K g d (u d) sl) (hsl : ∀ i ∈ sl, i ∈ own.map (·.2)) (hr1 : ∀ d ∈ ds, ∀ e ∈ es d, RdG X.K g1 e (u1 e) sl1) (hsl1 : ∀ i ∈ sl1, i ∈ vs1) (hen : ∀ d ∈ ds, envN (u d (wipeR rb (own.map (·.2)))) = true)
    (ht : ∀ d ∈ ds, Blk X scope fun Y => EVTs Y ifs (u d (wipeR rb (own.map (·.2)))) (pt d))
    (hi1 : ∀ d ∈ ds, pt d = true → Blk X scope fun Y => ITR Tk Y tg1 iter1 (u d (wipeR rb (own.map (·.2)))) (es d))
    (ht1 : ∀ d ∈ ds, pt d = true → ∀ e ∈ es d, Blk X scope fun Y => EVTs Y ifs1 (u1 e (wipeR (u d (wipeR rb (own.map (·.2)))) vs1)) (pt1 d e))
    (he : ∀ d ∈ ds, pt d = true → ∀ e ∈ es d, pt1 d e = true → Blk X scope fun Y => EV Y elt (u1 e (wipeR (u d (wipeR rb (own.map (·.2)))) vs1)) (f d e)) (hf : ∀ d ∈ ds, pt d = true → ∀ e ∈ es d, pt1 d e = true → noL (f d e) = true)
    (hz : ∀ i, ((ds.take i).flatMap (row2 es pt pt1 f)).length ≤ 50000) (hz1 : ∀ d ∈ ds, (es d).length ≤ 40000)
    (hs : ∀ x, foldedSetIterable iter X.env x = pure x := by intro _; rfl) (hs1 : ∀ env x, foldedSetIterable iter1 env x = pure x := by intro _ _; rfl) : EVL X (.ListComp elt [⟨tg, iter, ifs, 0⟩, ⟨tg1, iter1, ifs1, 0⟩] scope pos) r (ds.flatMap (row2 es pt pt1 f)) :=
  .mk' (pe_lc2 hc hN pi_any ok hv hg (fun s H C cl fp => ⟨fun pins s1 σ H1 Q I h => h s H C cl fp pins s1 I⟩) (fun s H C cl fp => ⟨fun pins s1 σ H1 R I h => h s H C cl fp pins s1 I⟩) hg1 (fun s H C cl fp => ⟨fun pins s1 σ H1 Q I h => h s H C cl fp pins s1 I⟩) (fun s H C cl fp => ⟨fun pins s1 σ H1 Q I h => h s H C cl fp pins s1 I⟩) hs hs1) fun σ H E =>
    lc2_read hi hsub hr hsl hr1 hsl1 hen ht hi1 ht1 he hf hz hz1 E fun v H' h => h
end
end TH

namespace TH
open PySem L2
/-! ## what the slots hold -/
inductive Sl where
  /-- nothing is known -/
  | no
  /-- a datum that does not change -/
  | im (d : PyData)
  /-- a list of this def's own, at p: it may be changed -/
  | ml (p : Addr) (ds : List PyData)
  /-- this very value -/
  | va (v : V)
  /-- this very value, a datum that does not change -/
  | fx (v : V) (d : PyData)
  /-- the script, a list of ints that stays -/
  | sc (a : Addr) (ss : List Int)
  /-- any other thing of this def's own, at p, as it stands -/
  | ob (p : Addr) (o : HO)
def Sl.adr : Sl → Option Addr
  | .ml p _ => some p
  | .ob p _ => some p
  | _ => none
/-- a thing that may change -/
def mutO : HO → Bool
  | .tup _ => false
  | .frz _ _ => false
  | _ => true
def view : Sl → Option PyData
  | .im d => some d
  | .fx _ d => some d
  | .ml _ ds => some (.list ds)
  | _ => none
def SlOk (K : PySem.W.Frag) (B H : Hp) (v : V) : Sl → Prop
  | .no => True
  | .im d => Dq K B v d ∨ (Dq K H v d ∧ noL d = true)
  | .ml p ds => v = .ref p ∧ B p = none ∧ noLs ds = true ∧ ∃ vs, H p = some (.lst vs) ∧ DqAll K H vs ds
  | .va w => v = w
  | .fx w d => v = w ∧ (Dq K B v d ∨ (Dq K H v d ∧ noL d = true))
  | .sc a ss => v = .ref a ∧ SqL K B a (ss.map V.int)
  | .ob p o => v = .ref p ∧ B p = none ∧ mutO o = true ∧ H p = some o
theorem sqL_same {K : PySem.W.Frag} {H H' : Hp} {a : Addr} {xs : List V} (e : Same H H') (h : SqL K H a xs) : SqL K H' a xs := by
  rcases h with (h | ⟨o, h⟩) | h
  · exact .inl (.inl (e _ _ h))
  · exact .inl (.inr ⟨o, e _ _ h⟩)
  · exact .inr h
/-- B: what was there ahead and stays; g: things that no slot holds -/
structure At (K : PySem.W.Frag) (B H : Hp) (σ : L2.St) (ρ : List Sl) (γ : List (V × Sl)) : Prop where
  same : Same B H
  len : σ.length = ρ.length
  ok : ∀ (i : Nat) (x : Sl), ρ[i]? = some x → x = .no ∨ ∃ v, σ[i]? = some (some v) ∧ SlOk K B H v x
  gh : ∀ g ∈ γ, SlOk K B H g.1 g.2
  nd : (ρ.filterMap Sl.adr ++ γ.filterMap fun g => g.2.adr).Nodup
section
variable {K : PySem.W.Frag} {B H H' : Hp} {σ : L2.St} {ρ : List Sl} {γ : List (V × Sl)} {v : V} {x : Sl} {i : Nat} {d : PyData} {p : Addr} {ds : List PyData}
theorem SlOk.to (h : SlOk K B H v x) (e : Same H H') : SlOk K B H' v x := by
  cases x with
  | no => trivial
  | im d =>
    rcases h with h | ⟨h1, h2⟩
    · exact .inl h
    · exact .inr ⟨dp_same e h1, h2⟩
  | ml p ds =>
    obtain ⟨h1, h2, h3, vs, h4, h5⟩ := h
    exact ⟨h1, h2, h3, vs, e _ _ h4, dps_same e h5⟩
  | va w => exact h
  | fx w d =>
    obtain ⟨h0, h⟩ := h
    refine ⟨h0, ?_⟩
    rcases h with h | ⟨h1, h2⟩
    · exact .inl h
    · exact .inr ⟨dp_same e h1, h2⟩
  | sc a ss => exact h
  | ob p o =>
    obtain ⟨h1, h2, h3, h4⟩ := h
    exact ⟨h1, h2, h3, e _ _ h4⟩
theorem At.to (A : At K B H σ ρ γ) (e : Same H H') : At K B H' σ ρ γ :=
  ⟨A.same.trans e, A.len, fun i x h => (A.ok i x h).imp id fun ⟨v, h1, h2⟩ => ⟨v, h1, h2.to e⟩, fun g h => (A.gh g h).to e, A.nd⟩
theorem At.envD (A : At K B H σ ρ γ) : EnvD K H σ (ρ.map view) := by
  refine ⟨by rw [List.length_map, A.len], fun i d h => ?_⟩
  rw [List.getElem?_map] at h
  cases hx : ρ[i]? with
  | none => rw [hx] at h; cases h
  | some x =>
    rw [hx] at h
    have hv : view x = some d := Option.some.inj h
    rcases A.ok i x hx with rfl | ⟨v, h1, h2⟩
    · cases hv
    · cases x with
      | no => cases hv
      | im e =>
        cases hv
        refine ⟨v, h1, ?_⟩
        rcases h2 with h2 | ⟨h2, _⟩
        · exact dp_same A.same h2
        · exact h2
      | ml p es =>
        cases hv
        obtain ⟨h3, _, _, vs, h5, h6⟩ := h2
        subst h3
        exact ⟨_, h1, .lst h5 h6⟩
      | va w => cases hv
      | fx w e =>
        cases hv
        refine ⟨v, h1, ?_⟩
        rcases h2.2 with h2 | ⟨h2, _⟩
        · exact dp_same A.same h2
        · exact h2
      | sc a ss => cases hv
      | ob p o => cases hv
theorem fm_set {α β : Type} {f : α → Option β} {x : α} (hx : f x = none) : ∀ (l : List α) (i : Nat), ((l.set i x).filterMap f).Sublist (l.filterMap f)
  | [], _ => by simp
  | y :: l, 0 => by
    rw [List.set_cons_zero, List.filterMap_cons_none hx]
    cases hy : f y with
    | none => rw [List.filterMap_cons_none hy]; exact List.Sublist.refl _
    | some z => rw [List.filterMap_cons_some hy]; exact List.sublist_cons_self _ _
  | y :: l, i + 1 => by
    rw [List.set_cons_succ]
    cases hy : f y with
    | none => rw [List.filterMap_cons_none hy, List.filterMap_cons_none hy]; exact fm_set hx l i
    | some z => rw [List.filterMap_cons_some hy, List.filterMap_cons_some hy]; exact (fm_set hx l i).cons₂ z
theorem At.set0 (A : At K B H σ ρ γ) (i : Nat) (hx : x.adr = none) (h : SlOk K B H v x) : At K B H (σ.set i (some v)) (ρ.set i x) γ := by
  refine ⟨A.same, by simp [A.len], fun j y q => ?_, A.gh, A.nd.sublist ((fm_set hx ρ i).append (List.Sublist.refl _))⟩
  by_cases hj : i = j
  · subst hj
    by_cases hl : i < ρ.length
    · rw [List.getElem?_set_self hl] at q
      cases q
      exact .inr ⟨v, List.getElem?_set_self (by rw [A.len]; exact hl), h⟩
    · rw [List.getElem?_eq_none (by simpa using hl)] at q
      cases q
  · rw [List.getElem?_set_ne hj] at q ⊢
    exact A.ok j y q
theorem At.setI (A : At K B H σ ρ γ) (i : Nat) (h : Dq K H v d) (hn : noL d = true) : At K B H (σ.set i (some v)) (ρ.set i (.im d)) γ := A.set0 (x := .im d) i rfl (.inr ⟨h, hn⟩)
theorem At.setV (A : At K B H σ ρ γ) (i : Nat) (v : V) : At K B H (σ.set i (some v)) (ρ.set i (.va v)) γ := A.set0 (x := .va v) i rfl rfl
theorem At.drop (A : At K B H σ ρ γ) (i : Nat) : At K B H σ (ρ.set i .no) γ := by
  refine ⟨A.same, by simp [A.len], fun j y q => ?_, A.gh, A.nd.sublist ((fm_set rfl ρ i).append (List.Sublist.refl _))⟩
  by_cases hj : i = j
  · subst hj
    by_cases hl : i < ρ.length
    · rw [List.getElem?_set_self hl] at q
      cases q
      exact .inl rfl
    · rw [List.getElem?_eq_none (by simpa using hl)] at q
      cases q
  · rw [List.getElem?_set_ne hj] at q
    exact A.ok j y q
/-- what the own things' places are known for -/
theorem SlOk.live {q : Addr} (ok : SlOk K B H v x) (e : x.adr = some q) : v = .ref q ∧ B q = none ∧ ∃ o, H q = some o ∧ mutO o = true := by
  cases x with
  | ml p ds =>
    cases e
    obtain ⟨h1, h2, _, vs, h4, _⟩ := ok
    exact ⟨h1, h2, _, h4, rfl⟩
  | ob p o =>
    cases e
    obtain ⟨h1, h2, h3, h4⟩ := ok
    exact ⟨h1, h2, o, h4, h3⟩
  | no => cases e
  | im d => cases e
  | va w => cases e
  | fx w d => cases e
  | sc a ss => cases e
theorem At.live (A : At K B H σ ρ γ) {q : Addr} (h : q ∈ ρ.filterMap Sl.adr ++ γ.filterMap fun g => g.2.adr) : B q = none ∧ ∃ o, H q = some o := by
  rcases List.mem_append.mp h with h | h
  · obtain ⟨x, hx, e⟩ := List.mem_filterMap.mp h
    obtain ⟨i, hi⟩ := List.mem_iff_getElem?.mp hx
    rcases A.ok i x hi with rfl | ⟨v, _, ok⟩
    · cases e
    · obtain ⟨_, h1, o, h2, _⟩ := ok.live e
      exact ⟨h1, o, h2⟩
  · obtain ⟨g, hg, e⟩ := List.mem_filterMap.mp h
    obtain ⟨_, h1, o, h2, _⟩ := (A.gh g hg).live e
    exact ⟨h1, o, h2⟩
theorem fm_setS {α β : Type} {f : α → Option β} {x : α} {z : β} (hx : f x = some z) : ∀ (l : List α) (i : Nat), ((l.set i x).filterMap f).Sublist (l.filterMap f) ∨ ∃ a b, (l.set i x).filterMap f = a ++ z :: b ∧ (a ++ b).Sublist (l.filterMap f)
  | [], _ => .inl (by simp)
  | y :: l, 0 => by
    refine .inr ⟨[], l.filterMap f, ?_, ?_⟩
    · rw [List.set_cons_zero, List.filterMap_cons_some hx]; rfl
    · cases hy : f y with
      | none => rw [List.filterMap_cons_none hy]; exact List.Sublist.refl _
      | some w => rw [List.filterMap_cons_some hy]; exact List.sublist_cons_self _ _
  | y :: l, i + 1 => by
    rw [List.set_cons_succ]
    cases hy : f y with
    | none => rw [List.filterMap_cons_none hy, List.filterMap_cons_none hy]; exact fm_setS hx l i
    | some w =>
      rw [List.filterMap_cons_some hy, List.filterMap_cons_some hy]
      rcases fm_setS hx l i with h | ⟨a, b, h1, h2⟩
      · exact .inl (h.cons₂ w)
      · exact .inr ⟨w :: a, b, by rw [h1]; rfl, h2.cons₂ w⟩
theorem nodup_put {α : Type} {a b c : List α} {z : α} (h : ((a ++ b) ++ c).Nodup) (hz : z ∉ (a ++ b) ++ c) : ((a ++ z :: b) ++ c).Nodup := by
  have p : List.Perm ((a ++ z :: b) ++ c) (z :: ((a ++ b) ++ c)) := by
    rw [← List.cons_append]
    exact (List.perm_middle).append_right c
  exact p.nodup_iff.mpr (List.nodup_cons.mpr ⟨hz, h⟩)
/-- a new thing into slot i -/
theorem At.setN (A : At K B H σ ρ γ) (i : Nat) (hp : H p = none) (e : Same H H') (hx : x.adr = some p) (ok : SlOk K B H' (.ref p) x) : At K B H' (σ.set i (some (.ref p))) (ρ.set i x) γ := by
  have A' := A.to e
  refine ⟨A'.same, by simp [A.len], fun j y q => ?_, A'.gh, ?_⟩
  · by_cases hj : i = j
    · subst hj
      by_cases hl : i < ρ.length
      · rw [List.getElem?_set_self hl] at q
        cases q
        exact .inr ⟨.ref p, List.getElem?_set_self (by rw [A.len]; exact hl), ok⟩
      · rw [List.getElem?_eq_none (by simpa using hl)] at q
        cases q
    · rw [List.getElem?_set_ne hj] at q ⊢
      exact A'.ok j y q
  · have hz : p ∉ ρ.filterMap Sl.adr ++ γ.filterMap fun g => g.2.adr := fun hm => by
      obtain ⟨_, o, q⟩ := A.live hm
      rw [hp] at q
      cases q
    rcases fm_setS (f := Sl.adr) (x := x) (z := p) hx ρ i with s | ⟨a, b, s1, s2⟩
    · exact A.nd.sublist (s.append (List.Sublist.refl _))
    · rw [s1]
      refine nodup_put (A.nd.sublist (s2.append (List.Sublist.refl _))) fun hm => hz ?_
      rcases List.mem_append.mp hm with hm | hm
      · exact List.mem_append.mpr (.inl (s2.subset hm))
      · exact List.mem_append.mpr (.inr hm)
theorem At.setL (A : At K B H σ ρ γ) (i : Nat) {vs : List V} (hp : H p = none) (e : Same H H') (h : H' p = some (.lst vs)) (hd : DqAll K H' vs ds) (hn : noLs ds = true) : At K B H' (σ.set i (some (.ref p))) (ρ.set i (.ml p ds)) γ :=
  A.setN (x := .ml p ds) i hp e rfl ⟨rfl, A.same.free hp, hn, vs, h, hd⟩
theorem At.setO (A : At K B H σ ρ γ) (i : Nat) {o : HO} (hp : H p = none) (e : Same H H') (h : H' p = some o) (hm : mutO o = true) : At K B H' (σ.set i (some (.ref p))) (ρ.set i (.ob p o)) γ :=
  A.setN (x := .ob p o) i hp e rfl ⟨rfl, A.same.free hp, hm, h⟩
theorem At.addG (A : At K B H σ ρ γ) (h : SlOk K B H v x) (hx : x.adr = none) : At K B H σ ρ ((v, x) :: γ) := by
  refine ⟨A.same, A.len, A.ok, fun g hg => ?_, ?_⟩
  · rcases List.mem_cons.mp hg with rfl | hg
    · exact h
    · exact A.gh g hg
  · have : ((v, x) :: γ).filterMap (fun g => g.2.adr) = γ.filterMap fun g => g.2.adr := List.filterMap_cons_none hx
    rw [this]
    exact A.nd
theorem At.addL (A : At K B H σ ρ γ) {vs : List V} (hp : H p = none) (e : Same H H') (h : H' p = some (.lst vs)) (hd : DqAll K H' vs ds) (hn : noLs ds = true) : At K B H' σ ρ ((.ref p, .ml p ds) :: γ) := by
  have A' := A.to e
  refine ⟨A'.same, A'.len, A'.ok, fun g hg => ?_, ?_⟩
  · rcases List.mem_cons.mp hg with rfl | hg
    · exact ⟨rfl, A.same.free hp, hn, vs, h, hd⟩
    · exact A'.gh g hg
  · have hz : p ∉ ρ.filterMap Sl.adr ++ γ.filterMap fun g => g.2.adr := fun hm => by
      obtain ⟨_, o, q⟩ := A.live hm
      rw [hp] at q
      cases q
    have e1 : ((V.ref p, Sl.ml p ds) :: γ).filterMap (fun g => g.2.adr) = p :: γ.filterMap fun g => g.2.adr := List.filterMap_cons_some rfl
    rw [e1]
    have q := nodup_put (a := ρ.filterMap Sl.adr) (b := γ.filterMap fun g => g.2.adr) (c := []) (z := p) (by rw [List.append_nil]; exact A.nd) (by rw [List.append_nil]; exact hz)
    rw [List.append_nil] at q
    exact q
theorem At.unG {g : V × Sl} (A : At K B H σ ρ (g :: γ)) : At K B H σ ρ γ := by
  refine ⟨A.same, A.len, A.ok, fun h hg => A.gh h (List.mem_cons_of_mem _ hg), A.nd.sublist ((List.Sublist.refl _).append ?_)⟩
  exact (List.sublist_cons_self g γ).filterMap _
theorem tk_upd {p : Addr} {o o' : HO} (h : H p = some o) (hm : mutO o = true) : Tk H (upd H p o') :=
  ⟨fun a xs q => by rw [upd_ne (ne_of q h (by intro z; subst z; cases hm))]; exact q, fun a u w q => by rw [upd_ne (ne_of q h (by intro z; subst z; cases hm))]; exact q⟩
theorem SlOk.keep {o' : HO} (ok : SlOk K B H v x) (tk : Tk H (upd H p o')) (ne : ∀ q, x.adr = some q → q ≠ p) : SlOk K B (upd H p o') v x := by
  cases x with
  | no => trivial
  | im d =>
    rcases ok with ok | ⟨o1, o2⟩
    · exact .inl ok
    · exact .inr ⟨dp_tk tk o1 o2, o2⟩
  | ml q es =>
    obtain ⟨o1, o2, o3, vs, o4, o5⟩ := ok
    exact ⟨o1, o2, o3, vs, by rw [upd_ne (ne q rfl)]; exact o4, dps_tk tk o5 o3⟩
  | va w => exact ok
  | fx w d =>
    obtain ⟨o0, ok⟩ := ok
    refine ⟨o0, ?_⟩
    rcases ok with ok | ⟨o1, o2⟩
    · exact .inl ok
    · exact .inr ⟨dp_tk tk o1 o2, o2⟩
  | sc a ss => exact ok
  | ob q o =>
    obtain ⟨o1, o2, o3, o4⟩ := ok
    exact ⟨o1, o2, o3, by rw [upd_ne (ne q rfl)]; exact o4⟩
/-- the own thing in slot i is changed -/
theorem At.mutG {o' : HO} {y : Sl} (A : At K B H σ ρ γ) (hi : ρ[i]? = some x) (hx : x.adr = some p) (hy : y.adr = some p) (ok : SlOk K B (upd H p o') (.ref p) y) : At K B (upd H p o') σ (ρ.set i y) γ := by
  obtain ⟨v, h1, h2⟩ := (A.ok i _ hi).resolve_left (by intro z; subst z; cases hx)
  obtain ⟨ev, h3, o, h4, h5⟩ := h2.live hx
  subst ev
  have tk : Tk H (upd H p o') := tk_upd h4 h5
  have hil : i < ρ.length := by
    rcases Nat.lt_or_ge i ρ.length with h | h
    · exact h
    · rw [List.getElem?_eq_none h] at hi
      cases hi
  have split : ∃ a b, ρ.filterMap Sl.adr = a ++ p :: b ∧ (ρ.set i y).filterMap Sl.adr = a ++ p :: b ∧ ∀ j z q, j ≠ i → ρ[j]? = some z → z.adr = some q → q ∈ a ++ b := by
    clear A h1 h2 h3 h4 h5 tk ok
    induction ρ generalizing i with
    | nil => simp at hil
    | cons z l ih =>
      cases i with
      | zero =>
        have e0 : z = x := by simpa using hi
        subst e0
        refine ⟨[], l.filterMap Sl.adr, List.filterMap_cons_some hx, by rw [List.set_cons_zero]; exact List.filterMap_cons_some hy, fun j z' q hj hq ha => ?_⟩
        cases j with
        | zero => exact absurd rfl hj
        | succ j => exact List.mem_filterMap.mpr ⟨z', List.mem_of_getElem? (by simpa using hq), ha⟩
      | succ i =>
        obtain ⟨a, b, s1, s2, s3⟩ := ih (i := i) (by simpa using hi) (by simpa using hil)
        cases hz : z.adr with
        | none =>
          refine ⟨a, b, by rw [List.filterMap_cons_none hz]; exact s1, by rw [List.set_cons_succ, List.filterMap_cons_none hz]; exact s2, fun j z' q hj hq ha => ?_⟩
          cases j with
          | zero =>
            have : z = z' := by simpa using hq
            subst this
            rw [hz] at ha
            cases ha
          | succ j => exact s3 j z' q (by omega) (by simpa using hq) ha
        | some w =>
          refine ⟨w :: a, b, by rw [List.filterMap_cons_some hz, s1]; rfl, by rw [List.set_cons_succ, List.filterMap_cons_some hz, s2]; rfl, fun j z' q hj hq ha => ?_⟩
          cases j with
          | zero =>
            have : z = z' := by simpa using hq
            subst this
            rw [hz] at ha
            cases ha
            exact List.mem_cons_self
          | succ j => exact List.mem_cons_of_mem _ (s3 j z' q (by omega) (by simpa using hq) ha)
  obtain ⟨a, b, s1, s2, s3⟩ := split
  have nd := A.nd
  rw [s1] at nd
  have nd' : (p :: ((a ++ b) ++ γ.filterMap fun g => g.2.adr)).Nodup := by
    have q : List.Perm ((a ++ p :: b) ++ γ.filterMap fun g => g.2.adr) (p :: ((a ++ b) ++ γ.filterMap fun g => g.2.adr)) := by
      rw [← List.cons_append]
      exact (List.perm_middle).append_right _
    exact q.nodup_iff.mp nd
  have out := (List.nodup_cons.mp nd').1
  refine ⟨fun c u q => ?_, by simp [A.len], fun j z q => ?_, fun g hg => (A.gh g hg).keep tk fun q hq e => ?_, by rw [s2]; exact nd⟩
  · rw [upd_ne (ne_of_none q h3)]
    exact A.same c u q
  · by_cases hj : i = j
    · subst hj
      rw [List.getElem?_set_self hil] at q
      cases q
      exact .inr ⟨_, h1, ok⟩
    · rw [List.getElem?_set_ne hj] at q
      rcases A.ok j z q with e | ⟨w, o1, o2⟩
      · exact .inl e
      · refine .inr ⟨w, o1, o2.keep tk fun q' hq' e => ?_⟩
        subst e
        exact out (List.mem_append.mpr (.inl (s3 j z _ (Ne.symm hj) q hq')))
  · subst e
    exact out (List.mem_append.mpr (.inr (List.mem_filterMap.mpr ⟨g, hg, hq⟩)))
/-- the own list in slot i is changed -/
theorem At.mut (A : At K B H σ ρ γ) {es : List PyData} {ws : List V} (hi : ρ[i]? = some (.ml p ds)) (hd : DqAll K H ws es) (hn : noLs es = true) : At K B (upd H p (.lst ws)) σ (ρ.set i (.ml p es)) γ := by
  obtain ⟨v, h1, h2, h3, h4, vs, h5, h6⟩ := (A.ok i _ hi).resolve_left (by intro z; cases z)
  exact A.mutG hi rfl rfl ⟨rfl, h3, hn, ws, upd_same, dps_tk (tk_upd h5 rfl) hd hn⟩
theorem At.mutO (A : At K B H σ ρ γ) {o o' : HO} (hi : ρ[i]? = some (.ob p o)) (hm : mutO o' = true) : At K B (upd H p o') σ (ρ.set i (.ob p o')) γ := by
  obtain ⟨v, h1, h2, h3, h4, h5⟩ := (A.ok i _ hi).resolve_left (by intro z; cases z)
  exact A.mutG hi rfl rfl ⟨rfl, h3, hm, upd_same⟩
/-- all that is there now is to stay: own lists are no longer changed -/
def frz : Sl → Sl
  | .ml _ ds => .im (.list ds)
  | .ob _ _ => .no
  | x => x
theorem At.rebase (A : At K B H σ ρ γ) : At K H H σ (ρ.map frz) [] := by
  refine ⟨Same.refl H, by simp [A.len], fun i x h => ?_, (fun g hg => nomatch hg), ?_⟩
  · rw [List.getElem?_map] at h
    cases hy : ρ[i]? with
    | none => rw [hy] at h; cases h
    | some y =>
      rw [hy] at h
      have e : frz y = x := Option.some.inj h
      subst e
      rcases A.ok i y hy with rfl | ⟨v, h1, h2⟩
      · exact .inl rfl
      · refine .inr ⟨v, h1, ?_⟩
        cases y with
        | no => trivial
        | im d =>
          rcases h2 with h2 | ⟨h2, _⟩
          · exact .inl (dp_same A.same h2)
          · exact .inl h2
        | ml p ds =>
          obtain ⟨h3, _, _, vs, h5, h6⟩ := h2
          subst h3
          exact .inl (.lst h5 h6)
        | va w => exact h2
        | fx w d =>
          refine ⟨h2.1, ?_⟩
          rcases h2.2 with h2 | ⟨h2, _⟩
          · exact .inl (dp_same A.same h2)
          · exact .inl h2
        | sc a ss => exact ⟨h2.1, sqL_same A.same h2.2⟩
        | ob p o => trivial
  · have : (ρ.map frz).filterMap Sl.adr = [] := by
      rw [List.filterMap_eq_nil_iff]
      intro x hx
      obtain ⟨y, _, rfl⟩ := List.mem_map.mp hx
      cases y <;> rfl
    rw [this]
    exact List.nodup_nil
/-- the value in slot i is remembered -/
theorem At.fix (A : At K B H σ ρ γ) (hi : ρ[i]? = some (.im d)) (hv : σ[i]? = some (some v)) : At K B H σ (ρ.set i (.fx v d)) γ := by
  have hil : i < ρ.length := by
    rcases Nat.lt_or_ge i ρ.length with h | h
    · exact h
    · rw [List.getElem?_eq_none h] at hi
      cases hi
  refine ⟨A.same, by simp [A.len], fun j y q => ?_, A.gh, A.nd.sublist ((fm_set rfl ρ i).append (List.Sublist.refl _))⟩
  by_cases hj : i = j
  · subst hj
    rw [List.getElem?_set_self hil] at q
    cases q
    obtain ⟨w, h1, h2⟩ := (A.ok i _ hi).resolve_left (by intro z; cases z)
    rw [hv] at h1
    cases h1
    exact .inr ⟨v, hv, rfl, h2⟩
  · rw [List.getElem?_set_ne hj] at q
    exact A.ok j y q
theorem At.valF {w : V} (A : At K B H σ ρ γ) (hi : ρ[i]? = some (.fx w d)) : σ[i]? = some (some w) := by
  obtain ⟨v, h1, h2, _⟩ := (A.ok i _ hi).resolve_left (by intro z; cases z)
  rw [← h2]
  exact h1
/-- where a def starts: its arguments -/
theorem At.start {vs : List V} {N : List Str} (h : DqAll K H vs ds) (hl : vs.length ≤ N.length) : At K H H (L2.start N vs) (ds.map Sl.im ++ List.replicate (N.length - ds.length) Sl.no) [] := by
  have e := h.length
  refine ⟨Same.refl H, by simp [L2.start, e], fun i x q => ?_, (fun g hg => nomatch hg), ?_⟩
  · by_cases hi : i < ds.length
    · rw [List.getElem?_append_left (by simpa using hi), List.getElem?_map] at q
      cases hd : ds[i]? with
      | none => rw [hd] at q; cases q
      | some d =>
        rw [hd] at q
        cases q
        obtain ⟨v, h1, h2⟩ := h.get' hd
        refine .inr ⟨v, ?_, .inl h2⟩
        unfold L2.start
        rw [List.getElem?_append_left (by rw [List.length_map, e]; exact hi), List.getElem?_map, h1]
        rfl
    · rw [List.getElem?_append_right (by simpa using hi)] at q
      have := List.mem_of_getElem? q
      exact .inl (List.eq_of_mem_replicate this)
  · have : (ds.map Sl.im ++ List.replicate (N.length - ds.length) Sl.no).filterMap Sl.adr = [] := by
      rw [List.filterMap_eq_nil_iff]
      intro x hx
      rcases List.mem_append.mp hx with hx | hx
      · obtain ⟨d, _, rfl⟩ := List.mem_map.mp hx
        rfl
      · rw [List.eq_of_mem_replicate hx]
        rfl
    rw [this]
    exact List.nodup_nil
end
end TH

namespace TH
open PySem L2
/-! ## statements -/
def GO (X : Cx) (sts : List Stmt) (D : Ends) (σ : L2.St) (H : Hp) : Prop := ∀ (pins : List (Addr × Obj)) (s : Shared), Inv X pins σ H s → wpAny (model X.prog X.w) X.A (execs sts X.env) (SP X pins D) X.xe s
theorem pss_any {X : Cx} {sts : List Stmt} : PSs X sts (fun D σ H => GO X sts D σ H) := ⟨fun pins s σ H D I h => h pins s I⟩
section
variable {X : Cx} {st : Stmt} {rest sts : List Stmt} {D : Ends} {σ : L2.St} {B H : Hp} {ρ : List Sl} {γ : List (V × Sl)} {e c tg iter : Expr} {body els : List Stmt} {pos py : Pos} {d : PyData} {i : Nat} {x : Str} {ds : List PyData}
theorem go_cons {t : TS} (h1 : PS X st t) (h : t { D with nx := fun σ H => GO X rest D σ H } σ H) : GO X (st :: rest) D σ H := fun pins s I => (pss_cons h1 pss_any).run pins s σ H D I h
theorem go_nil (h : D.nx σ H) : GO X [] D σ H := fun pins s I => pss_nil.run pins s σ H D I h
theorem go_pass (h : GO X rest D σ H) : GO X (.Pass pos :: rest) D σ H := go_cons ps_pass h
theorem go_brk (h : D.bk σ H) : GO X (.Break pos :: rest) D σ H := go_cons ps_break h
theorem go_cnt (h : D.ct σ H) : GO X (.Continue pos :: rest) D σ H := go_cons ps_continue h
theorem GO.imp {D' : Ends} (h : GO X sts D σ H) (h1 : ∀ σ H, D.nx σ H → D'.nx σ H) (h2 : ∀ v H, D.rt v H → D'.rt v H) (h3 : ∀ σ H, D.bk σ H → D'.bk σ H) (h4 : ∀ σ H, D.ct σ H → D'.ct σ H) : GO X sts D' σ H := fun pins s I => thn (h pins s I) fun f s' q => by
  cases f with
  | next => obtain ⟨σ', H', I', q⟩ := q; exact ⟨σ', H', I', h1 _ _ q⟩
  | brk => obtain ⟨σ', H', I', q⟩ := q; exact ⟨σ', H', I', h3 _ _ q⟩
  | cont => obtain ⟨σ', H', I', q⟩ := q; exact ⟨σ', H', I', h4 _ _ q⟩
  | ret u => obtain ⟨v, σ', H', I', rv, q⟩ := q; exact ⟨v, σ', H', I', rv, h2 _ _ q⟩
/-! ### return -/
theorem go_ret (A : At X.K B H σ ρ γ) (h : EV X e (ρ.map view) d) (q : ∀ v H', Same B H' → Dq X.K H' v d → D.rt v H') : GO X (.Return (some e) pos :: rest) D σ H :=
  go_cons (ps_ret pe_any) (h.use A.envD fun v H' e1 dv => q v H' (A.same.trans e1) dv)
theorem go_retL (A : At X.K B H σ ρ γ) (h : EVL X e (ρ.map view) ds) (q : ∀ p vs H', B p = none → Same B H' → H' p = some (.lst vs) → DqAll X.K H' vs ds → D.rt (.ref p) H') : GO X (.Return (some e) pos :: rest) D σ H :=
  go_cons (ps_ret pe_any) (h.use A.envD fun p vs H' e0 e1 e2 dv => q p vs H' (A.same.free e0) (A.same.trans e1) e2 dv)
/-- a def's own list is handed back -/
theorem go_retO {p : Addr} {n : Str} {pn : Pos} (A : At X.K B H σ ρ γ) (hi : ρ[i]? = some (.ml p ds)) (hN : X.N[i]? = some n) (hv : Vis X.env.scope n) (q : ∀ vs, B p = none → Same B H → H p = some (.lst vs) → DqAll X.K H vs ds → D.rt (.ref p) H)
    (hd : (n == ("__debug__" : Str)) = false := by decide) (hcd : (n == ("__classdict__" : Str)) = false := by decide) : GO X (.Return (some (.Name n pn)) pos :: rest) D σ H := by
  obtain ⟨v, h1, h2, h3, h4, vs, h5, h6⟩ := (A.ok i _ hi).resolve_left (by intro z; cases z)
  subst h2
  exact go_cons (ps_ret (pe_var hN hv hd hcd)) ⟨_, h1, q vs h3 A.same h5 h6⟩
/-! ### name = .. -/
theorem go_set (A : At X.K B H σ ρ γ) (i : Nat) (hN : X.N.Nodup) (hi : X.N[i]? = some x) (hx : Loc X.env.scope x) (h : EV X e (ρ.map view) d) (hn : noL d = true) (q : ∀ v H', At X.K B H' (σ.set i (some v)) (ρ.set i (.im d)) γ → GO X rest D (σ.set i (some v)) H')
    (hs : swapsWith e (some (.Name x py)) pos.line X.env = pure false := by rfl) (hf : X.fn x = true ∨ X.env.scope.names.lookup x = some .local := by first | exact .inl rfl | exact .inr rfl | assumption) : GO X (.Assign [.Name x py] e pos :: rest) D σ H :=
  go_cons (ps_set hN hi hx pe_any hs hf) (h.use A.envD fun v H' e1 dv => q v H' ((A.to e1).setI i dv hn))
theorem go_setL (A : At X.K B H σ ρ γ) (i : Nat) (hN : X.N.Nodup) (hi : X.N[i]? = some x) (hx : Loc X.env.scope x) (h : EVL X e (ρ.map view) ds) (hn : noLs ds = true) (q : ∀ p H', At X.K B H' (σ.set i (some (.ref p))) (ρ.set i (.ml p ds)) γ → GO X rest D (σ.set i (some (.ref p))) H')
    (hs : swapsWith e (some (.Name x py)) pos.line X.env = pure false := by rfl) (hf : X.fn x = true ∨ X.env.scope.names.lookup x = some .local := by first | exact .inl rfl | exact .inr rfl | assumption) : GO X (.Assign [.Name x py] e pos :: rest) D σ H :=
  go_cons (ps_set hN hi hx pe_any hs hf) (h.use A.envD fun p vs H' e0 e1 e2 dv => q p H' (A.setL i e0 e1 e2 dv hn))
/-- name = [.. for ..], the name a local -/
theorem go_setLc {elt : Expr} {ifs : List Expr} {scope : Scope} {own : List (Str × Nat)} {pos' : Pos} {g : TG} {u : PyData → List (Option PyData) → List (Option PyData)} {sl : List Nat} {pt : PyData → Bool} {f : PyData → PyData}
    (A : At X.K B H σ ρ γ) (i : Nat) (hc : X.calm = true) (hN : X.N.Nodup) (hi : X.N[i]? = some x) (hx : X.env.scope.names.lookup x = some .local)
    (hsw : swapsWith (.ListComp elt [⟨tg, iter, ifs, 0⟩] scope pos') (some (.Name x py)) pos.line X.env = pure true) (hit : ITR Same X tg iter (ρ.map view) ds) (ok : BlkOk X.N X.env.scope scope own)
    (hg : Blk X scope fun Y => PG Y tg g) (hr : ∀ d ∈ ds, RdG X.K g d (u d) sl) (hsl : ∀ i ∈ sl, i ∈ own.map (·.2))
    (ht : ∀ d ∈ ds, Blk X scope fun Y => EVTs Y ifs (u d (wipeR (ρ.map view) (own.map (·.2)))) (pt d)) (he : ∀ d ∈ ds, pt d = true → Blk X scope fun Y => EV Y elt (u d (wipeR (ρ.map view) (own.map (·.2)))) (f d)) (hf : ∀ d ∈ ds, pt d = true → noL (f d) = true) (hz : ds.length ≤ 100000)
    (q : ∀ p H', At X.K B H' (σ.set i (some (.ref p))) (ρ.set i (.ml p ((ds.filter pt).map f))) γ → GO X rest D (σ.set i (some (.ref p))) H')
    (hs : ∀ x, foldedSetIterable iter X.env x = pure x := by intro _; rfl) : GO X (.Assign [.Name x py] (.ListComp elt [⟨tg, iter, ifs, 0⟩] scope pos') pos :: rest) D σ H :=
  go_cons (ps_setLc hc hN hi hx hsw pi_any ok hg (fun s H C cl fp => ⟨fun pins s1 σ H1 Q I h => h s H C cl fp pins s1 I⟩) (fun s H C cl fp => ⟨fun pins s1 σ H1 Q I h => h s H C cl fp pins s1 I⟩) hs)
    (lc_read hit hr hsl ht he hf hz A.envD fun v H' ⟨p, vs, ev, e0, e1, e2, dv⟩ => by
      subst ev
      refine q p H' (A.setL i e0 e1 e2 dv (noLs_iff.mpr fun z hz => ?_))
      obtain ⟨w, hw, rfl⟩ := List.mem_map.mp hz
      obtain ⟨h1, h2⟩ := List.mem_filter.mp hw
      exact hf w h1 h2)
theorem go_setLc2 {elt tg1 iter1 : Expr} {ifs ifs1 : List Expr} {scope : Scope} {own : List (Str × Nat)} {vs1 : List Nat} {pos' : Pos} {g g1 : TG} {es : PyData → List PyData} {u u1 : PyData → List (Option PyData) → List (Option PyData)} {sl sl1 : List Nat} {pt : PyData → Bool} {pt1 : PyData → PyData → Bool} {f : PyData → PyData → PyData} {rb : List (Option PyData)}
    (A : At X.K B H σ ρ γ) (i : Nat) (hc : X.calm = true) (hN : X.N.Nodup) (hi : X.N[i]? = some x) (hx : X.env.scope.names.lookup x = some .local)
    (hsw : swapsWith (.ListComp elt [⟨tg, iter, ifs, 0⟩, ⟨tg1, iter1, ifs1, 0⟩] scope pos') (some (.Name x py)) pos.line X.env = pure true) (hit : ITR Same X tg iter (ρ.map view) ds) (ok : BlkOk X.N X.env.scope scope own) (hv : ∀ i ∈ vs1, i ∈ own.map (·.2))
    (hg : Blk X scope fun Y => PG Y tg g) (hg1 : Blk X scope fun Y => PG Y tg1 g1) (hsub : Sub rb (ρ.map view)) (hr : ∀ d ∈ ds, RdG X.K g d (u d) sl) (hsl : ∀ i ∈ sl, i ∈ own.map (·.2)) (hr1 : ∀ d ∈ ds, ∀ e ∈ es d, RdG X.K g1 e (u1 e) sl1) (hsl1 : ∀ i ∈ sl1, i ∈ vs1) (hen : ∀ d ∈ ds, envN (u d (wipeR rb (own.map (·.2)))) = true)
    (ht : ∀ d ∈ ds, Blk X scope fun Y => EVTs Y ifs (u d (wipeR rb (own.map (·.2)))) (pt d))
    (hi1 : ∀ d ∈ ds, pt d = true → Blk X scope fun Y => ITR Tk Y tg1 iter1 (u d (wipeR rb (own.map (·.2)))) (es d))
    (ht1 : ∀ d ∈ ds, pt d = true → ∀ e ∈ es d, Blk X scope fun Y => EVTs Y ifs1 (u1 e (wipeR (u d (wipeR rb (own.map (·.2)))) vs1)) (pt1 d e))
    (he : ∀ d ∈ ds, pt d = true → ∀ e ∈ es d, pt1 d e = true → Blk X scope fun Y => EV Y elt (u1 e (wipeR (u d (wipeR rb (own.map (·.2)))) vs1)) (f d e)) (hf : ∀ d ∈ ds, pt d = true → ∀ e ∈ es d, pt1 d e = true → noL (f d e) = true)
    (hz : ∀ i, ((ds.take i).flatMap (row2 es pt pt1 f)).length ≤ 50000) (hz1 : ∀ d ∈ ds, (es d).length ≤ 40000)
    (q : ∀ p H', At X.K B H' (σ.set i (some (.ref p))) (ρ.set i (.ml p (ds.flatMap (row2 es pt pt1 f)))) γ → GO X rest D (σ.set i (some (.ref p))) H')
    (hs : ∀ x, foldedSetIterable iter X.env x = pure x := by intro _; rfl) (hs1 : ∀ env x, foldedSetIterable iter1 env x = pure x := by intro _ _; rfl) : GO X (.Assign [.Name x py] (.ListComp elt [⟨tg, iter, ifs, 0⟩, ⟨tg1, iter1, ifs1, 0⟩] scope pos') pos :: rest) D σ H :=
  go_cons (ps_setLc2 hc hN hi hx hsw pi_any ok hv hg (fun s H C cl fp => ⟨fun pins s1 σ H1 Q I h => h s H C cl fp pins s1 I⟩) (fun s H C cl fp => ⟨fun pins s1 σ H1 R I h => h s H C cl fp pins s1 I⟩) hg1 (fun s H C cl fp => ⟨fun pins s1 σ H1 Q I h => h s H C cl fp pins s1 I⟩) (fun s H C cl fp => ⟨fun pins s1 σ H1 Q I h => h s H C cl fp pins s1 I⟩) hs hs1)
    (lc2_read hit hsub hr hsl hr1 hsl1 hen ht hi1 ht1 he hf hz hz1 A.envD fun v H' ⟨p, vs, ev, e0, e1, e2, dv⟩ => by
      subst ev
      refine q p H' (A.setL i e0 e1 e2 dv (noLs_iff.mpr fun z hz => ?_))
      obtain ⟨d, hd, hw⟩ := List.mem_flatMap.mp hz
      unfold row2 at hw
      by_cases hp : pt d = true
      · rw [if_pos hp] at hw
        obtain ⟨e, he1, rfl⟩ := List.mem_map.mp hw
        obtain ⟨h1, h2⟩ := List.mem_filter.mp he1
        exact hf d hd hp e h1 h2
      · rw [if_neg hp] at hw
        cases hw)
/-! ### targets of several names -/
def RdA (K : PySem.W.Frag) (g : TG) (d : PyData) (u : List Sl → List Sl) : Prop := ∀ (v : V) (σ : L2.St) (B H : Hp) (ρ : List Sl) (γ : List (V × Sl)) (Q : L2.St → Hp → Prop), Dq K H v d → noL d = true → At K B H σ ρ γ → (∀ σ', At K B H σ' (u ρ) γ → Q σ' H) → g v σ H Q
theorem ra_name {K : PySem.W.Frag} (i : Nat) (d : PyData) : RdA K (gName i) d (fun ρ => ρ.set i (.im d)) := fun v σ B H ρ γ Q dv hn A q => q _ (A.setI i dv hn)
theorem noL_two {d e : PyData} (h : noL (.tuple [d, e]) = true) : noL d = true ∧ noL e = true := by simpa [noL, noLs] using h
theorem noL_three {d e f : PyData} (h : noL (.tuple [d, e, f]) = true) : noL d = true ∧ noL e = true ∧ noL f = true := by simpa [noL, noLs] using h
theorem ra_two {K : PySem.W.Frag} (i j : Nat) (d e : PyData) : RdA K (gTup K 2 (gCons (gName i) (gCons (gName j) gNil))) (.tuple [d, e]) (fun ρ => (ρ.set i (.im d)).set j (.im e)) := fun v σ B H ρ γ Q dv hn A q => by
  obtain ⟨n1, n2⟩ := noL_two hn
  cases dv with
  | tup hs ha =>
    obtain ⟨x, y, rfl, hx, hy⟩ := dq2 ha
    exact ⟨_, _, rfl, hs, rfl, x, [y], rfl, y, [], rfl, rfl, q _ ((A.setI i hx n1).setI j hy n2)⟩
theorem ra_three {K : PySem.W.Frag} (i j k : Nat) (d e f : PyData) : RdA K (gTup K 3 (gCons (gName i) (gCons (gName j) (gCons (gName k) gNil)))) (.tuple [d, e, f]) (fun ρ => ((ρ.set i (.im d)).set j (.im e)).set k (.im f)) := fun v σ B H ρ γ Q dv hn A q => by
  obtain ⟨n1, n2, n3⟩ := noL_three hn
  cases dv with
  | tup hs ha =>
    cases ha with
    | cons hx ha =>
      obtain ⟨y, z, rfl, hy, hz⟩ := dq2 ha
      exact ⟨_, _, rfl, hs, rfl, _, _, rfl, y, _, rfl, z, [], rfl, rfl, q _ (((A.setI i hx n1).setI j hy n2).setI k hz n3)⟩
/-- target = e -/
theorem go_asg {g : TG} {u : List Sl → List Sl} (A : At X.K B H σ ρ γ) (hg : PG X tg g) (hr : RdA X.K g d u) (h : EV X e (ρ.map view) d) (hn : noL d = true) (q : ∀ σ' H', At X.K B H' σ' (u ρ) γ → GO X rest D σ' H')
    (hs : swapsWithSole [tg] e pos.line X.env = pure false := by rfl) (hw : swappedStores [tg] e X.env = pure none := by rfl) (h1 : (assignEach [tg] X.env).map (·.2) = [assign tg X.env] := by rfl) : GO X (.Assign [tg] e pos :: rest) D σ H :=
  go_cons (ps_asg pe_any hg hs hw h1) (h.use A.envD fun v H' e1 dv => hr v σ B H' ρ γ _ dv hn (A.to e1) fun σ' A' => q σ' H' A')
/-- a, b = x, y (plain locals) -/
theorem go_par {i j : Nat} {x y : Str} {a b : Expr} {px py pt : Pos} {kt k2 pt2} {d e : PyData} (A : At X.K B H σ ρ γ) (hc : X.calm = true) (hN : X.N.Nodup) (hi : X.N[i]? = some x) (hj : X.N[j]? = some y) (hij : i ≠ j)
    (hx : X.env.scope.names.lookup x = some .local) (hy : X.env.scope.names.lookup y = some .local) (h : EVS X [a, b] (ρ.map view) [d, e]) (hn : noL d = true) (hn2 : noL e = true)
    (hw : swappedStores [.Tuple [.Name x px, .Name y py] kt pt] (.Tuple [a, b] k2 pt2) X.env = pure (some [x, y]))
    (q : ∀ σ' H', At X.K B H' σ' ((ρ.set i (.im d)).set j (.im e)) γ → GO X rest D σ' H')
    (hs : swapsWithSole [.Tuple [.Name x px, .Name y py] kt pt] (.Tuple [a, b] k2 pt2) pos.line X.env = pure false := by rfl) : GO X (.Assign [.Tuple [.Name x px, .Name y py] kt pt] (.Tuple [a, b] k2 pt2) pos :: rest) D σ H :=
  go_cons (ps_par hc hN hi hj hij hx hy pa_any hw hs) (h.use A.envD fun vs H' e1 dv => by
    obtain ⟨v, w, rfl, hv, hw'⟩ := dq2 dv
    exact ⟨v, w, rfl, q _ H' (((A.to e1).setI i hv hn).setI j hw' hn2)⟩)
/-! ### if -/
theorem go_if {b : Bool} (A : At X.K B H σ ρ γ) (h : EVT X c (ρ.map view) b) (h1 : b = true → ∀ H', At X.K B H' σ ρ γ → GO X body { D with nx := fun σ H => GO X rest D σ H } σ H') (h2 : b = false → ∀ H', At X.K B H' σ ρ γ → GO X els { D with nx := fun σ H => GO X rest D σ H } σ H') : GO X (.If c body els pos :: rest) D σ H :=
  go_cons (ps_if pt_any pss_any pss_any) (h.use A.envD fun H' e => by
    cases b with
    | true => exact iteT (h1 rfl H' (A.to e))
    | false => exact iteF (h2 rfl H' (A.to e)))
/-- a test that fails, without an else -/
theorem go_ifF (A : At X.K B H σ ρ γ) (h : EVT X c (ρ.map view) false) (h2 : ∀ H', At X.K B H' σ ρ γ → GO X rest D σ H') : GO X (.If c body [] pos :: rest) D σ H :=
  go_if A h (fun z => nomatch z) fun _ H' A' => go_nil (h2 H' A')
theorem go_ifT (A : At X.K B H σ ρ γ) (h : EVT X c (ρ.map view) true) (h1 : ∀ H', At X.K B H' σ ρ γ → GO X body { D with nx := fun σ H => GO X rest D σ H } σ H') : GO X (.If c body els pos :: rest) D σ H :=
  go_if A h (fun _ => h1) fun z => nomatch z
/-- an expression for its call alone -/
theorem go_expr (A : At X.K B H σ ρ γ) (h : EV X e (ρ.map view) d) (q : ∀ H', At X.K B H' σ ρ γ → GO X rest D σ H') (hs : swapsWith e none pos.line X.env = pure false := by rfl) : GO X (.Expr e pos :: rest) D σ H :=
  go_cons (ps_expr pe_any hs) (h.use A.envD fun v H' e1 dv => q H' (A.to e1))
/-! ### lists of one's own -/
theorem go_append {p : Addr} {n : Str} {pn pa pc : Pos} (A : At X.K B H σ ρ γ) (i : Nat) (hi : ρ[i]? = some (.ml p ds)) (hN : X.N[i]? = some n) (hv : Vis X.env.scope n) (h : EV X e (ρ.map view) d) (hn : noL d = true) (hz : ds.length < 100000)
    (q : ∀ H', At X.K B H' σ (ρ.set i (.ml p (ds ++ [d]))) γ → GO X rest D σ H')
    (hbase : attributeBase (.Name n pn) "append" X.env (eval (.Name n pn) X.env) = eval (.Name n pn) X.env := by rfl)
    (hfew : ((backTo pc (starEach [e] X.env)).all (fun x => !x.1) && (backToKw pc (keywordEach [] X.env)).all (fun x => x.1.isSome) && decide ([e].length + ([] : List Keyword).length + (if ([] : List Keyword).isEmpty then 0 else 1) < 30)) = true := by rfl)
    (hline : (pa.endLine == pc.line) = true := by rfl) (hs : starEach [e] X.env = (false, eval e X.env) :: starEach [] X.env := by rfl) (hplain : (backTo pc (starEach [] X.env)).any (·.1) = false := by rfl)
    (hsw : swapsWith (.Call (.Attribute (.Name n pn) "append" pa) [e] [] pc) none pos.line X.env = pure false := by rfl) (hd : (n == ("__debug__" : Str)) = false := by decide) (hcd : (n == ("__classdict__" : Str)) = false := by decide) :
    GO X (.Expr (.Call (.Attribute (.Name n pn) "append" pa) [e] [] pc) pos :: rest) D σ H := by
  obtain ⟨v, h1, h2, h3, h4, vs, h5, h6⟩ := (A.ok i _ hi).resolve_left (by intro z; cases z)
  subst h2
  refine go_cons (ps_expr (pe_bm PySem.F.plainAttrs_list PySem.F.slot_list_append PySem.F.type_list_append mt_append (pe_var hN hv hd hcd) (pa_cons pe_any pa_nil hs) hbase hfew hline hs hplain) hsw) ?_
  refine ⟨_, h1, .inl ⟨rfl, _, .of h5⟩, h.use A.envD fun w H' e1 dw => ?_⟩
  refine ⟨p, vs, w, rfl, rfl, e1 _ _ h5, Nat.lt_of_lt_of_le (by rw [h6.length]; exact hz) (by decide), ?_⟩
  refine q _ ((A.to e1).mut hi ((dps_same e1 h6).append (.cons dw .nil)) (noLs_iff.mpr fun z hz => ?_))
  rcases List.mem_append.mp hz with hz | hz
  · exact noLs_iff.mp h4 z hz
  · rw [List.mem_singleton] at hz
    rw [hz]
    exact hn
/-- xs[k] = e -/
theorem go_setIx {p : Addr} {n : Str} {a : Expr} {pn pt : Pos} {k : Int} {j : Nat} (A : At X.K B H σ ρ γ) (i : Nat) (hi : ρ[i]? = some (.ml p ds)) (hN : X.N[i]? = some n) (hv : Vis X.env.scope n) (h : EV X e (ρ.map view) d) (hn : noL d = true) (ha : EV X a (ρ.map view) (.int k)) (hk : ixN ds.length k = some j)
    (q : ∀ H', At X.K B H' σ (ρ.set i (.ml p (ds.set j d))) γ → GO X rest D σ H')
    (hs : swapsWithSole [.Subscript (.Name n pn) a pt] e pos.line X.env = pure false := by rfl) (hw : swappedStores [.Subscript (.Name n pn) a pt] e X.env = pure none := by rfl) (h1 : (assignEach [.Subscript (.Name n pn) a pt] X.env).map (·.2) = [assign (.Subscript (.Name n pn) a pt) X.env] := by rfl)
    (hst : ∀ v, assign (.Subscript (.Name n pn) a pt) X.env v = (do
      let ov ← holding [v] (eval (.Name n pn) X.env)
      let iv ← holding [v, ov] (eval a X.env)
      standAt pt
      holding [v, ov, iv] (setItem ov iv v)
      release [v, ov, iv] []) := by intro _; rfl) (hd : (n == ("__debug__" : Str)) = false := by decide) (hcd : (n == ("__classdict__" : Str)) = false := by decide) :
    GO X (.Assign [.Subscript (.Name n pn) a pt] e pos :: rest) D σ H := by
  obtain ⟨v, h1', h2, h3, h4, vs, h5, h6⟩ := (A.ok i _ hi).resolve_left (by intro z; cases z)
  subst h2
  refine go_cons (ps_asg pe_any (pg_sub (pe_var hN hv hd hcd) pe_any set_list hst) hs hw h1) ?_
  refine h.use A.envD fun w H1 e1 dw => ⟨_, h1', ha.use (A.to e1).envD fun y H2 e2 dy => ?_⟩
  cases dy
  refine ⟨p, vs, k, j, rfl, rfl, e2 _ _ (e1 _ _ h5), by rw [h6.length]; exact hk, ?_⟩
  refine q _ ((A.to (e1.trans e2)).mut hi ((dps_same (e1.trans e2) h6).set (dp_same e2 dw) j) (noLs_iff.mpr fun z hz => ?_))
  rcases List.mem_or_eq_of_mem_set hz with hz | hz
  · exact noLs_iff.mp h4 z hz
  · rw [hz]
    exact hn
end
end TH

namespace TH
open PySem L2 PyProof.Rows
/-! ## loops -/
/-- the slots are as Iv says -/
def NX (K : PySem.W.Frag) (B : Hp) (γ : List (V × Sl)) (Iv : List Sl → Prop) : L2.St → Hp → Prop := fun σ H => ∃ ρ, Iv ρ ∧ At K B H σ ρ γ
structure WkG (K : PySem.W.Frag) (J : It) (G : Hp → Prop) (ds : List PyData) : Prop where
  go : ∀ i H, G H → i < ds.length → J.go i H
  stop : ∀ H, G H → J.stop ds.length H
  yld : ∀ i H x H', G H → i < ds.length → J.yld i H x H' → Same H H' ∧ ∃ d, ds[i]? = some d ∧ Dq K H' x d
section
variable {X : Cx} {rest : List Stmt} {D : Ends} {σ : L2.St} {B H : Hp} {ρ : List Sl} {γ : List (V × Sl)} {c tg iter a : Expr} {body els : List Stmt} {pos p1 : Pos} {d : PyData} {x : Str} {ds : List PyData} {g : TG} {u : PyData → List Sl → List Sl} {Iv : Nat → List Sl → Prop}
theorem for_core {J : It} {G : Hp → Prop} {D1 : Ends} {γ' : List (V × Sl)} (w : WkG X.K J G ds) (hn : noLs ds = true) (A1 : At X.K B H σ ρ γ') (h0 : Iv 0 ρ) (hG : ∀ i ρ' σ' H', Iv i ρ' → At X.K B H' σ' ρ' γ' → G H') (hr : ∀ d ∈ ds, RdA X.K g d (u d))
    (step : ∀ i d ρ' σ' H', ds[i]? = some d → Iv i ρ' → At X.K B H' σ' (u d ρ') γ' → GO X body { D1 with nx := NX X.K B γ' (Iv (i + 1)), ct := NX X.K B γ' (Iv (i + 1)), bk := D1.nx } σ' H') (done : ∀ ρ' σ' H', Iv ds.length ρ' → At X.K B H' σ' ρ' γ' → D1.nx σ' H') :
    ∃ W : Nat → Nat → L2.St → Hp → Prop, (∃ m, W 0 m σ H) ∧ ∀ i m σ H, W i m σ H →
      (J.stop i H ∧ D1.nx σ H) ∨ (J.go i H ∧ ∃ N : L2.St → Hp → Prop, (∀ σ' H', N σ' H' → ∃ m', m' < m ∧ W (i + 1) m' σ' H') ∧ ∀ x H', J.yld i H x H' → g x σ H' fun σ2 H2 => GO X body { D1 with nx := N, ct := N, bk := D1.nx } σ2 H2) := by
  refine ⟨fun i m σ H => m = ds.length - i ∧ i ≤ ds.length ∧ NX X.K B γ' (Iv i) σ H, ⟨ds.length, by simp, Nat.zero_le _, ρ, h0, A1⟩, ?_⟩
  rintro i m σ2 H2 ⟨rfl, hi, ρ2, v2, A2⟩
  have gd := hG i ρ2 σ2 H2 v2 A2
  by_cases hlt : i < ds.length
  · refine .inr ⟨w.go i H2 gd hlt, NX X.K B γ' (Iv (i + 1)), fun σ' H' h => ⟨_, by omega, rfl, hlt, h⟩, fun y H3 hy => ?_⟩
    obtain ⟨e3, d, hd, dy⟩ := w.yld i H2 y H3 gd hlt hy
    have hm : d ∈ ds := List.mem_of_getElem? hd
    exact hr d hm y σ2 B H3 ρ2 γ' _ dy (noLs_iff.mp hn d hm) (A2.to e3) fun σ' A' => step i d ρ2 σ' H3 hd v2 A'
  · have e : i = ds.length := by omega
    subst e
    exact .inl ⟨w.stop H2 gd, done ρ2 σ2 H2 v2 A2⟩
/-- for target in a tuple -/
theorem go_for (A : At X.K B H σ ρ γ) (hp : PassesOwn (model X.prog X.w) X.A X.env X.xe) (hc : X.calm = true) (src : EV X iter (ρ.map view) (.tuple ds)) (hn : noLs ds = true) (hg : PG X tg g) (hr : ∀ d ∈ ds, RdA X.K g d (u d)) (h0 : Iv 0 ρ)
    (step : ∀ γ' i d ρ' σ' H', ds[i]? = some d → Iv i ρ' → At X.K B H' σ' (u d ρ') γ' → GO X body { D with nx := NX X.K B γ' (Iv (i + 1)), ct := NX X.K B γ' (Iv (i + 1)), bk := fun σ H => GO X rest D σ H } σ' H') (done : ∀ ρ' σ' H', Iv ds.length ρ' → At X.K B H' σ' ρ' γ → GO X rest D σ' H')
    (hs : ∀ x, foldedSetIterable iter X.env x = pure x := by intro _; rfl) : GO X (.For tg iter body [] pos :: rest) D σ H := by
  refine go_cons (ps_for hp hc (pi_tup pe_any) hg pss_any hs) (src.use A.envD fun v H1 e1 dv => ?_)
  have A1 : At X.K B H1 σ ρ ((v, .im (.tuple ds)) :: γ) := (A.to e1).addG (.inr ⟨dv, by simpa [noL] using hn⟩) rfl
  cases dv with
  | @tup a0 xs0 _ hq ha =>
    refine ⟨_, rfl, ⟨_, hq⟩, for_core (G := fun H => Dq X.K H (.ref a0) (.tuple ds)) ⟨fun i H2 gd hi => ?_, fun H2 gd => ?_, fun i H2 y H3 gd hi hy => ?_⟩ hn A1 h0 (fun i ρ' σ' H' _ A' => ?_) hr (fun i d ρ' σ' H' hd hv A' => step _ i d ρ' σ' H' hd hv A') fun ρ' σ' H' hv A' => done ρ' σ' H' hv A'.unG⟩
    · cases gd with
      | tup q1 q2 =>
        rw [← q2.length] at hi
        exact walk_tup.goes i H2 hi q1
    · cases gd with
      | tup q1 q2 =>
        rw [← q2.length]
        exact walk_tup.stops H2 q1
    · cases gd with
      | tup q1 q2 =>
        rw [← q2.length] at hi
        obtain ⟨h1, h2⟩ := walk_tup.yields i H2 y H3 hi q1 hy
        subst h1
        obtain ⟨d, h3, h4⟩ := q2.get h2
        exact ⟨Same.refl _, d, h3, h4⟩
    · rcases A'.gh _ List.mem_cons_self with h | ⟨h, _⟩
      · exact dp_same A'.same h
      · exact h
/-- for target in a new list -/
theorem go_forL (A : At X.K B H σ ρ γ) (hp : PassesOwn (model X.prog X.w) X.A X.env X.xe) (hc : X.calm = true) (src : EVL X iter (ρ.map view) ds) (hn : noLs ds = true) (hg : PG X tg g) (hr : ∀ d ∈ ds, RdA X.K g d (u d)) (h0 : Iv 0 ρ)
    (step : ∀ γ' i d ρ' σ' H', ds[i]? = some d → Iv i ρ' → At X.K B H' σ' (u d ρ') γ' → GO X body { D with nx := NX X.K B γ' (Iv (i + 1)), ct := NX X.K B γ' (Iv (i + 1)), bk := fun σ H => GO X rest D σ H } σ' H') (done : ∀ ρ' σ' H', Iv ds.length ρ' → At X.K B H' σ' ρ' γ → GO X rest D σ' H')
    (hs : ∀ x, foldedSetIterable iter X.env x = pure x := by intro _; rfl) : GO X (.For tg iter body [] pos :: rest) D σ H := by
  refine go_cons (ps_for hp hc (pi_list pe_any) hg pss_any hs) (src.use A.envD fun p vs H1 e0 e1 e2 dv => ?_)
  have A1 : At X.K B H1 σ ρ ((.ref p, .ml p ds) :: γ) := A.addL e0 e1 e2 dv hn
  refine ⟨_, rfl, ⟨_, .of e2⟩, for_core (G := fun H => ∃ vs, H p = some (.lst vs) ∧ DqAll X.K H vs ds) ⟨fun i H2 gd hi => ?_, fun H2 gd => ?_, fun i H2 y H3 gd hi hy => ?_⟩ hn A1 h0 (fun i ρ' σ' H' _ A' => ?_) hr (fun i d ρ' σ' H' hd hv A' => step _ i d ρ' σ' H' hd hv A') fun ρ' σ' H' hv A' => done ρ' σ' H' hv A'.unG⟩
  · obtain ⟨ws, q1, q2⟩ := gd
    rw [← q2.length] at hi
    exact walk_list.goes i H2 hi (.of q1)
  · obtain ⟨ws, q1, q2⟩ := gd
    rw [← q2.length]
    exact walk_list.stops H2 (.of q1)
  · obtain ⟨ws, q1, q2⟩ := gd
    rw [← q2.length] at hi
    obtain ⟨h1, h2⟩ := walk_list.yields i H2 y H3 hi (.of q1) hy
    subst h1
    obtain ⟨d, h3, h4⟩ := q2.get h2
    exact ⟨Same.refl _, d, h3, h4⟩
  · obtain ⟨_, _, _, ws, h4, h5⟩ := A'.gh _ List.mem_cons_self
    exact ⟨ws, h4, h5⟩
/-- for target in a list of one's own, which the body leaves as it is -/
theorem go_forO {n : Str} {pn : Pos} {p : Addr} {j : Nat} (A : At X.K B H σ ρ γ) (hp : PassesOwn (model X.prog X.w) X.A X.env X.xe) (hc : X.calm = true) (hj : ρ[j]? = some (.ml p ds)) (hN : X.N[j]? = some n) (hv : Vis X.env.scope n) (hg : PG X tg g) (hr : ∀ d ∈ ds, RdA X.K g d (u d)) (h0 : Iv 0 ρ)
    (hk : ∀ i ρ', Iv i ρ' → ρ'[j]? = some (.ml p ds))
    (step : ∀ i d ρ' σ' H', ds[i]? = some d → Iv i ρ' → At X.K B H' σ' (u d ρ') γ → GO X body { D with nx := NX X.K B γ (Iv (i + 1)), ct := NX X.K B γ (Iv (i + 1)), bk := fun σ H => GO X rest D σ H } σ' H') (done : ∀ ρ' σ' H', Iv ds.length ρ' → At X.K B H' σ' ρ' γ → GO X rest D σ' H')
    (hs : ∀ x, foldedSetIterable (.Name n pn) X.env x = pure x := by intro _; rfl) (hd : (n == ("__debug__" : Str)) = false := by decide) (hcd : (n == ("__classdict__" : Str)) = false := by decide) : GO X (.For tg (.Name n pn) body [] pos :: rest) D σ H := by
  obtain ⟨v, h1, h2, h3, h4, vs, h5, h6⟩ := (A.ok j _ hj).resolve_left (by intro z; cases z)
  subst h2
  refine go_cons (ps_for hp hc (pi_list (pe_var hN hv hd hcd)) hg pss_any hs) ⟨_, h1, p, rfl, ⟨_, .of h5⟩, ?_⟩
  refine for_core (G := fun H => ∃ vs, H p = some (.lst vs) ∧ DqAll X.K H vs ds) ⟨fun i H2 gd hi => ?_, fun H2 gd => ?_, fun i H2 y H3 gd hi hy => ?_⟩ h4 A h0 (fun i ρ' σ' H' hv A' => ?_) hr step done
  · obtain ⟨ws, q1, q2⟩ := gd
    rw [← q2.length] at hi
    exact walk_list.goes i H2 hi (.of q1)
  · obtain ⟨ws, q1, q2⟩ := gd
    rw [← q2.length]
    exact walk_list.stops H2 (.of q1)
  · obtain ⟨ws, q1, q2⟩ := gd
    rw [← q2.length] at hi
    obtain ⟨h1, h2⟩ := walk_list.yields i H2 y H3 hi (.of q1) hy
    subst h1
    obtain ⟨d, h3, h4⟩ := q2.get h2
    exact ⟨Same.refl _, d, h3, h4⟩
  · obtain ⟨v, g1, g2, g3, g4, vs, g5, g6⟩ := (A'.ok j _ (hk i ρ' hv)).resolve_left (by intro z; cases z)
    exact ⟨vs, g5, g6⟩
theorem noL_rg (n : Nat) : noLs (rgD n) = true := noLs_iff.mpr fun d hd => by
  obtain ⟨i, _, rfl⟩ := List.mem_map.mp hd
  rfl
/-- for target in range(a) -/
theorem go_forR {n : Nat} (A : At X.K B H σ ρ γ) (hp : PassesOwn (model X.prog X.w) X.A X.env X.xe) (hc : X.calm = true) (src : EVS X [a] (ρ.map view) [.int n]) (hb : n < 1000000) (hgr : Gl X "range") (hm : X.mg "range" = none) (hg : PG X tg g) (hr : ∀ d ∈ rgD n, RdA X.K g d (u d)) (h0 : Iv 0 ρ)
    (step : ∀ i ρ' σ' H', i < n → Iv i ρ' → At X.K B H' σ' (u (.int (i : Nat)) ρ') γ → GO X body { D with nx := NX X.K B γ (Iv (i + 1)), ct := NX X.K B γ (Iv (i + 1)), bk := fun σ H => GO X rest D σ H } σ' H') (done : ∀ ρ' σ' H', Iv n ρ' → At X.K B H' σ' ρ' γ → GO X rest D σ' H')
    (hsa : starEach [a] X.env = [(false, eval a X.env)] := by rfl) (hs : ∀ x, foldedSetIterable (.Call (.Name "range" p1) [a] [] pos) X.env x = pure x := by intro _; rfl) {pos2 : Pos} : GO X (.For tg (.Call (.Name "range" p1) [a] [] pos) body [] pos2 :: rest) D σ H := by
  refine go_cons (ps_for hp hc (pi_range1 hgr hm pa_any hsa) hg pss_any hs) (src.use A.envD fun vs H1 e1 dv => ?_)
  obtain ⟨v, rfl, hv⟩ := dq1 dv
  cases hv
  have hl : (rgD n).length = n := by simp [rgD]
  refine ⟨_, rfl, by omega, by omega, for_core (G := fun _ => True) (ds := rgD n) ⟨fun i H2 _ hi => ?_, fun H2 _ => ?_, fun i H2 y H3 _ hi hy => ?_⟩ (noL_rg n) (A.to e1) h0 (fun _ _ _ _ _ _ => trivial) hr (fun i d ρ' σ' H' hd hv A' => ?_) fun ρ' σ' H' hv A' => done ρ' σ' H' (by rw [hl] at hv; exact hv) A'⟩
  · rw [hl] at hi
    show i < (n : Int).toNat
    omega
  · rw [hl]
    show (n : Int).toNat ≤ n
    omega
  · rw [hl] at hi
    obtain ⟨h1, h2⟩ := hy
    subst h1 h2
    refine ⟨Same.refl _, .int (i : Nat), by simp [rgD, hi], ?_⟩
    have : (0 : Int) + (i : Nat) = (i : Nat) := by omega
    rw [this]
    exact .int _
  · have hi : i < n := by
      have := (List.getElem?_eq_some_iff.mp hd).1
      omega
    have hd' : d = .int (i : Nat) := by
      have : (rgD n)[i]? = some (.int (i : Nat)) := by simp [rgD, hi]
      rw [this] at hd
      exact (Option.some.inj hd).symm
    subst hd'
    exact step i ρ' σ' H' hi hv A'
/-- while -/
theorem go_while {Jv : List Sl → Prop} (μ : List Sl → Nat) (A : At X.K B H σ ρ γ) (hp : PassesOwn (model X.prog X.w) X.A X.env X.xe) (h0 : Jv ρ)
    (step : ∀ ρ' σ' H', Jv ρ' → At X.K B H' σ' ρ' γ → ∃ b, EVT X c (ρ'.map view) b ∧ (b = true → ∀ H2, At X.K B H2 σ' ρ' γ → GO X body { D with nx := NX X.K B γ fun ρ2 => Jv ρ2 ∧ μ ρ2 < μ ρ', ct := NX X.K B γ fun ρ2 => Jv ρ2 ∧ μ ρ2 < μ ρ', bk := fun σ H => GO X rest D σ H } σ' H2) ∧
      (b = false → ∀ H2, At X.K B H2 σ' ρ' γ → GO X rest D σ' H2)) : GO X (.While c body [] pos :: rest) D σ H := by
  refine go_cons (ps_while hp pt_any pss_any) ⟨fun m σ' H' => ∃ ρ', m = μ ρ' ∧ Jv ρ' ∧ At X.K B H' σ' ρ' γ, ⟨_, ρ, rfl, h0, A⟩, ?_⟩
  rintro m σ' H' ⟨ρ', rfl, hv, A'⟩
  obtain ⟨b, h1, h2, h3⟩ := step ρ' σ' H' hv A'
  refine h1.use A'.envD fun H2 e2 => ?_
  cases b with
  | true =>
    refine iteT ⟨_, ?_, h2 rfl H2 (A'.to e2)⟩
    rintro σ3 H3 ⟨ρ3, ⟨hv3, lt⟩, A3⟩
    exact ⟨μ ρ3, lt, ρ3, rfl, hv3, A3⟩
  | false => exact iteF (h3 rfl H2 (A'.to e2))
end
/-! ## a def keeps its promise -/
section
variable {P : Program} {w : World} {K : PySem.W.Frag} {mg : Str → Option Value} {base : Heap} {f : Addr} {fd : FuncData} {N ps : List Str} {k : Nat} {x qual : Str} {st : Stmt}
/-- what a def's body is run in -/
abbrev CxF (P : Program) (w : World) (K : PySem.W.Frag) (mg : Str → Option Value) (base : Heap) (N : List Str) (qual : Str) (st : Stmt) (f : Addr) (cdv : Value) (A : Around) (outer : List Env) (s : Shared) (H : Hp) (E : XK) : Cx := (cxOf CX0 P w K mg base N qual (defScope st) f cdv A outer s H E).nox
theorem Fun.okG {sp : Sp} (F : Fun K x qual st f fd) (S : FnScope N ps (defScope st)) (len : ∀ vs H Q E, sp vs H Q E → vs.length = ps.length)
    (body : ∀ (cdv : Value) (A : Around) (outer : List Env) (s : Shared) (H : Hp) (vs : List V) (Q : VK) (E : XK), Room k (A.deeper (envOfC qual (defScope st) s.heap.objs.size f cdv)) → sp vs H Q E →
      GO (CxF P w K mg base N qual st f cdv A outer s H E) (defBody st) { nx := fun _ H' => Q .non H', rt := Q } (start N vs) H) : FnOk P w K mg base CX0 (k + 1) f fd ps sp :=
  Fun.ok F S len fun cdv A outer s H vs Q E hr h => ⟨_, pss_any, body cdv A outer s H vs Q E hr h⟩
/-- a def of data -/
theorem Fun.okD {ar : Nat} {rel : List PyData → PyData → Prop} (F : Fun K x qual st f fd) (S : FnScope N ps (defScope st)) (hl : ar = ps.length) (hN : ps.length ≤ N.length)
    (body : ∀ (cdv : Value) (A : Around) (outer : List Env) (s : Shared) (H : Hp) (Q : VK) (E : XK) (ds : List PyData) (z : PyData) (σ : L2.St), Room k (A.deeper (envOfC qual (defScope st) s.heap.objs.size f cdv)) → rel ds z → ds.length = ar → (∀ v H', Same H H' → Dq K H' v z → Q v H') →
      At K H H σ (ds.map Sl.im ++ List.replicate (N.length - ds.length) Sl.no) [] → GO (CxF P w K mg base N qual st f cdv A outer s H E) (defBody st) { nx := fun _ H' => Q .non H', rt := Q } σ H) : FnOk P w K mg base CX0 (k + 1) f fd ps (spR K ar rel) :=
  Fun.okG F S (fun vs H Q E h => h.1.trans hl) fun cdv A outer s H vs Q E hr ⟨h1, ds, z, h2, h3, h4⟩ =>
    body cdv A outer s H Q E ds z _ hr h3 (by rw [← h2.length, h1]) h4 (At.start h2 (by omega))
theorem Fun.okL {ar : Nat} {rel : List PyData → List PyData → Prop} (F : Fun K x qual st f fd) (S : FnScope N ps (defScope st)) (hl : ar = ps.length) (hN : ps.length ≤ N.length)
    (body : ∀ (cdv : Value) (A : Around) (outer : List Env) (s : Shared) (H : Hp) (Q : VK) (E : XK) (ds : List PyData) (z : List PyData) (σ : L2.St), Room k (A.deeper (envOfC qual (defScope st) s.heap.objs.size f cdv)) → rel ds z → ds.length = ar → (∀ v H', QL K H z v H' → Q v H') →
      At K H H σ (ds.map Sl.im ++ List.replicate (N.length - ds.length) Sl.no) [] → GO (CxF P w K mg base N qual st f cdv A outer s H E) (defBody st) { nx := fun _ H' => Q .non H', rt := Q } σ H) : FnOk P w K mg base CX0 (k + 1) f fd ps (spL K ar rel) :=
  Fun.okG F S (fun vs H Q E h => h.1.trans hl) fun cdv A outer s H vs Q E hr ⟨h1, ds, z, h2, h3, h4⟩ =>
    body cdv A outer s H Q E ds z _ hr h3 (by rw [← h2.length, h1]) h4 (At.start h2 (by omega))
end
end TH

set_option maxHeartbeats 2000000
/-! sets of keys (ints, texts): set(list), sorted(set) -/
namespace TH
open PySem PySem.Spec PyProof.Rows L2
section
variable {P : Program} {w : World} {κ : Type} [DecidableEq κ]
/-- an entry bears the key k -/
def EnK (knd : PySem.KeyKind P w κ) (e : Int × Value) (k : κ) : Prop := knd.is k e.2 = true ∧ e.1 = knd.hash k ∧ e.2.scannable = true
theorem paired_perm {α β : Type} {R : α → β → Prop} {l l' : List α} (p : l'.Perm l) : ∀ {ks : List β}, Paired R l ks → ∃ ks', Paired R l' ks' ∧ ks'.Perm ks := by
  induction p with
  | nil => intro ks h; exact ⟨ks, h, .refl _⟩
  | cons x _ ih =>
    intro ks h
    cases h with
    | cons r t =>
      obtain ⟨ks', h1, h2⟩ := ih t
      exact ⟨_ :: ks', .cons r h1, h2.cons _⟩
  | swap x y l =>
    intro ks h
    cases h with
    | cons r t =>
      cases t with
      | cons r' t' => exact ⟨_ :: _ :: _, .cons r' (.cons r t'), .swap _ _ _⟩
  | trans _ _ ih1 ih2 =>
    intro ks h
    obtain ⟨k1, h1, h2⟩ := ih2 h
    obtain ⟨k2, h3, h4⟩ := ih1 h1
    exact ⟨k2, h3, h4.trans h2⟩
/-- the set at a has the members ks, each once; its table can be walked -/
structure SetG (knd : PySem.KeyKind P w κ) (h : Heap) (a : Addr) (ks : List κ) : Prop where
  ex : ∃ o es ep t ls, h.get? a = some o ∧ o.ExactSet ∧ o.data = .set es ep t ∧ Paired (EnK knd) es.toList ls ∧ ls.Perm ks ∧ es.size < scanBound ∧ t.fits es.size = true ∧ Ris t.place.toList ∧ (w.params.followText "set-order" = true ∨ t.led = true)
  nd : ks.Nodup
variable {knd : PySem.KeyKind P w κ} {h h' : Heap} {a : Addr} {ks : List κ}
theorem SetG.keep (R : SetG knd h a ks) (k : ∀ o, h.get? a = some o → h'.get? a = some o) : SetG knd h' a ks := by
  obtain ⟨⟨o, es, ep, t, ls, ho, r⟩, nd⟩ := R
  exact ⟨⟨o, es, ep, t, ls, k o ho, r⟩, nd⟩
theorem SetG.perm {ks' : List κ} (R : SetG knd h a ks) (p : ks.Perm ks') : SetG knd h a ks' := by
  obtain ⟨⟨o, es, ep, t, ls, h1, h2, h3, h4, h5, r⟩, nd⟩ := R
  exact ⟨⟨o, es, ep, t, ls, h1, h2, h3, h4, h5.trans p, r⟩, p.nodup_iff.mp nd⟩
theorem paired_elems {l : List (Int × Value)} {ls : List κ} (h : Paired (EnK knd) l ls) : ElemsOf knd l := by
  induction h with
  | nil => intro e he; cases he
  | cons r _ ih =>
    intro e he
    rcases List.mem_cons.mp he with rfl | he
    · exact ⟨⟨_, r.1, r.2.1⟩, r.2.2⟩
    · exact ih e he
theorem paired_mem {l : List (Int × Value)} {ls : List κ} (h : Paired (EnK knd) l ls) (k : κ) : k ∈ ls ↔ ∃ e ∈ l, knd.is k e.2 = true := by
  induction h with
  | nil => simp
  | @cons e k' l ls r _ ih =>
    constructor
    · intro hk
      rcases List.mem_cons.mp hk with rfl | hk
      · exact ⟨e, List.mem_cons_self, r.1⟩
      · obtain ⟨e', h1, h2⟩ := ih.mp hk
        exact ⟨e', List.mem_cons_of_mem _ h1, h2⟩
    · rintro ⟨e', h1, h2⟩
      rcases List.mem_cons.mp h1 with rfl | h1
      · rw [knd.inj _ _ _ h2 r.1]
        exact List.mem_cons_self
      · exact List.mem_cons_of_mem _ (ih.mpr ⟨e', h1, h2⟩)
theorem paired_len {α β : Type} {R : α → β → Prop} {l : List α} {ls : List β} (h : Paired R l ls) : l.length = ls.length := by
  induction h with
  | nil => rfl
  | cons _ _ ih => simp [ih]
variable {A : Around} {E : Value → Shared → Prop} {s : Shared}
theorem setG_tail {g : Bool → Sem Unit} (hg : ∀ (b : Bool) (s1 : Shared) (Q' : Unit → Shared → Prop), Q' () s1 → wpAny (model P w) A (g b) Q' E s1)
    {o : Obj} {es : Array (Int × Value)} {ep : Nat} {t : SetTable} (ho : s.heap.get? a = some o) (hex : o.ExactSet) (hd : o.data = .set es ep t)
    {en : Array (Int × Value)} {tn : SetTable} {ls : List κ} (hp : Paired (EnK knd) en.toList ls) (hl : ls.Perm ks) (nd : ks.Nodup) (hb : en.size < scanBound) (hf : tn.fits en.size = true) (hr : Ris tn.place.toList)
    (hw : w.params.followText "set-order" = true ∨ tn.led = true) {dummy : Bool} {R : Option Bool → Shared → Prop} (hR : ∀ h', Heap.SameBut a s.heap h' → SetG knd h' a ks → R (some true) { s with heap := h' }) :
    wpAny (model P w) A (do
        storeSet a en tn
        if (!dummy && tn.tooFull) = true then do
            g (relayAll tn en (SetTable.grown en.size)).2.2
            storeSet a (relayAll tn en (SetTable.grown en.size)).1 (relayAll tn en (SetTable.grown en.size)).2.1
            pure (some true)
          else pure (some true)) R E s := by
  refine wpAny_bind (wpAny_storeSet_of ho hd ?_ (fits_of_scanBound hb))
  have o1 := store_at (es' := en) (t' := tn) ho hd
  have u1 := Heap.SameBut.update s.heap a (Obj.putSet en tn)
  split
  · have pm := relayAll_perm tn en (SetTable.grown en.size)
    have q1 := relayAll_fits tn en (SetTable.grown en.size)
    have q2 := relayAll_ris tn en (SetTable.grown en.size)
    have q3 := relayAll_led tn en (SetTable.grown en.size)
    generalize relayAll tn en (SetTable.grown en.size) = Z at pm q1 q2 q3 ⊢
    obtain ⟨ez, tz, gave⟩ := Z
    dsimp only at pm q1 q2 q3 ⊢
    have hz : ez.size = en.size := by rw [← Array.length_toList, pm.length_eq, Array.length_toList]
    refine wpAny_bind (hg _ _ _ ?_)
    refine wpAny_bind (wpAny_storeSet_of o1 rfl ?_ (fits_of_scanBound (by rw [hz]; exact hb)))
    have o2 := store_at (es' := ez) (t' := tz) o1 rfl
    obtain ⟨lz, h1, h2⟩ := paired_perm pm hp
    exact wpAny_pure (hR _ (u1.trans (Heap.SameBut.update _ a _)) ⟨⟨_, ez, _, tz, lz, o2, hex, rfl, h1, h2.trans hl, by rw [hz]; exact hb, q1, q2, hw.imp id fun z => by rw [q3]; exact z⟩, nd⟩)
  · exact wpAny_pure (hR _ u1 ⟨⟨_, en, _, tn, ls, o1, hex, rfl, hp, hl, hb, hf, hr, hw⟩, nd⟩)
/-- one more key -/
theorem setG_add {k : κ} {v : Value} {Q : Bool → Shared → Prop} (R : SetG knd s.heap a ks) (hk : knd.is k v = true) (hs : v.scannable = true) (room : ks.length + 1 < scanBound)
    (hQ : ∀ b h', Heap.SameBut a s.heap h' → SetG knd h' a (if k ∈ ks then ks else k :: ks) → Q b { s with heap := h' }) :
    wpAny (model P w) A (setAddHashed a v (knd.hash k)) Q E s := by
  obtain ⟨⟨o, es, ep, t, ls, ho, hex, hd, hp, hl, hb, hf, hr, hw⟩, nd⟩ := R
  have hel : ElemsOf knd es.toList := paired_elems hp
  unfold setAddHashed setAddHashedIn
  refine wpAny_holding (wpAny_bind (wpAny_setState_of ho hd hf ?_))
  dsimp only
  rw [byScan_of hs hb hel]
  simp only [↓reduceIte]
  unfold setAddByScan
  refine wpAny_bind ?_
  refine wpAny_bind (wpAny_rule ?_)
  refine wpAny_bind (wpAny_setScan_of hk ho hd hf hel ?_)
  cases hfi : List.findIdx? (fun e => knd.is k e.2) es.toList with
  | some j =>
    dsimp only
    obtain ⟨hj, pj, _⟩ := List.findIdx?_eq_some_iff_getElem.mp hfi
    have hm : k ∈ ks := hl.mem_iff.mp ((paired_mem hp k).mpr ⟨_, List.getElem_mem hj, pj⟩)
    refine wpAny_pure (wpAny_pure ?_)
    have q := hQ false s.heap (Heap.SameBut.refl a s.heap) (by rw [if_pos hm]; exact ⟨⟨o, es, ep, t, ls, ho, hex, hd, hp, hl, hb, hf, hr, hw⟩, nd⟩)
    exact q
  | none =>
    dsimp only
    have hn : k ∉ ls := fun z => by
      obtain ⟨e, he, q⟩ := (paired_mem hp k).mp z
      have c := List.findIdx?_eq_none_iff.mp hfi e he
      rw [q] at c
      cases c
    have hm : k ∉ ks := fun z => hn (hl.mem_iff.mpr z)
    have pm := layNew_perm t es (knd.hash k) v
    have f1 := layNew_fits t es (knd.hash k) v
    have f2 := layNew_ris t es (knd.hash k) v hr
    have f3 := layNew_led t es (knd.hash k) v
    generalize layNew t es (knd.hash k) v = Z at pm f1 f2 f3 ⊢
    obtain ⟨en, tn, dummy, gave⟩ := Z
    dsimp only at pm f1 f2 f3 ⊢
    rw [Array.toList_push] at pm
    have pc : en.toList.Perm ((knd.hash k, v) :: es.toList) := pm.trans (List.perm_append_singleton _ _)
    obtain ⟨ln, p1, p2⟩ := paired_perm pc (.cons ⟨hk, rfl, hs⟩ hp : Paired (EnK knd) ((knd.hash k, v) :: es.toList) (k :: ls))
    have p3 : ln.Perm (k :: ks) := p2.trans (hl.cons k)
    have nd1 : (k :: ks).Nodup := List.nodup_cons.mpr ⟨hm, nd⟩
    have hz : en.size = ks.length + 1 := by
      have := paired_len p1
      rw [Array.length_toList] at this
      rw [this, p3.length_eq, List.length_cons]
    have hb1 : en.size < scanBound := by rw [hz]; exact room
    have hw1 : w.params.followText "set-order" = true ∨ tn.led = true := hw.imp id fun z => by rw [f3]; exact z
    have fin : ∀ h', Heap.SameBut a s.heap h' → SetG knd h' a (k :: ks) → Q true { s with heap := h' } := fun h' sb r => hQ true h' sb (by rw [if_neg hm]; exact r)
    refine wpAny_bind ?_
    have gw : ∀ (b : Bool) {s1 : Shared} {Q' : Unit → Shared → Prop}, Q' () s1 → wpAny (model P w) A (match b with | true => rule "set.scan.the-table-gave-way" | false => pure ()) Q' E s1 :=
      fun b s1 Q' q => by cases b <;> first | exact wpAny_pure q | exact wpAny_rule q
    refine gw _ ?_
    split
    · refine wpAny_bind ?_
      rw [hashByValue_scannable 8 hs]
      refine wpAny_pure ?_
      refine setG_tail ?_ ho hex hd p1 p3 nd1 hb1 ?_ ?_ ?_ ?_
      · intro b s1 Q' q; cases b <;> first | exact wpAny_pure q | exact wpAny_rule q
      · first | (split <;> first | exact f1 | exact SetTable.fits_plain_off f1) | exact f1
      · first | (split <;> exact f2) | exact f2
      · first | (split <;> exact hw1) | exact hw1
      · intro h' sb r; dsimp only; exact wpAny_pure (fin h' sb r)
    · refine wpAny_bind (wpAny_pure ?_)
      simp only [↓reduceIte]
      refine setG_tail ?_ ho hex hd p1 p3 nd1 hb1 f1 f2 hw1 ?_
      · intro b s1 Q' q; cases b <;> first | exact wpAny_pure q | exact wpAny_rule q
      · intro h' sb r; dsimp only; exact wpAny_pure (fin h' sb r)
end
/-- the keys, each once, in the order in which they are laid -/
def setIns {κ : Type} [DecidableEq κ] (ks : List κ) (k : κ) : List κ := if k ∈ ks then ks else k :: ks
def setAll {κ : Type} [DecidableEq κ] (l : List κ) : List κ := l.foldl setIns []
end TH

namespace TH
open PySem PySem.Spec PyProof.Rows L2
abbrev newS (w : World) : Obj := { cls := .type "set", dict := none, data := .set #[] 0 (.fresh 0 0 (!w.params.followText "set-order")) }
section
variable {P : Program} {w : World} {κ : Type} [DecidableEq κ] {knd : PySem.KeyKind P w κ}
theorem setG_empty {h : Heap} {a : Addr} (ho : h.get? a = some (newS w)) : SetG knd h a [] := by
  refine ⟨⟨_, #[], 0, _, [], ho, ⟨rfl, rfl, rfl⟩, rfl, .nil, .refl _, by decide, by rfl, List.Pairwise.nil, ?_⟩, List.nodup_nil⟩
  show _ ∨ (!w.params.followText "set-order") = true
  cases w.params.followText "set-order"
  · exact .inr rfl
  · exact .inl rfl
/-- v bears the key k -/
def ValK (knd : PySem.KeyKind P w κ) (v : Value) (k : κ) : Prop := knd.is k v = true ∧ v.scannable = true
theorem setAll_snoc (l : List κ) (k : κ) : setAll (l ++ [k]) = setIns (setAll l) k := by
  unfold setAll
  rw [List.foldl_append]
  rfl
theorem setIns_len (l : List κ) (k : κ) : (setIns l k).length ≤ l.length + 1 := by
  unfold setIns
  split <;> simp
theorem setAll_len : ∀ (l : List κ), (setAll l).length ≤ l.length := by
  intro l
  have q : ∀ (l acc : List κ), (l.foldl setIns acc).length ≤ acc.length + l.length := by
    intro l
    induction l with
    | nil => intro acc; simp
    | cons k l ih =>
      intro acc
      have h1 := ih (setIns acc k)
      have h2 := setIns_len acc k
      simp only [List.foldl_cons, List.length_cons]
      omega
  have := q l []
  simpa [setAll] using this
variable {A : Around} {E : Value → Shared → Prop} {s : Shared}
theorem setG_update {I : Addr} {fp wr : List Addr} {G : Array GenState → Array GenState → Prop} {n : Nat} {Pv : Nat → Value → Prop} {St : Nat → Shared → Prop} {R : Result → Shared → Prop}
    (W : WalksS P w A.in1 I fp wr G n Pv St) (S : Addr) (hS : S ∉ fp) (ks : List κ) (hn : n = ks.length) (hb : ks.length + 1 < scanBound) (hv : ∀ i v, Pv i v → ∃ k, ks[i]? = some k ∧ ValK knd v k) :
    ∀ (m i : Nat) (s : Shared), n - i = m → i ≤ n → St i s → SetG knd s.heap S (setAll (ks.take i)) →
      (∀ s', Moved (S :: wr) G s s' → SetG knd s'.heap S (setAll ks) → R (.ok (.ret .none)) s') →
      codeAny (model P w) A (.builtin "set.update.loop" ⟨[.ref S, .ref I], []⟩) R s := by
  have hw : S ∉ wr := fun h => hS (W.sub _ h)
  have sub : ∀ b ∈ wr, b ∈ S :: wr := fun b hb => List.mem_cons_of_mem _ hb
  intro m
  induction m with
  | zero =>
    intro i s hm hi hst hg hR
    have e : i = n := by omega
    subst e
    refine codeAny_builtin F.entry_set_update_loop ?_
    rw [Around.under_plainId F.plain_set_update_loop _]
    show wpAny _ A.in1 (pyNext (.ref I) >>= _) _ _ s
    refine wpAny_bind (W.done s _ _ hst fun s' mv => ?_)
    show wpAny _ A.in1 (ret Value.none) _ _ s'
    rw [List.take_of_length_le (by omega)] at hg
    exact wpAny_pure (hR s' (mv.mono sub) (hg.keep fun o q => mv.heap S o hw q))
  | succ m ih =>
    intro i s hm hi hst hg hR
    have lt : i < n := by omega
    refine codeAny_builtin F.entry_set_update_loop ?_
    rw [Around.under_plainId F.plain_set_update_loop _]
    show wpAny _ A.in1 (pyNext (.ref I) >>= _) _ _ s
    refine wpAny_bind (W.item i s _ _ lt hst fun v s' hP hst' mv => ?_)
    obtain ⟨k, hk, v1, v2⟩ := hv i v hP
    have hg' : SetG knd s'.heap S (setAll (ks.take i)) := hg.keep fun o q => mv.heap S o hw q
    show wpAny _ A.in1 (holding [v] (setAdd S v) >>= _) _ _ s'
    refine wpAny_bind (wpAny_holding ?_)
    unfold setAdd
    refine wpAny_holding ?_
    refine wpAny_bind (knd.pyHash (k := k) v1 ?_)
    refine setG_add (s := { s' with toks := s'.toks + 1 }) hg' v1 v2 (by
      have := setAll_len (ks.take i)
      rw [List.length_take] at this
      omega) fun b h' sb hg2 => ?_
    have hg3 : SetG knd h' S (setAll (ks.take (i + 1))) := by
      rw [List.take_add_one, hk]
      show SetG knd h' S (setAll (ks.take i ++ [k]))
      rw [setAll_snoc]
      exact hg2
    refine wpAny_pure ⟨plainId_quiet F.plain_set_update_loop _, ih (i + 1) _ (by omega) lt (W.frame _ s' _ _ hst' (Nat.le_succ _) fun b hb o q => ?_) hg3 fun s2 mv2 hg4 => ?_⟩
    · rw [sb.2 b (fun h : b = S => hS (by rw [← h]; exact hb))]; exact q
    · refine hR s2 (Moved.trans W.gtrans ((mv.mono sub).then_heap (Nat.le_succ _) fun b o hb q => ?_) mv2) hg4
      rw [sb.2 b (fun h : b = S => hb (by rw [h]; exact List.mem_cons_self))]; exact q
/-- set(list of keys) -/
theorem call_setG {l : Addr} {items : Array Value} (ks : List κ) {Q : Value → Shared → Prop} (hh : A.handled = none) (hl : s.heap.IsList l items) (hit : Paired (ValK knd) items.toList ks) (hb : ks.length + 1 < scanBound)
    (h : ∀ (h' : Heap) (tk : Nat), SetG knd h' s.heap.objs.size (setAll ks) → (∀ b o, s.heap.get? b = some o → h'.get? b = some o) → Q (.ref s.heap.objs.size) { s with heap := h', toks := tk }) :
    wpAny (model P w) A (call (.type "set") [.ref l]) Q E s := by
  have hsz : items.size = ks.length := by
    have q := paired_len hit
    rw [Array.length_toList] at q
    exact q
  obtain ⟨c, tl, hmro⟩ := F.called_set.mro
  have hmade := F.called_set.made
  have hsub := F.called_set.sub
  refine wpAny_call (codeAny_of_tree ?_)
  show wpAny _ _ (callAny (.type "set") _) _ _ _
  refine wpAny_pure ⟨Code.quiet_builtin _ (by decide +kernel), codeAny_builtin F.entry_type_call ?_⟩
  rw [Around.under_plain (weight_type_call_type "set" [.ref l] []) rfl]
  have g1 := F.called_set.notType
  have g2 := F.called_set.canCreate
  have g3 := F.typeCall_set_1 (.ref l)
  repeat (any_goals (first | assumption | wp_step))
  refine codeAny_mono (code_set_led1 (.ref l) (E := E) (Q₁ := fun obj s1 => obj = .ref s.heap.objs.size ∧ s1 = { s with heap := s.heap.push (newS w) }) ⟨rfl, rfl⟩) fun r s1 hr => ?_
  cases r with
  | error e => exact hr
  | ok fl =>
    cases fl with
    | ret obj =>
      obtain ⟨rfl, rfl⟩ := hr
      have hS : (s.heap.push (newS w)).get? s.heap.objs.size = some (newS w) := Heap.get?_push_size _ rfl
      have hT : Shared.TypeIs { s with heap := s.heap.push (newS w) } (.ref s.heap.objs.size) "set" := ⟨_, hS, rfl⟩
      have hli := F.called_set.init.lookup
      have hbi := F.called_set.init.bind (.ref s.heap.objs.size)
      repeat (any_goals (first | assumption | wp_step))
      refine codeAny_mono (codeAny_call_builtin (R := wants (fun r s2 => r = .none ∧ ∃ h' tk, s2 = { s with heap := h', toks := tk } ∧ SetG knd h' s.heap.objs.size (setAll ks) ∧ (∀ b o, s.heap.get? b = some o → h'.get? b = some o)) E) F.called_set.init.plain F.entry_set_init (check_set_init_1 hT ?_)) fun r2 s2 hr2 => ?_
      · obtain ⟨ol, hol, hcl, nl, hdl⟩ := hl
        obtain ⟨ocls, odict, odata, oslots⟩ := ol
        simp only at hcl hdl
        subst hcl; subst hdl
        have hol' : (s.heap.push (newS w)).get? l = some { cls := .type "list", dict := odict, data := .seq items nl, slots := oslots } := Heap.get?_push_of_some _ hol
        have hsls := F.sub_list_set
        have hslf := F.sub_list_frozenset
        have hne : (Value.type "list" == Value.type "dict") = false := by decide
        have hl1 : (s.heap.push (newS w)).IsList l items := ⟨_, hol', rfl, nl, rfl⟩
        unfold Builtin.«set.__init__» noKeywords Builtin.Frozenset.updateFrom
        generalize hPI : pyIter = PI
        wp_walk
        subst hPI
        refine wpAny_pyIter_list hl1 ?_
        refine wpAny_bind (wpAny_runValue ?_)
        have hlS : l < s.heap.objs.size := Heap.lt_size hol
        have hh3 : A.in1.in1.in1.handled = none := by simp [hh]
        have hneI : l ≠ (s.heap.push (newS w)).objs.size := by rw [Heap.size_push]; exact Nat.ne_of_lt (Nat.lt_succ_of_lt hlS)
        have hSf : s.heap.objs.size ∉ [(s.heap.push (newS w)).objs.size, l] := by
          rw [Heap.size_push]
          simp only [List.mem_cons, List.mem_singleton, List.not_mem_nil, or_false, not_or]
          exact ⟨Nat.ne_of_lt (Nat.lt_succ_self _), Nat.ne_of_gt hlS⟩
        have get : ∀ {vs : List Value} {js : List κ}, Paired (ValK knd) vs js → ∀ (i : Nat) (v : Value), vs[i]? = some v → ∃ k, js[i]? = some k ∧ ValK knd v k := by
          intro vs js hp
          induction hp with
          | nil => intro i v e; simp at e
          | cons r _ ih =>
            intro i v e
            cases i with
            | zero => simp at e; subst e; exact ⟨_, rfl, r⟩
            | succ i =>
              obtain ⟨k, h1, h2⟩ := ih i v (by simpa using e)
              exact ⟨k, by simpa using h1, h2⟩
        have hval : ∀ (i : Nat) (v : Value), items[i]? = some v → ∃ k, ks[i]? = some k ∧ ValK knd v k := fun i v hv => get hit i v (by rw [Array.getElem?_toList]; exact hv)
        refine setG_update ((Walks.list hh3 _ l hneI items).toS) s.heap.objs.size hSf ks hsz hb hval (items.size - 0) 0 _ (by omega) (Nat.zero_le _) ⟨⟨_, Heap.get?_push_size _ rfl, rfl, rfl⟩, (hl1.push _)⟩ ?hS0 ?hR
        case hS0 => exact setG_empty (Heap.get?_push_of_some _ hS)
        case hR =>
          intro s' mv hg
          obtain ⟨h', g', d', tk', os'⟩ := s'
          have eg : g' = s.gens := mv.gens
          have ed : d' = s.drawn := mv.drawn
          have eo : os' = s.os := mv.os
          subst eg; subst ed; subst eo
          show wpAny _ _ _ _ _ _
          refine wpAny_pure ?_
          show wpAny _ _ (ret Value.none) _ _ _
          refine wpAny_pure ⟨rfl, h', tk', rfl, hg, fun b o q => ?_⟩
          have hb0 : b < s.heap.objs.size := Heap.lt_size q
          have hb2 : b ≠ (s.heap.push (newS w)).objs.size := by rw [Heap.size_push]; exact Nat.ne_of_lt (Nat.lt_succ_of_lt hb0)
          exact mv.heap b o (by simp only [List.mem_cons, List.mem_singleton, List.not_mem_nil, or_false, not_or]; exact ⟨Nat.ne_of_lt hb0, hb2⟩) (Heap.get?_push_of_some _ (Heap.get?_push_of_some _ q))
      · cases r2 with
        | error e => exact hr2
        | ok fl2 =>
          cases fl2 with
          | ret r =>
            obtain ⟨rfl, h', tk, rfl, hg, hk⟩ := hr2
            repeat (any_goals (first | assumption | wp_step))
            exact h _ _ hg hk
          | _ => exact hr2.elim
    | _ => exact hr.elim
end
/-! ## sorted(set) -/
section
variable {P : Program} {w : World} {A : Around} {E : Value → Shared → Prop} {s : Shared} {a : Addr}
theorem strs_of_paired : ∀ {l : List (Int × Value)} {xs : List Str}, Paired (EnK (PySem.strKind P w)) l xs → StrsAre (l.map (·.2)) xs
  | _, _, .nil => .nil
  | _, _, .cons (a := e) (b := x) r t => by
    obtain ⟨tk, q⟩ := Value.isStrOf_shape (x := x) (v := e.2) r.1
    rw [List.map_cons, q]
    exact .cons x tk (strs_of_paired t)
theorem ints_of_paired : ∀ {l : List (Int × Value)} {xs : List Int}, Paired (EnK (PySem.intKind P w)) l xs → IntsAre (l.map (·.2)) xs
  | _, _, .nil => .nil
  | _, _, .cons (a := e) (b := x) r t => by
    obtain ⟨tk, q⟩ := Value.isInt_shape (k := x) (v := e.2) r.1
    rw [List.map_cons, q]
    exact .cons x tk (ints_of_paired t)
theorem strs_perm {vs us : List Value} (p : us.Perm vs) : ∀ {xs : List Str}, StrsAre vs xs → ∃ ys, StrsAre us ys ∧ ys.Perm xs := by
  induction p with
  | nil => intro xs h; exact ⟨xs, h, .refl _⟩
  | cons x _ ih =>
    intro xs h
    cases h with
    | cons y t r =>
      obtain ⟨ys, h1, h2⟩ := ih r
      exact ⟨y :: ys, .cons y t h1, h2.cons _⟩
  | swap x y l =>
    intro xs h
    cases h with
    | cons b t r =>
      cases r with
      | cons c u r' => exact ⟨c :: b :: _, .cons c u (.cons b t r'), .swap _ _ _⟩
  | trans _ _ ih1 ih2 =>
    intro xs h
    obtain ⟨k1, h1, h2⟩ := ih2 h
    obtain ⟨k2, h3, h4⟩ := ih1 h1
    exact ⟨k2, h3, h4.trans h2⟩
theorem ints_perm {vs us : List Value} (p : us.Perm vs) : ∀ {xs : List Int}, IntsAre vs xs → ∃ ys, IntsAre us ys ∧ ys.Perm xs := by
  induction p with
  | nil => intro xs h; exact ⟨xs, h, .refl _⟩
  | cons x _ ih =>
    intro xs h
    cases h with
    | cons y t r =>
      obtain ⟨ys, h1, h2⟩ := ih r
      exact ⟨y :: ys, .cons y t h1, h2.cons _⟩
  | swap x y l =>
    intro xs h
    cases h with
    | cons b t r =>
      cases r with
      | cons c u r' => exact ⟨c :: b :: _, .cons c u (.cons b t r'), .swap _ _ _⟩
  | trans _ _ ih1 ih2 =>
    intro xs h
    obtain ⟨k1, h1, h2⟩ := ih2 h
    obtain ⟨k2, h3, h4⟩ := ih1 h1
    exact ⟨k2, h3, h4.trans h2⟩
theorem sortedG_strs {ks : List Str} {Q : Value → Shared → Prop} (R : SetG (PySem.strKind P w) s.heap a ks) (hh : A.handled = none) (h64 : ks.length < 64)
    (hQ : ∀ s' p (out : Array Value) (c : Nat) (xs : List Str), (∀ b o, s.heap.get? b = some o → s'.heap.get? b = some o) → s'.gens = s.gens → s'.os = s.os → s.heap.objs.size ≤ p →
      s'.heap.get? p = some (seqObj "list" out c) → StrsAre out.toList xs → xs.Perm ks → sortedS xs = true → Q (.ref p) s') :
    wpAny (model P w) A (call (.builtin "sorted") [.ref a]) Q E s := by
  obtain ⟨⟨o, es, ep, t, ls, ho, hex, hd, hp, hl, hb, hf, hr, hw⟩, nd⟩ := R
  refine Calls.call_function_entry kind_sorted plain_sorted entry_sorted (args_sorted1 _) ?_
  unfold Builtin.«sorted»
  refine wpAny_bind (m := checkCount "sorted" 1 1 _) (wpAny_pure ?_)
  refine wpAny_bind (collect_set (A := A.in1) hh ⟨o, ho, hex.1, hd⟩ hf hb hr hw fun s1 vs k1 hz g1 o1 pm => ?_)
  obtain ⟨ys, y1, y2⟩ := strs_perm pm (strs_of_paired hp)
  have yl : ys.Perm ks := y2.trans hl
  have vl : vs.length = ks.length := by rw [y1.length, yl.length_eq]
  refine wpAny_bind (wpAny_newList ?_ (by rw [vl, sizeLine_eq]; omega))
  have hoL : (s1.heap.push (seqObj "list" vs.toArray 0)).get? s1.heap.objs.size = some (seqObj "list" vs.toArray 0) := Heap.get?_push_size _ rfl
  refine wpAny_bind (wpAny_holding (wpAny_call_entry slot_list_sort ⟨_, hoL, rfl⟩ entry_list_sort (list_sort_treeK strKind_oneLt hoL y1.keysOf (fun v1 v2 rest e => keyKind_strs (by rw [← e]; exact y1)) (by rw [vl]; exact h64) fun st' q1 q2 => ⟨_, rfl, ?_⟩) (args_list_sort _)))
  obtain ⟨xs, x1, x2, x3⟩ := sorted_out_str y1 q1 q2
  obtain ⟨c, hc⟩ := sortedHeap_at (vs := vs) (out := (arrOf st').map (·.2)) hoL
  refine wpAny_pure ⟨_, rfl, hQ _ s1.heap.objs.size _ c xs (fun b u q => ?_) g1 o1 hz hc x1 (x2.trans yl) x3⟩
  have q' := k1 b u q
  have lt := Heap.lt_size q'
  show (sortedHeap (s1.heap.push (seqObj "list" vs.toArray 0)) s1.heap.objs.size vs _).get? b = some u
  rw [sortedHeap_old (Nat.ne_of_lt lt) (by rw [size_push']; exact Nat.lt_succ_of_lt lt)]
  exact Heap.get?_push_of_some _ q'
theorem sortedG_ints {ks : List Int} {Q : Value → Shared → Prop} (R : SetG (PySem.intKind P w) s.heap a ks) (hh : A.handled = none) (h64 : ks.length < 64)
    (hQ : ∀ s' p (out : Array Value) (c : Nat) (xs : List Int), (∀ b o, s.heap.get? b = some o → s'.heap.get? b = some o) → s'.gens = s.gens → s'.os = s.os → s.heap.objs.size ≤ p →
      s'.heap.get? p = some (seqObj "list" out c) → IntsAre out.toList xs → xs.Perm ks → xs.Pairwise (· ≤ ·) → Q (.ref p) s') :
    wpAny (model P w) A (call (.builtin "sorted") [.ref a]) Q E s := by
  obtain ⟨⟨o, es, ep, t, ls, ho, hex, hd, hp, hl, hb, hf, hr, hw⟩, nd⟩ := R
  refine Calls.call_function_entry kind_sorted plain_sorted entry_sorted (args_sorted1 _) ?_
  unfold Builtin.«sorted»
  refine wpAny_bind (m := checkCount "sorted" 1 1 _) (wpAny_pure ?_)
  refine wpAny_bind (collect_set (A := A.in1) hh ⟨o, ho, hex.1, hd⟩ hf hb hr hw fun s1 vs k1 hz g1 o1 pm => ?_)
  obtain ⟨ys, y1, y2⟩ := ints_perm pm (ints_of_paired hp)
  have yl : ys.Perm ks := y2.trans hl
  have vl : vs.length = ks.length := by rw [y1.length, yl.length_eq]
  refine wpAny_bind (wpAny_newList ?_ (by rw [vl, sizeLine_eq]; omega))
  have hoL : (s1.heap.push (seqObj "list" vs.toArray 0)).get? s1.heap.objs.size = some (seqObj "list" vs.toArray 0) := Heap.get?_push_size _ rfl
  refine wpAny_bind (wpAny_holding (wpAny_call_entry slot_list_sort ⟨_, hoL, rfl⟩ entry_list_sort (list_sort_tree hoL y1 (by rw [vl]; exact h64) fun out xs x1 x2 x3 => ⟨_, rfl, ?_⟩) (args_list_sort _)))
  obtain ⟨c, hc⟩ := sortedHeap_at (vs := vs) (out := out) hoL
  refine wpAny_pure ⟨_, rfl, hQ _ s1.heap.objs.size _ c xs (fun b u q => ?_) g1 o1 hz hc x1 (x2.trans yl) x3⟩
  have q' := k1 b u q
  have lt := Heap.lt_size q'
  show (sortedHeap (s1.heap.push (seqObj "list" vs.toArray 0)) s1.heap.objs.size vs _).get? b = some u
  rw [sortedHeap_old (Nat.ne_of_lt lt) (by rw [size_push']; exact Nat.lt_succ_of_lt lt)]
  exact Heap.get?_push_of_some _ q'
end
end TH

set_option maxHeartbeats 2000000
namespace TH
open PySem PySem.Spec PyProof.Rows L2
section
variable {X : Cx}
/-- a set of texts, a set of ints, as things of the heap -/
def SetSO (P : Program) (w : World) (a : Addr) (ks : List Str) : HO := .ext fun h => SetG (PySem.strKind P w) h a ks
def SetIO (P : Program) (w : World) (a : Addr) (ks : List Int) : HO := .ext fun h => SetG (PySem.intKind P w) h a ks
theorem setO_new {P : Program} {w : World} {κ : Type} [DecidableEq κ] {knd : PySem.KeyKind P w κ} {H : Hp} {h : Heap} {a : Addr} {ks : List κ} (R : SetG knd h a ks) : ObjOk P w H h a (.ext fun h => SetG knd h a ks) := by
  obtain ⟨⟨o, es, ep, t, ls, ho, r⟩, nd⟩ := id R
  exact ⟨R, ⟨o, ho⟩, fun h1 h2 p k => p.keep k⟩
theorem paired_strs {P : Program} {w : World} : ∀ {ks : List Str} {us : List Value}, Vals (ks.map V.str) us → Paired (ValK (PySem.strKind P w)) us ks
  | [], _, .nil => .nil
  | k :: ks, _, .cons r t => by
    obtain ⟨tk, rfl⟩ := r
    exact .cons ⟨PySem.strKind_is _ _ _ _, rfl⟩ (paired_strs t)
theorem paired_ints {P : Program} {w : World} : ∀ {ks : List Int} {us : List Value}, Vals (ks.map V.int) us → Paired (ValK (PySem.intKind P w)) us ks
  | [], _, .nil => .nil
  | k :: ks, _, .cons r t => by
    obtain ⟨tk, rfl⟩ := r
    exact .cons ⟨PySem.intKind_is _ _ _ _, rfl⟩ (paired_ints t)
def rSetS (P : Program) (w : World) : List V → Hp → VK → Prop := fun xs H Q => ∃ (l : Addr) (ks : List Str), xs = [V.ref l] ∧ H l = some (.lst (ks.map V.str)) ∧ ks.length ≤ 4000 ∧ ∀ p, H p = none → Q (.ref p) (upd H p (SetSO P w p (setAll ks)))
def rSetI (P : Program) (w : World) : List V → Hp → VK → Prop := fun xs H Q => ∃ (l : Addr) (ks : List Int), xs = [V.ref l] ∧ H l = some (.lst (ks.map V.int)) ∧ ks.length ≤ 4000 ∧ ∀ p, H p = none → Q (.ref p) (upd H p (SetIO P w p (setAll ks)))
theorem cr_setS (hc : X.calm = true) : CallR X (.type "set") (rSetS X.prog X.w) := by
  intro pins s σ H xs us Q I r h
  obtain ⟨l, ks, rfl, hl, hz, q⟩ := h
  rw [Vals.ref1 r]
  obtain ⟨its, rv, pl, _⟩ := I.list (.of hl)
  refine call_setG (P := X.prog) (w := X.w) (knd := PySem.strKind X.prog X.w) ks (I.ok.hd hc) pl.isList (paired_strs rv) (by unfold scanBound; omega) fun h' tk R k => ?_
  exact ⟨.ref s.heap.objs.size, upd H s.heap.objs.size (SetSO X.prog X.w s.heap.objs.size (setAll ks)), I.laid (t' := tk) k (Nat.le_refl _) (setO_new R), rfl, q _ (I.hok.fresh (Nat.le_refl _))⟩
theorem cr_setI (hc : X.calm = true) : CallR X (.type "set") (rSetI X.prog X.w) := by
  intro pins s σ H xs us Q I r h
  obtain ⟨l, ks, rfl, hl, hz, q⟩ := h
  rw [Vals.ref1 r]
  obtain ⟨its, rv, pl, _⟩ := I.list (.of hl)
  refine call_setG (P := X.prog) (w := X.w) (knd := PySem.intKind X.prog X.w) ks (I.ok.hd hc) pl.isList (paired_ints rv) (by unfold scanBound; omega) fun h' tk R k => ?_
  exact ⟨.ref s.heap.objs.size, upd H s.heap.objs.size (SetIO X.prog X.w s.heap.objs.size (setAll ks)), I.laid (t' := tk) k (Nat.le_refl _) (setO_new R), rfl, q _ (I.hok.fresh (Nat.le_refl _))⟩
theorem shared_eta {s s' : Shared} (o : s'.os = s.os) : s' = { s with heap := s'.heap, gens := s'.gens, drawn := s'.drawn, toks := s'.toks } := by
  cases s'
  cases s
  cases o
  rfl
def rSrtS (P : Program) (w : World) : List V → Hp → VK → Prop := fun xs H Q => ∃ (a : Addr) (ks : List Str), xs = [V.ref a] ∧ H a = some (SetSO P w a ks) ∧ ks.length < 64 ∧ ∀ (ys : List Str) p, ys.Perm ks → sortedS ys = true → H p = none → Q (.ref p) (upd H p (.lst (ys.map V.str)))
def rSrtI (P : Program) (w : World) : List V → Hp → VK → Prop := fun xs H Q => ∃ (a : Addr) (ks : List Int), xs = [V.ref a] ∧ H a = some (SetIO P w a ks) ∧ ks.length < 64 ∧ ∀ (ys : List Int) p, ys.Perm ks → ys.Pairwise (· ≤ ·) → H p = none → Q (.ref p) (upd H p (.lst (ys.map V.int)))
theorem cr_srtS (hc : X.calm = true) : CallR X (.builtin "sorted") (rSrtS X.prog X.w) := by
  intro pins s σ H xs us Q I r h
  obtain ⟨a, ks, rfl, ha, h64, q⟩ := h
  have R : SetG (PySem.strKind X.prog X.w) s.heap a ks := (I.hok a _ ha).1
  rw [Vals.ref1 r]
  refine sortedG_strs R (I.ok.hd hc) h64 fun s' p out c xs k g o hp hg hout pm hs => ?_
  have hn : H p = none := I.hok.fresh hp
  have hlen : (xs.map V.str).length ≤ sizeLine := by rw [List.length_map, pm.length_eq]; exact small64 h64
  have J : Inv X pins σ (upd H p (.lst (xs.map V.str))) { s with heap := s'.heap, gens := s'.gens, drawn := s'.drawn, toks := s'.toks } :=
    I.call (ch := []) (Un.laid k hp hn) (I.hok.laid k hp ⟨hlen, out.toList, c, vals_of_strs hout, hg⟩) (by rw [g]; exact I.bare) (fun _ z => nomatch z)
  rw [shared_eta o]
  exact ⟨.ref p, _, J, rfl, q xs p pm hs hn⟩
theorem cr_srtI (hc : X.calm = true) : CallR X (.builtin "sorted") (rSrtI X.prog X.w) := by
  intro pins s σ H xs us Q I r h
  obtain ⟨a, ks, rfl, ha, h64, q⟩ := h
  have R : SetG (PySem.intKind X.prog X.w) s.heap a ks := (I.hok a _ ha).1
  rw [Vals.ref1 r]
  refine sortedG_ints R (I.ok.hd hc) h64 fun s' p out c xs k g o hp hg hout pm hs => ?_
  have hn : H p = none := I.hok.fresh hp
  have hlen : (xs.map V.int).length ≤ sizeLine := by rw [List.length_map, pm.length_eq]; exact small64 h64
  have J : Inv X pins σ (upd H p (.lst (xs.map V.int))) { s with heap := s'.heap, gens := s'.gens, drawn := s'.drawn, toks := s'.toks } :=
    I.call (ch := []) (Un.laid k hp hn) (I.hok.laid k hp ⟨hlen, out.toList, c, vals_of_ints hout, hg⟩) (by rw [g]; exact I.bare) (fun _ z => nomatch z)
  rw [shared_eta o]
  exact ⟨.ref p, _, J, rfl, q xs p pm hs hn⟩
variable {r : List (Option PyData)} {a : Expr} {p1 p2 q1 q2 : Pos}
/-- sorted(set(a)), a list of texts -/
theorem el_srtS {xs zs : List Str} (ha : EV X a r (.list (xs.map .str))) (hz : xs.length ≤ 60) (hu : ∀ ys : List Str, ys.Perm (setAll xs) → sortedS ys = true → ys = zs) (hc : X.calm = true) (hg : Gl X "sorted") (hm : X.mg "sorted" = none) (hg2 : Gl X "set") (hm2 : X.mg "set" = none)
    (hs : starEach [a] X.env = (false, eval a X.env) :: starEach [] X.env := by rfl) (hs2 : starEach [.Call (.Name "set" p2) [a] [] q2] X.env = (false, eval (.Call (.Name "set" p2) [a] [] q2) X.env) :: starEach [] X.env := by rfl)
    (hl : (backTo q2 (starEach [] X.env)).any (·.1) = false := by rfl) (hl2 : (backTo q1 (starEach [] X.env)).any (·.1) = false := by rfl) : EVL X (.Call (.Name "sorted" p1) [.Call (.Name "set" p2) [a] [] q2] [] q1) r (zs.map .str) :=
  .mk' (pe_callB (cr_srtS hc) hg hm (by decide +kernel) (pa_cons (pe_callTy (cr_setS hc) hg2 hm2 (by decide +kernel) (pa_cons pe_any pa_nil hs) (by decide) (by decide) hs hl) pa_nil hs2) (by decide) (by decide) hs2 hl2) fun σ H E => ha.use E fun v H1 e1 dv => by
    cases dv with
    | lst h1 h2 =>
      rw [h2.strs] at h1
      refine ⟨_, xs, rfl, h1, by omega, fun p hp => ?_⟩
      refine ⟨p, _, rfl, upd_same, ?_, fun ys q pm hs hq => ?_⟩
      · have := setAll_len xs
        omega
      · have e := hu ys pm hs
        subst e
        have e2 : Same H1 (upd (upd H1 p (SetSO X.prog X.w p (setAll xs))) q (.lst (ys.map V.str))) := (same_new hp).trans (same_new hq)
        exact ⟨q, _, rfl, e1.free ((same_new hp).free hq), e1.trans e2, upd_same, dps_strs ys⟩
theorem el_srtI {xs zs : List Int} (ha : EV X a r (.list (xs.map .int))) (hz : xs.length ≤ 60) (hu : ∀ ys : List Int, ys.Perm (setAll xs) → ys.Pairwise (· ≤ ·) → ys = zs) (hc : X.calm = true) (hg : Gl X "sorted") (hm : X.mg "sorted" = none) (hg2 : Gl X "set") (hm2 : X.mg "set" = none)
    (hs : starEach [a] X.env = (false, eval a X.env) :: starEach [] X.env := by rfl) (hs2 : starEach [.Call (.Name "set" p2) [a] [] q2] X.env = (false, eval (.Call (.Name "set" p2) [a] [] q2) X.env) :: starEach [] X.env := by rfl)
    (hl : (backTo q2 (starEach [] X.env)).any (·.1) = false := by rfl) (hl2 : (backTo q1 (starEach [] X.env)).any (·.1) = false := by rfl) : EVL X (.Call (.Name "sorted" p1) [.Call (.Name "set" p2) [a] [] q2] [] q1) r (zs.map .int) :=
  .mk' (pe_callB (cr_srtI hc) hg hm (by decide +kernel) (pa_cons (pe_callTy (cr_setI hc) hg2 hm2 (by decide +kernel) (pa_cons pe_any pa_nil hs) (by decide) (by decide) hs hl) pa_nil hs2) (by decide) (by decide) hs2 hl2) fun σ H E => ha.use E fun v H1 e1 dv => by
    cases dv with
    | lst h1 h2 =>
      rw [h2.ints] at h1
      refine ⟨_, xs, rfl, h1, by omega, fun p hp => ?_⟩
      refine ⟨p, _, rfl, upd_same, ?_, fun ys q pm hs hq => ?_⟩
      · have := setAll_len xs
        omega
      · have e := hu ys pm hs
        subst e
        have e2 : Same H1 (upd (upd H1 p (SetIO X.prog X.w p (setAll xs))) q (.lst (ys.map V.int))) := (same_new hp).trans (same_new hq)
        exact ⟨q, _, rfl, e1.free ((same_new hp).free hq), e1.trans e2, upd_same, dps_ints ys⟩
/-- sorted(a), a list of ints -/
theorem cl_sortedI {xs zs : List Int} (hz : xs.length < 64) (hu : ∀ ys : List Int, ys.Perm xs → ys.Pairwise (· ≤ ·) → ys = zs) : CaL X (.builtin "sorted") [.list (xs.map .int)] (zs.map .int) := ⟨_, cr_sorted, fun vs H h => by
  obtain ⟨v, rfl, hv⟩ := dq1 h
  cases hv with
  | lst hs ha =>
    rw [ha.ints] at hs
    refine ⟨_, xs, rfl, .of hs, hz, fun ys p pm pw hp => ?_⟩
    have e := hu ys pm pw
    subst e
    exact ⟨p, _, rfl, hp, same_new hp, upd_same, dps_ints ys⟩⟩
end
/-! ## which list that is -/
theorem setAll_mem {κ : Type} [DecidableEq κ] (k : κ) : ∀ (l : List κ), k ∈ setAll l ↔ k ∈ l := by
  have q : ∀ (l acc : List κ), k ∈ l.foldl setIns acc ↔ k ∈ acc ∨ k ∈ l := by
    intro l
    induction l with
    | nil => intro acc; simp
    | cons x l ih =>
      intro acc
      rw [List.foldl_cons, ih]
      unfold setIns
      by_cases h : x ∈ acc
      · rw [if_pos h, List.mem_cons]
        constructor
        · rintro (h1 | h1)
          · exact .inl h1
          · exact .inr (.inr h1)
        · rintro (h1 | h1 | h1)
          · exact .inl h1
          · rw [h1]; exact .inl h
          · exact .inr h1
      · rw [if_neg h, List.mem_cons, List.mem_cons]
        constructor
        · rintro ((h1 | h1) | h1)
          · exact .inr (.inl h1)
          · exact .inl h1
          · exact .inr (.inr h1)
        · rintro (h1 | h1 | h1)
          · exact .inl (.inr h1)
          · exact .inl (.inl h1)
          · exact .inr h1
  intro l
  rw [setAll, q]
  simp
theorem setAll_nodup {κ : Type} [DecidableEq κ] : ∀ (l : List κ), (setAll l).Nodup := by
  have q : ∀ (l acc : List κ), acc.Nodup → (l.foldl setIns acc).Nodup := by
    intro l
    induction l with
    | nil => intro acc h; exact h
    | cons x l ih =>
      intro acc h
      rw [List.foldl_cons]
      refine ih _ ?_
      unfold setIns
      by_cases hx : x ∈ acc
      · rw [if_pos hx]; exact h
      · rw [if_neg hx]; exact List.nodup_cons.mpr ⟨hx, h⟩
  intro l
  exact q l [] List.nodup_nil
theorem perm_of_mem {κ : Type} [DecidableEq κ] {a b : List κ} (ha : a.Nodup) (hb : b.Nodup) (h : ∀ k, k ∈ a ↔ k ∈ b) : a.Perm b := by
  rw [List.perm_iff_count]
  intro k
  by_cases hk : k ∈ a
  · rw [List.Nodup.count ha, List.Nodup.count hb, if_pos hk, if_pos ((h k).mp hk)]
  · rw [List.Nodup.count ha, List.Nodup.count hb, if_neg hk, if_neg (fun z => hk ((h k).mpr z))]
/-- the ascending list of the members of l is zs -/
theorem srtI_is {xs zs : List Int} (hz : zs.Pairwise (· < ·)) (h : ∀ k, k ∈ zs ↔ k ∈ xs) : ∀ ys : List Int, ys.Perm (setAll xs) → ys.Pairwise (· ≤ ·) → ys = zs := fun ys pm pw => by
  have nz : zs.Nodup := hz.imp fun h => by omega
  have p2 : ys.Perm zs := pm.trans (perm_of_mem (setAll_nodup xs) nz fun k => by rw [setAll_mem, h])
  exact PySem.W.ksm_same p2 pw (hz.imp fun h => by omega)
theorem risingS_pw : ∀ (x : Str) (l : List Str), risingS x l = true → ∀ (h : ∀ a b c : List Nat, ¬ b < a → ¬ c < b → ¬ c < a), (x :: l).Pairwise (fun a b => ¬ b.cps.toList < a.cps.toList)
  | x, [], _, _ => by simp
  | x, y :: l, h, tr => by
    have h' : (!ltCps y.cps.toList x.cps.toList && risingS y l) = true := h
    rw [Bool.and_eq_true, Bool.not_eq_true', ltCps_eq, decide_eq_false_iff_not] at h'
    have ih := risingS_pw y l h'.2 tr
    refine List.pairwise_cons.mpr ⟨fun z hz => ?_, ih⟩
    rcases List.mem_cons.mp hz with rfl | hz
    · exact h'.1
    · exact tr _ _ _ h'.1 ((List.pairwise_cons.mp ih).1 z hz)
theorem nlt_trans (a b c : List Nat) (h1 : ¬ b < a) (h2 : ¬ c < b) : ¬ c < a := by
  have q1 : a ≤ b := List.not_lt.mp h1
  have q2 : b ≤ c := List.not_lt.mp h2
  exact List.not_lt.mpr (List.le_trans q1 q2)
theorem str_ext {a b : Str} (h : a.cps.toList = b.cps.toList) : a = b := by
  cases a
  cases b
  have : _ = _ := Array.toList_inj.mp h
  simp only at this
  rw [this]
theorem srtS_is {xs zs : List Str} (nz : zs.Nodup) (hz : sortedS zs = true) (h : ∀ k, k ∈ zs ↔ k ∈ xs) : ∀ ys : List Str, ys.Perm (setAll xs) → sortedS ys = true → ys = zs := fun ys pm pw => by
  have p2 : ys.Perm zs := pm.trans (perm_of_mem (setAll_nodup xs) nz fun k => by rw [setAll_mem, h])
  have pws : ∀ l : List Str, sortedS l = true → l.Pairwise (fun a b => ¬ b.cps.toList < a.cps.toList) := fun l hl => by
    cases l with
    | nil => exact .nil
    | cons x l => exact risingS_pw x l hl nlt_trans
  refine p2.eq_of_pairwise (fun x y _ _ h1 h2 => ?_) (pws _ pw) (pws _ hz)
  exact str_ext (List.le_antisymm (List.not_lt.mp h1) (List.not_lt.mp h2))
end TH

namespace TH
open PySem PySem.Spec PyProof.Rows L2
/-! ## isinstance, by the datum -/
def isIntD : PyData → Bool
  | .int _ => true
  | .bool _ => true
  | _ => false
def isBoolD : PyData → Bool
  | .bool _ => true
  | _ => false
def isStrD : PyData → Bool
  | .str _ => true
  | _ => false
def isTupD : PyData → Bool
  | .tuple _ => true
  | _ => false
theorem kb_int (d : PyData) : kitB (tyN d) "int" = some (isIntD d) := by
  cases d
  · exact (by decide +kernel : kitB "NoneType" "int" = some false)
  · exact (by decide +kernel : kitB "bool" "int" = some true)
  · exact (by decide +kernel : kitB "int" "int" = some true)
  · exact (by decide +kernel : kitB "str" "int" = some false)
  · exact (by decide +kernel : kitB "list" "int" = some false)
  · exact (by decide +kernel : kitB "tuple" "int" = some false)
  · exact (by decide +kernel : kitB "dict" "int" = some false)
theorem kb_bool (d : PyData) : kitB (tyN d) "bool" = some (isBoolD d) := by
  cases d
  · exact (by decide +kernel : kitB "NoneType" "bool" = some false)
  · exact (by decide +kernel : kitB "bool" "bool" = some true)
  · exact (by decide +kernel : kitB "int" "bool" = some false)
  · exact (by decide +kernel : kitB "str" "bool" = some false)
  · exact (by decide +kernel : kitB "list" "bool" = some false)
  · exact (by decide +kernel : kitB "tuple" "bool" = some false)
  · exact (by decide +kernel : kitB "dict" "bool" = some false)
theorem kb_str (d : PyData) : kitB (tyN d) "str" = some (isStrD d) := by
  cases d
  · exact (by decide +kernel : kitB "NoneType" "str" = some false)
  · exact (by decide +kernel : kitB "bool" "str" = some false)
  · exact (by decide +kernel : kitB "int" "str" = some false)
  · exact (by decide +kernel : kitB "str" "str" = some true)
  · exact (by decide +kernel : kitB "list" "str" = some false)
  · exact (by decide +kernel : kitB "tuple" "str" = some false)
  · exact (by decide +kernel : kitB "dict" "str" = some false)
theorem kb_tuple (d : PyData) : kitB (tyN d) "tuple" = some (isTupD d) := by
  cases d
  · exact (by decide +kernel : kitB "NoneType" "tuple" = some false)
  · exact (by decide +kernel : kitB "bool" "tuple" = some false)
  · exact (by decide +kernel : kitB "int" "tuple" = some false)
  · exact (by decide +kernel : kitB "str" "tuple" = some false)
  · exact (by decide +kernel : kitB "list" "tuple" = some false)
  · exact (by decide +kernel : kitB "tuple" "tuple" = some true)
  · exact (by decide +kernel : kitB "dict" "tuple" = some false)
section
variable {X : Cx} {r : List (Option PyData)} {a : Expr} {p p2 pos : Pos} {d : PyData}
theorem ev_isInt (ha : EV X a r d) (hg : Gl X "isinstance") (hm : X.mg "isinstance" = none) (hg2 : Gl X "int") (hm2 : X.mg "int" = none) (hs : starEach [a, .Name "int" p2] X.env = (false, eval a X.env) :: starEach [.Name "int" p2] X.env := by rfl) (hpl : (backTo pos (starEach [.Name "int" p2] X.env)).any (·.1) = false := by rfl) : EV X (.Call (.Name "isinstance" p) [a, .Name "int" p2] [] pos) r (.bool (isIntD d)) :=
  ev_isi ha (kb_int d) hg hm hg2 hm2 (by decide +kernel) (by decide) (by decide) hs hpl
theorem ev_isBool (ha : EV X a r d) (hg : Gl X "isinstance") (hm : X.mg "isinstance" = none) (hg2 : Gl X "bool") (hm2 : X.mg "bool" = none) (hs : starEach [a, .Name "bool" p2] X.env = (false, eval a X.env) :: starEach [.Name "bool" p2] X.env := by rfl) (hpl : (backTo pos (starEach [.Name "bool" p2] X.env)).any (·.1) = false := by rfl) : EV X (.Call (.Name "isinstance" p) [a, .Name "bool" p2] [] pos) r (.bool (isBoolD d)) :=
  ev_isi ha (kb_bool d) hg hm hg2 hm2 (by decide +kernel) (by decide) (by decide) hs hpl
theorem ev_isStr (ha : EV X a r d) (hg : Gl X "isinstance") (hm : X.mg "isinstance" = none) (hg2 : Gl X "str") (hm2 : X.mg "str" = none) (hs : starEach [a, .Name "str" p2] X.env = (false, eval a X.env) :: starEach [.Name "str" p2] X.env := by rfl) (hpl : (backTo pos (starEach [.Name "str" p2] X.env)).any (·.1) = false := by rfl) : EV X (.Call (.Name "isinstance" p) [a, .Name "str" p2] [] pos) r (.bool (isStrD d)) :=
  ev_isi ha (kb_str d) hg hm hg2 hm2 (by decide +kernel) (by decide) (by decide) hs hpl
theorem ev_isTuple (ha : EV X a r d) (hg : Gl X "isinstance") (hm : X.mg "isinstance" = none) (hg2 : Gl X "tuple") (hm2 : X.mg "tuple" = none) (hs : starEach [a, .Name "tuple" p2] X.env = (false, eval a X.env) :: starEach [.Name "tuple" p2] X.env := by rfl) (hpl : (backTo pos (starEach [.Name "tuple" p2] X.env)).any (·.1) = false := by rfl) : EV X (.Call (.Name "isinstance" p) [a, .Name "tuple" p2] [] pos) r (.bool (isTupD d)) :=
  ev_isi ha (kb_tuple d) hg hm hg2 hm2 (by decide +kernel) (by decide) (by decide) hs hpl
theorem ca_allM {ds : List PyData} {g : PyData → Bool} (hc : X.calm = true) : CaD X (.builtin "all") [.list (ds.map fun d => .bool (g d))] (.bool (ds.all g)) := by
  have q := ca_all (X := X) (bs := ds.map g) hc
  rw [List.map_map, List.all_map] at q
  exact q
theorem ca_anyM {ds : List PyData} {g : PyData → Bool} (hc : X.calm = true) : CaD X (.builtin "any") [.list (ds.map fun d => .bool (g d))] (.bool (ds.any g)) := by
  have q := ca_any (X := X) (bs := ds.map g) hc
  rw [List.map_map, List.any_map] at q
  exact q
theorem el_listRg {n : Nat} {q q2 : Pos} (hc : X.calm = true) (hg : Gl X "list") (hm : X.mg "list" = none) (hg2 : Gl X "range") (hm2 : X.mg "range" = none) (ha : EV X a r (.int n)) (hn : n ≤ 100000)
    (na : starEach [a] X.env = (false, eval a X.env) :: starEach [] X.env := by rfl) (na2 : starEach [.Call (.Name "range" p2) [a] [] q2] X.env = (false, eval (.Call (.Name "range" p2) [a] [] q2) X.env) :: starEach [] X.env := by rfl) :
    EVL X (.Call (.Name "list" p) [.Call (.Name "range" p2) [a] [] q2] [] q) r (rgD n) :=
  .mk' (pe_listRg hc hg hm (prg_1 hg2 hm2 pe_any na) na2) fun σ H E => ha.use E fun v H1 e1 dv => by
    cases dv
    refine ⟨_, rfl, RgOk.of_le (by omega) (by omega) (by omega) (by omega), fun l hl => ⟨l, _, rfl, e1.free hl, e1.trans (same_new hl), upd_same, ?_⟩⟩
    unfold rgV rgD
    have e : ((n : Int) - 0).toNat = n := by omega
    rw [e]
    have q : ∀ (G : Hp) (l : List Nat), DqAll X.K G (l.map fun i => V.int (0 + (i : Nat))) (l.map fun (i : Nat) => PyData.int (i : Int)) := fun G l => by
      induction l with
      | nil => exact .nil
      | cons i l ih =>
        refine .cons ?_ ih
        have : (0 : Int) + (i : Nat) = (i : Nat) := by omega
        show Dq X.K G (V.int (0 + (i : Nat))) (.int (i : Nat))
        rw [this]
        exact .int _
    exact q _ _
end
/-! ## houses -/
inductive Ex where
  | A | B | C
  deriving DecidableEq
inductive Way where
  | h (n : Nat)
  | x (c : Ex)
  deriving DecidableEq
abbrev House := List (List Way)
abbrev Stg := List Nat
def exS : Ex → Str
  | .A => "A"
  | .B => "B"
  | .C => "C"
def dW : Way → PyData
  | .h n => .int n
  | .x c => .str (exS c)
def dR (r : List Way) : PyData := .tuple (r.map dW)
def dH (h : House) : PyData := .tuple (h.map dR)
def dS (s : Stg) : PyData := .tuple (s.map fun (n : Nat) => .int (n : Int))
structure GoodH (h : House) : Prop where
  one : 1 ≤ h.length
  four : h.length ≤ 4
  rows : ∀ r ∈ h, 1 ≤ r.length ∧ r.length ≤ 3
  ways : ∀ r ∈ h, ∀ n, Way.h n ∈ r → n < h.length
  exit : ∃ r ∈ h, ∃ c, Way.x c ∈ r
theorem noL_W (w : Way) : noL (dW w) = true := by cases w <;> rfl
theorem noLs_map {α : Type} {f : α → PyData} (h : ∀ a, noL (f a) = true) (l : List α) : noLs (l.map f) = true := noLs_iff.mpr fun d hd => by
  obtain ⟨a, _, rfl⟩ := List.mem_map.mp hd
  exact h a
theorem noL_R (r : List Way) : noL (dR r) = true := by unfold dR; rw [noL]; exact noLs_map noL_W r
theorem noL_H (h : House) : noL (dH h) = true := by unfold dH; rw [noL]; exact noLs_map noL_R h
theorem noL_S (s : Stg) : noL (dS s) = true := by unfold dS; rw [noL]; exact noLs_map (fun _ => rfl) s
/-! ### data that can be compared -/
theorem shaped_iff {d : PyData} : SeqAt.shaped d = true ↔ d.canLay0 = true ∧ d.depth ≤ 64 := by
  unfold SeqAt.shaped
  rw [Bool.and_eq_true, decide_eq_true_eq]
theorem layAll_iff : ∀ {ds : List PyData}, PyData.canLayAll0 ds = true ↔ ∀ d ∈ ds, d.canLay0 = true
  | [] => by simp [PyData.canLayAll0]
  | d :: ds => by simp [PyData.canLayAll0, layAll_iff (ds := ds)]
theorem depthAll_le {n : Nat} : ∀ {ds : List PyData}, PyData.depthAll ds ≤ n ↔ ∀ d ∈ ds, d.depth ≤ n
  | [] => by simp [PyData.depthAll]
  | d :: ds => by
    simp only [PyData.depthAll, List.mem_cons, forall_eq_or_imp]
    rw [← depthAll_le (ds := ds)]
    omega
/-- it can be laid, and is at most n deep -/
def Sh (n : Nat) (d : PyData) : Prop := d.canLay0 = true ∧ d.depth ≤ n
theorem Sh.shaped {n : Nat} {d : PyData} (h : Sh n d) (hn : n ≤ 64) : SeqAt.shaped d = true := shaped_iff.mpr ⟨h.1, Nat.le_trans h.2 hn⟩
theorem Sh.mono {n m : Nat} {d : PyData} (h : Sh n d) (hn : n ≤ m) : Sh m d := ⟨h.1, Nat.le_trans h.2 hn⟩
theorem sh_none : Sh 0 .none := ⟨rfl, Nat.le_refl _⟩
theorem sh_int (i : Int) : Sh 0 (.int i) := ⟨rfl, Nat.le_refl _⟩
theorem sh_bool (i : Bool) : Sh 0 (.bool i) := ⟨rfl, Nat.le_refl _⟩
theorem sh_str {z : Str} (h : PyData.strOk z = true) : Sh 0 (.str z) := ⟨by simpa [PyData.canLay0] using h, Nat.le_refl _⟩
theorem sh_tup {n : Nat} {ds : List PyData} (h : ∀ d ∈ ds, Sh n d) : Sh (n + 1) (.tuple ds) := by
  refine ⟨by simp only [PyData.canLay0]; exact layAll_iff.mpr fun d hd => (h d hd).1, ?_⟩
  have q : PyData.depthAll ds ≤ n := depthAll_le.mpr fun d hd => (h d hd).2
  simp only [PyData.depth]
  omega
theorem sh_lst {n : Nat} {ds : List PyData} (h : ∀ d ∈ ds, Sh n d) : Sh (n + 1) (.list ds) := by
  refine ⟨by simp only [PyData.canLay0]; exact layAll_iff.mpr fun d hd => (h d hd).1, ?_⟩
  have q : PyData.depthAll ds ≤ n := depthAll_le.mpr fun d hd => (h d hd).2
  simp only [PyData.depth]
  omega
theorem sh_map {α : Type} {n : Nat} {f : α → PyData} (h : ∀ a, Sh n (f a)) (l : List α) : ∀ d ∈ l.map f, Sh n d := fun d hd => by
  obtain ⟨a, _, rfl⟩ := List.mem_map.mp hd
  exact h a
theorem strOk_ex (c : Ex) : PyData.strOk (exS c) = true := by cases c <;> decide +kernel
theorem sh_W (w : Way) : Sh 0 (dW w) := by
  cases w with
  | h n => exact sh_int n
  | x c => exact sh_str (strOk_ex c)
theorem sh_R (r : List Way) : Sh 1 (dR r) := sh_tup (sh_map sh_W r)
theorem sh_H (h : House) : Sh 2 (dH h) := sh_tup (sh_map sh_R h)
theorem sh_S (s : Stg) : Sh 1 (dS s) := sh_tup (sh_map (fun _ => sh_int _) s)
theorem exS_inj {a b : Ex} (h : exS a = exS b) : a = b := by
  cases a <;> cases b <;> first | rfl | exact absurd h (by decide +kernel)
/-- == of data is equality of what they stand for -/
theorem eqvAll_map {α : Type} [DecidableEq α] {f : α → PyData} (h : ∀ a b, PyData.eqv (f a) (f b) = decide (a = b)) : ∀ l m : List α, PyData.eqvAll (l.map f) (m.map f) = decide (l = m)
  | [], [] => by simp [PyData.eqvAll]
  | [], b :: m => by simp [PyData.eqvAll]
  | a :: l, [] => by simp [PyData.eqvAll]
  | a :: l, b :: m => by
    simp only [List.map_cons, PyData.eqvAll, h a b, eqvAll_map h l m, List.cons.injEq]
    by_cases h1 : a = b <;> by_cases h2 : l = m <;> simp [h1, h2]
theorem eqv_int (i j : Int) : PyData.eqv (.int i) (.int j) = decide (i = j) := by
  rw [PyData.eqv]
  exact (Bool.beq_eq_decide_eq i j)
theorem eqv_nat (i j : Nat) : PyData.eqv (.int (i : Int)) (.int (j : Int)) = decide (i = j) := by
  rw [eqv_int]
  by_cases h : i = j
  · simp [h]
  · rw [decide_eq_false h, decide_eq_false (by omega)]
theorem eqv_str (i j : Str) : PyData.eqv (.str i) (.str j) = decide (i = j) := by
  rw [PyData.eqv]
  exact (Bool.beq_eq_decide_eq i j)
theorem eqv_ex (a b : Ex) : PyData.eqv (.str (exS a)) (.str (exS b)) = decide (a = b) := by
  rw [eqv_str]
  by_cases h : a = b
  · simp [h]
  · rw [decide_eq_false h, decide_eq_false fun z => h (exS_inj z)]
theorem eqv_W (a b : Way) : PyData.eqv (dW a) (dW b) = decide (a = b) := by
  cases a with
  | h n =>
    cases b with
    | h m => rw [dW, dW, eqv_nat]; by_cases h : n = m <;> simp [h]
    | x c => simp [dW, PyData.eqv]
  | x c =>
    cases b with
    | h m => simp [dW, PyData.eqv]
    | x e => rw [dW, dW, eqv_ex]; by_cases h : c = e <;> simp [h]
theorem eqv_R (a b : List Way) : PyData.eqv (dR a) (dR b) = decide (a = b) := by
  unfold dR
  rw [PyData.eqv]
  exact eqvAll_map eqv_W a b
theorem eqv_H (a b : House) : PyData.eqv (dH a) (dH b) = decide (a = b) := by
  unfold dH
  rw [PyData.eqv]
  exact eqvAll_map eqv_R a b
theorem eqv_S (a b : Stg) : PyData.eqv (dS a) (dS b) = decide (a = b) := by
  unfold dS
  rw [PyData.eqv]
  exact eqvAll_map eqv_nat a b
/-! ### items -/
theorem atI_map {α : Type} {f : α → PyData} {l : List α} {i : Nat} {a : α} (h : l[i]? = some a) : atI (l.map f) (i : Int) = some (f a) := atI_nat (by rw [List.getElem?_map, h]; rfl)
theorem get_some {α : Type} {l : List α} {i : Nat} (h : i < l.length) : l[i]? = some l[i] := List.getElem?_eq_getElem h
/-- what is a house, of any data -/
def isBtw (d : PyData) (lo hi : Int) : Bool := match d with
  | .int i => decide (lo ≤ i) && decide (i ≤ hi)
  | _ => false
def exD : List PyData := [.str "A", .str "B", .str "C"]
def isWayD (d : PyData) (n : Int) : Bool := isBtw d 0 (n - 1) || (isStrD d && exD.any fun y => PyData.eqv y d)
def tupOf : PyData → List PyData
  | .tuple ds => ds
  | _ => []
def rowOk (n : Int) (d : PyData) : Bool := isTupD d && (decide (1 ≤ (tupOf d).length) && decide ((tupOf d).length ≤ 3)) && (tupOf d).all fun w => isWayD w n
def isHouseD (d : PyData) : Bool := isTupD d && (decide (1 ≤ (tupOf d).length) && decide ((tupOf d).length ≤ 4)) && (tupOf d).all (rowOk (tupOf d).length) && (tupOf d).any fun r => (tupOf r).any isStrD
theorem isWay_ok {w : Way} {n : Nat} (h : ∀ m, w = .h m → m < n) : isWayD (dW w) n = true := by
  cases w with
  | h m =>
    have := h m rfl
    have h1 : decide ((0 : Int) ≤ (m : Int)) = true := decide_eq_true (by omega)
    have h2 : decide ((m : Int) ≤ (n : Int) - 1) = true := decide_eq_true (by omega)
    show ((decide ((0 : Int) ≤ (m : Int)) && decide ((m : Int) ≤ (n : Int) - 1)) || _) = true
    rw [h1, h2]
    rfl
  | x c => cases c <;> rfl
theorem isHouse_ok {h : House} (g : GoodH h) : isHouseD (dH h) = true := by
  have hl : (tupOf (dH h)).length = h.length := by simp [dH, tupOf]
  unfold isHouseD
  rw [hl]
  have h1 : decide (1 ≤ h.length) = true := decide_eq_true g.one
  have h2 : decide (h.length ≤ 4) = true := decide_eq_true g.four
  have h3 : (tupOf (dH h)).all (rowOk (h.length : Int)) = true := by
    refine List.all_eq_true.mpr fun d hd => ?_
    obtain ⟨r, hr, rfl⟩ := List.mem_map.mp (show d ∈ h.map dR from hd)
    have hrl : (tupOf (dR r)).length = r.length := by simp [dR, tupOf]
    obtain ⟨g1, g2⟩ := g.rows r hr
    unfold rowOk
    rw [hrl, decide_eq_true g1, decide_eq_true g2]
    refine (Bool.and_eq_true _ _).mpr ⟨rfl, List.all_eq_true.mpr fun w hw => ?_⟩
    obtain ⟨v, hv, rfl⟩ := List.mem_map.mp (show w ∈ r.map dW from hw)
    exact isWay_ok fun m e => g.ways r hr m (e ▸ hv)
  have h4 : ((tupOf (dH h)).any fun r => (tupOf r).any isStrD) = true := by
    obtain ⟨r, hr, c, hc⟩ := g.exit
    refine List.any_eq_true.mpr ⟨dR r, List.mem_map.mpr ⟨r, hr, rfl⟩, List.any_eq_true.mpr ⟨dW (.x c), List.mem_map.mpr ⟨_, hc, rfl⟩, rfl⟩⟩
  rw [h1, h2, h3, h4]
  rfl
end TH

namespace TH
open PySem
/-! ## reaching -/
def row (h : House) (i : Nat) : List Way := h.getD i []
theorem row_mem {h : House} {i : Nat} (hi : i < h.length) : row h i ∈ h := by
  unfold row
  rw [List.getD_eq_getElem?_getD, List.getElem?_eq_getElem hi]
  exact List.getElem_mem hi
theorem row_some {h : House} {i : Nat} (hi : i < h.length) : h[i]? = some (row h i) := by
  unfold row
  rw [List.getD_eq_getElem?_getD, List.getElem?_eq_getElem hi]
  rfl
theorem row_out {h : House} {i : Nat} (hi : h.length ≤ i) : row h i = [] := by
  unfold row
  rw [List.getD_eq_getElem?_getD, List.getElem?_eq_none hi]
  rfl
inductive Rch (h : House) : Nat → Nat → Prop
  | refl (x : Nat) : Rch h x x
  | step {x y z : Nat} : Rch h x y → Way.h z ∈ row h y → Rch h x z
theorem Rch.trans {h : House} {x y z : Nat} (a : Rch h x y) (b : Rch h y z) : Rch h x z := by
  induction b with
  | refl => exact a
  | step _ m ih => exact ih.step m
theorem way_lt {h : House} (g : GoodH h) {y z : Nat} (m : Way.h z ∈ row h y) : z < h.length := by
  by_cases hy : y < h.length
  · exact g.ways _ (row_mem hy) z m
  · rw [row_out (by omega)] at m
    cases m
theorem Rch.lt {h : House} (g : GoodH h) {x y : Nat} (hx : x < h.length) (r : Rch h x y) : y < h.length := by
  cases r with
  | refl => exact hx
  | step _ m => exact way_lt g m
open Classical in
noncomputable def reachL (h : House) (x : Nat) : List Nat := (List.range h.length).filter fun y => decide (Rch h x y)
theorem mem_reachL {h : House} {x y : Nat} : y ∈ reachL h x ↔ y < h.length ∧ Rch h x y := by
  unfold reachL
  rw [List.mem_filter, List.mem_range]
  simp
theorem reachL_pw (h : House) (x : Nat) : (reachL h x).Pairwise (· < ·) := by
  unfold reachL
  exact List.pairwise_lt_range.filter _
theorem reachL_len (h : House) (x : Nat) : (reachL h x).length ≤ h.length := by
  unfold reachL
  exact Nat.le_trans (List.length_filter_le _ _) (by rw [List.length_range]; exact Nat.le_refl _)
def HasEx (h : House) (x : Nat) : Prop := ∃ y, Rch h x y ∧ ∃ c, Way.x c ∈ row h y
def Safe (h : House) (x : Nat) : Prop := ∀ y, Rch h x y → HasEx h y
theorem Safe.of_rch {h : House} {x y : Nat} (s : Safe h x) (r : Rch h x y) : Safe h y := fun z q => s z (r.trans q)
open Classical in
noncomputable def safeB (h : House) (x : Nat) : Bool := decide (Safe h x)
open Classical in
noncomputable def hasExB (h : House) (x : Nat) : Bool := decide (HasEx h x)
theorem safeB_iff {h : House} {x : Nat} : safeB h x = true ↔ Safe h x := by unfold safeB; simp
theorem hasExB_iff {h : House} {x : Nat} : hasExB h x = true ↔ HasEx h x := by unfold hasExB; simp
noncomputable def safeL (h : House) : List Nat := (List.range h.length).filter (safeB h)
theorem sub_len {α : Type} : ∀ {l m : List α}, l.Nodup → (∀ x ∈ l, x ∈ m) → l.length ≤ m.length
  | [], _, _, _ => Nat.zero_le _
  | x :: l, m, nd, h => by
    obtain ⟨n1, n2⟩ := List.nodup_cons.mp nd
    obtain ⟨a, b, rfl⟩ := List.append_of_mem (h x List.mem_cons_self)
    have q := sub_len (l := l) (m := a ++ b) n2 fun y hy => by
      have := h y (List.mem_cons_of_mem _ hy)
      rcases List.mem_append.mp this with z | z
      · exact List.mem_append.mpr (.inl z)
      · rcases List.mem_cons.mp z with e | z
        · subst e; exact absurd hy n1
        · exact List.mem_append.mpr (.inr z)
    simp only [List.length_append, List.length_cons] at q ⊢
    omega
/-- no more than n different numbers lie below n -/
theorem nodup_le {n : Nat} {l : List Nat} (nd : l.Nodup) (h : ∀ x ∈ l, x < n) : l.length ≤ n := by
  have := sub_len (m := List.range n) nd fun x hx => List.mem_range.mpr (h x hx)
  rw [List.length_range] at this
  exact this
/-! ## exits -/
def exitsOf (h : House) : List Ex := [Ex.A, .B, .C].filter fun c => h.any fun r => r.contains (.x c)
theorem mem_exitsOf {h : House} {c : Ex} : c ∈ exitsOf h ↔ ∃ r ∈ h, Way.x c ∈ r := by
  unfold exitsOf
  rw [List.mem_filter, List.any_eq_true]
  constructor
  · rintro ⟨_, r, hr, hc⟩
    exact ⟨r, hr, by simpa using hc⟩
  · rintro ⟨r, hr, hc⟩
    exact ⟨by cases c <;> simp, r, hr, by simpa using hc⟩
theorem exitsOf_nodup (h : House) : (exitsOf h).Nodup := by
  unfold exitsOf
  exact (show ([Ex.A, .B, .C] : List Ex).Nodup by decide).filter _
theorem exitsOf_len (h : House) : (exitsOf h).length ≤ 3 := by
  unfold exitsOf
  exact List.length_filter_le _ _
theorem exitsOf_sorted (h : House) : PyProof.Rows.sortedS ((exitsOf h).map exS) = true := by
  unfold exitsOf
  generalize (fun c => h.any fun r => r.contains (.x c)) = p
  simp only [List.filter_cons, List.filter_nil]
  cases p .A <;> cases p .B <;> cases p .C <;> decide +kernel
/-- the exits in the order of the rows -/
def exW : Way → Option Ex
  | .h _ => none
  | .x c => some c
def exitWays (h : House) : List Ex := h.flatMap fun r => r.filterMap exW
theorem mem_exitWays {h : House} {c : Ex} : c ∈ exitWays h ↔ ∃ r ∈ h, Way.x c ∈ r := by
  unfold exitWays
  rw [List.mem_flatMap]
  constructor
  · rintro ⟨r, hr, hc⟩
    obtain ⟨v, hv, e⟩ := List.mem_filterMap.mp hc
    cases v with
    | h n => cases e
    | x d => cases e; exact ⟨r, hr, hv⟩
  · rintro ⟨r, hr, hc⟩
    exact ⟨r, hr, List.mem_filterMap.mpr ⟨_, hc, rfl⟩⟩
end TH

namespace TH
open PySem L2 PyProof.Rows
/-! ## decoders -/
def natOf : PyData → Nat
  | .int i => i.toNat
  | _ => 0
def wayOf : PyData → Way
  | .int i => .h i.toNat
  | .str z => if z = exS .A then .x .A else if z = exS .B then .x .B else .x .C
  | _ => .h 0
def rwOf (d : PyData) : List Way := (tupOf d).map wayOf
def hsOf (d : PyData) : House := (tupOf d).map rwOf
def sgOf (d : PyData) : Stg := (tupOf d).map natOf
abbrev dN (n : Nat) : PyData := .int (n : Int)
abbrev dX (c : Ex) : PyData := .str (exS c)
def exOf (d : PyData) : Ex := match wayOf d with
  | .x c => c
  | _ => .A
theorem natOf_d (n : Nat) : natOf (dN n) = n := by simp [natOf]
theorem wayOf_d (w : Way) : wayOf (dW w) = w := by
  cases w with
  | h n => simp [wayOf, dW]
  | x c => cases c <;> decide +kernel
theorem exOf_d (c : Ex) : exOf (dX c) = c := by cases c <;> decide +kernel
theorem map_dec {α : Type} {enc : α → PyData} {dec : PyData → α} (h : ∀ a, dec (enc a) = a) (l : List α) : (l.map enc).map dec = l := by
  rw [List.map_map]
  have : dec ∘ enc = id := funext h
  rw [this, List.map_id]
theorem rwOf_d (r : List Way) : rwOf (dR r) = r := map_dec wayOf_d r
theorem hsOf_d (h : House) : hsOf (dH h) = h := map_dec rwOf_d h
theorem sgOf_d (s : Stg) : sgOf (dS s) = s := map_dec natOf_d s
theorem rgD_eq (n : Nat) : rgD n = (List.range n).map dN := rfl
section
variable {X : Cx} {r rb : List (Option PyData)} {elt tg iter tg1 iter1 : Expr} {ifs ifs1 : List Expr} {scope : Scope} {own : List (Str × Nat)} {vs1 : List Nat} {pos : Pos} {g g1 : TG} {u u1 : PyData → List (Option PyData) → List (Option PyData)} {sl sl1 : List Nat} {α β : Type} {enc : α → PyData} {dec : PyData → α} {ns : List α} {pt : α → Bool} {f : α → PyData} {enc1 : β → PyData} {dec1 : PyData → β} {es : α → List β} {pt1 : α → β → Bool} {f2 : α → β → PyData}
theorem el_mapT (hde : ∀ a ∈ ns, dec (enc a) = a) (hc : X.calm = true) (hN : X.N.Nodup) (hi : ITR Same X tg iter r (ns.map enc)) (ok : BlkOk X.N X.env.scope scope own) (hg : Blk X scope fun Y => PG Y tg g) (hr : ∀ a ∈ ns, RdG X.K g (enc a) (u (enc a)) sl) (hsl : ∀ i ∈ sl, i ∈ own.map (·.2))
    (he : ∀ a ∈ ns, Blk X scope fun Y => EV Y elt (u (enc a) (wipeR r (own.map (·.2)))) (f a)) (hf : ∀ a ∈ ns, noL (f a) = true) (hz : ns.length ≤ 100000)
    (hs : ∀ x, foldedSetIterable iter X.env x = pure x := by intro _; rfl) : EVL X (.ListComp elt [⟨tg, iter, [], 0⟩] scope pos) r (ns.map f) := by
  have q := el_map (pos := pos) (f := fun d => f (dec d)) hc hN hi ok hg (fun d hd => by
      obtain ⟨a, ha, rfl⟩ := List.mem_map.mp hd
      exact hr a ha) hsl (fun d hd => by
      obtain ⟨a, ha, rfl⟩ := List.mem_map.mp hd
      rw [hde a ha]
      exact he a ha) (fun d hd => by
      obtain ⟨a, ha, rfl⟩ := List.mem_map.mp hd
      rw [hde a ha]
      exact hf a ha) (by rw [List.length_map]; exact hz) hs
  have e : (ns.map enc).map (fun d => f (dec d)) = ns.map f := by
    rw [List.map_map]
    refine List.map_congr_left fun a ha => ?_
    show f (dec (enc a)) = f a
    rw [hde a ha]
  rw [e] at q
  exact q
theorem fil_dec (hde : ∀ a ∈ ns, dec (enc a) = a) : ((ns.map enc).filter fun d => pt (dec d)).map (fun d => f (dec d)) = (ns.filter pt).map f := by
  induction ns with
  | nil => rfl
  | cons a l ih =>
    have ih := ih fun b hb => hde b (List.mem_cons_of_mem _ hb)
    have e := hde a List.mem_cons_self
    rw [List.map_cons, List.filter_cons, List.filter_cons, e]
    cases pt a with
    | true => simp only [if_true, List.map_cons, ih, e]
    | false => simpa using ih
theorem el_lcT (hde : ∀ a ∈ ns, dec (enc a) = a) (hc : X.calm = true) (hN : X.N.Nodup) (hi : ITR Same X tg iter r (ns.map enc)) (ok : BlkOk X.N X.env.scope scope own) (hg : Blk X scope fun Y => PG Y tg g) (hr : ∀ a ∈ ns, RdG X.K g (enc a) (u (enc a)) sl) (hsl : ∀ i ∈ sl, i ∈ own.map (·.2))
    (ht : ∀ a ∈ ns, Blk X scope fun Y => EVTs Y ifs (u (enc a) (wipeR r (own.map (·.2)))) (pt a)) (he : ∀ a ∈ ns, pt a = true → Blk X scope fun Y => EV Y elt (u (enc a) (wipeR r (own.map (·.2)))) (f a)) (hf : ∀ a ∈ ns, pt a = true → noL (f a) = true) (hz : ns.length ≤ 100000)
    (hs : ∀ x, foldedSetIterable iter X.env x = pure x := by intro _; rfl) : EVL X (.ListComp elt [⟨tg, iter, ifs, 0⟩] scope pos) r ((ns.filter pt).map f) := by
  have q := el_lc (pos := pos) (pt := fun d => pt (dec d)) (f := fun d => f (dec d)) hc hN hi ok hg (fun d hd => by
      obtain ⟨a, ha, rfl⟩ := List.mem_map.mp hd
      exact hr a ha) hsl (fun d hd => by
      obtain ⟨a, ha, rfl⟩ := List.mem_map.mp hd
      rw [hde a ha]
      exact ht a ha) (fun d hd hp => by
      obtain ⟨a, ha, rfl⟩ := List.mem_map.mp hd
      rw [hde a ha] at hp ⊢
      exact he a ha hp) (fun d hd hp => by
      obtain ⟨a, ha, rfl⟩ := List.mem_map.mp hd
      rw [hde a ha] at hp ⊢
      exact hf a ha hp) (by rw [List.length_map]; exact hz) hs
  rw [fil_dec hde] at q
  exact q
/-- what two clauses give -/
def rows2 (ns : List α) (es : α → List β) (pt1 : α → β → Bool) (f2 : α → β → PyData) : List PyData := ns.flatMap fun a => ((es a).filter (pt1 a)).map (f2 a)
theorem rows2_eq (hde : ∀ a ∈ ns, dec (enc a) = a) (hde1 : ∀ a ∈ ns, ∀ b ∈ es a, dec1 (enc1 b) = b) :
    (ns.map enc).flatMap (row2 (fun d => (es (dec d)).map enc1) (fun _ => true) (fun d e => pt1 (dec d) (dec1 e)) fun d e => f2 (dec d) (dec1 e)) = rows2 ns es pt1 f2 := by
  unfold rows2
  induction ns with
  | nil => rfl
  | cons a l ih =>
    have ih := ih (fun b hb => hde b (List.mem_cons_of_mem _ hb)) fun b hb => hde1 b (List.mem_cons_of_mem _ hb)
    have e := hde a List.mem_cons_self
    rw [List.map_cons, List.flatMap_cons, List.flatMap_cons, ih]
    congr 1
    unfold row2
    rw [if_pos rfl]
    dsimp only
    rw [e]
    exact fil_dec (hde1 a List.mem_cons_self)
theorem rows2_len {n m : Nat} (h : ∀ a ∈ ns, (es a).length ≤ m) (hn : ns.length ≤ n) : (rows2 ns es pt1 f2).length ≤ n * m := by
  have q : ∀ l : List α, (∀ a ∈ l, (es a).length ≤ m) → (rows2 l es pt1 f2).length ≤ l.length * m := fun l => by
    induction l with
    | nil => intro _; simp [rows2]
    | cons a l ih =>
      intro h
      have a1 := ih fun b hb => h b (List.mem_cons_of_mem _ hb)
      have a2 : (((es a).filter (pt1 a)).map (f2 a)).length ≤ m := by
        rw [List.length_map]
        exact Nat.le_trans (List.length_filter_le _ _) (h a List.mem_cons_self)
      unfold rows2 at a1 ⊢
      rw [List.flatMap_cons, List.length_append, List.length_cons, Nat.succ_mul]
      omega
  exact Nat.le_trans (q ns h) (Nat.mul_le_mul_right m hn)
theorem el_lc2T {n m : Nat} (hde : ∀ a ∈ ns, dec (enc a) = a) (hde1 : ∀ a ∈ ns, ∀ b ∈ es a, dec1 (enc1 b) = b) (hc : X.calm = true) (hN : X.N.Nodup) (hi : ITR Same X tg iter r (ns.map enc)) (ok : BlkOk X.N X.env.scope scope own) (hv : ∀ i ∈ vs1, i ∈ own.map (·.2)) (hg : Blk X scope fun Y => PG Y tg g) (hg1 : Blk X scope fun Y => PG Y tg1 g1)
    (hsub : Sub rb r) (hr : ∀ a ∈ ns, RdG X.K g (enc a) (u (enc a)) sl) (hsl : ∀ i ∈ sl, i ∈ own.map (·.2)) (hr1 : ∀ a ∈ ns, ∀ b ∈ es a, RdG X.K g1 (enc1 b) (u1 (enc1 b)) sl1) (hsl1 : ∀ i ∈ sl1, i ∈ vs1) (hen : ∀ a ∈ ns, envN (u (enc a) (wipeR rb (own.map (·.2)))) = true)
    (hi1 : ∀ a ∈ ns, Blk X scope fun Y => ITR Tk Y tg1 iter1 (u (enc a) (wipeR rb (own.map (·.2)))) ((es a).map enc1))
    (ht1 : ∀ a ∈ ns, ∀ b ∈ es a, Blk X scope fun Y => EVTs Y ifs1 (u1 (enc1 b) (wipeR (u (enc a) (wipeR rb (own.map (·.2)))) vs1)) (pt1 a b))
    (he : ∀ a ∈ ns, ∀ b ∈ es a, pt1 a b = true → Blk X scope fun Y => EV Y elt (u1 (enc1 b) (wipeR (u (enc a) (wipeR rb (own.map (·.2)))) vs1)) (f2 a b)) (hf : ∀ a ∈ ns, ∀ b ∈ es a, pt1 a b = true → noL (f2 a b) = true)
    (hm : ∀ a ∈ ns, (es a).length ≤ m) (hn : ns.length ≤ n) (hz : n * m ≤ 50000) (hz1 : m ≤ 40000)
    (hs : ∀ x, foldedSetIterable iter X.env x = pure x := by intro _; rfl) (hs1 : ∀ env x, foldedSetIterable iter1 env x = pure x := by intro _ _; rfl) : EVL X (.ListComp elt [⟨tg, iter, [], 0⟩, ⟨tg1, iter1, ifs1, 0⟩] scope pos) r (rows2 ns es pt1 f2) := by
  have q := el_lc2 (pos := pos) (es := fun d => (es (dec d)).map enc1) (pt := fun _ => true) (pt1 := fun d e => pt1 (dec d) (dec1 e)) (f := fun d e => f2 (dec d) (dec1 e)) hc hN hi ok hv hg hg1 hsub (fun d hd => by
      obtain ⟨a, ha, rfl⟩ := List.mem_map.mp hd
      exact hr a ha) hsl (fun d hd e he => by
      obtain ⟨a, ha, rfl⟩ := List.mem_map.mp hd

      rw [hde a ha] at he
      obtain ⟨b, hb, rfl⟩ := List.mem_map.mp he
      exact hr1 a ha b hb) hsl1 (fun d hd => by
      obtain ⟨a, ha, rfl⟩ := List.mem_map.mp hd
      exact hen a ha) (fun d hd _ _ _ _ _ => ets_nil) (fun d hd _ => by
      obtain ⟨a, ha, rfl⟩ := List.mem_map.mp hd
      rw [hde a ha]
      exact hi1 a ha) (fun d hd _ e he => by
      obtain ⟨a, ha, rfl⟩ := List.mem_map.mp hd
      rw [hde a ha] at he ⊢
      obtain ⟨b, hb, rfl⟩ := List.mem_map.mp he
      rw [hde1 a ha b hb]
      exact ht1 a ha b hb) (fun d hd _ e hee hp => by
      obtain ⟨a, ha, rfl⟩ := List.mem_map.mp hd
      rw [hde a ha] at hee hp ⊢
      obtain ⟨b, hb, rfl⟩ := List.mem_map.mp hee
      rw [hde1 a ha b hb] at hp ⊢
      exact he a ha b hb hp) (fun d hd _ e hee hp => by
      obtain ⟨a, ha, rfl⟩ := List.mem_map.mp hd
      rw [hde a ha] at hee hp ⊢
      obtain ⟨b, hb, rfl⟩ := List.mem_map.mp hee
      rw [hde1 a ha b hb] at hp ⊢
      exact hf a ha b hb hp) (fun i => by
      rw [← List.map_take, rows2_eq (fun a ha => hde a (List.mem_of_mem_take ha)) fun a ha => hde1 a (List.mem_of_mem_take ha)]
      exact Nat.le_trans (rows2_len (n := n) (fun a ha => hm a (List.mem_of_mem_take ha)) (Nat.le_trans (by rw [List.length_take]; omega) hn)) hz) (fun d hd => by
      obtain ⟨a, ha, rfl⟩ := List.mem_map.mp hd
      rw [hde a ha, List.length_map]
      exact Nat.le_trans (hm a ha) hz1) hs hs1
  rw [rows2_eq hde hde1] at q
  exact q
end
end TH

namespace TH
open PySem L2 PyProof.Rows
section
variable {K : PySem.W.Frag} {B H H' : Hp} {σ : L2.St} {ρ : List Sl} {γ : List (V × Sl)} {v : V} {x : Sl} {i : Nat} {p : Addr}
/-- a new thing that no slot holds yet -/
theorem At.addN (A : At K B H σ ρ γ) (hp : H p = none) (e : Same H H') (hx : x.adr = some p) (ok : SlOk K B H' (.ref p) x) : At K B H' σ ρ ((.ref p, x) :: γ) := by
  have A' := A.to e
  refine ⟨A'.same, A'.len, A'.ok, fun g hg => ?_, ?_⟩
  · rcases List.mem_cons.mp hg with rfl | hg
    · exact ok
    · exact A'.gh g hg
  · have hz : p ∉ ρ.filterMap Sl.adr ++ γ.filterMap fun g => g.2.adr := fun hm => by
      obtain ⟨_, o, q⟩ := A.live hm
      rw [hp] at q
      cases q
    have e1 : ((V.ref p, x) :: γ).filterMap (fun g => g.2.adr) = p :: γ.filterMap fun g => g.2.adr := List.filterMap_cons_some hx
    rw [e1]
    have q := nodup_put (a := ρ.filterMap Sl.adr) (b := γ.filterMap fun g => g.2.adr) (c := []) (z := p) (by rw [List.append_nil]; exact A.nd) (by rw [List.append_nil]; exact hz)
    rw [List.append_nil] at q
    exact q
/-- it goes into slot i -/
theorem At.take (A : At K B H σ ρ ((v, x) :: γ)) (i : Nat) : At K B H (σ.set i (some v)) (ρ.set i x) γ := by
  have ok := A.gh _ List.mem_cons_self
  have A1 := A.unG
  cases hx : x.adr with
  | none => exact A1.set0 i hx ok
  | some p =>
    refine ⟨A1.same, by simp [A1.len], fun j y q => ?_, A1.gh, ?_⟩
    · by_cases hj : i = j
      · subst hj
        by_cases hl : i < ρ.length
        · rw [List.getElem?_set_self hl] at q
          cases q
          exact .inr ⟨v, List.getElem?_set_self (by rw [A1.len]; exact hl), ok⟩
        · rw [List.getElem?_eq_none (by simpa using hl)] at q
          cases q
      · rw [List.getElem?_set_ne hj] at q ⊢
        exact A1.ok j y q
    · have nd := A.nd
      have e1 : ((v, x) :: γ).filterMap (fun g => g.2.adr) = p :: γ.filterMap fun g => g.2.adr := List.filterMap_cons_some hx
      rw [e1] at nd
      have pm : List.Perm (ρ.filterMap Sl.adr ++ p :: γ.filterMap fun g => g.2.adr) (p :: (ρ.filterMap Sl.adr ++ γ.filterMap fun g => g.2.adr)) := List.perm_middle
      obtain ⟨hz, nd0⟩ := List.nodup_cons.mp (pm.nodup_iff.mp nd)
      rcases fm_setS (f := Sl.adr) (x := x) (z := p) hx ρ i with s | ⟨a, b, s1, s2⟩
      · exact nd0.sublist (s.append (List.Sublist.refl _))
      · rw [s1]
        refine nodup_put (nd0.sublist (s2.append (List.Sublist.refl _))) fun hm => hz ?_
        rcases List.mem_append.mp hm with hm | hm
        · exact List.mem_append.mpr (.inl (s2.subset hm))
        · exact List.mem_append.mpr (.inr hm)
theorem dq_last {ds : List PyData} {d : PyData} : ∀ {vs : List V}, DqAll K H vs (ds ++ [d]) → ∃ us u, vs = us ++ [u] ∧ DqAll K H us ds ∧ Dq K H u d := by
  induction ds with
  | nil =>
    intro vs h
    cases h with
    | cons h t =>
      cases t
      exact ⟨[], _, rfl, .nil, h⟩
  | cons e ds ih =>
    intro vs h
    cases h with
    | cons h t =>
      obtain ⟨us, u, rfl, h1, h2⟩ := ih t
      exact ⟨_ :: us, u, rfl, .cons h h1, h2⟩
/-- what a slot with a thing of one's own says -/
theorem At.obj {o : HO} (A : At K B H σ ρ γ) (hi : ρ[i]? = some (.ob p o)) : σ[i]? = some (some (.ref p)) ∧ H p = some o ∧ B p = none := by
  obtain ⟨w, h1, h2, h3, h4, h5⟩ := (A.ok i _ hi).resolve_left (by intro z; cases z)
  subst h2
  exact ⟨h1, h5, h3⟩
theorem At.lst {ds : List PyData} (A : At K B H σ ρ γ) (hi : ρ[i]? = some (.ml p ds)) : σ[i]? = some (some (.ref p)) ∧ (∃ vs, H p = some (.lst vs) ∧ DqAll K H vs ds) ∧ B p = none ∧ noLs ds = true := by
  obtain ⟨w, h1, h2, h3, h4, vs, h5, h6⟩ := (A.ok i _ hi).resolve_left (by intro z; cases z)
  subst h2
  exact ⟨h1, ⟨vs, h5, h6⟩, h3, h4⟩
theorem At.dat {d : PyData} (A : At K B H σ ρ γ) (hi : ρ[i]? = some (.im d)) : ∃ w, σ[i]? = some (some w) ∧ Dq K H w d := by
  obtain ⟨w, h1, h2⟩ := (A.ok i _ hi).resolve_left (by intro z; cases z)
  refine ⟨w, h1, ?_⟩
  rcases h2 with h2 | ⟨h2, _⟩
  · exact dp_same A.same h2
  · exact h2
end
section
variable {X : Cx} {rest : List Stmt} {D : Ends} {σ : L2.St} {B H : Hp} {ρ ρ1 : List Sl} {γ : List (V × Sl)} {c tg iter e : Expr} {body els : List Stmt} {pos py : Pos} {x : Str} {ds : List PyData} {g : TG} {u : PyData → List Sl → List Sl} {Iv : Nat → List Sl → Prop}
theorem eqv_mapL {α : Type} [DecidableEq α] {f : α → PyData} (h : ∀ a b, PyData.eqv (f a) (f b) = decide (a = b)) (l m : List α) : PyData.eqv (.list (l.map f)) (.list (m.map f)) = decide (l = m) := by
  rw [PyData.eqv]
  exact eqvAll_map h l m
theorem eqv_mapT {α : Type} [DecidableEq α] {f : α → PyData} (h : ∀ a b, PyData.eqv (f a) (f b) = decide (a = b)) (l m : List α) : PyData.eqv (.tuple (l.map f)) (.tuple (m.map f)) = decide (l = m) := by
  rw [PyData.eqv]
  exact eqvAll_map h l m
theorem sh_mapL {α : Type} {n : Nat} {f : α → PyData} (h : ∀ a, Sh n (f a)) (l : List α) (hn : n < 64 := by decide) : SeqAt.shaped (.list (l.map f)) = true := (sh_lst (sh_map h l)).shaped hn
theorem sh_mapT {α : Type} {n : Nat} {f : α → PyData} (h : ∀ a, Sh n (f a)) (l : List α) (hn : n < 64 := by decide) : SeqAt.shaped (.tuple (l.map f)) = true := (sh_tup (sh_map h l)).shaped hn
/-- for over a tuple that an expression with effects gives -/
theorem go_forX {t : TE} (pe : PE X iter t) (rd : ∀ Q : VK, (∀ v H1, At X.K B H1 σ ρ1 γ → Dq X.K H1 v (.tuple ds) → Q v H1) → t σ H Q) (hp : PassesOwn (model X.prog X.w) X.A X.env X.xe) (hc : X.calm = true) (hn : noLs ds = true) (hg : PG X tg g) (hr : ∀ d ∈ ds, RdA X.K g d (u d)) (h0 : Iv 0 ρ1)
    (step : ∀ γ' i d ρ' σ' H', ds[i]? = some d → Iv i ρ' → At X.K B H' σ' (u d ρ') γ' → GO X body { D with nx := NX X.K B γ' (Iv (i + 1)), ct := NX X.K B γ' (Iv (i + 1)), bk := fun σ H => GO X rest D σ H } σ' H') (done : ∀ ρ' σ' H', Iv ds.length ρ' → At X.K B H' σ' ρ' γ → GO X rest D σ' H')
    (hs : ∀ x, foldedSetIterable iter X.env x = pure x := by intro _; rfl) : GO X (.For tg iter body [] pos :: rest) D σ H := by
  refine go_cons (ps_for hp hc (pi_tup pe) hg pss_any hs) (rd _ fun v H1 A dv => ?_)
  have A1 : At X.K B H1 σ ρ1 ((v, .im (.tuple ds)) :: γ) := A.addG (.inr ⟨dv, by simpa [noL] using hn⟩) rfl
  cases dv with
  | @tup a0 xs0 _ hq ha =>
    refine ⟨_, rfl, ⟨_, hq⟩, for_core (G := fun H => Dq X.K H (.ref a0) (.tuple ds)) ⟨fun i H2 gd hi => ?_, fun H2 gd => ?_, fun i H2 y H3 gd hi hy => ?_⟩ hn A1 h0 (fun i ρ' σ' H' _ A' => ?_) hr (fun i d ρ' σ' H' hd hv A' => step _ i d ρ' σ' H' hd hv A') fun ρ' σ' H' hv A' => done ρ' σ' H' hv A'.unG⟩
    · cases gd with
      | tup q1 q2 =>
        rw [← q2.length] at hi
        exact walk_tup.goes i H2 hi q1
    · cases gd with
      | tup q1 q2 =>
        rw [← q2.length]
        exact walk_tup.stops H2 q1
    · cases gd with
      | tup q1 q2 =>
        rw [← q2.length] at hi
        obtain ⟨h1, h2⟩ := walk_tup.yields i H2 y H3 hi q1 hy
        subst h1
        obtain ⟨d, h3, h4⟩ := q2.get h2
        exact ⟨Same.refl _, d, h3, h4⟩
    · rcases A'.gh _ List.mem_cons_self with h | ⟨h, _⟩
      · exact dp_same A'.same h
      · exact h
/-- if, by a test that sees more than data -/
theorem go_ifX {t : TT} {R : Bool → Prop} (pt : PT X c t) (rd : ∀ Q : Bool → Hp → Prop, (∀ b H1, At X.K B H1 σ ρ1 γ → R b → Q b H1) → t σ H Q) (h1 : R true → ∀ H', At X.K B H' σ ρ1 γ → GO X body { D with nx := fun σ H => GO X rest D σ H } σ H') (h2 : R false → ∀ H', At X.K B H' σ ρ1 γ → GO X els { D with nx := fun σ H => GO X rest D σ H } σ H') : GO X (.If c body els pos :: rest) D σ H :=
  go_cons (ps_if pt pss_any pss_any) (rd _ fun b H' A r => by
    cases b with
    | true => exact iteT (h1 r H' A)
    | false => exact iteF (h2 r H' A))
end
end TH

namespace TH
open PySem L2 PyProof.Rows
/-! ## the town, a list that draws change -/
/-- H, but nothing is known of t -/
def wo (H : Hp) (t : Addr) : Hp := fun a => if a = t then none else H a
theorem wo_ne {H : Hp} {t a : Addr} (h : a ≠ t) : wo H t a = H a := by
  unfold wo
  rw [if_neg h]
theorem wo_at {H : Hp} {t : Addr} : wo H t t = none := by
  unfold wo
  rw [if_pos rfl]
theorem wo_le {H : Hp} {t : Addr} : Same (wo H t) H := fun a o h => by
  by_cases e : a = t
  · subst e
    rw [wo_at] at h
    cases h
  · rw [wo_ne e] at h
    exact h
theorem same_wo {B H : Hp} {t : Addr} (e : Same B H) (hb : B t = none) : Same B (wo H t) := fun a o h => by
  have : a ≠ t := fun z => by
    subst z
    rw [hb] at h
    cases h
  rw [wo_ne this]
  exact e a o h
theorem tk_wo {H : Hp} {t : Addr} {vs : List V} (h : H t = some (.lst vs)) : Tk H (wo H t) := by
  refine ⟨fun a xs q => ?_, fun a o u q => ?_⟩
  · rw [wo_ne (fun z => by subst z; rw [h] at q; cases q)]
    exact q
  · rw [wo_ne (fun z => by subst z; rw [h] at q; cases q)]
    exact q
theorem same_back {H H' : Hp} {t : Addr} {o : HO} (e : Same (wo H t) H') (h : H' t = some o) : Same (upd H t o) H' := fun a u q => by
  by_cases z : a = t
  · subst z
    rw [upd_same] at q
    cases q
    exact h
  · rw [upd_ne z] at q
    exact e a u (by rw [wo_ne z]; exact q)
/-- its first number is at most c, n more numbers follow -/
def Tw (n c : Nat) (ds : List PyData) : Prop := ∃ (a : Nat) (ns : List Int), a ≤ c ∧ ns.length = n ∧ ds = .int a :: ns.map .int
theorem Tw.le {n c c' : Nat} {ds : List PyData} (h : Tw n c ds) (hc : c ≤ c') : Tw n c' ds := by
  obtain ⟨a, ns, h1, h2, h3⟩ := h
  exact ⟨a, ns, by omega, h2, h3⟩
theorem Tw.ints {n c : Nat} {ds : List PyData} (h : Tw n c ds) : ∃ ns : List Int, ds = ns.map .int := by
  obtain ⟨a, ns, _, _, h3⟩ := h
  exact ⟨(a : Int) :: ns, by rw [h3]; rfl⟩
theorem Tw.noL {n c : Nat} {ds : List PyData} (h : Tw n c ds) : noLs ds = true := by
  obtain ⟨ns, rfl⟩ := h.ints
  exact noLs_iff.mpr fun d hd => by
    obtain ⟨a, _, rfl⟩ := List.mem_map.mp hd
    rfl
theorem dq_ints {K : PySem.W.Frag} {H : Hp} (ns : List Int) : DqAll K H (ns.map V.int) (ns.map .int) := by
  induction ns with
  | nil => exact .nil
  | cons a l ih => exact .cons (.int a) ih
theorem Tw.any {K : PySem.W.Frag} {H H' : Hp} {n c : Nat} {ds : List PyData} {ws : List V} (h : Tw n c ds) (d : DqAll K H ws ds) : DqAll K H' ws ds := by
  obtain ⟨ns, rfl⟩ := h.ints
  rw [d.ints]
  exact dq_ints ns
section
variable {K : PySem.W.Frag} {B H H' : Hp} {σ : L2.St} {ρ : List Sl} {γ : List (V × Sl)} {v : V} {x : Sl} {i n c : Nat} {d : PyData} {t : Addr} {ds ds' : List PyData}
theorem At.town {ws : List V} (A : At K B H σ (ρ.set i (.ml t ds)) γ) (hi : i < ρ.length) (e : Same (wo H t) H') (h : H' t = some (.lst ws)) (tw : Tw n c ds') (dw : DqAll K H' ws ds') : At K B H' σ (ρ.set i (.ml t ds')) γ := by
  have A1 := A.mut (i := i) (p := t) (ds := ds) (es := ds') (ws := ws) (List.getElem?_set_self hi) (tw.any dw) tw.noL
  rw [List.set_set] at A1
  exact A1.to (same_back e h)
/-- a datum of things other than t -/
theorem SlOk.wo {ds : List PyData} (ok : SlOk K B H v (.im d)) (hb : B t = none) {vs : List V} (h : H t = some (.lst vs)) (e : Same B H) : Dq K (TH.wo H t) v d := by
  rcases ok with ok | ⟨ok, hn⟩
  · exact dp_same (same_wo e hb) ok
  · exact dp_tk (tk_wo h) ok hn
theorem At.townAt (A : At K B H σ (ρ.set i (.ml t ds)) γ) (hi : i < ρ.length) : σ[i]? = some (some (.ref t)) ∧ (∃ vs, H t = some (.lst vs) ∧ DqAll K H vs ds) ∧ B t = none := by
  obtain ⟨h1, h2, h3, _⟩ := A.lst (i := i) (List.getElem?_set_self hi)
  exact ⟨h1, h2, h3⟩
/-- where a def with a town starts -/
theorem At.startT {v : V} {vs : List V} {sa : Addr} {ss : List Int} (hN : 3 ≤ n) (h0 : SqL K (wo H t) sa (ss.map V.int)) (h1 : H t = some (.lst vs)) (h2 : DqAll K H vs ds) (hn : noLs ds = true) (h3 : Dq K (wo H t) v d) : At K (wo H t) H ([some (.ref sa), some (.ref t), some v] ++ List.replicate (n - 3) none) ([.sc sa ss, .ml t ds, .im d] ++ List.replicate (n - 3) .no) [] := by
  refine ⟨wo_le, by simp, fun j x q => ?_, (fun g hg => nomatch hg), ?_⟩
  · match j with
    | 0 =>
      cases q
      exact .inr ⟨.ref sa, rfl, rfl, h0⟩
    | 1 =>
      cases q
      exact .inr ⟨.ref t, rfl, rfl, wo_at, hn, vs, h1, h2⟩
    | 2 =>
      cases q
      exact .inr ⟨v, rfl, .inl h3⟩
    | j + 3 =>
      have := List.mem_of_getElem? (by simpa using q : (List.replicate (n - 3) Sl.no)[j]? = some x)
      exact .inl (List.eq_of_mem_replicate this)
  · have : (List.replicate (n - 3) Sl.no).filterMap Sl.adr = [] := by
      rw [List.filterMap_eq_nil_iff]
      intro x hx
      rw [List.eq_of_mem_replicate hx]
      rfl
    rw [List.filterMap_append, this]
    simp [List.filterMap, Sl.adr]
end
/-! ## expressions that draw -/
/-- a datum with R -/
def IM (R : PyData → Prop) : Sl → Prop := fun x => ∃ d, x = .im d ∧ R d
/-- a new list with R -/
def ML (R : List PyData → Prop) : Sl → Prop := fun x => ∃ p ds, x = .ml p ds ∧ R ds
def CR (Ra : PyData → Prop) (R : PyData → PyData → Prop) : PyData → Prop := fun z => ∃ d, Ra d ∧ R d z
def IS (d : PyData) : PyData → Prop := (· = d)
def LS (R : List PyData → Prop) : PyData → Prop := fun d => ∃ ds, d = .list ds ∧ R ds
def EXP (K : PySem.W.Frag) (B : Hp) (σ : L2.St) (i : Nat) (t : Addr) (n c : Nat) (ρ : List Sl) (γ : List (V × Sl)) (R : Sl → Prop) : VK := fun v H' => ∃ x ds', R x ∧ Tw n c ds' ∧ At K B H' σ (ρ.set i (.ml t ds')) ((v, x) :: γ)
/-- slot i holds the town; k: how often e draws at most -/
structure EX (X : Cx) (i n k : Nat) (e : Expr) (ρ : List Sl) (R : Sl → Prop) : Prop where
  run : ∀ (t : Addr) (ds : List PyData) (c : Nat) (B : Hp) (γ : List (V × Sl)) (pins : List (Addr × Obj)) (s : Shared) (σ : L2.St) (H : Hp), c + k ≤ 2 ^ 60 → Tw n c ds → At X.K B H σ (ρ.set i (.ml t ds)) γ → Inv X pins σ H s → wpAny (model X.prog X.w) X.A (eval e X.env) (EP X pins σ (EXP X.K B σ i t n (c + k) ρ γ R)) X.xe s
/-- the same for an argument: it is used at once -/
structure EA (X : Cx) (i n k : Nat) (e : Expr) (ρ : List Sl) (R : PyData → Prop) : Prop where
  run : ∀ (t : Addr) (ds : List PyData) (c : Nat) (B : Hp) (γ : List (V × Sl)) (pins : List (Addr × Obj)) (s : Shared) (σ : L2.St) (H : Hp), c + k ≤ 2 ^ 60 → Tw n c ds → At X.K B H σ (ρ.set i (.ml t ds)) γ → Inv X pins σ H s → wpAny (model X.prog X.w) X.A (eval e X.env) (EP X pins σ (fun v H' => ∃ d ds', R d ∧ Tw n (c + k) ds' ∧ At X.K B H' σ (ρ.set i (.ml t ds')) γ ∧ Dq X.K (wo H' t) v d)) X.xe s
/-- and for a test -/
structure ETX (X : Cx) (i n k : Nat) (e : Expr) (ρ : List Sl) (R : Bool → Prop) : Prop where
  run : ∀ (t : Addr) (ds : List PyData) (c : Nat) (B : Hp) (γ : List (V × Sl)) (pins : List (Addr × Obj)) (s : Shared) (σ : L2.St) (H : Hp), c + k ≤ 2 ^ 60 → Tw n c ds → At X.K B H σ (ρ.set i (.ml t ds)) γ → Inv X pins σ H s → wpAny (model X.prog X.w) X.A (isTrue e X.env (eval e X.env)) (TP X pins σ (fun b H' => ∃ ds', R b ∧ Tw n (c + k) ds' ∧ At X.K B H' σ (ρ.set i (.ml t ds')) γ)) X.xe s
section
variable {X : Cx} {i n k k' kk c : Nat} {e a b : Expr} {ρ : List Sl} {R R1 R2 : Sl → Prop} {B H : Hp} {σ : L2.St} {γ : List (V × Sl)} {t : Addr} {ds : List PyData} {d : PyData} {pos p : Pos} {Q : VK}
theorem EX.use (h : EX X i n k e ρ R) (hc : c + k ≤ 2 ^ 60) (tw : Tw n c ds) (A : At X.K B H σ (ρ.set i (.ml t ds)) γ) (q : ∀ v x ds' H', R x → Tw n (c + k) ds' → At X.K B H' σ (ρ.set i (.ml t ds')) ((v, x) :: γ) → Q v H') : tE X e σ H Q := fun pins s I =>
  thn (h.run t ds c B γ pins s σ H hc tw A I) fun u s' ⟨v, H', I', rv, x, ds', h1, h2, h3⟩ => ⟨v, H', I', rv, q v x ds' H' h1 h2 h3⟩
theorem EX.mk' {tt : TE} (pe : PE X e tt) (h : ∀ (t : Addr) (ds : List PyData) (c : Nat) (B : Hp) (γ : List (V × Sl)) (σ : L2.St) (H : Hp), c + k ≤ 2 ^ 60 → Tw n c ds → At X.K B H σ (ρ.set i (.ml t ds)) γ → tt σ H (EXP X.K B σ i t n (c + k) ρ γ R)) : EX X i n k e ρ R :=
  ⟨fun t ds c B γ pins s σ H hc tw A I => pe.run pins s σ H _ I (h t ds c B γ σ H hc tw A)⟩
theorem EA.use {R : PyData → Prop} (h : EA X i n k e ρ R) (hc : c + k ≤ 2 ^ 60) (tw : Tw n c ds) (A : At X.K B H σ (ρ.set i (.ml t ds)) γ) (q : ∀ v d ds' H', R d → Tw n (c + k) ds' → At X.K B H' σ (ρ.set i (.ml t ds')) γ → Dq X.K (wo H' t) v d → Q v H') : tE X e σ H Q := fun pins s I =>
  thn (h.run t ds c B γ pins s σ H hc tw A I) fun u s' ⟨v, H', I', rv, x, ds', h1, h2, h3, h4⟩ => ⟨v, H', I', rv, q v x ds' H' h1 h2 h3 h4⟩
theorem EA.mk' {R : PyData → Prop} {tt : TE} (pe : PE X e tt) (h : ∀ (t : Addr) (ds : List PyData) (c : Nat) (B : Hp) (γ : List (V × Sl)) (σ : L2.St) (H : Hp), c + k ≤ 2 ^ 60 → Tw n c ds → At X.K B H σ (ρ.set i (.ml t ds)) γ → tt σ H (fun v H' => ∃ d ds', R d ∧ Tw n (c + k) ds' ∧ At X.K B H' σ (ρ.set i (.ml t ds')) γ ∧ Dq X.K (wo H' t) v d)) : EA X i n k e ρ R :=
  ⟨fun t ds c B γ pins s σ H hc tw A I => pe.run pins s σ H _ I (h t ds c B γ σ H hc tw A)⟩
theorem ETX.use {R : Bool → Prop} {Q : Bool → Hp → Prop} (h : ETX X i n k e ρ R) (hc : c + k ≤ 2 ^ 60) (tw : Tw n c ds) (A : At X.K B H σ (ρ.set i (.ml t ds)) γ) (q : ∀ b ds' H', R b → Tw n (c + k) ds' → At X.K B H' σ (ρ.set i (.ml t ds')) γ → Q b H') : tT X e σ H Q := fun pins s I =>
  thn (h.run t ds c B γ pins s σ H hc tw A I) fun u s' ⟨H', I', ds', h1, h2, h3⟩ => ⟨H', I', q u ds' H' h1 h2 h3⟩
theorem ETX.mk' {R : Bool → Prop} {tt : TT} (pe : PT X e tt) (h : ∀ (t : Addr) (ds : List PyData) (c : Nat) (B : Hp) (γ : List (V × Sl)) (σ : L2.St) (H : Hp), c + k ≤ 2 ^ 60 → Tw n c ds → At X.K B H σ (ρ.set i (.ml t ds)) γ → tt σ H (fun b H' => ∃ ds', R b ∧ Tw n (c + k) ds' ∧ At X.K B H' σ (ρ.set i (.ml t ds')) γ)) : ETX X i n k e ρ R :=
  ⟨fun t ds c B γ pins s σ H hc tw A I => pe.run pins s σ H _ I (h t ds c B γ σ H hc tw A)⟩
theorem EX.weak (h : EX X i n k e ρ R1) (hr : ∀ x, R1 x → R2 x) (hk : k ≤ k' := by omega) : EX X i n k' e ρ R2 := .mk' pe_any fun t ds c B γ σ H hc tw A => h.use (by omega) tw A fun v x ds' H' h1 h2 h3 => ⟨x, ds', hr x h1, h2.le (by omega), h3⟩
/-- what does not draw -/
theorem At.envT (A : At X.K B H σ (ρ.set i (.ml t ds)) γ) : EnvD X.K H σ ((ρ.set i .no).map view) := by
  have := (A.drop i).envD
  rw [List.set_set] at this
  exact this
theorem ex_ev (h : EV X e ((ρ.set i .no).map view) d) (hn : noL d = true) : EX X i n 0 e ρ (IM (IS d)) := .mk' pe_any fun t ds c B γ σ H hc tw A => h.use A.envT fun v H' e1 dv => ⟨_, ds, ⟨d, rfl, rfl⟩, tw, (A.to e1).addG (.inr ⟨dv, hn⟩) rfl⟩
theorem ex_evL {es : List PyData} (h : EVL X e ((ρ.set i .no).map view) es) (hn : noLs es = true) : EX X i n 0 e ρ (ML (· = es)) := .mk' pe_any fun t ds c B γ σ H hc tw A => h.use A.envT fun p vs H' e0 e1 e2 dv => ⟨_, ds, ⟨p, es, rfl, rfl⟩, tw, A.addL e0 e1 e2 dv hn⟩
theorem etx_ev {b : Bool} (h : EVT X e ((ρ.set i .no).map view) b) : ETX X i n 0 e ρ (· = b) := .mk' pt_any fun t ds c B γ σ H hc tw A => h.use A.envT fun H' e1 => ⟨ds, rfl, tw, A.to e1⟩
/-- the values of γ -/
theorem At.g0 {v : V} (A : At X.K B H σ ρ ((v, .im d) :: γ)) : Dq X.K H v d := by
  rcases A.gh _ List.mem_cons_self with h | ⟨h, _⟩
  · exact dp_same A.same h
  · exact h
theorem At.g1 {v : V} {g : V × Sl} (A : At X.K B H σ ρ (g :: (v, .im d) :: γ)) : Dq X.K H v d := A.unG.g0
theorem ex_bin {op : Operator} {R : PyData → Prop} {Ra Rb : PyData → Prop} (ha : EX X i n k a ρ (IM Ra)) (hb : EX X i n k' b ρ (IM Rb)) (ho : ∀ d e, Ra d → Rb e → ∃ z, OpD X (binaryOp op) d e z ∧ noL z = true ∧ R z) (hkk : kk = k + k' := by rfl) : EX X i n kk (.BinOp a op b pos) ρ (IM R) :=
  ⟨fun t ds c B γ pins s σ H hc tw A I => by
    refine (pe_op (op := op) (r := fun x y H Q => ∃ d e z, OpD X (binaryOp op) d e z ∧ Dq X.K H x d ∧ Dq X.K H y e ∧ ∀ v H', Same H H' → Dq X.K H' v z → Q v H') (fun pins s σ H x y u v Q I rx ry ⟨d, e, z, o, dx, dy, q⟩ => o.opR pins s σ H x y u v Q I rx ry ⟨dx, dy, q⟩) pe_any pe_any).run pins s σ H _ I ?_
    refine ha.use (by omega) tw A fun v x ds1 H1 ⟨d1, hx, r1⟩ tw1 A1 => ?_
    subst hx
    refine hb.use (by omega) tw1 A1 fun v2 y ds2 H2 ⟨d2, hy, r2⟩ tw2 A2 => ?_
    subst hy
    obtain ⟨z, o, hn, hz⟩ := ho d1 d2 r1 r2
    exact ⟨d1, d2, z, o, A2.g1, A2.g0, fun v3 H3 e3 d3 => ⟨_, ds2, ⟨z, rfl, hz⟩, tw2.le (by omega), (A2.unG.unG.to e3).addG (.inr ⟨d3, hn⟩) rfl⟩⟩⟩
theorem etx_cmp {op : CmpOp} {R : Bool → Prop} {Ra Rb : PyData → Prop} (ha : EX X i n k a ρ (IM Ra)) (hb : EX X i n k' b ρ (IM Rb)) (ho : ∀ d e, Ra d → Rb e → ∃ z, OpD X (compareOp op) d e (.bool z) ∧ R z) (hm : behindInMarks op b = false) (hkk : kk = k + k' := by rfl) : ETX X i n kk (.Compare a [op] [b] pos) ρ R :=
  ⟨fun t ds c B γ pins s σ H hc tw A I => by
    refine (pt_cmpR (op := op) (r := fun x y H Q => ∃ d e z, OpD X (compareOp op) d e z ∧ Dq X.K H x d ∧ Dq X.K H y e ∧ ∀ v H', Same H H' → Dq X.K H' v z → Q v H') (fun pins s σ H x y u v Q I rx ry ⟨d, e, z, o, dx, dy, q⟩ => o.opR pins s σ H x y u v Q I rx ry ⟨dx, dy, q⟩) pe_any pe_any hm).run pins s σ H _ I ?_
    refine ha.use (by omega) tw A fun v x ds1 H1 ⟨d1, hx, r1⟩ tw1 A1 => ?_
    subst hx
    refine hb.use (by omega) tw1 A1 fun v2 y ds2 H2 ⟨d2, hy, r2⟩ tw2 A2 => ?_
    subst hy
    obtain ⟨z, o, hz⟩ := ho d1 d2 r1 r2
    refine ⟨d1, d2, _, o, A2.g1, A2.g0, fun v3 H3 e3 d3 => ?_⟩
    cases d3
    exact ⟨_, rfl, ds2, hz, tw2.le (by omega), A2.unG.unG.to e3⟩⟩
theorem ea_ex {Ra : PyData → Prop} (h : EX X i n k e ρ (IM Ra)) (hi : i < ρ.length) : EA X i n k e ρ Ra := .mk' pe_any fun t ds c B γ σ H hc tw A => h.use hc tw A fun v x ds' H' ⟨d, hx, r⟩ tw' A' => by
  subst hx
  obtain ⟨_, ⟨vs, h1, _⟩, h2⟩ := A'.townAt hi
  exact ⟨d, ds', r, tw', A'.unG, SlOk.wo (ds := ds) (A'.gh _ List.mem_cons_self) h2 h1 A'.same⟩
theorem ea_ev (h : EV X e ((ρ.set i .no).map view) d) (hn : noL d = true) (hi : i < ρ.length) : EA X i n 0 e ρ (IS d) := ea_ex (ex_ev h hn) hi
theorem ea_lst {Ra : List PyData → Prop} (h : EX X i n k e ρ (ML Ra)) (hi : i < ρ.length) : EA X i n k e ρ (LS Ra) := .mk' pe_any fun t ds c B γ σ H hc tw A => h.use hc tw A fun v x ds' H' ⟨p, es, hx, r⟩ tw' A' => by
  subst hx
  obtain ⟨_, ⟨vs, h1, _⟩, h2⟩ := A'.townAt hi
  obtain ⟨g1, g2, g3, ws, g4, g5⟩ := A'.gh _ List.mem_cons_self
  have hp : p ≠ t := by
    have := A'.nd
    intro z
    subst z
    have hm : p ∈ (ρ.set i (.ml p ds')).filterMap Sl.adr := List.mem_filterMap.mpr ⟨_, List.mem_of_getElem? (List.getElem?_set_self hi), rfl⟩
    exact (List.nodup_append.mp this).2.2 p hm p (List.mem_filterMap.mpr ⟨_, List.mem_cons_self, rfl⟩) rfl
  dsimp only at g1
  subst g1
  exact ⟨_, ds', ⟨es, rfl, r⟩, tw', A'.unG, .lst (by rw [wo_ne hp]; exact g4) (dps_tk (tk_wo h1) g5 g3)⟩
/-- the list in slot j -/
theorem ea_own {j : Nat} {x : Str} {pn : Pos} {q : Addr} {es : List PyData} (hj : ρ[j]? = some (.ml q es)) (hij : i ≠ j) (hi : i < ρ.length) (hN : X.N[j]? = some x) (hv : Vis X.env.scope x) (hd : (x == ("__debug__" : Str)) = false := by decide) (hcd : (x == ("__classdict__" : Str)) = false := by decide) : EA X i n 0 (.Name x pn) ρ (IS (.list es)) := .mk' (pe_var hN hv hd hcd) fun t ds c B γ σ H hc tw A => by
  obtain ⟨_, ⟨vs, h1, _⟩, h2⟩ := A.townAt hi
  obtain ⟨g1, ⟨ws, g2, g3⟩, g4, g5⟩ := A.lst (i := j) (p := q) (ds := es) (by rw [List.getElem?_set_ne hij]; exact hj)
  have hp : q ≠ t := by
    intro z
    subst z
    have nd := A.nd
    have split : ∀ (l : List Sl) (i j : Nat), i < j → l[i]? = some (.ml q ds) → l[j]? = some (.ml q es) → ¬ (l.filterMap Sl.adr).Nodup := by
      intro l
      induction l with
      | nil => intro i j _ h; simp at h
      | cons y l ih =>
        intro i j hij h1 h2 nd
        cases j with
        | zero => omega
        | succ j =>
          cases i with
          | zero =>
            simp at h1
            subst h1
            rw [List.filterMap_cons_some (show Sl.adr (.ml q ds) = some q from rfl)] at nd
            exact (List.nodup_cons.mp nd).1 (List.mem_filterMap.mpr ⟨_, List.mem_of_getElem? (by simpa using h2), rfl⟩)
          | succ i => exact ih i j (by omega) (by simpa using h1) (by simpa using h2) (nd.sublist ((List.sublist_cons_self y l).filterMap _))
    have split2 : ∀ (l : List Sl) (i j : Nat), j < i → l[i]? = some (.ml q ds) → l[j]? = some (.ml q es) → ¬ (l.filterMap Sl.adr).Nodup := by
      intro l
      induction l with
      | nil => intro i j _ h; simp at h
      | cons y l ih =>
        intro i j hij h1 h2 nd
        cases i with
        | zero => omega
        | succ i =>
          cases j with
          | zero =>
            simp at h2
            subst h2
            rw [List.filterMap_cons_some (show Sl.adr (.ml q es) = some q from rfl)] at nd
            exact (List.nodup_cons.mp nd).1 (List.mem_filterMap.mpr ⟨_, List.mem_of_getElem? (by simpa using h1), rfl⟩)
          | succ j => exact ih i j (by omega) (by simpa using h1) (by simpa using h2) (nd.sublist ((List.sublist_cons_self y l).filterMap _))
    have nd1 := (List.nodup_append.mp nd).1
    rcases Nat.lt_or_gt_of_ne hij with z | z
    · exact split _ i j z (List.getElem?_set_self hi) (by rw [List.getElem?_set_ne hij]; exact hj) nd1
    · exact split2 _ i j z (List.getElem?_set_self hi) (by rw [List.getElem?_set_ne hij]; exact hj) nd1
  exact ⟨_, g1, _, ds, rfl, tw, A, .lst (by rw [wo_ne hp]; exact g2) (dps_tk (tk_wo h1) g3 g5)⟩
theorem ex_ixV {j : Nat} {x : Str} {Rb R : PyData → Prop} (hj : ((ρ.set i .no).map view)[j]? = some (some d)) (hN : X.N[j]? = some x) (hv : Vis X.env.scope x) (hb : EX X i n k b ρ (IM Rb)) (ho : ∀ e, Rb e → ∃ z, IxD X d e z ∧ noL z = true ∧ R z) (hs : PlainIx b := by intro _ _; rfl) (hd : (x == ("__debug__" : Str)) = false := by decide) (hcd : (x == ("__classdict__" : Str)) = false := by decide) : EX X i n k (.Subscript (.Name x p) b pos) ρ (IM R) := by
  refine .mk' (pe_ix (r := fun x y H Q => ∃ t : L2.R2, IxR X t ∧ t x y H Q) (fun va sl pins s σ H x y u v Q I rx ry ⟨t, ht, h⟩ => ht va sl pins s σ H x y u v Q I rx ry h) (pe_var hN hv hd hcd) pe_any hs) fun t ds c B γ σ H hc tw A => ?_
  obtain ⟨v, h1, _⟩ := A.envT.get j d hj
  refine ⟨v, h1, hb.use hc tw A fun v1 x1 ds1 H1 ⟨e, hx, r⟩ tw1 A1 => ?_⟩
  subst hx
  obtain ⟨v', h1', dv⟩ := A1.envT.get j d hj
  rw [h1] at h1'
  cases h1'
  obtain ⟨z, ⟨t2, ht2, ix⟩, hn, hz⟩ := ho e r
  exact ⟨t2, ht2, ix v v1 H1 dv A1.g0 _ fun w H2 e2 dw => ⟨_, ds1, ⟨z, rfl, hz⟩, tw1, (A1.unG.to e2).addG (.inr ⟨dw, hn⟩) rfl⟩⟩
/-- the promise of a def that draws: Pr of the third argument, R of it and the result, at most k draws -/
def spT (K : PySem.W.Frag) (k : Nat) (Pr : PyData → Prop) (R : PyData → PyData → Prop) : Sp := fun vs H Q _ => ∃ (n c : Nat) (sa t : Addr) (v : V) (ss : List Int) (d : PyData) (ws : List V) (ds : List PyData), vs = [.ref sa, .ref t, v] ∧ c + k ≤ 2 ^ 60 ∧ n ≤ 63 ∧ ss.length = n ∧ SqL K (wo H t) sa (ss.map V.int) ∧ Dq K (wo H t) v d ∧ Pr d ∧ H t = some (.lst ws) ∧ DqAll K H ws ds ∧ Tw n c ds ∧
  ∀ v' H' ws' ds' z, Same (wo H t) H' → H' t = some (.lst ws') → DqAll K H' ws' ds' → Tw n (c + k) ds' → Dq K H' v' z → noL z = true → R d z → Q v' H'
theorem ex_callT {Pr Ra : PyData → Prop} {R : PyData → PyData → Prop} {k2 lv : Nat} {f x y : Str} {p1 p2 : Pos} {j : Nat} {sa : Addr} {ss : List Int} (F : FnD X.prog X.w X.K X.mg X.base lv f (spT X.K k Pr R)) (hr : Room lv X.A) (hg : Gl X f) (hi : i < ρ.length) (hj : ρ[j]? = some (.sc sa ss)) (hs : ss.length = n) (h63 : n ≤ 63) (hij : i ≠ j) (hNj : X.N[j]? = some x) (hvj : Vis X.env.scope x) (hNi : X.N[i]? = some y) (hvi : Vis X.env.scope y)
    (h3 : EA X i n k2 e ρ Ra) (hpr : ∀ d, Ra d → Pr d) (hdb : (f == ("__debug__" : Str)) = false := by decide) (he : starEach [.Name x p1, .Name y p2, e] X.env = (false, eval (.Name x p1) X.env) :: starEach [.Name y p2, e] X.env := by rfl) (he2 : starEach [.Name y p2, e] X.env = (false, eval (.Name y p2) X.env) :: starEach [e] X.env := by rfl) (he3 : starEach [e] X.env = (false, eval e X.env) :: starEach [] X.env := by rfl) (hpl : (backTo pos (starEach [.Name y p2, e] X.env)).any (·.1) = false := by rfl)
    (hd1 : (x == ("__debug__" : Str)) = false := by decide) (hcd1 : (x == ("__classdict__" : Str)) = false := by decide) (hd2 : (y == ("__debug__" : Str)) = false := by decide) (hcd2 : (y == ("__classdict__" : Str)) = false := by decide) (hkk : kk = k2 + k := by rfl) :
    EX X i n kk (.Call (.Name f p) [.Name x p1, .Name y p2, e] [] pos) ρ (IM (CR Ra R)) := by
  subst hkk
  obtain ⟨ff, fd, ps, g1, g2, g3, g4⟩ := F.ex
  refine .mk' (pe_call g4 hr hg g1 g2 g3 .nil pass0 (pa_cons (pe_var hNj hvj hd1 hcd1) (pa_cons (pe_var hNi hvi hd2 hcd2) (pa_cons pe_any pa_nil he3) he2) he) hdb he hpl) fun t ds c B γ σ H hc tw A => ?_
  have hj' : ∀ ds, (ρ.set i (.ml t ds))[j]? = some (.sc sa ss) := fun ds => by rw [List.getElem?_set_ne hij]; exact hj
  obtain ⟨sv, s1, hsv, _⟩ := (A.ok j _ (hj' ds)).resolve_left (by intro z; cases z)
  subst hsv
  refine ⟨_, s1, _, (A.townAt hi).1, h3.use (by omega) tw A fun v d ds' H' r tw' A' dv => ?_⟩
  obtain ⟨t1, ⟨ws, t2, t3⟩, t4⟩ := A'.townAt hi
  obtain ⟨sv', s1', e', ok⟩ := (A'.ok j _ (hj' ds')).resolve_left (by intro z; cases z)
  refine ⟨n, c + k2, sa, t, v, ss, d, ws, ds', rfl, by omega, h63, hs, sqL_same (same_wo A'.same t4) ok, dv, hpr d r, t2, t3, tw', fun v' H2 ws' ds2 z e1 e2 e3 tw2 dz hn rz => ?_⟩
  exact ⟨_, ds2, ⟨z, rfl, d, r, rz⟩, tw2.le (by omega), (A'.town hi e1 e2 tw2 e3).addG (.inr ⟨dz, hn⟩) rfl⟩
end
/-! ## statements that draw -/
section
variable {X : Cx} {i n k c : Nat} {e a b cnd : Expr} {ρ : List Sl} {R : Sl → Prop} {B H : Hp} {σ : L2.St} {γ : List (V × Sl)} {t : Addr} {ds : List PyData} {d : PyData} {pos p py : Pos} {rest body els : List Stmt} {D : Ends} {x : Str}
theorem go_setX (A : At X.K B H σ (ρ.set i (.ml t ds)) γ) (tw : Tw n c ds) (hc : c + k ≤ 2 ^ 60) (j : Nat) (hN : X.N.Nodup) (hj : X.N[j]? = some x) (hx : Loc X.env.scope x) (h : EX X i n k e ρ R) (q : ∀ v y ds' H', R y → Tw n (c + k) ds' → At X.K B H' (σ.set j (some v)) ((ρ.set i (.ml t ds')).set j y) γ → GO X rest D (σ.set j (some v)) H')
    (hs : swapsWith e (some (.Name x py)) pos.line X.env = pure false := by rfl) (hf : X.fn x = true ∨ X.env.scope.names.lookup x = some .local := by first | exact .inl rfl | exact .inr rfl | assumption) : GO X (.Assign [.Name x py] e pos :: rest) D σ H :=
  go_cons (ps_set hN hj hx pe_any hs hf) (h.use hc tw A fun v y ds' H' r tw' A' => q v y ds' H' r tw' (A'.take j))
theorem go_retX (A : At X.K B H σ (ρ.set i (.ml t ds)) γ) (tw : Tw n c ds) (hc : c + k ≤ 2 ^ 60) (h : EX X i n k e ρ R) (q : ∀ v y ds' H', R y → Tw n (c + k) ds' → At X.K B H' σ (ρ.set i (.ml t ds')) ((v, y) :: γ) → D.rt v H') : GO X (.Return (some e) pos :: rest) D σ H :=
  go_cons (ps_ret pe_any) (h.use hc tw A q)
theorem go_ifT2 {R : Bool → Prop} (A : At X.K B H σ (ρ.set i (.ml t ds)) γ) (tw : Tw n c ds) (hc : c + k ≤ 2 ^ 60) (h : ETX X i n k cnd ρ R) (h1 : R true → ∀ ds' H', Tw n (c + k) ds' → At X.K B H' σ (ρ.set i (.ml t ds')) γ → GO X body { D with nx := fun σ H => GO X rest D σ H } σ H') (h2 : R false → ∀ ds' H', Tw n (c + k) ds' → At X.K B H' σ (ρ.set i (.ml t ds')) γ → GO X els { D with nx := fun σ H => GO X rest D σ H } σ H') : GO X (.If cnd body els pos :: rest) D σ H :=
  go_cons (ps_if pt_any pss_any pss_any) (h.use hc tw A fun b ds' H' r tw' A' => by
    cases b with
    | true => exact iteT (h1 r ds' H' tw' A')
    | false => exact iteF (h2 r ds' H' tw' A'))
end
end TH

namespace TH
open PySem L2 PyProof.Rows
/-! ## lists within a list -/
section
variable {K : PySem.W.Frag} {B H H' : Hp} {σ : L2.St} {ρ : List Sl} {γ γ' : List (V × Sl)} {v : V} {x : Sl} {i n c : Nat} {d : PyData} {p : Addr} {ds es : List PyData}
theorem fm_ml : ((V.ref p, Sl.ml p ds) :: γ).filterMap (fun g => g.2.adr) = p :: γ.filterMap fun g => g.2.adr := List.filterMap_cons_some rfl
theorem At.permG (A : At K B H σ ρ γ) (h : γ.Perm γ') : At K B H σ ρ γ' :=
  ⟨A.same, A.len, A.ok, fun g hg => A.gh g (h.mem_iff.mpr hg), ((List.Perm.refl _).append (h.filterMap _)).nodup_iff.mp A.nd⟩
/-- the own list in slot i is no longer held by the slot -/
theorem At.give (A : At K B H σ ρ γ) (hi : ρ[i]? = some (.ml p ds)) : At K B H σ (ρ.set i (.va (.ref p))) ((.ref p, .ml p ds) :: γ) := by
  obtain ⟨v, h1, h2⟩ := (A.ok i _ hi).resolve_left (by intro z; cases z)
  have ev : v = .ref p := h2.1
  subst ev
  have A1 := A.set0 (x := .va (.ref p)) i rfl (v := .ref p) rfl
  have e1 : σ.set i (some (.ref p)) = σ := List.ext_getElem? fun j => by
    by_cases hj : i = j
    · subst hj
      have hl : i < σ.length := by
        rcases Nat.lt_or_ge i σ.length with h | h
        · exact h
        · rw [List.getElem?_eq_none h] at h1
          cases h1
      rw [List.getElem?_set_self hl, h1]
    · rw [List.getElem?_set_ne hj]
  rw [e1] at A1
  refine ⟨A1.same, A1.len, A1.ok, fun g hg => ?_, ?_⟩
  · rcases List.mem_cons.mp hg with rfl | hg
    · exact h2
    · exact A1.gh g hg
  · have nd := A.nd
    have hil : i < ρ.length := by
      rcases Nat.lt_or_ge i ρ.length with h | h
      · exact h
      · rw [List.getElem?_eq_none h] at hi
        cases hi
    have e2 : ρ = ρ.take i ++ .ml p ds :: ρ.drop (i + 1) := by
      have := List.getElem?_eq_getElem hil
      rw [hi] at this
      have e := Option.some.inj this
      rw [e, ← List.drop_eq_getElem_cons hil, List.take_append_drop]
    have e3 : ρ.set i (.va (.ref p)) = ρ.take i ++ .va (.ref p) :: ρ.drop (i + 1) := List.set_eq_take_append_cons_drop.trans (if_pos hil)
    rw [e3]
    rw [e2] at nd
    rw [List.filterMap_append, List.filterMap_cons_some (show Sl.adr (.ml p ds) = some p from rfl)] at nd
    rw [List.filterMap_append, List.filterMap_cons_none (show Sl.adr (.va (.ref p)) = none from rfl), fm_ml]
    refine List.Perm.nodup_iff ?_ |>.mp nd
    rw [List.append_assoc, List.append_assoc]
    refine (List.Perm.refl _).append ?_
    exact List.perm_middle.symm
/-- a list of own lists, as data -/
def gRows (rows : List (Addr × List PyData)) : List (V × Sl) := rows.map fun r => (.ref r.1, .ml r.1 r.2)
theorem dq_rows {rows : List (Addr × List PyData)} (h : ∀ r ∈ rows, SlOk K B H (.ref r.1) (.ml r.1 r.2)) : DqAll K H (rows.map fun r => .ref r.1) (rows.map fun r => .list r.2) := by
  induction rows with
  | nil => exact .nil
  | cons r l ih =>
    obtain ⟨_, _, _, vs, h1, h2⟩ := h r List.mem_cons_self
    exact .cons (.lst h1 h2) (ih fun q hq => h q (List.mem_cons_of_mem _ hq))
theorem At.rows {rows : List (Addr × List PyData)} (A : At K B H σ ρ (gRows rows ++ γ)) : DqAll K H (rows.map fun r => .ref r.1) (rows.map fun r => .list r.2) :=
  dq_rows fun r hr => A.gh _ (List.mem_append.mpr (.inl (List.mem_map.mpr ⟨r, hr, rfl⟩)))
/-- slot j is looked at as d -/
theorem EnvD.put {r : List (Option PyData)} (E : EnvD K H σ r) {j : Nat} {v : V} (hj : σ[j]? = some (some v)) (dv : Dq K H v d) : EnvD K H σ (r.set j (some d)) := by
  refine ⟨by rw [List.length_set]; exact E.len, fun i e h => ?_⟩
  by_cases hi : j = i
  · subst hi
    have hl : j < r.length := by
      rcases Nat.lt_or_ge j r.length with q | q
      · exact q
      · rw [List.getElem?_eq_none (by simpa using q)] at h
        cases h
    rw [List.getElem?_set_self hl] at h
    cases h
    exact ⟨v, hj, dv⟩
  · rw [List.getElem?_set_ne hi] at h
    exact E.get i e h
/-- another value of an own list -/
theorem At.mutH (A : At K B H σ ρ ((.ref p, .ml p ds) :: γ)) {ws : List V} (hd : DqAll K H ws es) (hn : noLs es = true) : At K B (upd H p (.lst ws)) σ ρ ((.ref p, .ml p es) :: γ) := by
  obtain ⟨h1, h2, h3, vs, h4, h5⟩ := A.gh _ List.mem_cons_self
  dsimp only at h1 h2 h3
  have tk : Tk H (upd H p (.lst ws)) := tk_upd h4 rfl
  have nd := A.nd
  rw [fm_ml] at nd
  have nd' := (List.perm_middle (a := p) (l₁ := ρ.filterMap Sl.adr) (l₂ := γ.filterMap fun g => g.2.adr)).nodup_iff.mp nd
  have out := (List.nodup_cons.mp nd').1
  refine ⟨fun a u q => ?_, A.len, fun j z q => ?_, fun g hg => ?_, ?_⟩
  · rw [upd_ne (ne_of_none q h2)]
    exact A.same a u q
  · rcases A.ok j z q with e | ⟨w, o1, o2⟩
    · exact .inl e
    · refine .inr ⟨w, o1, o2.keep tk fun q' hq' e => ?_⟩
      subst e
      exact out (List.mem_append.mpr (.inl (List.mem_filterMap.mpr ⟨z, List.mem_of_getElem? q, hq'⟩)))
  · rcases List.mem_cons.mp hg with rfl | hg2
    · exact ⟨rfl, h2, hn, ws, upd_same, dps_tk tk hd hn⟩
    · refine (A.gh g (List.mem_cons_of_mem _ hg2)).keep tk fun q' hq' e => ?_
      subst e
      exact out (List.mem_append.mpr (.inr (List.mem_filterMap.mpr ⟨g, hg2, hq'⟩)))
  · rw [fm_ml]
    exact nd
end
/-! ## loops with any state -/
section
variable {X : Cx} {rest : List Stmt} {D : Ends} {σ : L2.St} {B H : Hp} {c iter a : Expr} {body els : List Stmt} {pos p1 pos2 py : Pos} {d : PyData} {x : Str}
theorem go_forRX {W : Nat → Nat → L2.St → Hp → Prop} (j : Nat) (rd : ∀ Q : VK, (∀ m H1, m < 1000000 → W m 0 σ H1 → Q (.int (m : Nat)) H1) → tE X a σ H Q) (hp : PassesOwn (model X.prog X.w) X.A X.env X.xe) (hc : X.calm = true) (hgr : Gl X "range") (hm : X.mg "range" = none) (hN : X.N.Nodup) (hj : X.N[j]? = some x) (hx : Loc X.env.scope x)
    (step : ∀ m i σ' H', i < m → W m i σ' H' → GO X body { D with nx := W m (i + 1), ct := W m (i + 1), bk := fun σ H => GO X rest D σ H } (σ'.set j (some (.int (i : Nat)))) H') (done : ∀ m σ' H', W m m σ' H' → GO X rest D σ' H')
    (hsa : starEach [a] X.env = [(false, eval a X.env)] := by rfl) (hs : ∀ x, foldedSetIterable (.Call (.Name "range" p1) [a] [] pos) X.env x = pure x := by intro _; rfl) (hf : X.fn x = true ∨ X.env.scope.names.lookup x = some .local := by first | exact .inl rfl | exact .inr rfl | assumption) : GO X (.For (.Name x py) (.Call (.Name "range" p1) [a] [] pos) body [] pos2 :: rest) D σ H := by
  refine go_cons (ps_for hp hc (pi_range1 hgr hm (pa_cons pe_any pa_nil hsa) hsa) (pg_name hN hj hx hf) pss_any hs) (rd _ fun m H1 hb w0 => ?_)
  refine ⟨_, rfl, by omega, by omega, ?_⟩
  refine ⟨fun i k σ H => k = m - i ∧ i ≤ m ∧ W m i σ H, ⟨m, by simp, Nat.zero_le _, w0⟩, ?_⟩
  rintro i k σ2 H2 ⟨rfl, hi, w2⟩
  by_cases hlt : i < m
  · refine .inr ⟨by show i < (m : Int).toNat; omega, fun σ' H' => W m (i + 1) σ' H', fun σ' H' h => ⟨_, by omega, rfl, hlt, h⟩, fun y H3 hy => ?_⟩
    obtain ⟨h1, h2⟩ := hy
    rw [h1, h2]
    have e : (0 : Int) + (i : Nat) = (i : Nat) := by omega
    rw [e]
    exact step m i σ2 H2 hlt w2
  · have e : i = m := by omega
    subst e
    exact .inl ⟨by show (i : Int).toNat ≤ i; omega, done i σ2 H2 w2⟩
/-- for over the values of a list in a slot, which stays -/
theorem go_forV {W : Nat → L2.St → Hp → Prop} {vs : List V} {p : Addr} {n : Str} {pn : Pos} {k : Nat} (j : Nat) (hk : σ[k]? = some (some (.ref p))) (hNk : X.N[k]? = some n) (hv : Vis X.env.scope n) (h0 : W 0 σ H) (hl : ∀ i σ' H', W i σ' H' → H' p = some (.lst vs)) (hp : PassesOwn (model X.prog X.w) X.A X.env X.xe) (hc : X.calm = true) (hN : X.N.Nodup) (hj : X.N[j]? = some x) (hx : Loc X.env.scope x)
    (step : ∀ i v σ' H', vs[i]? = some v → W i σ' H' → GO X body { D with nx := W (i + 1), ct := W (i + 1), bk := fun σ H => GO X rest D σ H } (σ'.set j (some v)) H') (done : ∀ σ' H', W vs.length σ' H' → GO X rest D σ' H')
    (hs : ∀ x, foldedSetIterable (.Name n pn) X.env x = pure x := by intro _; rfl) (hf : X.fn x = true ∨ X.env.scope.names.lookup x = some .local := by first | exact .inl rfl | exact .inr rfl | assumption) (hd : (n == ("__debug__" : Str)) = false := by decide) (hcd : (n == ("__classdict__" : Str)) = false := by decide) : GO X (.For (.Name x py) (.Name n pn) body [] pos2 :: rest) D σ H := by
  refine go_cons (ps_for hp hc (pi_list (pe_var hNk hv hd hcd)) (pg_name hN hj hx hf) pss_any hs) ⟨_, hk, p, rfl, ⟨_, .of (hl 0 σ H h0)⟩, ?_⟩
  refine ⟨fun i k σ H => k = vs.length - i ∧ i ≤ vs.length ∧ W i σ H, ⟨vs.length, by simp, Nat.zero_le _, h0⟩, ?_⟩
  rintro i k σ2 H2 ⟨rfl, hi, w2⟩
  have q1 := hl i σ2 H2 w2
  by_cases hlt : i < vs.length
  · refine .inr ⟨walk_list.goes i H2 hlt (.of q1), fun σ' H' => W (i + 1) σ' H', fun σ' H' h => ⟨_, by omega, rfl, hlt, h⟩, fun y H3 hy => ?_⟩
    obtain ⟨h1, h2⟩ := walk_list.yields i H2 y H3 hlt (.of q1) hy
    subst h1
    exact step i y σ2 _ h2 w2
  · have e : i = vs.length := by omega
    subst e
    exact .inl ⟨walk_list.stops H2 (.of q1), done σ2 H2 w2⟩
end
theorem go_retE {X : Cx} {rest : List Stmt} {D : Ends} {σ : L2.St} {H : Hp} {e : Expr} {pos : Pos} {r : List (Option PyData)} {d : PyData} (E : EnvD X.K H σ r) (h : EV X e r d) (q : ∀ v H', Same H H' → Dq X.K H' v d → D.rt v H') : GO X (.Return (some e) pos :: rest) D σ H :=
  go_cons (ps_ret pe_any) (h.use E q)
/-! ## own lists that take what was drawn -/
section
variable {X : Cx} {i n k k' c : Nat} {e a : Expr} {ρ : List Sl} {R R2 : PyData → Prop} {B H : Hp} {σ : L2.St} {γ : List (V × Sl)} {t p : Addr} {ds es : List PyData} {pos : Pos} {rest : List Stmt} {D : Ends} {nm : Str} {pn pa pc pt : Pos}
theorem go_appendX (A : At X.K B H σ (ρ.set i (.ml t ds)) γ) (tw : Tw n c ds) (hc : c + k ≤ 2 ^ 60) (j : Nat) (hij : i ≠ j) (hj : ρ[j]? = some (.ml p es)) (hN : X.N[j]? = some nm) (hv : Vis X.env.scope nm) (h : EX X i n k e ρ (IM R)) (hn : ∀ z, R z → noL z = true) (hz : es.length < 100000)
    (q : ∀ z ds' H', R z → Tw n (c + k) ds' → At X.K B H' σ ((ρ.set i (.ml t ds')).set j (.ml p (es ++ [z]))) γ → GO X rest D σ H')
    (hbase : attributeBase (.Name nm pn) "append" X.env (eval (.Name nm pn) X.env) = eval (.Name nm pn) X.env := by rfl)
    (hfew : ((backTo pc (starEach [e] X.env)).all (fun x => !x.1) && (backToKw pc (keywordEach [] X.env)).all (fun x => x.1.isSome) && decide ([e].length + ([] : List Keyword).length + (if ([] : List Keyword).isEmpty then 0 else 1) < 30)) = true := by rfl)
    (hline : (pa.endLine == pc.line) = true := by rfl) (hs : starEach [e] X.env = (false, eval e X.env) :: starEach [] X.env := by rfl) (hplain : (backTo pc (starEach [] X.env)).any (·.1) = false := by rfl)
    (hsw : swapsWith (.Call (.Attribute (.Name nm pn) "append" pa) [e] [] pc) none pos.line X.env = pure false := by rfl) (hd : (nm == ("__debug__" : Str)) = false := by decide) (hcd : (nm == ("__classdict__" : Str)) = false := by decide) :
    GO X (.Expr (.Call (.Attribute (.Name nm pn) "append" pa) [e] [] pc) pos :: rest) D σ H := by
  have hj' : ∀ ds, (ρ.set i (.ml t ds))[j]? = some (.ml p es) := fun ds => by rw [List.getElem?_set_ne hij]; exact hj
  obtain ⟨h1, ⟨vs, h2, h3⟩, h4, h5⟩ := A.lst (hj' ds)
  refine go_cons (ps_expr (pe_bm PySem.F.plainAttrs_list PySem.F.slot_list_append PySem.F.type_list_append mt_append (pe_var hN hv hd hcd) (pa_cons pe_any pa_nil hs) hbase hfew hline hs hplain) hsw) ?_
  refine ⟨_, h1, .inl ⟨rfl, _, .of h2⟩, h.use hc tw A fun w x ds' H' ⟨z, hx, r⟩ tw' A' => ?_⟩
  subst hx
  obtain ⟨g1, ⟨ws, g2, g3⟩, g4, g5⟩ := A'.lst (hj' ds')
  refine ⟨p, ws, w, rfl, rfl, g2, Nat.lt_of_lt_of_le (by rw [g3.length]; exact hz) (by decide), ?_⟩
  refine q z ds' _ r tw' (A'.unG.mut (hj' ds') (g3.append (.cons A'.g0 .nil)) (noLs_iff.mpr fun y hy => ?_))
  rcases List.mem_append.mp hy with hy | hy
  · exact noLs_iff.mp g5 y hy
  · rw [List.mem_singleton] at hy
    rw [hy]
    exact hn z r
theorem go_setIxX (A : At X.K B H σ (ρ.set i (.ml t ds)) γ) (tw : Tw n c ds) (hc : c + (k + k') ≤ 2 ^ 60) (j : Nat) (hij : i ≠ j) (hj : ρ[j]? = some (.ml p es)) (hN : X.N[j]? = some nm) (hv : Vis X.env.scope nm) (h : EX X i n k e ρ (IM R)) (hn : ∀ z, R z → noL z = true) (h2 : EX X i n k' a ρ (IM R2)) (hk : ∀ y, R2 y → ∃ m : Nat, m < es.length ∧ y = dN m)
    (q : ∀ z m ds' H', R z → m < es.length → R2 (dN m) → Tw n (c + (k + k')) ds' → At X.K B H' σ ((ρ.set i (.ml t ds')).set j (.ml p (es.set m z))) γ → GO X rest D σ H')
    (hs : swapsWithSole [.Subscript (.Name nm pn) a pt] e pos.line X.env = pure false := by rfl) (hw : swappedStores [.Subscript (.Name nm pn) a pt] e X.env = pure none := by rfl) (h1 : (assignEach [.Subscript (.Name nm pn) a pt] X.env).map (·.2) = [assign (.Subscript (.Name nm pn) a pt) X.env] := by rfl)
    (hst : ∀ v, assign (.Subscript (.Name nm pn) a pt) X.env v = (do
      let ov ← holding [v] (eval (.Name nm pn) X.env)
      let iv ← holding [v, ov] (eval a X.env)
      standAt pt
      holding [v, ov, iv] (setItem ov iv v)
      release [v, ov, iv] []) := by intro _; rfl) (hd : (nm == ("__debug__" : Str)) = false := by decide) (hcd : (nm == ("__classdict__" : Str)) = false := by decide) :
    GO X (.Assign [.Subscript (.Name nm pn) a pt] e pos :: rest) D σ H := by
  have hj' : ∀ ds, (ρ.set i (.ml t ds))[j]? = some (.ml p es) := fun ds => by rw [List.getElem?_set_ne hij]; exact hj
  refine go_cons (ps_asg pe_any (pg_sub (pe_var hN hv hd hcd) pe_any set_list hst) hs hw h1) ?_
  refine h.use (by omega) tw A fun w x ds1 H1 ⟨z, hx, r⟩ tw1 A1 => ?_
  subst hx
  refine ⟨_, (A1.lst (hj' ds1)).1, h2.use (by omega) tw1 A1 fun y x2 ds2 H2 ⟨z2, hx2, r2⟩ tw2 A2 => ?_⟩
  subst hx2
  obtain ⟨m, hm, rfl⟩ := hk z2 r2
  obtain ⟨g1, ⟨ws, g2, g3⟩, g4, g5⟩ := A2.lst (hj' ds2)
  have dy := A2.g0
  cases dy
  refine ⟨p, ws, m, m, rfl, rfl, g2, ?_, ?_⟩
  · unfold ixN
    rw [g3.length, if_pos (by omega), if_pos (by omega)]
    simp
  · refine q z m ds2 _ r hm r2 (by rw [← Nat.add_assoc]; exact tw2) (A2.unG.unG.mut (hj' ds2) (g3.set A2.g1 m) (noLs_iff.mpr fun y hy => ?_))
    rcases List.mem_or_eq_of_mem_set hy with hy | hy
    · exact noLs_iff.mp g5 y hy
    · rw [hy]
      exact hn z r
end
/-! ## texts -/
section
variable {X : Cx} {r : List (Option PyData)} {a b o : Expr} {pos apos : Pos} {z : Str}
theorem ca_strI {i : Int} (h : i.natAbs.log2 < 1920) : CaD X (.type "str") [.int i] (.str (toString i)) := ⟨_, call_str_int, fun vs H hd => by
  obtain ⟨v, rfl, hv⟩ := dq1 hd
  cases hv
  exact ⟨i, rfl, h, Same.refl H, .str _⟩⟩
theorem ca_strS : CaD X (.type "str") [.str z] (.str z) := ⟨_, SkE.call_str_str, fun vs H hd => by
  obtain ⟨v, rfl, hv⟩ := dq1 hd
  cases hv
  exact ⟨z, rfl, Same.refl H, .str _⟩⟩
theorem ev_join {ys : List Str} (ho : EV X o r (.str z)) (he : EV X a r (.list (ys.map .str))) (hz : (ys.map (·.length)).sum + ys.length * z.length ≤ 16777216) (hs : starEach [a] X.env = [(false, eval a X.env)] := by rfl) (hbase : attributeBase o "join" X.env (eval o X.env) = eval o X.env := by rfl) (hline : (apos.endLine == pos.line) = true := by rfl) : EV X (.Call (.Attribute o "join" apos) [a] [] pos) r (.str (Txt.join z ys)) :=
  .mk' (pe_m1 F.slot_str_join F.type_str_join mt_join pe_any pe_any hs hbase hline) fun σ H E => ho.use E fun v H1 e1 dv => by
    cases dv
    refine ⟨⟨z, rfl⟩, he.use (E.same e1) fun w H2 e2 dw => ?_⟩
    cases dw with
    | lst h1 h2 => exact ⟨z, _, ys, rfl, rfl, .inl (.of (by rw [h2.strs] at h1; exact h1)), hz, e1.trans e2, .str _⟩
theorem it_str (h : EV X a r (.str z)) {tg : Expr} : ITR Tk X tg a r (z.cps.toList.map fun c => .str ⟨#[c]⟩) := ⟨_, pi_str pe_any, fun σ H E R q => h.use E fun v H1 e1 dv => by
  cases dv
  refine ⟨z, rfl, q _ H1 e1 ⟨fun i H2 e hi => ?_, fun H2 e => ?_, fun i H2 x H3 e hi y => ?_⟩⟩
  · show i < z.cps.size
    simpa using hi
  · show z.cps.size ≤ _
    simp
  · obtain ⟨h1, ch, h2, h3⟩ := y
    subst h1 h3
    refine ⟨Same.refl _, .str ⟨#[ch]⟩, ?_, .str _⟩
    rw [List.getElem?_map, Array.getElem?_toList, h2]
    rfl⟩
end
end TH

namespace TH
open PySem PySem.Spec L2 PyProof.Rows
/-! ## tuples whose object is known -/
section
variable {X : Cx}
/-- sorted(t), a tuple of ints -/
theorem cr_sortT : CallR X (.builtin "sorted") (fun xs H Q => ∃ (a : Addr) (ks : List Int), xs = [.ref a] ∧ SqT X.K H a (ks.map V.int) ∧ ks.length < 64 ∧ ∀ (ys : List Int) (p : Addr), ys.Perm ks → ys.Pairwise (· ≤ ·) → H p = none → Q (.ref p) (upd H p (.lst (ys.map V.int)))) := by
  intro pins s σ H xs us Q I r h
  obtain ⟨a, ks, rfl, ha, h64, q⟩ := h
  rw [Vals.ref1 r]
  obtain ⟨vs, rv, ⟨o, ho, hcls, n, hdat⟩, hsz⟩ := I.tuple ha
  have y1 : IntsAre vs ks := ints_of_vals rv
  have vl : vs.length = ks.length := y1.length
  refine Calls.call_function_entry kind_sorted plain_sorted entry_sorted (args_sorted1 _) ?_
  unfold Builtin.«sorted»
  refine wpAny_bind (m := checkCount "sorted" 1 1 _) (wpAny_pure ?_)
  refine wpAny_bind (wpAny_collect_seq (A := X.A.in1) a (.inr rfl) ho hcls hdat (fun h' keep => ?_) (by rw [List.size_toArray, vl, sizeLine_eq]; omega))
  rw [List.toList_toArray]
  refine wpAny_bind (wpAny_newList ?_ (by rw [vl, sizeLine_eq]; omega))
  have hoL : (h'.push (seqObj "list" vs.toArray 0)).get? h'.objs.size = some (seqObj "list" vs.toArray 0) := Heap.get?_push_size _ rfl
  refine wpAny_bind (wpAny_holding (wpAny_call_entry slot_list_sort ⟨_, hoL, rfl⟩ entry_list_sort (list_sort_tree hoL y1 (by rw [vl]; exact h64) fun out xs x1 x2 x3 => ⟨_, rfl, ?_⟩) (args_list_sort _)))
  obtain ⟨c, hc⟩ := sortedHeap_at (vs := vs) (out := out) hoL
  have k2 : ∀ b u, h'.get? b = some u → (sortedHeap (h'.push (seqObj "list" vs.toArray 0)) h'.objs.size vs out).get? b = some u := fun b u e => by
    have lt := Heap.lt_size e
    rw [sortedHeap_old (Nat.ne_of_lt lt) (by rw [size_push']; exact Nat.lt_succ_of_lt lt)]
    exact Heap.get?_push_of_some _ e
  have I1 : Inv X pins σ H { s with heap := h' } := I.kept (t' := s.toks) keep
  have hn : H h'.objs.size = none := I1.hok.fresh (Nat.le_refl _)
  have hlen : (xs.map V.int).length ≤ sizeLine := by rw [List.length_map, x2.length_eq, sizeLine_eq]; omega
  exact wpAny_pure ⟨_, rfl, .ref h'.objs.size, _, I1.laid (t' := s.toks) (a := h'.objs.size) (o := .lst (xs.map V.int)) k2 (Nat.le_refl _) ⟨hlen, out.toList, c, vals_of_ints x1, by rw [Array.toArray_toList]; exact hc⟩, rfl, q xs _ x2 x3 hn⟩
theorem cl_sortedT {xs zs : List Int} (hz : xs.length < 64) (hu : ∀ ys : List Int, ys.Perm xs → ys.Pairwise (· ≤ ·) → ys = zs) : CaL X (.builtin "sorted") [.tuple (xs.map .int)] (zs.map .int) := ⟨_, cr_sortT, fun vs H h => by
  obtain ⟨v, rfl, hv⟩ := dq1 h
  cases hv with
  | tup hs ha =>
    rw [ha.ints] at hs
    refine ⟨_, xs, rfl, hs, hz, fun ys p pm pw hp => ?_⟩
    have e := hu ys pm pw
    subst e
    exact ⟨p, _, rfl, hp, same_new hp, upd_same, dps_ints ys⟩⟩
/-- the tuple's object is known, it has no dict -/
def FzI (H : Hp) (a : Addr) (ns : List Int) : Prop := ∃ o : Obj, H a = some (.frz o (.tup (ns.map V.int))) ∧ o.cls = .type "tuple" ∧ o.dict = none
theorem FzI.same {H H' : Hp} {a : Addr} {ns : List Int} (e : Same H H') (h : FzI H a ns) : FzI H' a ns := by
  obtain ⟨o, h1, h2⟩ := h
  exact ⟨o, e _ _ h1, h2⟩
theorem FzI.dq {K : PySem.W.Frag} {H : Hp} {a : Addr} {ns : List Int} (h : FzI H a ns) : Dq K H (.ref a) (.tuple (ns.map .int)) := by
  obtain ⟨o, h1, h2⟩ := h
  exact .tup (.inl (.inr ⟨o, h1⟩)) (dps_ints ns)
/-- tuple(l) of a list of ints -/
theorem cr_tupleF : CallR X (.type "tuple") (fun xs H Q => ∃ p ns, xs = [.ref p] ∧ SqL X.K H p (ns.map V.int) ∧ ∀ l H', H l = none → Same H H' → FzI H' l ns → Q (.ref l) H') := by
  intro pins s σ H xs us Q I r h
  obtain ⟨p, ns, rfl, hq, q⟩ := h
  rw [Vals.ref1 r]
  obtain ⟨its, rv, pl, hz⟩ := I.list hq
  have hlen := rv.length
  refine call_tuple_list pl.isList (fun h' kp => ?_) (by simp only [List.size_toArray] <;> omega)
  have J : Inv X pins σ H { s with heap := h' } := I.kept (t' := s.toks) kp
  have hf : H h'.objs.size = none := J.hok.fresh (Nat.le_refl _)
  have J2 := J.laid (t' := s.toks) (h' := h'.push { cls := .type "tuple", data := .seq its.toArray }) (a := h'.objs.size) (o := .frz { cls := .type "tuple", data := .seq its.toArray } (.tup (ns.map V.int))) (fun b o e => Heap.get?_push_of_some _ e) (Nat.le_refl _) ⟨Heap.get?_push_size _ rfl, hz, its, rv, IsTup.new _ _⟩
  exact ⟨.ref h'.objs.size, _, J2, rfl, q _ _ hf (same_new hf) ⟨_, upd_same, rfl, rfl⟩⟩
/-- t.index(k) -/
theorem pe_tix {o e : Expr} {to : TE} {t : TA} {apos cpos : Pos} (ho : PE X o to) (he : PA X [e] t)
    (hbase : attributeBase o "index" X.env (eval o X.env) = eval o X.env := by rfl)
    (hfew : ((backTo cpos (starEach [e] X.env)).all (fun x => !x.1) && (backToKw cpos (keywordEach [] X.env)).all (fun x => x.1.isSome) && decide ([e].length + ([] : List Keyword).length + (if ([] : List Keyword).isEmpty then 0 else 1) < 30)) = true := by rfl)
    (hline : (apos.endLine == cpos.line) = true := by rfl) (hs : starEach [e] X.env = (false, eval e X.env) :: starEach [] X.env := by rfl) (hplain : (backTo cpos (starEach [] X.env)).any (·.1) = false := by rfl) :
    PE X (.Call (.Attribute o "index" apos) [e] [] cpos) (fun σ H Q => to σ H fun x H1 => ∃ a ns, x = .ref a ∧ FzI H1 a ns ∧ t σ H1 fun ys H2 => FzI H2 a ns ∧ ∃ k, ys = [.int k] ∧ k ∈ ns ∧ Q (.int (ns.idxOf k : Nat)) H2) := by
  refine ⟨fun pins s σ H Q I h => ?_⟩
  refine wpAny_Call_method_late hbase hfew hline rfl (thn (ho.run pins s σ H _ I h) fun v s1 ⟨x, H1, I1, r1, a, ns, hx, fz, q1⟩ => ?_)
  subst hx
  cases r1
  obtain ⟨ob, f1, f2, f3⟩ := fz
  obtain ⟨g1, _⟩ := I1.hok a _ f1
  refine ⟨"tuple", "tuple.index", PySem.F.plainAttrs_tuple, PySem.F.slot_tuple_index, PySem.F.type_tuple_index, ⟨ob, g1, f2⟩, fun b eb => by cases eb; exact ⟨ob, g1, f3⟩, ?_⟩
  have hA := he.run cpos pins s1 σ H1 _ I1 q1
  rw [hs] at hA ⊢
  refine Calls.callWith_builtin (by show (false || (backTo cpos (starEach [] X.env)).any (·.1)) = false; rw [hplain] <;> rfl) (Calls.evalArgs_plain ?_)
  refine thn hA fun us s2 ⟨vs, H2, I2, r2, fz2, k, hvs, hk, q2⟩ => ?_
  subst hvs
  obtain ⟨ob2, e1, e2, e3⟩ := fz2
  obtain ⟨u, rfl, tk, rfl⟩ := vals1 r2
  obtain ⟨its, rv, hit, _⟩ := I2.tuple (.inl (.inr ⟨ob2, e1⟩))
  exact SeqAt.tuple_index_ints (vs := its) hit (ints_of_vals rv) hk ⟨.int _, H2, I2.tok _, ⟨_, rfl⟩, q2⟩
end
/-! ## a list comprehension under a condition that stays -/
section
variable {X : Cx} {r : List (Option PyData)} {elt tg iter : Expr} {scope : Scope} {own : List (Str × Nat)} {pos : Pos} {g : TG} {ds : List PyData} {u : PyData → List (Option PyData) → List (Option PyData)} {sl : List Nat} {f : PyData → PyData} {Φ : Hp → Prop} {σ : L2.St}
theorem lc_readP (st : ∀ H H', Same H H' → Φ H → Φ H') (hi : ITR Same X tg iter r ds) (hr : ∀ d ∈ ds, RdG X.K g d (u d) sl) (hsl : ∀ i ∈ sl, i ∈ own.map (·.2))
    (he : ∀ d ∈ ds, ∀ (σ2 : L2.St) (H : Hp), Φ H → wipe σ2 (own.map (·.2)) = wipe σ (own.map (·.2)) → EnvD X.K H σ2 (u d (wipeR r (own.map (·.2)))) → ∀ Q : VK, (∀ v H', Same H H' → Dq X.K H' v (f d) → Q v H') → Blk X scope fun Y => tE Y elt σ2 H Q) (hf : ∀ d ∈ ds, noL (f d) = true) (hz : ds.length ≤ 100000)
    {H : Hp} (E : EnvD X.K H σ r) (h0 : Φ H) {Q : VK} (q : ∀ v H', QL X.K H (ds.map f) v H' → Q v H') :
    tLc (tI X tg iter) g (fun σ H Q => Blk X scope fun Y => tTs Y [] σ H Q) (fun σ H Q => Blk X scope fun Y => tE Y elt σ H Q) (own.map (·.2)) σ H Q := by
  refine hi.use E fun J H1 e1 W D hD => ?_
  refine ⟨fun i m H' => m = ds.length - i ∧ i ≤ ds.length ∧ Same H1 H' ∧ ∃ vs, H' D = some (.lst vs) ∧ DqAll X.K H' vs ((ds.take i).map f), ⟨ds.length, by simp, Nat.zero_le _, same_new hD, [], upd_same, .nil⟩, ?_⟩
  rintro i m H2 ⟨rfl, hi', e2, vs, hv, dv⟩
  by_cases hlt : i < ds.length
  · refine .inr ⟨W.go i H2 e2 hlt, fun H' => i + 1 ≤ ds.length ∧ Same H1 H' ∧ ∃ vs, H' D = some (.lst vs) ∧ DqAll X.K H' vs ((ds.take (i + 1)).map f), fun H' h => ⟨_, by omega, rfl, h⟩, fun x H3 y => ?_⟩
    obtain ⟨e3, d, hd, dx⟩ := W.yld i H2 x H3 e2 hlt y
    have hm : d ∈ ds := List.mem_of_getElem? hd
    refine hr d hm x _ H3 _ _ dx ((E.same ((e1.trans e2).trans e3)).wipe (own.map (·.2))) fun σ2 E2 hw => ⟨(hw _ hsl).trans (wipe_twice _ _), ?_⟩
    intro s1 H0 C cl fp
    refine (ets_nil (X := X.blk s1 H0 scope (compEnvC scope cl C X.env) fp)).use E2 fun H4 e4 => ?_
    refine iteT (he d hm σ2 H4 (st _ _ (((e1.trans e2).trans e3).trans e4) h0) ((hw _ hsl).trans (wipe_twice _ _)) (E2.same e4) _ fun y H5 e5 dy => ?_)
    have ek : ds.take (i + 1) = ds.take i ++ [d] := take_succ hd
    have hv5 : H5 D = some (.lst vs) := e5 _ _ (e4 _ _ (e3 _ _ hv))
    have tk : Tk H5 (upd H5 D (.lst (vs ++ [y]))) := tk_upd hv5 rfl
    have hn : ∀ z ∈ (ds.take i).map f, noL z = true := fun z hz => by
      obtain ⟨w, hw, rfl⟩ := List.mem_map.mp hz
      exact hf w (List.mem_of_mem_take hw)
    refine ⟨vs, hv5, ?_, by omega, fun a o h => ?_, vs ++ [y], upd_same, ?_⟩
    · have h1 := dv.length
      rw [List.length_map, List.length_take] at h1
      have : (100000 : Nat) < sizeLine := by decide
      omega
    · rw [upd_ne (ne_of_none h hD)]
      exact e5 _ _ (e4 _ _ (e3 _ _ (e2 _ _ h)))
    · rw [ek, List.map_append]
      exact (dps_tk tk (dps_same ((e3.trans e4).trans e5) dv) (noLs_iff.mpr hn)).append (.cons (dp_tk tk dy (hf d hm)) .nil)
  · have e : i = ds.length := by omega
    subst e
    rw [List.take_length] at dv
    exact .inl ⟨W.stop H2 e2, q _ _ ⟨D, vs, rfl, e1.free hD, e1.trans e2, hv, dv⟩⟩
/-- the reading of a comprehension, to be used with lc_readP -/
theorem pe_lcP (hc : X.calm = true) (hN : X.N.Nodup) (ok : BlkOk X.N X.env.scope scope own) (hg : Blk X scope fun Y => PG Y tg g) (hs : ∀ x, foldedSetIterable iter X.env x = pure x := by intro _; rfl) : PE X (.ListComp elt [⟨tg, iter, [], 0⟩] scope pos) (tLc (tI X tg iter) g (fun σ H Q => Blk X scope fun Y => tTs Y [] σ H Q) (fun σ H Q => Blk X scope fun Y => tE Y elt σ H Q) (own.map (·.2))) :=
  pe_lc hc hN pi_any ok hg (fun s H C cl fp => ⟨fun pins s1 σ H1 Q I h => h s H C cl fp pins s1 I⟩) (fun s H C cl fp => ⟨fun pins s1 σ H1 Q I h => h s H C cl fp pins s1 I⟩) hs
end
/-! ## at one heap -/
def EVH (X : Cx) (e : Expr) (σ : L2.St) (H : Hp) (d : PyData) : Prop := ∀ Q : VK, (∀ v H', Same H H' → Dq X.K H' v d → Q v H') → tE X e σ H Q
def EVLH (X : Cx) (e : Expr) (σ : L2.St) (H : Hp) (ds : List PyData) : Prop := ∀ Q : VK, (∀ v H', QL X.K H ds v H' → Q v H') → tE X e σ H Q
/-- a tuple of ints whose object is known -/
def EVFH (X : Cx) (e : Expr) (σ : L2.St) (H : Hp) (ns : List Int) : Prop := ∀ Q : VK, (∀ a H', Same H H' → FzI H' a ns → Q (.ref a) H') → tE X e σ H Q
section
variable {X : Cx} {r : List (Option PyData)} {σ : L2.St} {H : Hp} {a b c e elt tg iter : Expr} {p pos : Pos} {d z : PyData} {ds : List PyData} {ns : List Int}
theorem rd_of {t : TE} {Q : VK} (h : PE X e t) (q : t σ H Q) : tE X e σ H Q := fun pins s I => h.run pins s σ H Q I q
theorem EV.h (h : EV X e r d) (E : EnvD X.K H σ r) : EVH X e σ H d := fun Q q => h.use E q
theorem EVL.h (h : EVL X e r ds) (E : EnvD X.K H σ r) : EVLH X e σ H ds := fun Q q => h.use E fun p vs H' e0 e1 e2 dv => q _ _ ⟨p, vs, rfl, e0, e1, e2, dv⟩
theorem EVH.cast (h : EVH X e σ H d) (hd : d = z) : EVH X e σ H z := by subst hd; exact h
theorem evh_cmp {op : CmpOp} {k : Bool} (ha : EVH X a σ H d) (hb : ∀ H1, Same H H1 → EVH X b σ H1 z) (ho : OpD X (compareOp op) d z (.bool k)) (hm : behindInMarks op b = false) : EVH X (.Compare a [op] [b] pos) σ H (.bool k) := fun Q q =>
  rd_of (pe_cmpR ho.opR pe_any pe_any hm) (ha _ fun x H1 e1 dx => hb H1 e1 _ fun y H2 e2 dy => ⟨dp_same e2 dx, dy, fun v H3 e3 dv => q v H3 ((e1.trans e2).trans e3) dv⟩)
theorem evh_and {rest : List Expr} {x y : Bool} (ha : EVH X a σ H (.bool x)) (hb : x = true → ∀ H1, Same H H1 → EVH X (.BoolOp .And (b :: rest) pos) σ H1 (.bool y)) : EVH X (.BoolOp .And (a :: b :: rest) pos) σ H (.bool (x && y)) := fun Q q =>
  rd_of (pe_and pe_any pe_any) (ha _ fun v H1 e1 dv => by
    cases dv
    refine ⟨x, rfl, ?_⟩
    cases x with
    | true => exact iteT (hb rfl H1 e1 _ fun v2 H2 e2 dv2 => q v2 H2 (e1.trans e2) dv2)
    | false => exact iteF (q _ H1 e1 (.bl _)))
theorem evh_one {k : Bool} (h : EVH X a σ H (.bool k)) : EVH X (.BoolOp .And [a] pos) σ H (.bool k) := fun Q q => rd_of (pe_one pe_any) (h _ fun v H1 e1 dv => q v H1 e1 dv)
/-- tuple(l) -/
theorem evh_tup (h : EVLH X e σ H ds) (hg : Gl X "tuple") (hm : X.mg "tuple" = none) (hs : starEach [e] X.env = (false, eval e X.env) :: starEach [] X.env := by rfl) (hpl : (backTo pos (starEach [] X.env)).any (·.1) = false := by rfl) : EVH X (.Call (.Name "tuple" p) [e] [] pos) σ H (.tuple ds) := fun Q q =>
  rd_of (pe_callTy call_tuple_of hg hm (by decide +kernel) (pa_cons pe_any pa_nil hs) (by decide) (by decide) hs hpl) (h _ fun v H1 hv => by
    obtain ⟨l, vs, rfl, h1, h2, h3, h4⟩ := hv
    refine ⟨l, vs, rfl, .inl ⟨.of h3, fun l2 hl2 => q _ _ (h2.trans (same_new hl2)) (.tup (.inl (.inl upd_same)) (dps_same (same_new hl2) h4))⟩⟩)
theorem evf_tup (h : EVH X e σ H (.list (ns.map .int))) (hg : Gl X "tuple") (hm : X.mg "tuple" = none) (hs : starEach [e] X.env = (false, eval e X.env) :: starEach [] X.env := by rfl) (hpl : (backTo pos (starEach [] X.env)).any (·.1) = false := by rfl) : EVFH X (.Call (.Name "tuple" p) [e] [] pos) σ H ns := fun Q q =>
  rd_of (pe_callTy cr_tupleF hg hm (by decide +kernel) (pa_cons pe_any pa_nil hs) (by decide) (by decide) hs hpl) (h _ fun v H1 e1 hv => by
    cases hv with
    | lst h3 h4 =>
      rw [h4.ints] at h3
      exact ⟨_, ns, rfl, .of h3, fun l2 H2 hl2 e2 fz => q l2 H2 (e1.trans e2) fz⟩)
theorem evf_var {i : Nat} {x : Str} {l : Addr} (hi : σ[i]? = some (some (.ref l))) (fz : FzI H l ns) (hN : X.N[i]? = some x) (hv : Vis X.env.scope x) (hd : (x == ("__debug__" : Str)) = false := by decide) (hcd : (x == ("__classdict__" : Str)) = false := by decide) : EVFH X (.Name x p) σ H ns := fun Q q =>
  rd_of (pe_var hN hv hd hcd) ⟨_, hi, q l H (Same.refl H) fz⟩
theorem go_retH {rest : List Stmt} {D : Ends} (h : EVH X e σ H d) (q : ∀ v H', Same H H' → Dq X.K H' v d → D.rt v H') : GO X (.Return (some e) pos :: rest) D σ H := go_cons (ps_ret pe_any) (h _ q)
theorem go_setH {rest : List Stmt} {D : Ends} {B : Hp} {ρ : List Sl} {γ : List (V × Sl)} {x : Str} {py : Pos} (A : At X.K B H σ ρ γ) (i : Nat) (hN : X.N.Nodup) (hi : X.N[i]? = some x) (hx : Loc X.env.scope x) (h : EVH X e σ H d) (hn : noL d = true) (q : ∀ v H', At X.K B H' (σ.set i (some v)) (ρ.set i (.im d)) γ → GO X rest D (σ.set i (some v)) H')
    (hs : swapsWith e (some (.Name x py)) pos.line X.env = pure false := by rfl) (hf : X.fn x = true ∨ X.env.scope.names.lookup x = some .local := by first | exact .inl rfl | exact .inr rfl | assumption) : GO X (.Assign [.Name x py] e pos :: rest) D σ H :=
  go_cons (ps_set hN hi hx pe_any hs hf) (h _ fun v H' e1 dv => q v H' ((A.to e1).setI i dv hn))
theorem go_appendH {rest : List Stmt} {D : Ends} {B : Hp} {ρ : List Sl} {γ : List (V × Sl)} {l : Addr} {n : Str} {pn pa pc : Pos} (A : At X.K B H σ ρ γ) (i : Nat) (hi : ρ[i]? = some (.ml l ds)) (hN : X.N[i]? = some n) (hv : Vis X.env.scope n) (h : EVH X e σ H d) (hn : noL d = true) (hz : ds.length < 100000)
    (q : ∀ H', At X.K B H' σ (ρ.set i (.ml l (ds ++ [d]))) γ → GO X rest D σ H')
    (hbase : attributeBase (.Name n pn) "append" X.env (eval (.Name n pn) X.env) = eval (.Name n pn) X.env := by rfl)
    (hfew : ((backTo pc (starEach [e] X.env)).all (fun x => !x.1) && (backToKw pc (keywordEach [] X.env)).all (fun x => x.1.isSome) && decide ([e].length + ([] : List Keyword).length + (if ([] : List Keyword).isEmpty then 0 else 1) < 30)) = true := by rfl)
    (hline : (pa.endLine == pc.line) = true := by rfl) (hs : starEach [e] X.env = (false, eval e X.env) :: starEach [] X.env := by rfl) (hplain : (backTo pc (starEach [] X.env)).any (·.1) = false := by rfl)
    (hsw : swapsWith (.Call (.Attribute (.Name n pn) "append" pa) [e] [] pc) none pos.line X.env = pure false := by rfl) (hd : (n == ("__debug__" : Str)) = false := by decide) (hcd : (n == ("__classdict__" : Str)) = false := by decide) :
    GO X (.Expr (.Call (.Attribute (.Name n pn) "append" pa) [e] [] pc) pos :: rest) D σ H := by
  obtain ⟨h1, ⟨vs, h5, h6⟩, h3, h4⟩ := A.lst hi
  refine go_cons (ps_expr (pe_bm PySem.F.plainAttrs_list PySem.F.slot_list_append PySem.F.type_list_append mt_append (pe_var hN hv hd hcd) (pa_cons pe_any pa_nil hs) hbase hfew hline hs hplain) hsw) ?_
  refine ⟨_, h1, .inl ⟨rfl, _, .of h5⟩, h _ fun w H' e1 dw => ?_⟩
  refine ⟨l, vs, w, rfl, rfl, e1 _ _ h5, Nat.lt_of_lt_of_le (by rw [h6.length]; exact hz) (by decide), ?_⟩
  refine q _ ((A.to e1).mut hi ((dps_same e1 h6).append (.cons dw .nil)) (noLs_iff.mpr fun z hz => ?_))
  rcases List.mem_append.mp hz with hz | hz
  · exact noLs_iff.mp h4 z hz
  · rw [List.mem_singleton] at hz
    rw [hz]
    exact hn
end
end TH

namespace TH
open PySem PySem.Spec L2 PyProof.Rows RZ
section
variable {X : Cx} {r : List (Option PyData)} {a b o e tg : Expr} {pos p apos : Pos} {ds es : List PyData} {d : PyData}
theorem oc_notB {x y : Bool} : OpD X (compareOp .IsNot) (.bool x) (.bool y) (.bool (!decide (x = y))) := .of op_notBl fun u v H dx dy => by cases dx; cases dy; exact ⟨_, _, rfl, rfl, Same.refl H, .bl _⟩
theorem oc_isB {x y : Bool} : OpD X (compareOp .Is) (.bool x) (.bool y) (.bool (decide (x = y))) := .of op_isBl fun u v H dx dy => by cases dx; cases dy; exact ⟨_, _, rfl, rfl, Same.refl H, .bl _⟩
theorem dq_erase {K : PySem.W.Frag} {H : Hp} : ∀ {vs : List V} {ds : List PyData}, DqAll K H vs ds → ∀ m, DqAll K H (vs.eraseIdx m) (ds.eraseIdx m)
  | _, _, .nil, _ => .nil
  | _, _, .cons _ t, 0 => t
  | _, _, .cons h t, m + 1 => .cons h (dq_erase t m)
/-- the pairs of a zip -/
abbrev zD (ds es : List PyData) : List PyData := List.zipWith (fun d e => .tuple [d, e]) ds es
theorem zD_get {i : Nat} {x y : PyData} (h1 : ds[i]? = some x) (h2 : es[i]? = some y) : (zD ds es)[i]? = some (.tuple [x, y]) := by
  rw [List.getElem?_zipWith, h1, h2]
theorem zD_len (ds es : List PyData) : (zD ds es).length = min ds.length es.length := List.length_zipWith
theorem zD_noL (h1 : noLs ds = true) (h2 : noLs es = true) : noLs (zD ds es) = true := noLs_iff.mpr fun z hz => by
  obtain ⟨i, hi, e⟩ := List.getElem_of_mem hz
  rw [List.getElem_zipWith] at e
  subst e
  have q1 := noLs_iff.mp h1 _ (List.getElem_mem (by rw [zD_len] at hi; omega : i < ds.length))
  have q2 := noLs_iff.mp h2 _ (List.getElem_mem (by rw [zD_len] at hi; omega : i < es.length))
  simp [noL, noLs, q1, q2]
theorem zip_go {K : PySem.W.Frag} {H : Hp} {a b : Addr} {i : Nat} (h1 : Dq K H (.ref a) (.tuple ds)) (h2 : Dq K H (.ref b) (.tuple es)) (hi : i < (zD ds es).length) : (ItzT K a b).go i H := by
  rw [zD_len] at hi
  cases h1 with
  | tup q1 q2 =>
    cases h2 with
    | tup q3 q4 => exact ⟨_, _, _, _, q1, q3, List.getElem?_eq_getElem (by rw [q2.length]; omega), List.getElem?_eq_getElem (by rw [q4.length]; omega)⟩
theorem zip_stop {K : PySem.W.Frag} {H : Hp} {a b : Addr} (h1 : Dq K H (.ref a) (.tuple ds)) (h2 : Dq K H (.ref b) (.tuple es)) : (ItzT K a b).stop (zD ds es).length H := by
  rw [zD_len]
  cases h1 with
  | tup q1 q2 =>
    cases h2 with
    | tup q3 q4 =>
      refine ⟨_, _, q1, q3, ?_⟩
      rw [q2.length, q4.length]
      omega
theorem zip_yld {K : PySem.W.Frag} {H H' : Hp} {a b : Addr} {i : Nat} {x : V} (h1 : Dq K H (.ref a) (.tuple ds)) (h2 : Dq K H (.ref b) (.tuple es)) (hy : (ItzT K a b).yld i H x H') : Same H H' ∧ ∃ d, (zD ds es)[i]? = some d ∧ Dq K H' x d := by
  obtain ⟨T, u, v, rfl, hT, rfl, k1, k2⟩ := hy
  cases h1 with
  | tup q1 q2 =>
    cases h2 with
    | tup q3 q4 =>
      obtain ⟨d1, g1, g2⟩ := q2.get (k1 _ q1)
      obtain ⟨d2, g3, g4⟩ := q4.get (k2 _ q3)
      have sm := same_new (o := .tup [u, v]) hT
      exact ⟨sm, _, zD_get g1 g3, .tup (.inl (.inl upd_same)) (.cons (dp_same sm g2) (.cons (dp_same sm g4) .nil))⟩
/-- a walk over zip(a, b), tuples -/
theorem it_zip {elts : List Expr} {kk : Nat} {tpos : Pos} (h : EVS X [a, b] r [.tuple ds, .tuple es]) (hn1 : noLs ds = true) (hn2 : noLs es = true) (hg : Gl X "zip") (hm : X.mg "zip" = none)
    (hs : starEach [a, b] X.env = (false, eval a X.env) :: starEach [b] X.env := by rfl) (hpl : (backTo pos (starEach [b] X.env)).any (·.1) = false := by rfl) : ITR Tk X (.Tuple elts kk tpos) (.Call (.Name "zip" p) [a, b] [] pos) r (zD ds es) :=
  ⟨_, pi_zipA hg hm pa_any hs hpl, fun σ H E R q => h.use E fun vs H1 e1 dv => by
    obtain ⟨x, y, rfl, dx, dy⟩ := dq2 dv
    have dx0 := dx
    have dy0 := dy
    cases dx with
    | tup q1 q2 =>
      cases dy with
      | tup q3 q4 =>
        have st : ∀ H2, Tk H1 H2 → Dq X.K H2 _ (.tuple ds) ∧ Dq X.K H2 _ (.tuple es) := fun H2 tk => ⟨dp_tk tk dx0 (by simpa [noL] using hn1), dp_tk tk dy0 (by simpa [noL] using hn2)⟩
        refine ⟨_, _, _, _, rfl, .inr ⟨q1, q3, q _ H1 e1 ⟨fun i H2 tk hi => zip_go (st H2 tk).1 (st H2 tk).2 hi, fun H2 tk => zip_stop (st H2 tk).1 (st H2 tk).2, fun i H2 v H3 tk hi hy => zip_yld (st H2 tk).1 (st H2 tk).2 hy⟩⟩⟩⟩
/-- l.index(e), a list of data -/
theorem ev_index {k j : Nat} {z : PyData} (hr : Room k X.A) (ho : EV X o r (.list ds)) (he : EV X e r d) (s1 : SeqAt.shaped (.list ds) = true) (s2 : SeqAt.shaped d = true) (hz : ds[j]? = some z) (hq : PyData.eqv z d = true) (hno : ∀ (m : Nat) (y : PyData), m < j → ds[m]? = some y → PyData.eqv y d = false)
    (hbase : attributeBase o "index" X.env (eval o X.env) = eval o X.env := by rfl)
    (hfew : ((backTo pos (starEach [e] X.env)).all (fun x => !x.1) && (backToKw pos (keywordEach [] X.env)).all (fun x => x.1.isSome) && decide ([e].length + ([] : List Keyword).length + (if ([] : List Keyword).isEmpty then 0 else 1) < 30)) = true := by rfl)
    (hline : (apos.endLine == pos.line) = true := by rfl) (hs : starEach [e] X.env = (false, eval e X.env) :: starEach [] X.env := by rfl) (hplain : (backTo pos (starEach [] X.env)).any (·.1) = false := by rfl) : EV X (.Call (.Attribute o "index" apos) [e] [] pos) r (dN j) :=
  .mk' (pe_bm PySem.F.plainAttrs_list PySem.F.slot_list_index PySem.F.type_list_index (mt_indexD (room65 hr)) pe_any (pa_cons pe_any pa_nil hs) hbase hfew hline hs hplain) fun σ H E => ho.use E fun v H1 e1 dv => by
    have dv0 := dv
    cases dv with
    | lst h1 h2 =>
      refine ⟨.inl ⟨rfl, _, .of h1⟩, he.use (E.same e1) fun w H2 e2 dw => ?_⟩
      exact ⟨_, w, d, ds, j, z, rfl, rfl, (dp_same e2 dv0).dp, dw.dp, s1, s2, hz, hq, hno, e1.trans e2, .int _⟩
end
section
variable {X : Cx} {rest : List Stmt} {D : Ends} {σ : L2.St} {B H : Hp} {ρ : List Sl} {γ : List (V × Sl)} {a b e : Expr} {body : List Stmt} {pos p pos2 : Pos} {x : Str} {ds es : List PyData} {g : TG} {u : PyData → List Sl → List Sl} {Iv : Nat → List Sl → Prop}
/-- for x, y in zip(a, b), tuples -/
theorem go_forZ {elts : List Expr} {kk : Nat} {tpos : Pos} (A : At X.K B H σ ρ γ) (hp : PassesOwn (model X.prog X.w) X.A X.env X.xe) (hc : X.calm = true) (src : EVS X [a, b] (ρ.map view) [.tuple ds, .tuple es]) (hn1 : noLs ds = true) (hn2 : noLs es = true) (hgz : Gl X "zip") (hmz : X.mg "zip" = none) (hg : PG X (.Tuple elts kk tpos) g) (hr : ∀ d ∈ zD ds es, RdA X.K g d (u d)) (h0 : Iv 0 ρ)
    (step : ∀ γ' i d ρ' σ' H', (zD ds es)[i]? = some d → Iv i ρ' → At X.K B H' σ' (u d ρ') γ' → GO X body { D with nx := NX X.K B γ' (Iv (i + 1)), ct := NX X.K B γ' (Iv (i + 1)), bk := fun σ H => GO X rest D σ H } σ' H') (done : ∀ ρ' σ' H', Iv (zD ds es).length ρ' → At X.K B H' σ' ρ' γ → GO X rest D σ' H')
    (hs2 : starEach [a, b] X.env = (false, eval a X.env) :: starEach [b] X.env := by rfl) (hpl : (backTo pos (starEach [b] X.env)).any (·.1) = false := by rfl)
    (hs : ∀ x, foldedSetIterable (.Call (.Name "zip" p) [a, b] [] pos) X.env x = pure x := by intro _; rfl) : GO X (.For (.Tuple elts kk tpos) (.Call (.Name "zip" p) [a, b] [] pos) body [] pos2 :: rest) D σ H := by
  refine go_cons (ps_for hp hc (pi_zipA hgz hmz pa_any hs2 hpl) hg pss_any hs) (src.use A.envD fun vs H1 e1 dv => ?_)
  obtain ⟨v1, v2, rfl, d1, d2⟩ := dq2 dv
  have n1 : noL (.tuple ds) = true := by simpa [noL] using hn1
  have n2 : noL (.tuple es) = true := by simpa [noL] using hn2
  have A1 : At X.K B H1 σ ρ ((v1, .im (.tuple ds)) :: (v2, .im (.tuple es)) :: γ) := ((A.to e1).addG (x := .im (.tuple es)) (.inr ⟨d2, n2⟩) rfl).addG (x := .im (.tuple ds)) (.inr ⟨d1, n1⟩) rfl
  have k1 := d1
  have k2 := d2
  cases d1 with
  | @tup a0 _ _ q1 _ =>
    cases d2 with
    | @tup b0 _ _ q3 _ =>
      refine ⟨_, _, _, _, rfl, .inr ⟨q1, q3, for_core (G := fun H => Dq X.K H (.ref a0) (.tuple ds) ∧ Dq X.K H (.ref b0) (.tuple es)) ⟨fun i H2 gd hi => zip_go gd.1 gd.2 hi, fun H2 gd => zip_stop gd.1 gd.2, fun i H2 y H3 gd hi hy => zip_yld gd.1 gd.2 hy⟩ (zD_noL hn1 hn2) A1 h0 (fun i ρ' σ' H' _ A' => ⟨A'.g0, A'.g1⟩) hr (fun i d ρ' σ' H' hd hv A' => step _ i d ρ' σ' H' hd hv A') fun ρ' σ' H' hv A' => done ρ' σ' H' hv A'.unG.unG⟩⟩
/-- a tuple of ints whose object is known, into slot i -/
theorem go_setF {ns : List Int} {py : Pos} (A : At X.K B H σ ρ γ) (i : Nat) (hN : X.N.Nodup) (hi : X.N[i]? = some x) (hx : Loc X.env.scope x) (h : EVFH X e σ H ns) (q : ∀ l H', FzI H' l ns → At X.K B H' (σ.set i (some (.ref l))) (ρ.set i (.fx (.ref l) (.tuple (ns.map .int)))) γ → GO X rest D (σ.set i (some (.ref l))) H')
    (hs : swapsWith e (some (.Name x py)) pos.line X.env = pure false := by rfl) (hf : X.fn x = true ∨ X.env.scope.names.lookup x = some .local := by first | exact .inl rfl | exact .inr rfl | assumption) : GO X (.Assign [.Name x py] e pos :: rest) D σ H :=
  go_cons (ps_set hN hi hx pe_any hs hf) (h _ fun l H' e1 fz => q l H' fz ((A.to e1).set0 (x := .fx (.ref l) (.tuple (ns.map .int))) i rfl ⟨rfl, .inr ⟨fz.dq, by
    simp only [noL]
    exact noLs_map (fun _ => rfl) ns⟩⟩))
/-- xs.append(ys.pop(e)), e is drawn -/
theorem go_appPop {i j l n k c : Nat} {R : PyData → Prop} {t q r : Addr} {us : List PyData} {xn yn : Str} {pn pa pc pn2 pa2 pc2 : Pos} (A : At X.K B H σ (ρ.set i (.ml t ds)) γ) (tw : Tw n c ds) (hc : c + k ≤ 2 ^ 60) (hj : ρ[j]? = some (.ml q es)) (hl : ρ[l]? = some (.ml r us)) (hij : i ≠ j) (hil : i ≠ l) (hlj : l ≠ j) (hNj : X.N[j]? = some xn) (hvj : Vis X.env.scope xn) (hNl : X.N[l]? = some yn) (hvl : Vis X.env.scope yn)
    (h : EX X i n k e ρ (IM R)) (hk : ∀ y, R y → ∃ m : Nat, m < us.length ∧ y = dN m) (hz : es.length < 100000) (hz2 : us.length < 100000)
    (fin : ∀ (m : Nat) (z : PyData) (ds' : List PyData) (H' : Hp), us[m]? = some z → Tw n (c + k) ds' → At X.K B H' σ (((ρ.set i (.ml t ds')).set l (.ml r (us.eraseIdx m))).set j (.ml q (es ++ [z]))) γ → GO X rest D σ H')
    (hbase : attributeBase (.Name xn pn) "append" X.env (eval (.Name xn pn) X.env) = eval (.Name xn pn) X.env := by rfl) (hbase2 : attributeBase (.Name yn pn2) "pop" X.env (eval (.Name yn pn2) X.env) = eval (.Name yn pn2) X.env := by rfl)
    (hfew : ((backTo pc (starEach [.Call (.Attribute (.Name yn pn2) "pop" pa2) [e] [] pc2] X.env)).all (fun x => !x.1) && (backToKw pc (keywordEach [] X.env)).all (fun x => x.1.isSome) && decide (([.Call (.Attribute (.Name yn pn2) "pop" pa2) [e] [] pc2] : List Expr).length + ([] : List Keyword).length + (if ([] : List Keyword).isEmpty then 0 else 1) < 30)) = true := by rfl)
    (hfew2 : ((backTo pc2 (starEach [e] X.env)).all (fun x => !x.1) && (backToKw pc2 (keywordEach [] X.env)).all (fun x => x.1.isSome) && decide ([e].length + ([] : List Keyword).length + (if ([] : List Keyword).isEmpty then 0 else 1) < 30)) = true := by rfl)
    (hline : (pa.endLine == pc.line) = true := by rfl) (hline2 : (pa2.endLine == pc2.line) = true := by rfl) (hs : starEach [.Call (.Attribute (.Name yn pn2) "pop" pa2) [e] [] pc2] X.env = (false, eval (.Call (.Attribute (.Name yn pn2) "pop" pa2) [e] [] pc2) X.env) :: starEach [] X.env := by rfl) (hs2 : starEach [e] X.env = (false, eval e X.env) :: starEach [] X.env := by rfl)
    (hplain : (backTo pc (starEach [] X.env)).any (·.1) = false := by rfl) (hplain2 : (backTo pc2 (starEach [] X.env)).any (·.1) = false := by rfl)
    (hsw : swapsWith (.Call (.Attribute (.Name xn pn) "append" pa) [.Call (.Attribute (.Name yn pn2) "pop" pa2) [e] [] pc2] [] pc) none pos.line X.env = pure false := by rfl) (hd : (xn == ("__debug__" : Str)) = false := by decide) (hcd : (xn == ("__classdict__" : Str)) = false := by decide) (hd2 : (yn == ("__debug__" : Str)) = false := by decide) (hcd2 : (yn == ("__classdict__" : Str)) = false := by decide) :
    GO X (.Expr (.Call (.Attribute (.Name xn pn) "append" pa) [.Call (.Attribute (.Name yn pn2) "pop" pa2) [e] [] pc2] [] pc) pos :: rest) D σ H := by
  have hj' : ∀ ds, (ρ.set i (.ml t ds))[j]? = some (.ml q es) := fun ds => by rw [List.getElem?_set_ne hij]; exact hj
  have hl' : ∀ ds, (ρ.set i (.ml t ds))[l]? = some (.ml r us) := fun ds => by rw [List.getElem?_set_ne hil]; exact hl
  obtain ⟨h1, ⟨vs, h2, h3⟩, h4, h5⟩ := A.lst (hj' ds)
  obtain ⟨g1, ⟨ws, g2, g3⟩, g4, g5⟩ := A.lst (hl' ds)
  refine go_cons (ps_expr (pe_bm PySem.F.plainAttrs_list PySem.F.slot_list_append PySem.F.type_list_append mt_append (pe_var hNj hvj hd hcd) (pa_cons (pe_bm PySem.F.plainAttrs_list PySem.F.slot_list_pop PySem.F.type_list_pop mt_popAt (pe_var hNl hvl hd2 hcd2) (pa_cons pe_any pa_nil hs2) hbase2 hfew2 hline2 hs2 hplain2) pa_nil hs) hbase hfew hline hs hplain) hsw) ?_
  refine ⟨_, h1, .inl ⟨rfl, _, .of h2⟩, _, g1, .inl ⟨rfl, _, .of g2⟩, h.use hc tw A fun w x ds' H' ⟨y, hx, hy⟩ tw' A' => ?_⟩
  subst hx
  obtain ⟨m, hm, rfl⟩ := hk y hy
  have dw := A'.g0
  cases dw
  obtain ⟨_, ⟨ws', k2, k3⟩, _, k5⟩ := A'.lst (hl' ds')
  obtain ⟨z, hz'⟩ : ∃ z, us[m]? = some z := ⟨_, List.getElem?_eq_getElem hm⟩
  obtain ⟨vz, hvz, dz⟩ := k3.get' hz'
  refine ⟨r, ws', (m : Nat), m, vz, rfl, rfl, k2, by omega, by omega, ?_, hvz, ?_⟩
  · unfold seqIndex?
    rw [k3.length]
    simp
    omega
  have nz : noL z = true := noLs_iff.mp k5 z (List.mem_of_getElem? hz')
  have A2 := (A'.addG (v := vz) (x := .im z) (.inr ⟨dz, nz⟩) rfl).mut (i := l) (es := us.eraseIdx m) (ws := ws'.eraseIdx m) (hl' ds') ?_ (noLs_iff.mpr fun y hy => noLs_iff.mp k5 y (List.mem_of_mem_eraseIdx hy))
  · have hj2 : ((ρ.set i (.ml t ds')).set l (.ml r (us.eraseIdx m)))[j]? = some (.ml q es) := by rw [List.getElem?_set_ne hlj]; exact hj' ds'
    obtain ⟨_, ⟨vs', m2, m3⟩, _, m5⟩ := A2.lst hj2
    refine ⟨q, vs', vz, rfl, rfl, m2, Nat.lt_of_lt_of_le (by rw [m3.length]; exact hz) (by decide), ?_⟩
    refine fin m z ds' _ hz' tw' (A2.unG.unG.mut hj2 (m3.append (.cons A2.g0 .nil)) (noLs_iff.mpr fun y hy => ?_))
    rcases List.mem_append.mp hy with hy | hy
    · exact noLs_iff.mp m5 y hy
    · rw [List.mem_singleton] at hy
      rw [hy]
      exact nz
  · exact dq_erase k3 m
end
end TH

namespace TH
open PySem PySem.Spec L2 PyProof.Rows
/-! ## the script -/
section
variable {X : Cx} {σ : L2.St} {B H : Hp} {ρ : List Sl} {γ : List (V × Sl)} {a b e : Expr} {pos p pn : Pos} {x : Str} {d z y : PyData} {sa : Addr} {ss : List Int} {i : Nat}
theorem At.scr {K : PySem.W.Frag} (A : At K B H σ ρ γ) (hi : ρ[i]? = some (.sc sa ss)) : σ[i]? = some (some (.ref sa)) ∧ SqL K H sa (ss.map V.int) := by
  obtain ⟨v, h1, h2, h3⟩ := (A.ok i _ hi).resolve_left (by intro z; cases z)
  subst h2
  exact ⟨h1, sqL_same A.same h3⟩
theorem evh_bin {op : Operator} (ha : EVH X a σ H d) (hb : ∀ H1, Same H H1 → EVH X b σ H1 y) (ho : OpD X (binaryOp op) d y z) : EVH X (.BinOp a op b pos) σ H z := fun Q q =>
  rd_of (pe_op ho.opR pe_any pe_any) (ha _ fun u H1 e1 dx => hb H1 e1 _ fun v H2 e2 dy => ⟨dp_same e2 dx, dy, fun w H3 e3 dv => q w H3 ((e1.trans e2).trans e3) dv⟩)
theorem evh_lenS (A : At X.K B H σ ρ γ) (hi : ρ[i]? = some (.sc sa ss)) (hN : X.N[i]? = some x) (hv : Vis X.env.scope x) (hg : Gl X "len") (hm : X.mg "len" = none) (hs : starEach [.Name x pn] X.env = (false, eval (.Name x pn) X.env) :: starEach [] X.env := by rfl) (hpl : (backTo pos (starEach [] X.env)).any (·.1) = false := by rfl)
    (hd : (x == ("__debug__" : Str)) = false := by decide) (hcd : (x == ("__classdict__" : Str)) = false := by decide) : EVH X (.Call (.Name "len" p) [.Name x pn] [] pos) σ H (dN ss.length) := fun Q q => by
  obtain ⟨h1, h2⟩ := A.scr hi
  refine rd_of (pe_callB call_len_seq hg hm (by decide +kernel) (pa_cons (pe_var hN hv hd hcd) pa_nil hs) (by decide) (by decide) hs hpl) ⟨_, h1, sa, _, rfl, .inl h2, q _ H (Same.refl H) ?_⟩
  rw [List.length_map]
  exact .int _
theorem evh_ixS {k : Nat} {s : Int} (A : At X.K B H σ ρ γ) (hi : ρ[i]? = some (.sc sa ss)) (hN : X.N[i]? = some x) (hv : Vis X.env.scope x) (he : EVH X e σ H (dN k)) (hk : ss[k]? = some s) (hs : PlainIx e := by intro _ _; rfl) (hd : (x == ("__debug__" : Str)) = false := by decide) (hcd : (x == ("__classdict__" : Str)) = false := by decide) : EVH X (.Subscript (.Name x pn) e pos) σ H (.int s) := fun Q q => by
  obtain ⟨h1, h2⟩ := A.scr hi
  refine rd_of (pe_ix ix_list (pe_var hN hv hd hcd) pe_any hs) ⟨_, h1, he _ fun v H1 e1 dv => ?_⟩
  cases dv
  exact ⟨sa, _, k, .int s, rfl, rfl, sqL_same e1 h2, atI_nat (by rw [List.getElem?_map, hk]; rfl), q _ H1 e1 (.int _)⟩
/-- list(script) -/
theorem evl_listS (A : At X.K B H σ ρ γ) (hi : ρ[i]? = some (.sc sa ss)) (hN : X.N[i]? = some x) (hv : Vis X.env.scope x) (hg : Gl X "list") (hm : X.mg "list" = none) (hs : starEach [.Name x pn] X.env = (false, eval (.Name x pn) X.env) :: starEach [] X.env := by rfl) (hpl : (backTo pos (starEach [] X.env)).any (·.1) = false := by rfl)
    (hd : (x == ("__debug__" : Str)) = false := by decide) (hcd : (x == ("__classdict__" : Str)) = false := by decide) : EVLH X (.Call (.Name "list" p) [.Name x pn] [] pos) σ H (ss.map .int) := fun Q q => by
  obtain ⟨h1, h2⟩ := A.scr hi
  exact rd_of (pe_callTy call_list_of hg hm (by decide +kernel) (pa_cons (pe_var hN hv hd hcd) pa_nil hs) (by decide) (by decide) hs hpl) ⟨_, h1, sa, _, rfl, .inl h2, fun l hl => q _ _ ⟨l, _, rfl, hl, same_new hl, upd_same, dps_ints ss⟩⟩
theorem EVLH.h {ds : List PyData} (h : EVLH X e σ H ds) : EVH X e σ H (.list ds) := fun Q q => h _ fun v H' ⟨l, vs, e0, e1, e2, e3, e4⟩ => q v H' e2 (by rw [e0]; exact .lst e3 e4)
theorem evlh_bin {op : Operator} {zs : List PyData} (ha : EVH X a σ H d) (hb : ∀ H1, Same H H1 → EVH X b σ H1 y) (ho : OpL X (binaryOp op) d y zs) : EVLH X (.BinOp a op b pos) σ H zs := fun Q q =>
  rd_of (pe_op ho.opR pe_any pe_any) (ha _ fun u H1 e1 dx => hb H1 e1 _ fun v H2 e2 dy => ⟨dp_same e2 dx, dy, fun w H3 q3 => q w H3 (q3.back (e1.trans e2))⟩)
/-- a test at one heap -/
def ETH (X : Cx) (e : Expr) (σ : L2.St) (H : Hp) (b : Bool) : Prop := ∀ Q : Bool → Hp → Prop, (∀ H', Same H H' → Q b H') → tT X e σ H Q
theorem rdT_of {t : TT} {Q : Bool → Hp → Prop} (h : PT X e t) (q : t σ H Q) : tT X e σ H Q := fun pins s I => h.run pins s σ H Q I q
theorem eth_cmp {op : CmpOp} {k : Bool} (ha : EVH X a σ H d) (hb : ∀ H1, Same H H1 → EVH X b σ H1 z) (ho : OpD X (compareOp op) d z (.bool k)) (hm : behindInMarks op b = false) : ETH X (.Compare a [op] [b] pos) σ H k := fun Q q =>
  rdT_of (pt_cmpR ho.opR pe_any pe_any hm) (ha _ fun x H1 e1 dx => hb H1 e1 _ fun y H2 e2 dy => ⟨dp_same e2 dx, dy, fun v H3 e3 dv => by
    cases dv
    exact ⟨_, rfl, q H3 ((e1.trans e2).trans e3)⟩⟩)
/-- script == [] -/
theorem eth_eqS {k : Nat} (hr : Room k X.A) (A : At X.K B H σ ρ γ) (hi : ρ[i]? = some (.sc sa ss)) (hN : X.N[i]? = some x) (hv : Vis X.env.scope x) (hb : ∀ H1, Same H H1 → EVH X b σ H1 (.list [])) (hm : behindInMarks .Eq b = false) (hd : (x == ("__debug__" : Str)) = false := by decide) (hcd : (x == ("__classdict__" : Str)) = false := by decide) : ETH X (.Compare (.Name x pn) [.Eq] [b] pos) σ H (decide (ss = [])) := fun Q q => by
  obtain ⟨h1, h2⟩ := A.scr hi
  refine rdT_of (pt_cmpR (op_eqD hr.units) (pe_var hN hv hd hcd) pe_any hm) ⟨_, h1, hb H (Same.refl H) _ fun v H1 e1 dv => ?_⟩
  refine ⟨.list (ss.map .int), .list [], .lst (sqL_same e1 h2) (dps_ints ss).dp, dv.dp, sh_mapL sh_int ss, by decide, _, rfl, ?_⟩
  rw [show PyData.list [] = .list (([] : List Int).map .int) from rfl, eqv_mapL eqv_int]
  exact q H1 e1
theorem eth_and {rest : List Expr} {k : Bool} {m : Bool} (ha : ETH X a σ H k) (hb : k = true → ∀ H1, Same H H1 → ∀ (wh : Sem Value) (Q : Bool → Hp → Prop), (∀ H', Same H1 H' → Q m H') → ∀ (pins : List (Addr × Obj)) (s : Shared), Inv X pins σ H1 s → wpAny (model X.prog X.w) X.A (isTrue (.BoolOp .And (b :: rest) pos) X.env wh) (TP X pins σ Q) X.xe s) : ETH X (.BoolOp .And (a :: b :: rest) pos) σ H (k && m) := fun Q q =>
  rdT_of (PW.pt (pw_and (tB' := tW X (.BoolOp .And (b :: rest) pos)) pt_any pw_any)) (ha _ fun H1 e1 => by
    cases k with
    | true => exact iteT fun wh pins s I => hb rfl H1 e1 wh _ (fun H2 e2 => q H2 (e1.trans e2)) pins s I
    | false => exact iteF (q H1 e1))
theorem go_setLH {rest : List Stmt} {D : Ends} {ds : List PyData} {py : Pos} (A : At X.K B H σ ρ γ) (i : Nat) (hN : X.N.Nodup) (hi : X.N[i]? = some x) (hx : Loc X.env.scope x) (h : EVLH X e σ H ds) (hn : noLs ds = true) (q : ∀ p H', At X.K B H' (σ.set i (some (.ref p))) (ρ.set i (.ml p ds)) γ → GO X rest D (σ.set i (some (.ref p))) H')
    (hs : swapsWith e (some (.Name x py)) pos.line X.env = pure false := by rfl) (hf : X.fn x = true ∨ X.env.scope.names.lookup x = some .local := by first | exact .inl rfl | exact .inr rfl | assumption) : GO X (.Assign [.Name x py] e pos :: rest) D σ H :=
  go_cons (ps_set hN hi hx pe_any hs hf) (h _ fun v H' ⟨p, vs, e0, e1, e2, e3, e4⟩ => by
    subst e0
    exact q p H' (A.setL i e1 e2 e3 e4 hn))
theorem go_ifH {rest body els : List Stmt} {D : Ends} {k : Bool} {c : Expr} (A : At X.K B H σ ρ γ) (h : ETH X c σ H k) (h1 : k = true → ∀ H', At X.K B H' σ ρ γ → GO X body { D with nx := fun σ H => GO X rest D σ H } σ H') (h2 : k = false → ∀ H', At X.K B H' σ ρ γ → GO X els { D with nx := fun σ H => GO X rest D σ H } σ H') : GO X (.If c body els pos :: rest) D σ H :=
  go_cons (ps_if pt_any pss_any pss_any) (h _ fun H' e1 => by
    cases k with
    | true => exact iteT (h1 rfl H' (A.to e1))
    | false => exact iteF (h2 rfl H' (A.to e1)))
end
end TH

namespace TH
/-! ## reach by rounds -/
def newW (met : List Nat) : Way → Bool
  | .h z => !decide (z ∈ met)
  | .x _ => false
def hallW : Way → Nat
  | .h z => z
  | .x _ => 0
def newOf (h : House) (met : List Nat) (o : Nat) : List Nat := ((row h o).filter (newW met)).map hallW
theorem mem_newOf {h : House} {met : List Nat} {o z : Nat} : z ∈ newOf h met o ↔ Way.h z ∈ row h o ∧ z ∉ met := by
  unfold newOf
  rw [List.mem_map]
  constructor
  · rintro ⟨v, hv, rfl⟩
    obtain ⟨h1, h2⟩ := List.mem_filter.mp hv
    cases v with
    | h z => exact ⟨h1, by simpa [newW, hallW] using h2⟩
    | x c => simp [newW] at h2
  · rintro ⟨h1, h2⟩
    exact ⟨.h z, List.mem_filter.mpr ⟨h1, by simpa [newW] using h2⟩, rfl⟩
/-- few: no more than three times as many as there are different ones -/
def Few (met : List Nat) : Prop := ∃ es : List Nat, es.Nodup ∧ (∀ e ∈ es, e ∈ met) ∧ met.length ≤ 3 * es.length
theorem Few.len {h : House} (g : GoodH h) {met : List Nat} (f : Few met) (hm : ∀ m ∈ met, m < h.length) : met.length ≤ 12 := by
  obtain ⟨es, h1, h2, h3⟩ := f
  have := nodup_le h1 fun e he => hm e (h2 e he)
  have := g.four
  omega
theorem row_len {h : House} (g : GoodH h) (o : Nat) : (row h o).length ≤ 3 := by
  by_cases ho : o < h.length
  · exact (g.rows _ (row_mem ho)).2
  · rw [row_out (by omega)]
    exact Nat.zero_le _
theorem Few.step {h : House} (g : GoodH h) {met : List Nat} (f : Few met) (o : Nat) : Few (met ++ newOf h met o) := by
  obtain ⟨es, h1, h2, h3⟩ := f
  have hl : (newOf h met o).length ≤ 3 := by
    unfold newOf
    rw [List.length_map]
    exact Nat.le_trans (List.length_filter_le _ _) (row_len g o)
  cases hn : newOf h met o with
  | nil => exact ⟨es, h1, fun e he => List.mem_append.mpr (.inl (h2 e he)), by rw [List.append_nil]; exact h3⟩
  | cons z l =>
    rw [hn] at hl
    have hz := (mem_newOf (h := h) (met := met) (o := o) (z := z)).mp (by rw [hn]; exact List.mem_cons_self)
    refine ⟨z :: es, List.nodup_cons.mpr ⟨fun q => hz.2 (h2 z q), h1⟩, fun e he => ?_, ?_⟩
    · rcases List.mem_cons.mp he with rfl | he
      · exact List.mem_append.mpr (.inr List.mem_cons_self)
      · exact List.mem_append.mpr (.inl (h2 e he))
    · rw [List.length_append, List.length_cons (as := es)]
      omega
def Closed (h : House) (met : List Nat) : Prop := ∀ m ∈ met, ∀ z, Way.h z ∈ row h m → z ∈ met
structure RI (h : House) (x : Nat) (m0 met : List Nat) (j : Nat) : Prop where
  sub : ∀ m ∈ m0, m ∈ met
  rc : ∀ m ∈ met, Rch h x m
  done : ∀ m ∈ m0.take j, ∀ z, Way.h z ∈ row h m → z ∈ met
  src : ∀ m ∈ met, m ∈ m0 ∨ ∃ y ∈ m0, Way.h m ∈ row h y
  few : Few met
theorem RI.step {h : House} (g : GoodH h) {x : Nat} {m0 met : List Nat} {j o : Nat} (I : RI h x m0 met j) (ho : m0[j]? = some o) : RI h x m0 (met ++ newOf h met o) (j + 1) := by
  have hm : o ∈ m0 := List.mem_of_getElem? ho
  refine ⟨fun m h => List.mem_append.mpr (.inl (I.sub m h)), fun m hm' => ?_, fun m hm' z hz => ?_, fun m hm' => ?_, I.few.step g o⟩
  · rcases List.mem_append.mp hm' with h1 | h1
    · exact I.rc m h1
    · exact (I.rc o (I.sub o hm)).step (mem_newOf.mp h1).1
  · rw [List.take_add_one, ho] at hm'
    rcases List.mem_append.mp hm' with h1 | h1
    · exact List.mem_append.mpr (.inl (I.done m h1 z hz))
    · have : m = o := by simpa using h1
      subst this
      by_cases hz' : z ∈ met
      · exact List.mem_append.mpr (.inl hz')
      · exact List.mem_append.mpr (.inr (mem_newOf.mpr ⟨hz, hz'⟩))
  · rcases List.mem_append.mp hm' with h1 | h1
    · exact I.src m h1
    · exact .inr ⟨o, hm, (mem_newOf.mp h1).1⟩
structure RO (h : House) (x : Nat) (met : List Nat) (i : Nat) : Prop where
  st : x ∈ met
  rc : ∀ m ∈ met, Rch h x m
  few : Few met
  cl : Closed h met ∨ ∃ es : List Nat, es.Nodup ∧ (∀ e ∈ es, e ∈ met) ∧ i + 1 ≤ es.length
theorem RO.start (h : House) (x : Nat) : RO h x [x] 0 :=
  ⟨by simp, fun m hm => by rw [List.mem_singleton] at hm; subst hm; exact .refl _, ⟨[x], by simp, by simp, by simp⟩, .inr ⟨[x], by simp, by simp, by simp⟩⟩
theorem RO.inner {h : House} {x : Nat} {met : List Nat} {i : Nat} (I : RO h x met i) : RI h x met met 0 :=
  ⟨fun m hm => hm, I.rc, fun m hm => by simp at hm, fun m hm => .inl hm, I.few⟩
theorem RO.step {h : House} {x : Nat} {m0 met : List Nat} {i : Nat} (I : RO h x m0 i) (J : RI h x m0 met m0.length) : RO h x met (i + 1) := by
  have dn : ∀ m ∈ m0, ∀ z, Way.h z ∈ row h m → z ∈ met := fun m hm => J.done m (by rw [List.take_length]; exact hm)
  refine ⟨J.sub x I.st, J.rc, J.few, ?_⟩
  by_cases c : Closed h m0
  · left
    intro m hm z hz
    rcases J.src m hm with h1 | ⟨y, hy, h1⟩
    · exact dn m h1 z hz
    · exact dn m (c y hy m h1) z hz
  · right
    rcases I.cl with q | ⟨es, e1, e2, e3⟩
    · exact absurd q c
    · have : ∃ m ∈ m0, ∃ z, Way.h z ∈ row h m ∧ z ∉ m0 := by
        apply Classical.byContradiction
        intro q
        refine c fun m hm z hz => ?_
        apply Classical.byContradiction
        intro hz'
        exact q ⟨m, hm, z, hz, hz'⟩
      obtain ⟨m, hm, z, hz, hz'⟩ := this
      refine ⟨z :: es, List.nodup_cons.mpr ⟨fun q => hz' (e2 z q), e1⟩, fun e he => ?_, by rw [List.length_cons]; omega⟩
      rcases List.mem_cons.mp he with rfl | he
      · exact dn m hm e hz
      · exact J.sub e (e2 e he)
theorem RO.fin {h : House} (g : GoodH h) {x : Nat} (hx : x < h.length) {met : List Nat} (I : RO h x met h.length) (z : Nat) : z ∈ met ↔ z ∈ reachL h x := by
  have c : Closed h met := by
    rcases I.cl with c | ⟨es, e1, e2, e3⟩
    · exact c
    · have := nodup_le e1 fun e he => (I.rc e (e2 e he)).lt g hx
      omega
  rw [mem_reachL]
  constructor
  · intro hz
    exact ⟨(I.rc z hz).lt g hx, I.rc z hz⟩
  · rintro ⟨hlt, r⟩
    clear hlt
    induction r with
    | refl => exact I.st
    | step _ m ih => exact c _ ih _ m
end TH

namespace TH
/-! ## a house with its halls in another order -/
def IsOrd (n : Nat) (o : List Nat) : Prop := o.Perm (List.range n)
theorem IsOrd.len {n : Nat} {o : List Nat} (h : IsOrd n o) : o.length = n := by rw [h.length_eq, List.length_range]
theorem IsOrd.nd {n : Nat} {o : List Nat} (h : IsOrd n o) : o.Nodup := h.nodup_iff.mpr List.nodup_range
theorem IsOrd.mem {n : Nat} {o : List Nat} (h : IsOrd n o) {k : Nat} : k ∈ o ↔ k < n := by rw [h.mem_iff, List.mem_range]
/-- the hall that is number k of the order -/
def oAt (o : List Nat) (k : Nat) : Nat := o.getD k 0
theorem oAt_some {o : List Nat} {k : Nat} (h : k < o.length) : o[k]? = some (oAt o k) := by
  unfold oAt
  rw [List.getD_eq_getElem?_getD, List.getElem?_eq_getElem h]
  rfl
theorem oAt_lt {n : Nat} {o : List Nat} (h : IsOrd n o) {k : Nat} (hk : k < n) : oAt o k < n := h.mem.mp (List.mem_of_getElem? (oAt_some (by rw [h.len]; exact hk)))
theorem oAt_idx {n : Nat} {o : List Nat} (h : IsOrd n o) {z : Nat} (hz : z < n) : oAt o (o.idxOf z) = z := by
  have hm := h.mem.mpr hz
  have hl := List.idxOf_lt_length_of_mem hm
  have := oAt_some hl
  rw [List.getElem?_eq_getElem hl, List.getElem_idxOf hl] at this
  exact (Option.some.inj this).symm
theorem idx_lt {n : Nat} {o : List Nat} (h : IsOrd n o) {z : Nat} (hz : z < n) : o.idxOf z < n := by
  have := List.idxOf_lt_length_of_mem (h.mem.mpr hz)
  rw [h.len] at this
  exact this
theorem idx_oAt {n : Nat} {o : List Nat} (h : IsOrd n o) {k : Nat} (hk : k < n) : o.idxOf (oAt o k) = k := by
  have h1 := oAt_lt h hk
  have h2 := idx_lt h h1
  have e1 := oAt_some (o := o) (k := o.idxOf (oAt o k)) (by rw [h.len]; exact h2)
  rw [oAt_idx h h1] at e1
  have e2 := oAt_some (o := o) (k := k) (by rw [h.len]; exact hk)
  exact (List.getElem?_inj (by rw [h.len]; exact h2) h.nd).mp (e1.trans e2.symm)
def renW (o : List Nat) : Way → Way
  | .h z => .h (o.idxOf z)
  | .x c => .x c
def ren (h : House) (o : List Nat) : House := o.map fun y => (row h y).map (renW o)
theorem ren_len (h : House) (o : List Nat) : (ren h o).length = o.length := by unfold ren; rw [List.length_map]
theorem ren_row {h : House} {o : List Nat} {k : Nat} (hk : k < o.length) : row (ren h o) k = (row h (oAt o k)).map (renW o) := by
  have h1 : (ren h o)[k]? = some (row (ren h o) k) := row_some (by rw [ren_len]; exact hk)
  unfold ren at h1
  rw [List.getElem?_map, oAt_some hk] at h1
  exact (Option.some.inj h1).symm
theorem ren_good {h : House} (g : GoodH h) {o : List Nat} (ho : IsOrd h.length o) : GoodH (ren h o) := by
  have hl : (ren h o).length = h.length := by rw [ren_len, ho.len]
  refine ⟨by rw [hl]; exact g.one, by rw [hl]; exact g.four, fun r hr => ?_, fun r hr n hn => ?_, ?_⟩
  · unfold ren at hr
    obtain ⟨y, hy, rfl⟩ := List.mem_map.mp hr
    rw [List.length_map]
    exact g.rows _ (row_mem (ho.mem.mp hy))
  · unfold ren at hr
    obtain ⟨y, hy, rfl⟩ := List.mem_map.mp hr
    obtain ⟨v, hv, e⟩ := List.mem_map.mp hn
    cases v with
    | x c => cases e
    | h z =>
      cases e
      rw [hl]
      exact idx_lt ho (g.ways _ (row_mem (ho.mem.mp hy)) z hv)
  · obtain ⟨r, hr, c, hc⟩ := g.exit
    obtain ⟨y, hy, e⟩ := List.getElem_of_mem hr
    have er : row h y = r := by
      have := row_some hy
      rw [List.getElem?_eq_getElem hy, e] at this
      exact (Option.some.inj this).symm
    refine ⟨(row h y).map (renW o), List.mem_map.mpr ⟨y, ho.mem.mpr hy, rfl⟩, c, ?_⟩
    rw [er]
    exact List.mem_map.mpr ⟨_, hc, rfl⟩
theorem mem_row_ex {h : House} {c : Ex} : (∃ r ∈ h, Way.x c ∈ r) ↔ ∃ y, y < h.length ∧ Way.x c ∈ row h y := by
  constructor
  · rintro ⟨r, hr, hc⟩
    obtain ⟨y, hy, e⟩ := List.getElem_of_mem hr
    have := row_some hy
    rw [List.getElem?_eq_getElem hy, e] at this
    exact ⟨y, hy, (Option.some.inj this) ▸ hc⟩
  · rintro ⟨y, hy, hc⟩
    exact ⟨_, row_mem hy, hc⟩
theorem ren_ex {h : House} {o : List Nat} (ho : IsOrd h.length o) {k : Nat} (hk : k < h.length) {c : Ex} : Way.x c ∈ row (ren h o) k ↔ Way.x c ∈ row h (oAt o k) := by
  rw [ren_row (by rw [ho.len]; exact hk), List.mem_map]
  constructor
  · rintro ⟨v, hv, e⟩
    cases v with
    | h z => cases e
    | x d => cases e; exact hv
  · intro hv
    exact ⟨_, hv, rfl⟩
theorem ren_exits {h : House} {o : List Nat} (ho : IsOrd h.length o) : exitsOf (ren h o) = exitsOf h := by
  unfold exitsOf
  refine List.filter_congr fun c _ => ?_
  rw [Bool.eq_iff_iff, List.any_eq_true, List.any_eq_true]
  have key : ∀ H : House, (∃ r ∈ H, r.contains (Way.x c) = true) ↔ ∃ y, y < H.length ∧ Way.x c ∈ row H y := fun H => by
    rw [← mem_row_ex]
    constructor
    · rintro ⟨r, h1, h2⟩; exact ⟨r, h1, by simpa using h2⟩
    · rintro ⟨r, h1, h2⟩; exact ⟨r, h1, by simpa using h2⟩
  rw [key, key, ren_len, ho.len]
  constructor
  · rintro ⟨k, hk, hc⟩
    exact ⟨oAt o k, oAt_lt ho hk, (ren_ex ho hk).mp hc⟩
  · rintro ⟨y, hy, hc⟩
    refine ⟨o.idxOf y, idx_lt ho hy, (ren_ex ho (idx_lt ho hy)).mpr ?_⟩
    rw [oAt_idx ho hy]
    exact hc
theorem ren_way {h : House} (g : GoodH h) {o : List Nat} (ho : IsOrd h.length o) {k j : Nat} (hk : k < h.length) : Way.h j ∈ row (ren h o) k ↔ j < h.length ∧ Way.h (oAt o j) ∈ row h (oAt o k) := by
  rw [ren_row (by rw [ho.len]; exact hk), List.mem_map]
  constructor
  · rintro ⟨v, hv, e⟩
    cases v with
    | x c => cases e
    | h z =>
      cases e
      have hz := g.ways _ (row_mem (oAt_lt ho hk)) z hv
      exact ⟨idx_lt ho hz, by rw [oAt_idx ho hz]; exact hv⟩
  · rintro ⟨hj, hv⟩
    exact ⟨_, hv, by show Way.h _ = _; rw [idx_oAt ho hj]⟩
theorem ren_rch {h : House} (g : GoodH h) {o : List Nat} (ho : IsOrd h.length o) {k j : Nat} (hk : k < h.length) : Rch (ren h o) k j ↔ j < h.length ∧ Rch h (oAt o k) (oAt o j) := by
  constructor
  · intro r
    induction r with
    | refl => exact ⟨hk, .refl _⟩
    | step _ m ih =>
      obtain ⟨h1, h2⟩ := ih
      obtain ⟨h3, h4⟩ := (ren_way g ho h1).mp m
      exact ⟨h3, h2.step h4⟩
  · rintro ⟨hj, r⟩
    have key : ∀ z, Rch h (oAt o k) z → Rch (ren h o) k (o.idxOf z) := by
      intro z r
      induction r with
      | refl => rw [idx_oAt ho hk]; exact .refl _
      | @step y z' r1 m ih =>
        have hy := r1.lt g (oAt_lt ho hk)
        have hz := g.ways _ (row_mem hy) z' m
        exact ih.step ((ren_way g ho (idx_lt ho hy)).mpr ⟨idx_lt ho hz, by rw [oAt_idx ho hy, oAt_idx ho hz]; exact m⟩)
    have := key _ r
    rw [idx_oAt ho hj] at this
    exact this
theorem ren_hasEx {h : House} (g : GoodH h) {o : List Nat} (ho : IsOrd h.length o) {k : Nat} (hk : k < h.length) : HasEx (ren h o) k ↔ HasEx h (oAt o k) := by
  unfold HasEx
  constructor
  · rintro ⟨y, r, c, hc⟩
    obtain ⟨hy, r'⟩ := (ren_rch g ho hk).mp r
    exact ⟨oAt o y, r', c, (ren_ex ho hy).mp hc⟩
  · rintro ⟨y, r, c, hc⟩
    have hy := r.lt g (oAt_lt ho hk)
    refine ⟨o.idxOf y, (ren_rch g ho hk).mpr ⟨idx_lt ho hy, by rw [oAt_idx ho hy]; exact r⟩, c, (ren_ex ho (idx_lt ho hy)).mpr ?_⟩
    rw [oAt_idx ho hy]
    exact hc
theorem ren_safe {h : House} (g : GoodH h) {o : List Nat} (ho : IsOrd h.length o) {k : Nat} (hk : k < h.length) : Safe (ren h o) k ↔ Safe h (oAt o k) := by
  unfold Safe
  constructor
  · intro q y r
    have hy := r.lt g (oAt_lt ho hk)
    have := (ren_hasEx g ho (idx_lt ho hy)).mp (q _ ((ren_rch g ho hk).mpr ⟨idx_lt ho hy, by rw [oAt_idx ho hy]; exact r⟩))
    rw [oAt_idx ho hy] at this
    exact this
  · intro q y r
    obtain ⟨hy, r'⟩ := (ren_rch g ho hk).mp r
    exact (ren_hasEx g ho hy).mpr (q _ r')
/-- the order back -/
def backO (n : Nat) (o : List Nat) : List Nat := (List.range n).map o.idxOf
theorem back_at {n : Nat} {o : List Nat} {k : Nat} (hk : k < n) : oAt (backO n o) k = o.idxOf k := by
  have := oAt_some (o := backO n o) (k := k) (by unfold backO; simpa using hk)
  unfold backO at this
  rw [List.getElem?_map, List.getElem?_range hk] at this
  exact (Option.some.inj this).symm
theorem back_ord {n : Nat} {o : List Nat} (h : IsOrd n o) : IsOrd n (backO n o) := by
  have nd : (backO n o).Nodup := by
    unfold backO
    refine List.pairwise_map.mpr ?_
    refine List.nodup_range.imp_of_mem fun {a b} ha hb hne e => hne ?_
    have h1 := oAt_idx h (List.mem_range.mp ha)
    have h2 := oAt_idx h (List.mem_range.mp hb)
    rw [e] at h1
    exact h1.symm.trans h2
  rw [IsOrd, List.perm_iff_count]
  intro a
  have hm : a ∈ backO n o ↔ a ∈ List.range n := by
    unfold backO
    rw [List.mem_map, List.mem_range]
    constructor
    · rintro ⟨k, hk, rfl⟩
      exact idx_lt h (List.mem_range.mp hk)
    · intro ha
      exact ⟨oAt o a, List.mem_range.mpr (oAt_lt h ha), idx_oAt h ha⟩
  rw [List.Nodup.count nd, List.Nodup.count List.nodup_range]
  by_cases q : a ∈ List.range n
  · rw [if_pos q, if_pos (hm.mpr q)]
  · rw [if_neg q, if_neg (fun z => q (hm.mp z))]
theorem house_ext {h h' : House} (e : h.length = h'.length) (k : ∀ i, i < h.length → row h i = row h' i) : h = h' := by
  refine List.ext_getElem? fun i => ?_
  by_cases hi : i < h.length
  · rw [row_some hi, row_some (by omega), k i hi]
  · rw [List.getElem?_eq_none (by omega), List.getElem?_eq_none (by omega)]
theorem map_way {h : House} (g : GoodH h) {f : Way → Way} (hf : ∀ n, n < h.length → f (.h n) = .h n) (hx : ∀ c, f (.x c) = .x c) {y : Nat} (hy : y < h.length) : (row h y).map f = row h y := by
  refine (List.map_congr_left fun v hv => ?_).trans (List.map_id _)
  cases v with
  | h n => exact hf n (g.ways _ (row_mem hy) n hv)
  | x c => exact hx c
theorem ren_back {h : House} (g : GoodH h) {o : List Nat} (ho : IsOrd h.length o) : ren (ren h o) (backO h.length o) = h := by
  have hb := back_ord ho
  have hl : (ren h o).length = h.length := by rw [ren_len, ho.len]
  refine house_ext (by rw [ren_len, hb.len]) fun i hi => ?_
  rw [ren_len, hb.len] at hi
  rw [ren_row (by rw [hb.len]; exact hi), back_at hi, ren_row (by rw [ho.len]; exact idx_lt ho hi), oAt_idx ho hi, List.map_map]
  refine map_way g (fun n hn => ?_) (fun c => rfl) hi
  show Way.h ((backO h.length o).idxOf (o.idxOf n)) = Way.h n
  rw [← back_at hn, idx_oAt hb hn]
theorem ren_id {h : House} (g : GoodH h) : ren h (List.range h.length) = h := by
  have ho : IsOrd h.length (List.range h.length) := List.Perm.refl _
  have e : ∀ k, k < h.length → oAt (List.range h.length) k = k := fun k hk => by
    have := oAt_some (o := List.range h.length) (k := k) (by simpa using hk)
    rw [List.getElem?_range hk] at this
    exact (Option.some.inj this).symm
  refine house_ext (by rw [ren_len, ho.len]) fun i hi => ?_
  rw [ren_len, ho.len] at hi
  rw [ren_row (by rw [ho.len]; exact hi), e i hi]
  refine map_way g (fun n hn => ?_) (fun c => rfl) hi
  show Way.h ((List.range h.length).idxOf n) = Way.h n
  have := idx_oAt ho hn
  rw [e n hn] at this
  rw [this]
end TH

namespace TH
theorem erase_perm {α : Type} : ∀ {l : List α} {m : Nat} {x : α}, l[m]? = some x → (x :: l.eraseIdx m).Perm l
  | [], m, x, h => by simp at h
  | y :: l, 0, x, h => by
    simp at h
    subst h
    exact List.Perm.refl _
  | y :: l, m + 1, x, h => by
    have := erase_perm (l := l) (m := m) (x := x) (by simpa using h)
    exact (List.Perm.swap y x (l.eraseIdx m)).trans (this.cons y)
theorem erase_map {α β : Type} (f : α → β) : ∀ (l : List α) (m : Nat), (l.map f).eraseIdx m = (l.eraseIdx m).map f
  | [], _ => rfl
  | _ :: _, 0 => rfl
  | y :: l, m + 1 => by
    show f y :: (l.map f).eraseIdx m = f y :: (l.eraseIdx m).map f
    rw [erase_map f l m]
theorem idx_le {x : Nat} : ∀ {o : List Nat} {m : Nat}, o[m]? = some x → o.idxOf x ≤ m
  | [], m, h => by simp at h
  | y :: o, 0, h => by
    simp at h
    subst h
    simp
  | y :: o, m + 1, h => by
    have := idx_le (o := o) (m := m) (by simpa using h)
    rw [List.idxOf_cons]
    cases (y == x) with
    | true => simp
    | false => simp; omega
end TH

namespace TH
/-! ## moves -/
def plc (s : Stg) (x : Nat) : Nat := s.getD x 0
structure GoodS (h : House) (s : Stg) : Prop where
  len : s.length = h.length
  lt : ∀ i, i < h.length → plc s i < (row h i).length
def wayAt (h : House) (s : Stg) (x : Nat) : Way := (row h x).getD (plc s x) (.h 0)
def turn (h : House) (s : Stg) (x : Nat) : Stg := s.set x ((plc s x + 1) % (row h x).length)
abbrev Pn := Way × Stg
def stp (h : House) : Pn → Pn
  | (.h x, s) => (wayAt h s x, turn h s x)
  | (.x c, s) => (.x c, s)
def it (h : House) : Nat → Pn → Pn
  | 0, p => p
  | k + 1, p => it h k (stp h p)
theorem it_succ (h : House) : ∀ (k : Nat) (p : Pn), it h (k + 1) p = stp h (it h k p)
  | 0, _ => rfl
  | k + 1, p => it_succ h k (stp h p)
theorem it_add (h : House) : ∀ (a b : Nat) (p : Pn), it h (a + b) p = it h b (it h a p)
  | 0, b, p => by rw [Nat.zero_add]; rfl
  | a + 1, b, p => by
    rw [Nat.add_right_comm]
    exact it_add h a b (stp h p)
def outP : Pn → Prop
  | (.x _, _) => True
  | (.h _, _) => False
theorem outP_stp {h : House} {p : Pn} (o : outP p) : stp h p = p := by
  obtain ⟨v, s⟩ := p
  cases v with
  | h x => exact o.elim
  | x c => rfl
theorem outP_it {h : House} {p : Pn} (o : outP p) (k : Nat) : it h k p = p := by
  induction k with
  | zero => rfl
  | succ k ih => rw [it_succ, ih, outP_stp o]
theorem outP_mono {h : House} {p : Pn} {k m : Nat} (hk : k ≤ m) (o : outP (it h k p)) : it h m p = it h k p := by
  obtain ⟨d, rfl⟩ := Nat.exists_eq_add_of_le hk
  rw [it_add, outP_it o]
theorem plc_set {s : Stg} {x y v : Nat} (hx : x < s.length) : plc (s.set x v) y = if x = y then v else plc s y := by
  unfold plc
  rw [List.getD_eq_getElem?_getD, List.getD_eq_getElem?_getD]
  by_cases e : x = y
  · subst e
    rw [if_pos rfl, List.getElem?_set_self hx]
    rfl
  · rw [if_neg e, List.getElem?_set_ne e]
structure GoodP (h : House) (p : Pn) : Prop where
  hall : ∀ x, p.1 = .h x → x < h.length
  stg : GoodS h p.2
theorem wayAt_mem {h : House} {s : Stg} (gs : GoodS h s) {x : Nat} (hx : x < h.length) : wayAt h s x ∈ row h x := by
  have hl := gs.lt x hx
  unfold wayAt
  rw [List.getD_eq_getElem?_getD, List.getElem?_eq_getElem hl]
  exact List.getElem_mem hl
theorem turn_good {h : House} (g : GoodH h) {s : Stg} (gs : GoodS h s) {x : Nat} (hx : x < h.length) : GoodS h (turn h s x) := by
  refine ⟨by unfold turn; rw [List.length_set]; exact gs.len, fun i hi => ?_⟩
  unfold turn
  rw [plc_set (by rw [gs.len]; exact hx)]
  split
  · next e =>
    subst e
    exact Nat.mod_lt _ (g.rows _ (row_mem hi)).1
  · exact gs.lt i hi
theorem stp_good {h : House} (g : GoodH h) {p : Pn} (gp : GoodP h p) : GoodP h (stp h p) := by
  obtain ⟨v, s⟩ := p
  cases v with
  | x c => exact gp
  | h x =>
    have hx := gp.hall x rfl
    refine ⟨fun y e => ?_, turn_good g gp.stg hx⟩
    have m := wayAt_mem gp.stg hx
    rw [show wayAt h s x = .h y from e] at m
    exact g.ways _ (row_mem hx) y m
theorem it_good {h : House} (g : GoodH h) {p : Pn} (gp : GoodP h p) (k : Nat) : GoodP h (it h k p) := by
  induction k with
  | zero => exact gp
  | succ k ih => rw [it_succ]; exact stp_good g ih
theorem it_rch {h : House} (g : GoodH h) {x : Nat} {s : Stg} (gp : GoodP h (.h x, s)) : ∀ (k y : Nat), (it h k (.h x, s)).1 = .h y → Rch h x y := by
  intro k
  induction k with
  | zero =>
    intro y e
    cases e
    exact .refl _
  | succ k ih =>
    intro y e
    rw [it_succ] at e
    have gk := it_good g gp k
    cases hp : it h k (.h x, s) with
    | mk v t =>
      rw [hp] at e gk
      cases v with
      | x c => cases e
      | h z =>
        have r := ih z (by rw [hp])
        have hz := gk.hall z rfl
        have m := wayAt_mem gk.stg hz
        rw [show wayAt h t z = .h y from e] at m
        exact r.step m
/-! ### all standings -/
def addR (rows : List Stg) (r : List Way) : List Stg := rows.flatMap fun s => (List.range r.length).map fun p => s ++ [p]
def allS (h : House) : List Stg := h.foldl addR [[]]
theorem allS_app (h : House) (r : List Way) : allS (h ++ [r]) = addR (allS h) r := by
  unfold allS
  rw [List.foldl_append]
  rfl
theorem mem_addR {rows : List Stg} {r : List Way} {s : Stg} : s ∈ addR rows r ↔ ∃ t ∈ rows, ∃ p, p < r.length ∧ s = t ++ [p] := by
  unfold addR
  rw [List.mem_flatMap]
  constructor
  · rintro ⟨t, ht, hs⟩
    obtain ⟨p, hp, rfl⟩ := List.mem_map.mp hs
    exact ⟨t, ht, p, List.mem_range.mp hp, rfl⟩
  · rintro ⟨t, ht, p, hp, rfl⟩
    exact ⟨t, ht, List.mem_map.mpr ⟨p, List.mem_range.mpr hp, rfl⟩⟩
theorem row_app_lt {h : House} {r : List Way} {i : Nat} (hi : i < h.length) : row (h ++ [r]) i = row h i := by
  have h1 := row_some (h := h ++ [r]) (i := i) (by simp; omega)
  rw [List.getElem?_append_left hi, row_some hi] at h1
  exact (Option.some.inj h1).symm
theorem row_app_eq {h : House} {r : List Way} : row (h ++ [r]) h.length = r := by
  have h1 := row_some (h := h ++ [r]) (i := h.length) (by simp)
  rw [List.getElem?_append_right (Nat.le_refl _)] at h1
  simpa using h1.symm
theorem plc_app_lt {s : Stg} {p i : Nat} (hi : i < s.length) : plc (s ++ [p]) i = plc s i := by
  unfold plc
  rw [List.getD_eq_getElem?_getD, List.getD_eq_getElem?_getD, List.getElem?_append_left hi]
theorem plc_app_eq {s : Stg} {p : Nat} : plc (s ++ [p]) s.length = p := by
  unfold plc
  rw [List.getD_eq_getElem?_getD, List.getElem?_append_right (Nat.le_refl _)]
  simp
theorem mem_allS_rev : ∀ (n : Nat) (h : House), h.length = n → ∀ s, s ∈ allS h ↔ GoodS h s
  | 0, h, e, s => by
    have : h = [] := List.eq_nil_of_length_eq_zero e
    subst this
    constructor
    · intro hs
      have : s = [] := by simpa [allS] using hs
      subst this
      exact ⟨rfl, fun i hi => by simp at hi⟩
    · intro gs
      have : s = [] := List.eq_nil_of_length_eq_zero gs.len
      subst this
      simp [allS]
  | n + 1, h, e, s => by
    obtain ⟨h', r, rfl⟩ : ∃ h' r, h = h' ++ [r] := by
      rcases List.eq_nil_or_concat h with q | ⟨a, b, q⟩
      · subst q; simp at e
      · exact ⟨a, b, by simpa using q⟩
    have e' : h'.length = n := by simpa using e
    have ih := mem_allS_rev n h' e'
    rw [allS_app, mem_addR]
    constructor
    · rintro ⟨t, ht, p, hp, rfl⟩
      have gt := (ih t).mp ht
      refine ⟨by simp [gt.len], fun i hi => ?_⟩
      by_cases hi' : i < h'.length
      · rw [plc_app_lt (by rw [gt.len]; exact hi'), row_app_lt hi']
        exact gt.lt i hi'
      · have : i = h'.length := by simp at hi; omega
        subst this
        rw [row_app_eq]
        rw [show h'.length = t.length from gt.len.symm, plc_app_eq]
        exact hp
    · intro gs
      obtain ⟨t, p, rfl⟩ : ∃ t p, s = t ++ [p] := by
        rcases List.eq_nil_or_concat s with q | ⟨a, b, q⟩
        · subst q
          have := gs.len
          simp at this
        · exact ⟨a, b, by simpa using q⟩
      have tl : t.length = h'.length := by have := gs.len; simpa using this
      refine ⟨t, (ih t).mpr ⟨tl, fun i hi => ?_⟩, p, ?_, rfl⟩
      · have := gs.lt i (by simp; omega)
        rw [plc_app_lt (by omega), row_app_lt hi] at this
        exact this
      · have := gs.lt h'.length (by simp)
        rw [row_app_eq, show h'.length = t.length from tl.symm, plc_app_eq] at this
        exact this
theorem mem_allS {h : House} {s : Stg} : s ∈ allS h ↔ GoodS h s := mem_allS_rev _ h rfl s
theorem addR_len {rows : List Stg} {r : List Way} (hr : r.length ≤ 3) : (addR rows r).length ≤ rows.length * 3 := by
  unfold addR
  rw [List.length_flatMap]
  induction rows with
  | nil => simp
  | cons a l ih =>
    rw [List.map_cons, List.sum_cons, List.length_map, List.length_range, List.length_cons, Nat.succ_mul]
    omega
theorem allS_len {h : House} (g : GoodH h) : (allS h).length ≤ 81 := by
  have key : ∀ (l : House) (rows : List Stg), (∀ r ∈ l, r.length ≤ 3) → (l.foldl addR rows).length ≤ rows.length * 3 ^ l.length := by
    intro l
    induction l with
    | nil => intro rows _; simp
    | cons r l ih =>
      intro rows hr
      rw [List.foldl_cons, List.length_cons, Nat.pow_succ]
      have h1 := ih (addR rows r) fun q hq => hr q (List.mem_cons_of_mem _ hq)
      have h2 := addR_len (rows := rows) (hr r List.mem_cons_self)
      calc (l.foldl addR (addR rows r)).length ≤ (addR rows r).length * 3 ^ l.length := h1
        _ ≤ (rows.length * 3) * 3 ^ l.length := Nat.mul_le_mul_right _ h2
        _ = rows.length * (3 ^ l.length * 3) := by rw [Nat.mul_assoc, Nat.mul_comm 3]
  have h1 := key h [[]] fun r hr => (g.rows r hr).2
  have h2 : 3 ^ h.length ≤ 3 ^ 4 := Nat.pow_le_pow_right (by decide) g.four
  unfold allS
  simp only [List.length_cons, List.length_nil] at h1
  omega
end TH

namespace TH
/-! ## out, or never -/
def hallP (h : House) : List Pn := (List.range h.length).flatMap fun x => (allS h).map fun s => (Way.h x, s)
theorem mem_hallP {h : House} {p : Pn} (gp : GoodP h p) (no : ¬ outP p) : p ∈ hallP h := by
  obtain ⟨v, s⟩ := p
  cases v with
  | x c => exact absurd trivial no
  | h x => exact List.mem_flatMap.mpr ⟨x, List.mem_range.mpr (gp.hall x rfl), List.mem_map.mpr ⟨s, mem_allS.mpr gp.stg, rfl⟩⟩
theorem hallP_len {h : House} (g : GoodH h) : (hallP h).length ≤ 324 := by
  unfold hallP
  rw [List.length_flatMap]
  have h1 : ∀ l : List Nat, (l.map fun x => ((allS h).map fun s => (Way.h x, s)).length).sum = l.length * (allS h).length := by
    intro l
    induction l with
    | nil => simp
    | cons a l ih => rw [List.map_cons, List.sum_cons, ih, List.length_map, List.length_cons, Nat.succ_mul]; omega
  rw [h1, List.length_range]
  have h2 := allS_len g
  have h3 := g.four
  calc h.length * (allS h).length ≤ 4 * 81 := Nat.mul_le_mul h3 h2
    _ = 324 := rfl
/-- a list with more items than there are gives one twice -/
theorem twice {α : Type} [DecidableEq α] {f : Nat → α} {l : List α} {n : Nat} (hn : l.length < n) (hm : ∀ i, i < n → f i ∈ l) : ∃ i j, i < j ∧ j < n ∧ f i = f j := by
  apply Classical.byContradiction
  intro q
  have nd : ((List.range n).map f).Nodup := by
    refine List.pairwise_map.mpr (List.pairwise_lt_range.imp_of_mem fun {a b} ha hb hab e => q ⟨a, b, hab, List.mem_range.mp hb, e⟩)
  have := sub_len nd fun x hx => by
    obtain ⟨i, hi, rfl⟩ := List.mem_map.mp hx
    exact hm i (List.mem_range.mp hi)
  rw [List.length_map, List.length_range] at this
  omega
theorem again_never {h : House} {p : Pn} {i j : Nat} (hij : i < j) (e : it h i p = it h j p) (no : ¬ outP (it h j p)) : ∀ k, ¬ outP (it h k p) := by
  have hno : ∀ k, k ≤ j → ¬ outP (it h k p) := fun k hk o => no (by rw [outP_mono hk o]; exact o)
  intro k
  induction k using Nat.strongRecOn with
  | ind k ih =>
    by_cases hk : k ≤ j
    · exact hno k hk
    · intro o
      have e1 : it h k p = it h (i + (k - j)) p := by
        rw [it_add h i, e, ← it_add]
        congr 1
        omega
      rw [e1] at o
      exact ih (i + (k - j)) (by omega) o
theorem never_again {h : House} (g : GoodH h) {p : Pn} (gp : GoodP h p) (no : ∀ k, k < 325 → ¬ outP (it h k p)) : ∃ i j, i < j ∧ j < 325 ∧ it h i p = it h j p :=
  twice (l := hallP h) (Nat.lt_succ_of_le (hallP_len g)) fun i hi => mem_hallP (it_good g gp i) (no i hi)
theorem out_or {h : House} (g : GoodH h) {p : Pn} (gp : GoodP h p) : (∃ k, k < 325 ∧ outP (it h k p)) ∨ ∀ k, ¬ outP (it h k p) := by
  by_cases q : ∃ k, k < 325 ∧ outP (it h k p)
  · exact .inl q
  · right
    have no : ∀ k, k < 325 → ¬ outP (it h k p) := fun k hk o => q ⟨k, hk, o⟩
    obtain ⟨i, j, h1, h2, h3⟩ := never_again g gp no
    exact again_never h1 h3 (no j h2)
/-- the walk: the exit, the moves, the standing then -/
def walkF (h : House) : Nat → Nat → Pn → Option (Ex × Nat × Stg)
  | _, k, (.x c, s) => some (c, k, s)
  | 0, _, (.h _, _) => none
  | f + 1, k, (.h x, s) => walkF h f (k + 1) (stp h (.h x, s))
def walkR (h : House) (s : Stg) (x : Nat) : Option (Ex × Nat × Stg) := walkF h 325 0 (.h x, s)
theorem walkF_some {h : House} : ∀ (f k : Nat) (p : Pn) (c : Ex) (m : Nat) (t : Stg), walkF h f k p = some (c, m, t) → k ≤ m ∧ m ≤ k + f ∧ it h (m - k) p = (.x c, t) ∧ ∀ j, j < m - k → ¬ outP (it h j p)
  | f, k, (.x d, s), c, m, t, e => by
    have e' : some (d, k, s) = some (c, m, t) := by
      cases f <;> exact e
    cases e'
    exact ⟨Nat.le_refl _, by omega, by rw [Nat.sub_self]; rfl, fun j hj => by omega⟩
  | 0, k, (.h x, s), c, m, t, e => by cases e
  | f + 1, k, (.h x, s), c, m, t, e => by
    obtain ⟨h1, h2, h3, h4⟩ := walkF_some f (k + 1) (stp h (.h x, s)) c m t e
    refine ⟨by omega, by omega, ?_, fun j hj => ?_⟩
    · rw [show m - k = (m - (k + 1)) + 1 by omega]
      exact h3
    · cases j with
      | zero => exact fun o => o
      | succ j => exact h4 j (by omega)
theorem walkF_none {h : House} : ∀ (f k : Nat) (p : Pn), walkF h f k p = none → ∀ j, j ≤ f → ¬ outP (it h j p)
  | f, k, (.x d, s), e => by cases f <;> cases e
  | 0, k, (.h x, s), e => fun j hj => by
    have : j = 0 := by omega
    subst this
    exact fun o => o
  | f + 1, k, (.h x, s), e => fun j hj => by
    cases j with
    | zero => exact fun o => o
    | succ j => exact walkF_none f (k + 1) _ e j (by omega)
theorem walkR_some {h : House} {s : Stg} {x : Nat} {c : Ex} {m : Nat} {t : Stg} (e : walkR h s x = some (c, m, t)) : m ≤ 325 ∧ it h m (.h x, s) = (.x c, t) ∧ ∀ j, j < m → ¬ outP (it h j (.h x, s)) := by
  obtain ⟨_, h1, h2, h3⟩ := walkF_some _ _ _ _ _ _ e
  exact ⟨by omega, h2, h3⟩
theorem walkR_none {h : House} (g : GoodH h) {s : Stg} {x : Nat} (gp : GoodP h (.h x, s)) : walkR h s x = none ↔ ∀ k, ¬ outP (it h k (.h x, s)) := by
  constructor
  · intro e
    have no := walkF_none _ _ _ e
    rcases out_or g gp with ⟨k, hk, o⟩ | q
    · exact absurd o (no k (by omega))
    · exact q
  · intro q
    cases e : walkR h s x with
    | none => rfl
    | some r =>
      obtain ⟨c, m, t⟩ := r
      obtain ⟨_, h2, _⟩ := walkR_some e
      exact absurd (show outP (it h m (.h x, s)) by rw [h2]; trivial) (q m)
theorem walkR_of {h : House} (g : GoodH h) {s : Stg} {x : Nat} (gp : GoodP h (.h x, s)) {c : Ex} {m : Nat} {t : Stg} (e : it h m (.h x, s) = (.x c, t)) (no : ∀ j, j < m → ¬ outP (it h j (.h x, s))) : walkR h s x = some (c, m, t) := by
  have om : outP (it h m (.h x, s)) := by rw [e]; trivial
  cases r : walkR h s x with
  | none => exact absurd om ((walkR_none g gp).mp r m)
  | some r' =>
    obtain ⟨c', m', t'⟩ := r'
    obtain ⟨_, h2, h3⟩ := walkR_some r
    have : m = m' := by
      rcases Nat.lt_trichotomy m m' with q | q | q
      · exact absurd om (h3 m q)
      · exact q
      · exact absurd (show outP (it h m' (.h x, s)) by rw [h2]; trivial) (no m' q)
    subst this
    rw [e] at h2
    cases h2
    rfl
/-- until it is out, no hall and standing comes twice -/
theorem walk_nodup {h : House} {p : Pn} {i j m : Nat} (hij : i < j) (hjm : j < m) (om : outP (it h m p)) (no : ∀ k, k < m → ¬ outP (it h k p)) : it h i p ≠ it h j p := fun e => again_never hij e (no j hjm) m om
end TH

namespace TH
/-! ## safe halls get out -/
/-- where place a lies behind place q, round -/
def bhd (L q a : Nat) : Nat := (a + L - 1 - q) % L
theorem bhd_step {L q a : Nat} (hL : 0 < L) (hq : q < L) (ha : a < L) (hne : a ≠ q) : bhd L q ((a + 1) % L) = bhd L q a + 1 := by
  unfold bhd
  by_cases h1 : a + 1 < L
  · rw [Nat.mod_eq_of_lt h1]
    by_cases h2 : a < q
    · rw [Nat.mod_eq_of_lt (by omega), Nat.mod_eq_of_lt (by omega)]
      omega
    · have e1 : a + 1 + L - 1 - q = (a - q) + L := by omega
      have e2 : a + L - 1 - q = (a - q - 1) + L := by omega
      rw [e1, e2, Nat.add_mod_right, Nat.add_mod_right, Nat.mod_eq_of_lt (by omega), Nat.mod_eq_of_lt (by omega)]
      omega
  · have e : a + 1 = L := by omega
    rw [e, Nat.mod_self]
    have e2 : a + L - 1 - q = (L - 2 - q) + L := by omega
    rw [e2, Nat.add_mod_right, Nat.mod_eq_of_lt (by omega), Nat.mod_eq_of_lt (by omega)]
    omega
/-- a turnstile that comes round again stood at each place when somebody came -/
theorem round_all {a : Nat → Nat} {V : Nat → Prop} {L q : Nat} (hL : 0 < L) (hq : q < L) (hlt : ∀ m, a m < L) {i j : Nat} (hij : i ≤ j)
    (hv : ∀ m, i ≤ m → m < j → V m → a (m + 1) = (a m + 1) % L) (hn : ∀ m, i ≤ m → m < j → ¬ V m → a (m + 1) = a m) (e : a i = a j) (m : Nat) (h1 : i ≤ m) (h2 : m < j) (vm : V m) : ∃ k, i ≤ k ∧ k < j ∧ V k ∧ a k = q := by
  apply Classical.byContradiction
  intro no
  have step : ∀ k, i ≤ k → k < j → bhd L q (a k) ≤ bhd L q (a (k + 1)) ∧ (V k → bhd L q (a k) < bhd L q (a (k + 1))) := fun k hk hkj => by
    by_cases v : V k
    · have := bhd_step hL hq (hlt k) (fun z => no ⟨k, hk, hkj, v, z⟩)
      rw [hv k hk hkj v, this]
      exact ⟨by omega, fun _ => by omega⟩
    · rw [hn k hk hkj v]
      exact ⟨Nat.le_refl _, fun z => absurd z v⟩
  have mono : ∀ d k, i ≤ k → k + d ≤ j → bhd L q (a k) ≤ bhd L q (a (k + d)) := by
    intro d
    induction d with
    | zero => intro k _ _; exact Nat.le_refl _
    | succ d ih =>
      intro k hk hkj
      exact Nat.le_trans (ih k hk (by omega)) (step (k + d) (by omega) (by omega)).1
  have m1 := mono (m - i) i (Nat.le_refl _) (by omega)
  have m2 := (step m h1 h2).2 vm
  have m3 := mono (j - (m + 1)) (m + 1) (by omega) (by omega)
  rw [show i + (m - i) = m by omega] at m1
  rw [show m + 1 + (j - (m + 1)) = j by omega, ← e] at m3
  omega
theorem hall_of {p : Pn} (no : ¬ outP p) : ∃ x, p.1 = .h x := by
  obtain ⟨v, s⟩ := p
  cases v with
  | h x => exact ⟨x, rfl⟩
  | x c => exact absurd trivial no
theorem stp_hall {h : House} {p : Pn} {x : Nat} (e : p.1 = .h x) : stp h p = (wayAt h p.2 x, turn h p.2 x) := by
  obtain ⟨v, s⟩ := p
  dsimp only at e
  subst e
  rfl
theorem safe_out {h : House} (g : GoodH h) {x : Nat} {s : Stg} (gp : GoodP h (.h x, s)) (sf : Safe h x) : ∃ k, k < 325 ∧ outP (it h k (.h x, s)) := by
  rcases out_or g gp with q | no
  · exact q
  · exfalso
    obtain ⟨i, j, hij, _, e⟩ := never_again g gp fun k _ => no k
    have hall := fun k => hall_of (no k)
    -- the halls of the round lead only to one another
    have closed : ∀ k, i ≤ k → k < j → ∀ y, (it h k (.h x, s)).1 = .h y → ∀ v ∈ row h y, ∃ m z, i ≤ m ∧ m < j ∧ v = .h z ∧ (it h m (.h x, s)).1 = .h z := by
      intro k hk hkj y hy v hv
      have hyl := (it_good g gp k).hall y hy
      have hL := (g.rows _ (row_mem hyl)).1
      obtain ⟨q, hq, ev⟩ := List.getElem_of_mem hv
      obtain ⟨m, h1, h2, h3, h4⟩ := round_all (a := fun m => plc (it h m (.h x, s)).2 y) (V := fun m => (it h m (.h x, s)).1 = .h y) (L := (row h y).length) (q := q) hL hq (fun m => (it_good g gp m).stg.lt y hyl) (Nat.le_of_lt hij) (fun m _ _ vm => by
          rw [it_succ, stp_hall vm]
          show plc (turn h _ y) y = _
          unfold turn
          rw [plc_set (by rw [(it_good g gp m).stg.len]; exact hyl), if_pos rfl]) (fun m _ _ vm => by
          obtain ⟨z, hz⟩ := hall m
          rw [it_succ, stp_hall hz]
          show plc (turn h _ z) y = _
          unfold turn
          rw [plc_set (by rw [(it_good g gp m).stg.len]; exact (it_good g gp m).hall z hz), if_neg]
          rintro rfl
          exact vm hz) (by rw [e]) k hk hkj hy
      have ew : (it h (m + 1) (.h x, s)).1 = v := by
        rw [it_succ, stp_hall h3]
        show wayAt h _ y = v
        unfold wayAt
        rw [h4, List.getD_eq_getElem?_getD, List.getElem?_eq_getElem hq, ev]
        rfl
      obtain ⟨z, hz⟩ := hall (m + 1)
      by_cases hm : m + 1 < j
      · exact ⟨m + 1, z, by omega, hm, ew.symm.trans hz, hz⟩
      · have : m + 1 = j := by omega
        refine ⟨i, z, Nat.le_refl _, hij, ew.symm.trans hz, ?_⟩
        rw [e, ← this]
        exact hz
    obtain ⟨y0, hy0⟩ := hall i
    have r0 := it_rch g gp i y0 hy0
    obtain ⟨y, r, c, hc⟩ := sf y0 r0
    have inS : ∃ m, i ≤ m ∧ m < j ∧ (it h m (.h x, s)).1 = .h y := by
      clear hc
      induction r with
      | refl => exact ⟨i, Nat.le_refl _, hij, hy0⟩
      | step _ mm ih =>
        obtain ⟨m, h1, h2, h3⟩ := ih
        obtain ⟨m', z, g1, g2, g3, g4⟩ := closed m h1 h2 _ h3 _ mm
        cases g3
        exact ⟨m', g1, g2, g4⟩
    obtain ⟨m, h1, h2, h3⟩ := inS
    obtain ⟨m', z, _, _, g3, _⟩ := closed m h1 h2 _ h3 _ hc
    cases g3
/-! ## a hall that is not safe has a standing that holds -/
inductive Pth (h : House) (y : Nat) : List Nat → Prop
  | one : Pth h y [y]
  | cons {x z : Nat} {l : List Nat} : Way.h z ∈ row h x → Pth h y (z :: l) → Pth h y (x :: z :: l)
theorem pth_of {h : House} {x y y' : Nat} (r : Rch h x y) : ∀ l, Pth h y' (y :: l) → ∃ l', Pth h y' (x :: l') := by
  induction r with
  | refl => exact fun l p => ⟨l, p⟩
  | step _ m ih => exact fun l p => ih _ (.cons m p)
theorem pth_suf {h : House} {y x : Nat} : ∀ {l : List Nat}, Pth h y l → x ∈ l → ∃ l', Pth h y (x :: l') ∧ (x :: l').length ≤ l.length ∧ ∀ w ∈ x :: l', w ∈ l
  | _, .one, hx => by
    rw [List.mem_singleton] at hx
    subst hx
    exact ⟨[], .one, Nat.le_refl _, fun w hw => hw⟩
  | _, .cons m p, hx => by
    rcases List.mem_cons.mp hx with rfl | hx
    · exact ⟨_, .cons m p, Nat.le_refl _, fun w hw => hw⟩
    · obtain ⟨l', h1, h2, h3⟩ := pth_suf p hx
      exact ⟨l', h1, Nat.le_trans h2 (Nat.le_succ _), fun w hw => List.mem_cons_of_mem _ (h3 w hw)⟩
theorem zeroS {h : House} (g : GoodH h) : GoodS h (List.replicate h.length 0) := by
  refine ⟨by simp, fun i hi => ?_⟩
  have : plc (List.replicate h.length 0) i = 0 := by
    unfold plc
    rw [List.getD_eq_getElem?_getD, List.getElem?_replicate]
    simp [hi]
  rw [this]
  exact (g.rows _ (row_mem hi)).1
/-- a standing that leads from x to y -/
theorem lead {h : House} (g : GoodH h) {y : Nat} : ∀ (n : Nat) (x : Nat) (l : List Nat), l.length ≤ n → x < h.length → Pth h y (x :: l) → ∃ (s : Stg) (S : List Nat), GoodS h s ∧ (∀ z ∈ S, z ∈ x :: l) ∧ ∀ s', GoodS h s' → (∀ z ∈ S, plc s' z = plc s z) → ∃ k t, it h k (.h x, s') = (.h y, t)
  | n, x, l, hn, hx, p => by
    cases p with
    | one => exact ⟨_, [], zeroS g, by simp, fun s' _ _ => ⟨0, s', rfl⟩⟩
    | @cons _ z l' m p' =>
      by_cases hm : x ∈ z :: l'
      · obtain ⟨l2, p2, hl2, hsub⟩ := pth_suf p' hm
        cases n with
        | zero => simp at hn
        | succ n =>
          simp only [List.length_cons] at hl2 hn
          obtain ⟨s, S, h1, h2, h3⟩ := lead g n x l2 (by omega) hx p2
          exact ⟨s, S, h1, fun w hw => List.mem_cons_of_mem _ (hsub w (h2 w hw)), h3⟩
      · cases n with
        | zero => simp at hn
        | succ n =>
          simp only [List.length_cons] at hn
          have hz := g.ways _ (row_mem hx) z m
          obtain ⟨s, S, h1, h2, h3⟩ := lead g n z l' (by omega) hz p'
          obtain ⟨q, hq, ev⟩ := List.getElem_of_mem m
          have hxs : x < s.length := by rw [h1.len]; exact hx
          have hxS : x ∉ S := fun w => hm (h2 x w)
          refine ⟨s.set x q, x :: S, ⟨by rw [List.length_set]; exact h1.len, fun i hi => ?_⟩, fun w hw => ?_, fun s' gs' ag => ?_⟩
          · rw [plc_set hxs]
            split
            · next e => subst e; exact hq
            · exact h1.lt i hi
          · rcases List.mem_cons.mp hw with rfl | hw
            · exact List.mem_cons_self
            · exact List.mem_cons_of_mem _ (h2 w hw)
          · have e1 : plc s' x = q := by rw [ag x List.mem_cons_self, plc_set hxs, if_pos rfl]
            have ew : wayAt h s' x = .h z := by
              unfold wayAt
              rw [e1, List.getD_eq_getElem?_getD, List.getElem?_eq_getElem hq, ev]
              rfl
            obtain ⟨k, t, hk⟩ := h3 (turn h s' x) (turn_good g gs' hx) fun w hw => by
              have hne : x ≠ w := fun e => hxS (e ▸ hw)
              unfold turn
              rw [plc_set (by rw [gs'.len]; exact hx), if_neg hne, ag w (List.mem_cons_of_mem _ hw), plc_set hxs, if_neg hne]
            refine ⟨k + 1, t, ?_⟩
            show it h k (wayAt h s' x, turn h s' x) = _
            rw [ew]
            exact hk
theorem nosafe_held {h : House} (g : GoodH h) {x : Nat} (hx : x < h.length) (ns : ¬ Safe h x) : ∃ s, GoodS h s ∧ walkR h s x = none := by
  have : ∃ y, Rch h x y ∧ ¬ HasEx h y := by
    apply Classical.byContradiction
    intro q
    refine ns fun y r => ?_
    apply Classical.byContradiction
    intro n
    exact q ⟨y, r, n⟩
  obtain ⟨y, r, hy⟩ := this
  obtain ⟨l, p⟩ := pth_of r [] .one
  obtain ⟨s, S, h1, _, h3⟩ := lead g l.length x l (Nat.le_refl _) hx p
  obtain ⟨k, t, hk⟩ := h3 s h1 fun _ _ => rfl
  have gp : GoodP h (.h x, s) := ⟨fun z e => by cases e; exact hx, h1⟩
  refine ⟨s, h1, (walkR_none g gp).mpr fun m o => ?_⟩
  have gk := it_good g gp k
  rw [hk] at gk
  -- from y nobody gets out
  have no : ∀ j, ¬ outP (it h j (.h y, t)) := by
    intro j
    induction j with
    | zero => exact fun o => o
    | succ j ih =>
      obtain ⟨z, hz⟩ := hall_of ih
      have rz := it_rch g gk j z hz
      have gj := it_good g gk j
      rw [it_succ, stp_hall hz]
      have mw := wayAt_mem gj.stg (gj.hall z hz)
      cases hw : wayAt h (it h j (.h y, t)).2 z with
      | h w => exact fun o => o
      | x c =>
        rw [hw] at mw
        exact absurd ⟨z, rz, c, mw⟩ hy
  by_cases hmk : m ≤ k
  · have := outP_mono hmk o
    rw [hk] at this
    rw [← this] at o
    exact o
  · obtain ⟨d, rfl⟩ := Nat.exists_eq_add_of_le (Nat.le_of_lt (Nat.lt_of_not_le hmk))
    rw [it_add, hk] at o
    exact no d o
end TH

namespace TH
/-! ## people, one after the other -/
def nx (h : House) (x : Nat) (s : Stg) : Stg := match walkR h s x with
  | some (_, _, t) => t
  | none => s
def ex1 (h : House) (x : Nat) (s : Stg) : Ex := match walkR h s x with
  | some (c, _, _) => c
  | none => .A
def mv1 (h : House) (x : Nat) (s : Stg) : Nat := match walkR h s x with
  | some (_, k, _) => k
  | none => 0
def nit (h : House) (x : Nat) : Nat → Stg → Stg
  | 0, s => s
  | k + 1, s => nit h x k (nx h x s)
theorem nit_succ (h : House) (x : Nat) : ∀ (k : Nat) (s : Stg), nit h x (k + 1) s = nx h x (nit h x k s)
  | 0, _ => rfl
  | k + 1, s => nit_succ h x k (nx h x s)
theorem nit_add (h : House) (x : Nat) : ∀ (a b : Nat) (s : Stg), nit h x (a + b) s = nit h x b (nit h x a s)
  | 0, b, s => by rw [Nat.zero_add]; rfl
  | a + 1, b, s => by
    rw [Nat.add_right_comm]
    exact nit_add h x a b (nx h x s)
/-- a house, a standing, a safe hall -/
structure OkS (h : House) (s : Stg) (x : Nat) : Prop where
  g : GoodH h
  gs : GoodS h s
  hx : x < h.length
  sf : Safe h x
theorem OkS.gp {h : House} {s : Stg} {x : Nat} (o : OkS h s x) : GoodP h (.h x, s) := ⟨fun y e => by cases e; exact o.hx, o.gs⟩
theorem OkS.walk {h : House} {s : Stg} {x : Nat} (o : OkS h s x) : walkR h s x = some (ex1 h x s, mv1 h x s, nx h x s) := by
  obtain ⟨k, hk, ho⟩ := safe_out o.g o.gp o.sf
  cases hw : walkR h s x with
  | none => exact absurd ho ((walkR_none o.g o.gp).mp hw k)
  | some p =>
    obtain ⟨c, k, t⟩ := p
    unfold ex1 mv1 nx
    rw [hw]
theorem OkS.next {h : House} {s : Stg} {x : Nat} (o : OkS h s x) : OkS h (nx h x s) x := by
  refine ⟨o.g, ?_, o.hx, o.sf⟩
  obtain ⟨_, hit, _⟩ := walkR_some o.walk
  have := (it_good o.g o.gp (mv1 h x s)).stg
  rw [hit] at this
  exact this
theorem OkS.nit {h : House} {s : Stg} {x : Nat} (o : OkS h s x) : ∀ k, OkS h (TH.nit h x k s) x
  | 0 => o
  | k + 1 => by rw [nit_succ]; exact (OkS.nit o k).next
/-- the first n standings, all unlike, then the one of place p again -/
structure Crs (h : House) (s : Stg) (x n p : Nat) : Prop where
  lt : p < n
  eq : nit h x n s = nit h x p s
  inj : ∀ i j, i < j → j < n → nit h x i s ≠ nit h x j s
theorem crs_ex {h : House} {s : Stg} {x : Nat} (o : OkS h s x) : ∃ n p, Crs h s x n p := by
  have key : ∃ n, ∃ p, p < n ∧ nit h x n s = nit h x p s := by
    obtain ⟨i, j, hij, _, e⟩ := twice (f := fun k => nit h x k s) (l := allS h) (n := 82) (by have := allS_len o.g; omega) fun k _ => mem_allS.mpr (OkS.nit o k).gs
    exact ⟨j, i, hij, e.symm⟩
  have least : ∀ n, (∃ p, p < n ∧ nit h x n s = nit h x p s) → ∃ n p, Crs h s x n p := by
    intro n
    induction n using Nat.strongRecOn with
    | _ n ih =>
      rintro ⟨p, hp, e⟩
      by_cases hs : ∃ m, m < n ∧ ∃ q, q < m ∧ nit h x m s = nit h x q s
      · obtain ⟨m, hm, hq⟩ := hs
        exact ih m hm hq
      · exact ⟨n, p, hp, e, fun i j hij hj e' => hs ⟨j, hj, i, hij, e'.symm⟩⟩
  obtain ⟨n, hn⟩ := key
  exact least n hn
theorem Crs.le {h : House} {s : Stg} {x n p : Nat} (o : OkS h s x) (c : Crs h s x n p) : n ≤ 81 := by
  have hnd : ((List.range n).map fun k => nit h x k s).Nodup := by
    rw [List.nodup_iff_pairwise_ne, List.pairwise_map]
    refine (List.pairwise_lt_range (n := n)).imp_of_mem ?_
    intro a b _ hb hab
    exact c.inj a b hab (List.mem_range.mp hb)
  have := sub_len hnd fun q hq => by
    obtain ⟨k, _, rfl⟩ := List.mem_map.mp hq
    exact mem_allS.mpr (OkS.nit o k).gs
  rw [List.length_map, List.length_range] at this
  exact Nat.le_trans this (allS_len o.g)
theorem Crs.uniq {h : House} {s : Stg} {x n p n' p' : Nat} (c : Crs h s x n p) (c' : Crs h s x n' p') : n = n' ∧ p = p' := by
  have hn : n = n' := by
    rcases Nat.lt_trichotomy n n' with hlt | he | hgt
    · exact absurd c.eq.symm (c'.inj p n c.lt hlt)
    · exact he
    · exact absurd c'.eq.symm (c.inj p' n' c'.lt hgt)
  subst hn
  refine ⟨rfl, ?_⟩
  rcases Nat.lt_trichotomy p p' with hlt | he | hgt
  · exact absurd (c.eq.symm.trans c'.eq) (c.inj p p' hlt c'.lt)
  · exact he
  · exact absurd (c'.eq.symm.trans c.eq) (c.inj p' p hgt c.lt)
open Classical in
noncomputable def crN (h : House) (s : Stg) (x : Nat) : Nat := if c : ∃ n p, Crs h s x n p then c.choose else 1
open Classical in
noncomputable def crP (h : House) (s : Stg) (x : Nat) : Nat := if c : ∃ n p, Crs h s x n p then c.choose_spec.choose else 0
theorem crs {h : House} {s : Stg} {x : Nat} (o : OkS h s x) : Crs h s x (crN h s x) (crP h s x) := by
  unfold crN crP
  rw [dif_pos (crs_ex o), dif_pos (crs_ex o)]
  exact (crs_ex o).choose_spec.choose_spec
/-! ### exits of people -/
def exL (h : House) (x : Nat) (s : Stg) (n : Nat) : List Ex := (List.range n).map fun k => ex1 h x (nit h x k s)
def stL (h : House) (x : Nat) (s : Stg) (n : Nat) : List Stg := (List.range n).map fun k => nit h x k s
def cnt (h : House) (x : Nat) (s : Stg) (n : Nat) (c : Ex) : Nat := (exL h x s n).count c
theorem exL_len (h : House) (x : Nat) (s : Stg) (n : Nat) : (exL h x s n).length = n := by simp [exL]
theorem stL_len (h : House) (x : Nat) (s : Stg) (n : Nat) : (stL h x s n).length = n := by simp [stL]
theorem exL_succ (h : House) (x : Nat) (s : Stg) (n : Nat) : exL h x s (n + 1) = exL h x s n ++ [ex1 h x (nit h x n s)] := by simp [exL, List.range_succ]
theorem stL_succ (h : House) (x : Nat) (s : Stg) (n : Nat) : stL h x s (n + 1) = stL h x s n ++ [nit h x n s] := by simp [stL, List.range_succ]
theorem exL_add (h : House) (x : Nat) (s : Stg) (a : Nat) : ∀ b, exL h x s (a + b) = exL h x s a ++ exL h x (nit h x a s) b
  | 0 => by simp [exL]
  | b + 1 => by rw [← Nat.add_assoc, exL_succ, exL_add h x s a b, exL_succ, List.append_assoc, nit_add]
theorem cnt_add (h : House) (x : Nat) (s : Stg) (a b : Nat) (c : Ex) : cnt h x s (a + b) c = cnt h x s a c + cnt h x (nit h x a s) b c := by
  unfold cnt
  rw [exL_add, List.count_append]
theorem exL_take {h : House} {x : Nat} {s : Stg} {n k : Nat} (hk : k ≤ n) : (exL h x s n).take k = exL h x s k := by
  unfold exL
  rw [← List.map_take, List.take_range, Nat.min_eq_left hk]
theorem exL_drop {h : House} {x : Nat} {s : Stg} {n k : Nat} (hk : k ≤ n) : (exL h x s n).drop k = exL h x (nit h x k s) (n - k) := by
  have := exL_add h x s k (n - k)
  rw [Nat.add_sub_cancel' hk] at this
  rw [this, List.drop_left' (exL_len ..)]
/-- rounds -/
theorem nit_round {h : House} {x L : Nat} {s : Stg} (e : nit h x L s = s) : ∀ q, nit h x (q * L) s = s
  | 0 => by rw [Nat.zero_mul]; rfl
  | q + 1 => by rw [Nat.succ_mul, nit_add, nit_round e q, e]
theorem cnt_round {h : House} {x L : Nat} {s : Stg} {c : Ex} (e : nit h x L s = s) : ∀ q, cnt h x s (q * L) c = q * cnt h x s L c
  | 0 => by rw [Nat.zero_mul, Nat.zero_mul]; rfl
  | q + 1 => by rw [Nat.succ_mul, cnt_add, nit_round e q, cnt_round e q, Nat.succ_mul]
theorem Crs.back {h : House} {s : Stg} {x n p : Nat} (c : Crs h s x n p) : nit h x (n - p) (nit h x p s) = nit h x p s := by
  rw [← nit_add, Nat.add_sub_cancel' (Nat.le_of_lt c.lt), c.eq]
/-- many people: the lead, whole rounds, a rest -/
theorem Crs.nit_many {h : House} {s : Stg} {x n p m : Nat} (c : Crs h s x n p) (hm : p ≤ m) : nit h x m s = nit h x (p + (m - p) % (n - p)) s := by
  have e : m = p + ((m - p) / (n - p) * (n - p) + (m - p) % (n - p)) := by
    have := Nat.div_add_mod (m - p) (n - p)
    rw [Nat.mul_comm] at this
    omega
  have e2 : nit h x m s = nit h x (p + ((m - p) / (n - p) * (n - p) + (m - p) % (n - p))) s := congrArg (fun k => nit h x k s) e
  rw [e2, nit_add, nit_add, nit_round c.back, ← nit_add]
theorem Crs.cnt_many {h : House} {s : Stg} {x n p m : Nat} {e : Ex} (c : Crs h s x n p) (hm : p ≤ m) : cnt h x s m e = cnt h x s p e + (m - p) / (n - p) * cnt h x (nit h x p s) (n - p) e + cnt h x (nit h x p s) ((m - p) % (n - p)) e := by
  have e1 : m = p + ((m - p) / (n - p) * (n - p) + (m - p) % (n - p)) := by
    have := Nat.div_add_mod (m - p) (n - p)
    rw [Nat.mul_comm] at this
    omega
  have e2 : cnt h x s m e = cnt h x s (p + ((m - p) / (n - p) * (n - p) + (m - p) % (n - p))) e := congrArg (fun k => cnt h x s k e) e1
  rw [e2, cnt_add, cnt_add, nit_round c.back, cnt_round c.back]
  omega
theorem count_sum : ∀ (l : List Ex), l.count .A + l.count .B + l.count .C = l.length
  | [] => rfl
  | e :: l => by
    have := count_sum l
    cases e <;> simp [List.count_cons] <;> omega
end TH

namespace WP
open PySem L2 TH
/-! ## what the slots hold, without places -/
inductive SV where
  /-- nothing is known -/
  | no
  /-- a datum that stays -/
  | im (d : PyData)
  /-- a datum of the caller's -/
  | bo (d : PyData)
  /-- a list of the def's own -/
  | ml (ds : List PyData)
  /-- a town, at t: n numbers behind a count of at most c -/
  | tw (t : Addr) (n c : Nat)
  /-- the script -/
  | sc (ss : List Int)
  /-- an own dict, by ints and texts -/
  | dk (kvs : List (Key × PyData))
  /-- an own dict, by tuples of these -/
  | dt (kvs : List (List Key × PyData))
  /-- an own thing: what is true of it -/
  | ob (φ : Addr → HO → Prop)
def SV.own : SV → Bool
  | .ml _ => true
  | .tw _ _ _ => true
  | .dk _ => true
  | .dt _ => true
  | .ob _ => true
  | _ => false
def gs : List SV → Nat → SV
  | [], _ => .no
  | x :: _, 0 => x
  | _ :: l, n + 1 => gs l n
theorem gs_out : ∀ {ρ : List SV} {i : Nat}, ρ.length ≤ i → gs ρ i = .no
  | [], _, _ => rfl
  | _ :: _, 0, h => by simp at h
  | _ :: l, n + 1, h => gs_out (ρ := l) (i := n) (by simpa using h)
theorem gs_self {x : SV} : ∀ {ρ : List SV} {i : Nat}, i < ρ.length → gs (ρ.set i x) i = x
  | [], _, h => by simp at h
  | _ :: _, 0, _ => rfl
  | _ :: l, n + 1, h => gs_self (ρ := l) (i := n) (by simpa using h)
theorem gs_ne {x : SV} : ∀ {ρ : List SV} {i j : Nat}, i ≠ j → gs (ρ.set i x) j = gs ρ j
  | [], _, _, _ => rfl
  | _ :: _, 0, 0, h => absurd rfl h
  | _ :: _, 0, _ + 1, _ => rfl
  | _ :: _, _ + 1, 0, _ => rfl
  | _ :: l, n + 1, m + 1, h => gs_ne (ρ := l) (i := n) (j := m) (by omega)
theorem gs_set {x : SV} {ρ : List SV} {i j : Nat} : gs (ρ.set i x) j = if i = j ∧ i < ρ.length then x else gs ρ j := by
  by_cases h : i = j
  · subst h
    by_cases hl : i < ρ.length
    · rw [if_pos ⟨rfl, hl⟩, gs_self hl]
    · rw [if_neg (fun q => hl q.2), List.set_eq_of_length_le (by omega)]
  · rw [if_neg (fun q => h q.1), gs_ne h]
theorem gs_lt {ρ : List SV} {i : Nat} (h : gs ρ i ≠ .no) : i < ρ.length := by
  by_cases hl : i < ρ.length
  · exact hl
  · exact absurd (gs_out (by omega)) h
theorem own_lt {ρ : List SV} {i : Nat} (h : (gs ρ i).own = true) : i < ρ.length := gs_lt (by intro e; rw [e] at h; cases h)
theorem own_ne {x : SV} (h : x.own = true) : x ≠ .no := by intro e; rw [e] at h; cases h
/-- what may change: hidden things, and those of the own slots -/
def Ow (ρ : List SV) (α : Nat → Addr) (Γ : List (Addr × HO)) (a : Addr) : Prop := (∃ g ∈ Γ, g.1 = a) ∨ ∃ i, (gs ρ i).own = true ∧ α i = a
open Classical in
/-- what stays: all but the own things and the caller's lists -/
noncomputable def fz (B : Hp) (O : Addr → Prop) (H : Hp) : Hp := fun a => if O a ∨ (∃ o, B a = some o ∧ mutO o = true) then none else H a
theorem fz_some {B H : Hp} {O : Addr → Prop} {a : Addr} {o : HO} (h : fz B O H a = some o) : ¬ O a ∧ (∀ u, B a = some u → mutO u = false) ∧ H a = some o := by
  unfold fz at h
  split at h
  · cases h
  · next hn =>
    refine ⟨fun q => hn (.inl q), fun u hu => ?_, h⟩
    cases hm : mutO u with
    | false => rfl
    | true => exact absurd (.inr ⟨u, hu, hm⟩) hn
theorem fz_of {B H : Hp} {O : Addr → Prop} {a : Addr} {o : HO} (h1 : ¬ O a) (h2 : ∀ u, B a = some u → mutO u = false) (h : H a = some o) : fz B O H a = some o := by
  unfold fz
  rw [if_neg]
  · exact h
  · rintro (q | ⟨u, hu, hm⟩)
    · exact h1 q
    · rw [h2 u hu] at hm; cases hm
theorem fz_le {B H : Hp} {O : Addr → Prop} : Same (fz B O H) H := fun a o h => (fz_some h).2.2
theorem fz_mono {B H H' : Hp} {O O' : Addr → Prop} (hO : ∀ a o, H a = some o → O' a → O a) (h : ∀ a o, ¬ O a → H a = some o → H' a = some o) : Same (fz B O H) (fz B O' H') := fun a o e => by
  obtain ⟨h1, h2, h3⟩ := fz_some e
  exact fz_of (fun q => h1 (hO a o h3 q)) h2 (h a o h1 h3)
def SvOk (K : PySem.W.Frag) (B F H : Hp) (v : V) (a : Addr) : SV → Prop
  | .no => True
  | .im d => Dq K F v d
  | .bo d => Dq K B v d
  | .ml ds => v = .ref a ∧ ∃ vs, H a = some (.lst vs) ∧ DqAll K F vs ds
  | .tw t n c => v = .ref a ∧ a = t ∧ ∃ vs ds, H a = some (.lst vs) ∧ DqAll K F vs ds ∧ Tw n c ds
  | .sc ss => ∃ b, v = .ref b ∧ SqL K B b (ss.map V.int)
  | .dk kvs => v = .ref a ∧ ∃ ws, H a = some (.dK ws) ∧ ws.map (·.1) = kvs.map (·.1) ∧ DqAll K F (ws.map (·.2)) (kvs.map (·.2))
  | .dt kvs => v = .ref a ∧ ∃ ws, H a = some (.dT ws) ∧ ws.map (·.1) = kvs.map (·.1) ∧ DqAll K F (ws.map (·.2)) (kvs.map (·.2))
  | .ob φ => v = .ref a ∧ ∃ o, H a = some o ∧ φ a o
/-- what is held changes in F alone: the own thing at a stays -/
theorem SvOk.to {K : PySem.W.Frag} {B F F' H H' : Hp} {v : V} {a a' : Addr} {x : SV} (h : SvOk K B F H v a x) (e : Same F F') (hp : x.own = true → a' = a ∧ H' a = H a) : SvOk K B F' H' v a' x := by
  cases x with
  | no => trivial
  | im d => exact dp_same e h
  | bo d => exact h
  | ml ds =>
    obtain ⟨rfl, e2⟩ := hp rfl
    obtain ⟨h1, vs, h2, h3⟩ := h
    exact ⟨h1, vs, e2 ▸ h2, dps_same e h3⟩
  | tw t n c =>
    obtain ⟨rfl, e2⟩ := hp rfl
    obtain ⟨h1, ht, vs, ds, h2, h3, h4⟩ := h
    exact ⟨h1, ht, vs, ds, e2 ▸ h2, dps_same e h3, h4⟩
  | sc ss => exact h
  | dk kvs =>
    obtain ⟨rfl, e2⟩ := hp rfl
    obtain ⟨h1, vs, h2, h3, h4⟩ := h
    exact ⟨h1, vs, e2 ▸ h2, h3, dps_same e h4⟩
  | dt kvs =>
    obtain ⟨rfl, e2⟩ := hp rfl
    obtain ⟨h1, vs, h2, h3, h4⟩ := h
    exact ⟨h1, vs, e2 ▸ h2, h3, dps_same e h4⟩
  | ob φ =>
    obtain ⟨rfl, e2⟩ := hp rfl
    obtain ⟨h1, vs, h2, h3⟩ := h
    exact ⟨h1, vs, e2 ▸ h2, h3⟩
structure Ax (K : PySem.W.Frag) (B H : Hp) (σ : L2.St) (ρ : List SV) (α : Nat → Addr) (Γ : List (Addr × HO)) (G : List (V × PyData)) : Prop where
  same : Same B H
  len : σ.length = ρ.length
  ok : ∀ i, gs ρ i ≠ .no → ∃ v, σ[i]? = some (some v) ∧ SvOk K B (fz B (Ow ρ α Γ) H) H v (α i) (gs ρ i)
  fresh : ∀ a, Ow ρ α Γ a → B a = none ∧ ∃ o, H a = some o ∧ mutO o = true
  inj : ∀ i j, (gs ρ i).own = true → (gs ρ j).own = true → α i = α j → i = j
  hid : ∀ g ∈ Γ, H g.1 = some g.2 ∧ ∀ i, (gs ρ i).own = true → α i ≠ g.1
  nd : (Γ.map (·.1)).Nodup
  gh : ∀ g ∈ G, Dq K (fz B (Ow ρ α Γ) H) g.1 g.2
section
variable {K : PySem.W.Frag} {B H H' : Hp} {σ : L2.St} {ρ : List SV} {α : Nat → Addr} {Γ : List (Addr × HO)} {G : List (V × PyData)} {v : V} {x y : SV} {i : Nat} {d : PyData} {p : Addr} {ds : List PyData} {o o' : HO}
theorem Ax.tk (A : Ax K B H σ ρ α Γ G) : Tk H (fz B (Ow ρ α Γ) H) := by
  have key : ∀ a o, H a = some o → mutO o = false → fz B (Ow ρ α Γ) H a = some o := fun a o h hm => by
    refine fz_of (fun q => ?_) (fun u hu => ?_) h
    · obtain ⟨_, o2, h2, m2⟩ := A.fresh a q
      rw [h] at h2; cases h2; rw [hm] at m2; cases m2
    · have := A.same a u hu
      rw [h] at this; cases this; exact hm
  exact ⟨fun a xs h => key a _ h rfl, fun a o u h => key a _ h rfl⟩
/-- more is there -/
theorem Ax.to (A : Ax K B H σ ρ α Γ G) (e : Same H H') : Ax K B H' σ ρ α Γ G := by
  have F : Same (fz B (Ow ρ α Γ) H) (fz B (Ow ρ α Γ) H') := fz_mono (fun _ _ _ h => h) fun a o _ h => e a o h
  refine ⟨A.same.trans e, A.len, fun i hi => ?_, fun a h => ?_, A.inj, fun g hg => ⟨e _ _ (A.hid g hg).1, (A.hid g hg).2⟩, A.nd, fun g hg => dp_same F (A.gh g hg)⟩
  · obtain ⟨v, h1, h2⟩ := A.ok i hi
    refine ⟨v, h1, h2.to F fun ho => ⟨rfl, ?_⟩⟩
    obtain ⟨_, o, h3, _⟩ := A.fresh (α i) (.inr ⟨i, ho, rfl⟩)
    rw [h3, e _ _ h3]
  · obtain ⟨h1, o, h2, h3⟩ := A.fresh a h
    exact ⟨h1, o, e _ _ h2, h3⟩
theorem ow_set0 (hx : x.own = false) {a : Addr} (h : Ow (ρ.set i x) α Γ a) : Ow ρ α Γ a := by
  rcases h with h | ⟨j, h1, h2⟩
  · exact .inl h
  · rw [gs_set] at h1
    split at h1
    · rw [hx] at h1; cases h1
    · exact .inr ⟨j, h1, h2⟩
/-- a datum into slot i -/
theorem Ax.set0 (A : Ax K B H σ ρ α Γ G) (i : Nat) (hx : x.own = false) (h : SvOk K B (fz B (Ow ρ α Γ) H) H v (α i) x) : Ax K B H (σ.set i (some v)) (ρ.set i x) α Γ G := by
  have F : Same (fz B (Ow ρ α Γ) H) (fz B (Ow (ρ.set i x) α Γ) H) := fz_mono (fun _ _ _ q => ow_set0 hx q) fun _ _ _ q => q
  have own : ∀ {j}, (gs (ρ.set i x) j).own = true → (gs ρ j).own = true := fun {j} q => by
    rw [gs_set] at q
    split at q
    · rw [hx] at q; cases q
    · exact q
  refine ⟨A.same, by simp [A.len], fun j hj => ?_, fun a q => A.fresh a (ow_set0 hx q), fun a b ha hb e => A.inj a b (own ha) (own hb) e, fun g hg => ⟨(A.hid g hg).1, fun j hj => (A.hid g hg).2 j (own hj)⟩, A.nd, fun g hg => dp_same F (A.gh g hg)⟩
  rw [gs_set] at hj ⊢
  split
  · next q =>
    obtain ⟨rfl, hl⟩ := q
    exact ⟨v, List.getElem?_set_self (by rw [A.len]; exact hl), h.to F fun q => by rw [hx] at q; cases q⟩
  · next q =>
    rw [if_neg q] at hj
    obtain ⟨w, h1, h2⟩ := A.ok j hj
    refine ⟨w, ?_, h2.to F fun _ => ⟨rfl, rfl⟩⟩
    by_cases e : i = j
    · subst e
      have : ¬ i < ρ.length := fun hl => q ⟨rfl, hl⟩
      exact absurd (gs_lt hj) this
    · rw [List.getElem?_set_ne e]; exact h1
theorem Ax.setI (A : Ax K B H σ ρ α Γ G) (i : Nat) (h : Dq K (fz B (Ow ρ α Γ) H) v d) : Ax K B H (σ.set i (some v)) (ρ.set i (.im d)) α Γ G := A.set0 i rfl h
/-- slot i is forgotten -/
theorem Ax.drop (A : Ax K B H σ ρ α Γ G) (i : Nat) : Ax K B H σ (ρ.set i .no) α Γ G := by
  have F : Same (fz B (Ow ρ α Γ) H) (fz B (Ow (ρ.set i .no) α Γ) H) := fz_mono (fun _ _ _ q => ow_set0 rfl q) fun _ _ _ q => q
  have own : ∀ {j}, (gs (ρ.set i .no) j).own = true → (gs ρ j).own = true := fun {j} q => by
    rw [gs_set] at q
    split at q
    · cases q
    · exact q
  refine ⟨A.same, by simp [A.len], fun j hj => ?_, fun a q => A.fresh a (ow_set0 rfl q), fun a b ha hb e => A.inj a b (own ha) (own hb) e, fun g hg => ⟨(A.hid g hg).1, fun j hj => (A.hid g hg).2 j (own hj)⟩, A.nd, fun g hg => dp_same F (A.gh g hg)⟩
  rw [gs_set] at hj ⊢
  split
  · next q => rw [if_pos q] at hj; exact absurd rfl hj
  · next q =>
    rw [if_neg q] at hj
    obtain ⟨w, h1, h2⟩ := A.ok j hj
    exact ⟨w, h1, h2.to F fun _ => ⟨rfl, rfl⟩⟩
def alSet (α : Nat → Addr) (i : Nat) (p : Addr) : Nat → Addr := fun j => if j = i then p else α j
/-- a new own thing into slot i -/
theorem Ax.setN (A : Ax K B H σ ρ α Γ G) (i : Nat) (hil : i < ρ.length) (hp : H p = none) (e : Same H H') (ho : H' p = some o) (hm : mutO o = true) (hx : x.own = true)
    (ok : SvOk K B (fz B (Ow (ρ.set i x) (alSet α i p) Γ) H') H' (.ref p) p x) : Ax K B H' (σ.set i (some (.ref p))) (ρ.set i x) (alSet α i p) Γ G := by
  have hBp : B p = none := by
    cases h : B p with
    | none => rfl
    | some u => rw [A.same p u h] at hp; cases hp
  have aother : ∀ {j}, j ≠ i → alSet α i p j = α j := fun h => by unfold alSet; rw [if_neg h]
  have aself : alSet α i p i = p := by unfold alSet; rw [if_pos rfl]
  have notO : ¬ Ow ρ α Γ p := fun q => by
    obtain ⟨_, u, hu, _⟩ := A.fresh p q
    rw [hp] at hu; cases hu
  have hO : ∀ a, Ow (ρ.set i x) (alSet α i p) Γ a → a = p ∨ Ow ρ α Γ a := by
    rintro a (q | ⟨j, q1, q2⟩)
    · exact .inr (.inl q)
    · by_cases hj : j = i
      · subst hj; rw [aself] at q2; exact .inl q2.symm
      · rw [aother hj] at q2
        rw [gs_ne (Ne.symm hj)] at q1
        exact .inr (.inr ⟨j, q1, q2⟩)
  have F : Same (fz B (Ow ρ α Γ) H) (fz B (Ow (ρ.set i x) (alSet α i p) Γ) H') := fz_mono (fun a u hu q => by
    rcases hO a q with rfl | q
    · rw [hp] at hu; cases hu
    · exact q) fun a u _ h => e a u h
  refine ⟨A.same.trans e, by simp [A.len], fun j hj => ?_, fun a q => ?_, fun a b ha hb q => ?_, fun g hg => ⟨e _ _ (A.hid g hg).1, fun j hj => ?_⟩, A.nd, fun g hg => dp_same F (A.gh g hg)⟩
  · by_cases hj' : j = i
    · subst hj'
      rw [gs_self hil, aself]
      exact ⟨.ref p, List.getElem?_set_self (by rw [A.len]; exact hil), ok⟩
    · rw [gs_ne (Ne.symm hj')] at hj ⊢
      obtain ⟨w, h1, h2⟩ := A.ok j hj
      refine ⟨w, by rw [List.getElem?_set_ne (Ne.symm hj')]; exact h1, h2.to F fun ho => ⟨aother hj', ?_⟩⟩
      obtain ⟨_, o, h3, _⟩ := A.fresh (α j) (.inr ⟨j, ho, rfl⟩)
      rw [h3, e _ _ h3]
  · rcases hO a q with rfl | q
    · exact ⟨hBp, o, ho, hm⟩
    · obtain ⟨h1, u, h2, h3⟩ := A.fresh a q
      exact ⟨h1, u, e _ _ h2, h3⟩
  · by_cases h1 : a = i
    · by_cases h2 : b = i
      · rw [h1, h2]
      · subst h1
        rw [aself, aother h2] at q
        rw [gs_ne (Ne.symm h2)] at hb
        exact absurd (.inr ⟨b, hb, q.symm⟩) notO
    · rw [gs_ne (Ne.symm h1)] at ha
      by_cases h2 : b = i
      · subst h2
        rw [aself, aother h1] at q
        exact absurd (.inr ⟨a, ha, q⟩) notO
      · rw [gs_ne (Ne.symm h2)] at hb
        rw [aother h1, aother h2] at q
        exact A.inj a b ha hb q
  · by_cases h1 : j = i
    · subst h1
      rw [aself]
      intro e2
      have := (A.hid g hg).1
      rw [← e2, hp] at this; cases this
    · rw [gs_ne (Ne.symm h1)] at hj
      rw [aother h1]
      exact (A.hid g hg).2 j hj
/-- the same things are own -/
theorem ow_eq (h : ∀ j, (gs ρ j).own = (gs (ρ.set i y) j).own) : Ow (ρ.set i y) α Γ = Ow ρ α Γ := by
  funext a
  apply propext
  constructor
  · rintro (q | ⟨j, q1, q2⟩)
    · exact .inl q
    · exact .inr ⟨j, by rw [h j]; exact q1, q2⟩
  · rintro (q | ⟨j, q1, q2⟩)
    · exact .inl q
    · exact .inr ⟨j, by rw [← h j]; exact q1, q2⟩
theorem own_set (hi : (gs ρ i).own = true) (hy : y.own = true) (j : Nat) : (gs ρ j).own = (gs (ρ.set i y) j).own := by
  rw [gs_set]
  split
  · next q => obtain ⟨rfl, _⟩ := q; rw [hi, hy]
  · rfl
/-- the heap changes at own places only: what stays is the same -/
theorem fz_upd {O : Addr → Prop} (hp : O p) : fz B O (upd H p o) = fz B O H := by
  funext a
  unfold fz
  split
  · rfl
  · next q => rw [upd_ne (fun e => q (.inl (by rw [e]; exact hp)))]
/-- the own thing in slot i is changed -/
theorem Ax.mut (A : Ax K B H σ ρ α Γ G) (hi : (gs ρ i).own = true) (hy : y.own = true) (hm : mutO o' = true) (ok : SvOk K B (fz B (Ow ρ α Γ) H) (upd H (α i) o') (.ref (α i)) (α i) y) : Ax K B (upd H (α i) o') σ (ρ.set i y) α Γ G := by
  have hO := ow_eq (α := α) (Γ := Γ) (own_set hi hy)
  have hOi : Ow ρ α Γ (α i) := .inr ⟨i, hi, rfl⟩
  obtain ⟨hB, o0, ho0, _⟩ := A.fresh _ hOi
  have sv : σ[i]? = some (some (.ref (α i))) := by
    obtain ⟨w, h1, h2⟩ := A.ok i (own_ne hi)
    have : w = .ref (α i) := by
      cases hx : gs ρ i with
      | ml ds => rw [hx] at h2; exact h2.1
      | tw t n c => rw [hx] at h2; exact h2.1
      | dk n => rw [hx] at h2; exact h2.1
      | dt n => rw [hx] at h2; exact h2.1
      | ob n => rw [hx] at h2; exact h2.1
      | no => rw [hx] at hi; cases hi
      | im d => rw [hx] at hi; cases hi
      | bo d => rw [hx] at hi; cases hi
      | sc d => rw [hx] at hi; cases hi
    rw [h1, this]
  refine ⟨fun a u h => ?_, by simp [A.len], fun j hj => ?_, fun a q => ?_, fun a b ha hb e => A.inj a b (by rw [own_set hi hy]; exact ha) (by rw [own_set hi hy]; exact hb) e, fun g hg => ⟨?_, fun j hj => (A.hid g hg).2 j (by rw [own_set hi hy]; exact hj)⟩, A.nd, fun g hg => ?_⟩
  · rw [upd_ne (fun e => by rw [e, hB] at h; cases h)]
    exact A.same a u h
  · rw [hO, fz_upd hOi]
    by_cases e : i = j
    · subst e
      rw [gs_self (own_lt hi)]
      exact ⟨_, sv, ok⟩
    · rw [gs_ne e] at hj ⊢
      obtain ⟨w, h1, h2⟩ := A.ok j hj
      refine ⟨w, h1, h2.to (Same.refl _) fun hj' => ⟨rfl, upd_ne fun q => e (A.inj i j hi hj' q.symm)⟩⟩
  · rw [hO] at q
    obtain ⟨h1, u, h2, h3⟩ := A.fresh a q
    refine ⟨h1, ?_⟩
    by_cases e : a = α i
    · subst e; exact ⟨o', upd_same, hm⟩
    · exact ⟨u, by rw [upd_ne e]; exact h2, h3⟩
  · rw [upd_ne (fun e => (A.hid g hg).2 i hi e.symm)]
    exact (A.hid g hg).1
  · rw [hO, fz_upd hOi]; exact A.gh g hg
/-- a new hidden thing -/
theorem Ax.hide (A : Ax K B H σ ρ α Γ G) (hp : H p = none) (e : Same H H') (ho : H' p = some o) (hm : mutO o = true) : Ax K B H' σ ρ α ((p, o) :: Γ) G := by
  have hBp : B p = none := by
    cases h : B p with
    | none => rfl
    | some u => rw [A.same p u h] at hp; cases hp
  have hO : ∀ a, Ow ρ α ((p, o) :: Γ) a → a = p ∨ Ow ρ α Γ a := by
    rintro a (⟨g, hg, q⟩ | q)
    · rcases List.mem_cons.mp hg with rfl | hg
      · exact .inl q.symm
      · exact .inr (.inl ⟨g, hg, q⟩)
    · exact .inr (.inr q)
  have notO : ¬ Ow ρ α Γ p := fun q => by
    obtain ⟨_, u, hu, _⟩ := A.fresh p q
    rw [hp] at hu; cases hu
  have F : Same (fz B (Ow ρ α Γ) H) (fz B (Ow ρ α ((p, o) :: Γ)) H') := fz_mono (fun a u hu q => by
    rcases hO a q with rfl | q
    · rw [hp] at hu; cases hu
    · exact q) fun a u _ h => e a u h
  refine ⟨A.same.trans e, A.len, fun j hj => ?_, fun a q => ?_, A.inj, fun g hg => ?_, ?_, fun g hg => dp_same F (A.gh g hg)⟩
  · obtain ⟨w, h1, h2⟩ := A.ok j hj
    refine ⟨w, h1, h2.to F fun ho => ⟨rfl, ?_⟩⟩
    obtain ⟨_, o, h3, _⟩ := A.fresh (α j) (.inr ⟨j, ho, rfl⟩)
    rw [h3, e _ _ h3]
  · rcases hO a q with rfl | q
    · exact ⟨hBp, o, ho, hm⟩
    · obtain ⟨h1, u, h2, h3⟩ := A.fresh a q
      exact ⟨h1, u, e _ _ h2, h3⟩
  · rcases List.mem_cons.mp hg with rfl | hg
    · exact ⟨ho, fun i hi q => notO (.inr ⟨i, hi, q⟩)⟩
    · exact ⟨e _ _ (A.hid g hg).1, (A.hid g hg).2⟩
  · rw [List.map_cons, List.nodup_cons]
    refine ⟨fun q => ?_, A.nd⟩
    obtain ⟨g, hg, q⟩ := List.mem_map.mp q
    exact notO (.inl ⟨g, hg, q⟩)
/-- the hidden thing is changed -/
theorem Ax.hmut (A : Ax K B H σ ρ α ((p, o) :: Γ) G) (hm : mutO o' = true) : Ax K B (upd H p o') σ ρ α ((p, o') :: Γ) G := by
  have hO : Ow ρ α ((p, o') :: Γ) = Ow ρ α ((p, o) :: Γ) := by
    funext a
    apply propext
    constructor
    · rintro (⟨g, hg, q⟩ | q)
      · rcases List.mem_cons.mp hg with rfl | hg
        · exact .inl ⟨(p, o), List.mem_cons_self, q⟩
        · exact .inl ⟨g, List.mem_cons_of_mem _ hg, q⟩
      · exact .inr q
    · rintro (⟨g, hg, q⟩ | q)
      · rcases List.mem_cons.mp hg with rfl | hg
        · exact .inl ⟨(p, o'), List.mem_cons_self, q⟩
        · exact .inl ⟨g, List.mem_cons_of_mem _ hg, q⟩
      · exact .inr q
  have hOp : Ow ρ α ((p, o) :: Γ) p := .inl ⟨(p, o), List.mem_cons_self, rfl⟩
  obtain ⟨hB, o0, ho0, _⟩ := A.fresh _ hOp
  have hnd := A.nd
  rw [List.map_cons, List.nodup_cons] at hnd
  refine ⟨fun a u h => ?_, A.len, fun j hj => ?_, fun a q => ?_, A.inj, fun g hg => ?_, A.nd, fun g hg => ?_⟩
  · rw [upd_ne (fun e => by rw [e, hB] at h; cases h)]
    exact A.same a u h
  · rw [hO, fz_upd hOp]
    obtain ⟨w, h1, h2⟩ := A.ok j hj
    exact ⟨w, h1, h2.to (Same.refl _) fun hj' => ⟨rfl, upd_ne ((A.hid _ List.mem_cons_self).2 j hj')⟩⟩
  · rw [hO] at q
    obtain ⟨h1, u, h2, h3⟩ := A.fresh a q
    refine ⟨h1, ?_⟩
    by_cases e : a = p
    · subst e; exact ⟨o', upd_same, hm⟩
    · exact ⟨u, by rw [upd_ne e]; exact h2, h3⟩
  · rcases List.mem_cons.mp hg with rfl | hg
    · exact ⟨upd_same, (A.hid _ List.mem_cons_self).2⟩
    · refine ⟨?_, (A.hid g (List.mem_cons_of_mem _ hg)).2⟩
      rw [upd_ne (fun e => hnd.1 (List.mem_map.mpr ⟨g, hg, e⟩))]
      exact (A.hid g (List.mem_cons_of_mem _ hg)).1
  · rw [hO, fz_upd hOp]; exact A.gh g hg
/-- the hidden thing stays from now on -/
theorem Ax.hpop (A : Ax K B H σ ρ α ((p, o) :: Γ) G) : Ax K B H σ ρ α Γ G ∧ Same (fz B (Ow ρ α ((p, o) :: Γ)) H) (fz B (Ow ρ α Γ) H) ∧ fz B (Ow ρ α Γ) H p = some o := by
  have hO : ∀ a, Ow ρ α Γ a → Ow ρ α ((p, o) :: Γ) a := by
    rintro a (⟨g, hg, q⟩ | q)
    · exact .inl ⟨g, List.mem_cons_of_mem _ hg, q⟩
    · exact .inr q
  have F : Same (fz B (Ow ρ α ((p, o) :: Γ)) H) (fz B (Ow ρ α Γ) H) := fz_mono (fun a _ _ q => hO a q) fun _ _ _ q => q
  have hnd := A.nd
  rw [List.map_cons, List.nodup_cons] at hnd
  refine ⟨⟨A.same, A.len, fun j hj => ?_, fun a q => A.fresh a (hO a q), A.inj, fun g hg => A.hid g (List.mem_cons_of_mem _ hg), hnd.2, fun g hg => dp_same F (A.gh g hg)⟩, F, ?_⟩
  · obtain ⟨w, h1, h2⟩ := A.ok j hj
    exact ⟨w, h1, h2.to F fun _ => ⟨rfl, rfl⟩⟩
  · obtain ⟨hB, _⟩ := A.fresh p (.inl ⟨(p, o), List.mem_cons_self, rfl⟩)
    refine fz_of ?_ (fun u hu => by rw [hB] at hu; cases hu) (A.hid _ List.mem_cons_self).1
    rintro (⟨g, hg, q⟩ | ⟨i, q1, q2⟩)
    · exact hnd.1 (List.mem_map.mpr ⟨g, hg, q⟩)
    · exact (A.hid _ List.mem_cons_self).2 i q1 q2
theorem Ax.addG (A : Ax K B H σ ρ α Γ G) (h : Dq K (fz B (Ow ρ α Γ) H) v d) : Ax K B H σ ρ α Γ ((v, d) :: G) :=
  ⟨A.same, A.len, A.ok, A.fresh, A.inj, A.hid, A.nd, fun g hg => by
    rcases List.mem_cons.mp hg with rfl | hg
    · exact h
    · exact A.gh g hg⟩
theorem Ax.unG {g : V × PyData} (A : Ax K B H σ ρ α Γ (g :: G)) : Ax K B H σ ρ α Γ G ∧ Dq K (fz B (Ow ρ α Γ) H) g.1 g.2 :=
  ⟨⟨A.same, A.len, A.ok, A.fresh, A.inj, A.hid, A.nd, fun g hg => A.gh g (List.mem_cons_of_mem _ hg)⟩, A.gh g List.mem_cons_self⟩
/-- where a def starts -/
theorem Ax.start {vs : List V} {N : List Str} {α : Nat → Addr} (h : DqAll K H vs ds) (hl : vs.length ≤ N.length) : Ax K H H (L2.start N vs) (ds.map SV.bo ++ List.replicate (N.length - ds.length) SV.no) α [] [] := by
  have hlen := h.length
  have gso : ∀ (l : List PyData) (k i : Nat), gs (l.map SV.bo ++ List.replicate k SV.no) i = (match l[i]? with | some d => SV.bo d | none => .no) := by
    intro l
    induction l with
    | nil =>
      intro k
      induction k with
      | zero => intro i; rfl
      | succ k ih => intro i; cases i with
        | zero => rfl
        | succ i => exact ih i
    | cons d l ih => intro k i; cases i with
      | zero => rfl
      | succ i => exact ih k i
  have no : ∀ i, (gs (ds.map SV.bo ++ List.replicate (N.length - ds.length) SV.no) i).own = false := fun i => by
    rw [gso]; split <;> rfl
  have noO : ∀ a, ¬ Ow (ds.map SV.bo ++ List.replicate (N.length - ds.length) SV.no) α [] a := by
    rintro a (⟨g, hg, _⟩ | ⟨i, q, _⟩)
    · cases hg
    · rw [no] at q; cases q
  refine ⟨Same.refl H, ?_, fun i hi => ?_, fun a q => absurd q (noO a), fun i j q => (by rw [no] at q; cases q), (fun g hg => nomatch hg), List.nodup_nil, fun g hg => nomatch hg⟩
  · have := congrArg List.length (rfl : L2.start N vs = L2.start N vs)
    unfold L2.start
    simp only [List.length_append, List.length_map, List.length_replicate]
    omega
  · rw [gso] at hi ⊢
    cases e : ds[i]? with
    | none => rw [e] at hi; exact absurd rfl hi
    | some d =>
      obtain ⟨v, h1, h2⟩ := h.get' e
      refine ⟨v, ?_, h2⟩
      have hi' : i < vs.length := (List.getElem?_eq_some_iff.mp h1).1
      unfold L2.start
      rw [List.getElem?_append_left (by simpa using hi'), List.getElem?_map, h1]
      rfl
end
end WP

namespace WP
open PySem L2 TH PyProof.Rows
abbrev WQ := PyData → Bool → List SV → Prop
abbrev WE := List SV → WQ → Prop
abbrev WA := List SV → (List PyData → Bool → List SV → Prop) → Prop
abbrev WT := List SV → (Bool → List SV → Prop) → Prop
/-- frozen, or without lists -/
def okF (f : Bool) (d : PyData) : Bool := f || noL d
section
variable (K : PySem.W.Frag) (B H : Hp) (ρ : List SV) (α : Nat → Addr) (Γ : List (Addr × HO))
def Hv (v : V) (d : PyData) : Bool → Prop
  | true => Dq K (fz B (Ow ρ α Γ) H) v d
  | false => Dq K H v d
def HvA (vs : List V) (ds : List PyData) : Bool → Prop
  | true => DqAll K (fz B (Ow ρ α Γ) H) vs ds
  | false => DqAll K H vs ds
end
section
variable {K : PySem.W.Frag} {B H H' : Hp} {ρ : List SV} {α : Nat → Addr} {Γ : List (Addr × HO)} {G : List (V × PyData)} {σ : L2.St} {v : V} {d : PyData} {f : Bool} {vs : List V} {ds : List PyData}
theorem Hv.h (h : Hv K B H ρ α Γ v d f) : Dq K H v d := by
  cases f with
  | true => exact dp_same fz_le h
  | false => exact h
theorem HvA.h (h : HvA K B H ρ α Γ vs ds f) : DqAll K H vs ds := by
  cases f with
  | true => exact dps_same fz_le h
  | false => exact h
theorem Hv.fr (A : Ax K B H σ ρ α Γ G) (h : Hv K B H ρ α Γ v d f) (o : okF f d = true) : Dq K (fz B (Ow ρ α Γ) H) v d := by
  cases f with
  | true => exact h
  | false => exact dp_tk A.tk h (by simpa [okF] using o)
theorem Ax.fzTo (A : Ax K B H σ ρ α Γ G) (e : Same H H') : Same (fz B (Ow ρ α Γ) H) (fz B (Ow ρ α Γ) H') := fz_mono (fun _ _ _ h => h) fun a o _ h => e a o h
theorem Hv.to (A : Ax K B H σ ρ α Γ G) (h : Hv K B H ρ α Γ v d f) (e : Same H H') : Hv K B H' ρ α Γ v d f := by
  cases f with
  | true => exact dp_same (A.fzTo e) h
  | false => exact dp_same e h
/-- what is new, and what F knows -/
theorem Ax.new (A : Ax K B H σ ρ α Γ G) (e : Same H H') {a : Addr} {o : HO} (h : H a = none) (ho : H' a = some o) : fz B (Ow ρ α Γ) H' a = some o := by
  refine fz_of (fun q => ?_) (fun u hu => ?_) ho
  · obtain ⟨_, o2, h2, _⟩ := A.fresh a q
    rw [h] at h2; cases h2
  · have := A.same a u hu
    rw [h] at this; cases this
/-- a result without lists -/
theorem Ax.res (A : Ax K B H σ ρ α Γ G) (e : Same H H') (h : Dq K H' v d) (hn : noL d = true) : Dq K (fz B (Ow ρ α Γ) H') v d := dp_tk (A.to e).tk h hn
/-- a new list of things without lists -/
theorem Ax.resL (A : Ax K B H σ ρ α Γ G) (q : QL K H ds v H') (hn : noLs ds = true) : Same H H' ∧ Dq K (fz B (Ow ρ α Γ) H') v (.list ds) := by
  obtain ⟨p, vs, rfl, h1, h2, h3, h4⟩ := q
  exact ⟨h2, .lst (A.new h2 h1 h3) (dps_tk (A.to h2).tk h4 hn)⟩
end
structure Snd (X : Cx) (pu : Bool) (e : Expr) (w : WE) : Prop where
  run : ∀ (B : Hp) (α : Nat → Addr) (Γ : List (Addr × HO)) (G : List (V × PyData)) (σ : L2.St) (H : Hp) (ρ : List SV) (Q : WQ) (R : VK), Ax X.K B H σ ρ α Γ G → w ρ Q →
    (∀ v H' ρ' d f, Q d f ρ' → Ax X.K B H' σ ρ' α Γ G → Hv X.K B H' ρ' α Γ v d f → (pu = true → ρ' = ρ ∧ Same H H') → R v H') → tE X e σ H R
structure SndA (X : Cx) (pu : Bool) (es : List Expr) (w : WA) : Prop where
  run : ∀ (B : Hp) (α : Nat → Addr) (Γ : List (Addr × HO)) (G : List (V × PyData)) (σ : L2.St) (H : Hp) (ρ : List SV) (Q : List PyData → Bool → List SV → Prop) (R : List V → Hp → Prop), Ax X.K B H σ ρ α Γ G → w ρ Q →
    (∀ vs H' ρ' ds f, Q ds f ρ' → Ax X.K B H' σ ρ' α Γ G → HvA X.K B H' ρ' α Γ vs ds f → (pu = true → ρ' = ρ ∧ Same H H') → R vs H') → tA X es σ H R
structure SndT (X : Cx) (pu : Bool) (e : Expr) (w : WT) : Prop where
  run : ∀ (B : Hp) (α : Nat → Addr) (Γ : List (Addr × HO)) (G : List (V × PyData)) (σ : L2.St) (H : Hp) (ρ : List SV) (Q : Bool → List SV → Prop) (R : Bool → Hp → Prop), Ax X.K B H σ ρ α Γ G → w ρ Q →
    (∀ b H' ρ', Q b ρ' → Ax X.K B H' σ ρ' α Γ G → (pu = true → ρ' = ρ ∧ Same H H') → R b H') → tT X e σ H R
structure SndW (X : Cx) (pu : Bool) (e : Expr) (w : WT) : Prop where
  run : ∀ (B : Hp) (α : Nat → Addr) (Γ : List (Addr × HO)) (G : List (V × PyData)) (σ : L2.St) (H : Hp) (ρ : List SV) (Q : Bool → List SV → Prop) (R : Bool → Hp → Prop), Ax X.K B H σ ρ α Γ G → w ρ Q →
    (∀ b H' ρ', Q b ρ' → Ax X.K B H' σ ρ' α Γ G → (pu = true → ρ' = ρ ∧ Same H H') → R b H') → tW X e σ H R
theorem rd {X : Cx} {e : Expr} {t : TE} (h : PE X e t) {σ : L2.St} {H : Hp} {Q : VK} (q : t σ H Q) : tE X e σ H Q := fun pins s I => h.run pins s σ H Q I q
theorem rdT {X : Cx} {e : Expr} {t : TT} (h : PT X e t) {σ : L2.St} {H : Hp} {Q : Bool → Hp → Prop} (q : t σ H Q) : tT X e σ H Q := fun pins s I => h.run pins s σ H Q I q
theorem rdW {X : Cx} {e : Expr} {t : TT} (h : PW X e t) {σ : L2.St} {H : Hp} {Q : Bool → Hp → Prop} (q : t σ H Q) : tW X e σ H Q := fun wh pins s I => h.run wh pins s σ H Q I q
theorem rdA {X : Cx} {es : List Expr} {t : TA} (h : PA X es t) {σ : L2.St} {H : Hp} {Q : List V → Hp → Prop} (q : t σ H Q) : tA X es σ H Q := fun pos pins s I => h.run pos pins s σ H Q I q
theorem pu_trans {pa pb : Bool} {ρ ρ1 ρ2 : List SV} {H H1 H2 : Hp} (h1 : pa = true → ρ1 = ρ ∧ Same H H1) (h2 : pb = true → ρ2 = ρ1 ∧ Same H1 H2) : (pa && pb) = true → ρ2 = ρ ∧ Same H H2 := fun h => by
  rw [Bool.and_eq_true] at h
  obtain ⟨e1, s1⟩ := h1 h.1
  obtain ⟨e2, s2⟩ := h2 h.2
  exact ⟨e2.trans e1, s1.trans s2⟩
/-- one behind the other: the first is held -/
theorem Snd.two {X : Cx} {pb : Bool} {b : Expr} {wb : WE} (hb : Snd X pb b wb) {B H1 : Hp} {α : Nat → Addr} {Γ : List (Addr × HO)} {G : List (V × PyData)} {σ : L2.St} {ρ1 : List SV} {Q : WQ} {R : VK} {x : V} {d : PyData} {f : Bool}
    (A : Ax X.K B H1 σ ρ1 α Γ G) (hx : Hv X.K B H1 ρ1 α Γ x d f) (hw : wb ρ1 fun e g ρ2 => (pb = true ∨ okF f d = true) ∧ Q e g ρ2)
    (k : ∀ y H2 ρ2 e g f', Q e g ρ2 → Ax X.K B H2 σ ρ2 α Γ G → Hv X.K B H2 ρ2 α Γ x d f' → okF f d = okF f' d → Hv X.K B H2 ρ2 α Γ y e g → (pb = true → ρ2 = ρ1 ∧ Same H1 H2) → R y H2) : tE X b σ H1 R := by
  cases ho : okF f d with
  | true =>
    refine hb.run B α Γ ((x, d) :: G) σ H1 ρ1 _ R (A.addG (hx.fr A ho)) hw fun y H2 ρ2 e g q A2 hy pu => ?_
    obtain ⟨A3, hx'⟩ := A2.unG
    exact k y H2 ρ2 e g true q.2 A3 hx' (by rw [ho]; rfl) hy pu
  | false =>
    cases pb with
    | true =>
      refine hb.run B α Γ G σ H1 ρ1 _ R A hw fun y H2 ρ2 e g q A2 hy pu => ?_
      obtain ⟨rfl, e2⟩ := pu rfl
      exact k y H2 ρ2 e g f q.2 A2 (hx.to A e2) rfl hy pu
    | false =>
      refine hb.run B α Γ G σ H1 ρ1 _ R A hw fun y H2 ρ2 e g q A2 hy pu => ?_
      rcases q.1 with h | h
      · cases h
      · rw [ho] at h; cases h
section
variable {X : Cx} {a b c e : Expr} {pos p : Pos} {pa pb pc pu : Bool} {wa wb wc : WE} {es : List Expr}
/-! ### names and constants -/
def getK : SV → (PyData → Bool → Prop) → Prop
  | .im d, k => k d true
  | .bo d, k => k d false
  | .ml ds, k => k (.list ds) false
  | _, _ => False
def wV (i : Nat) : WE := fun ρ Q => getK (gs ρ i) fun d f => Q d f ρ
theorem sn_var {i : Nat} {n : Str} (hN : X.N[i]? = some n) (hv : Vis X.env.scope n) (hd : (n == ("__debug__" : Str)) = false := by decide) (hcd : (n == ("__classdict__" : Str)) = false := by decide) : Snd X true (.Name n pos) (wV i) := ⟨fun B α Γ G σ H ρ Q R A hw k => by
  have rf : true = true → ρ = ρ ∧ Same H H := fun _ => ⟨rfl, Same.refl H⟩
  unfold wV at hw
  generalize hgk : gs ρ i = x at hw
  unfold getK at hw
  split at hw
  · next d =>
    have hd' := hgk
    obtain ⟨v, h1, h2⟩ := A.ok i (by rw [hd']; intro z; cases z)
    rw [hd'] at h2
    exact rd (pe_var hN hv hd hcd) ⟨v, h1, k v H ρ d true hw A h2 rf⟩
  · next d =>
    have hd' := hgk
    obtain ⟨v, h1, h2⟩ := A.ok i (by rw [hd']; intro z; cases z)
    rw [hd'] at h2
    exact rd (pe_var hN hv hd hcd) ⟨v, h1, k v H ρ d false hw A (dp_same A.same h2) rf⟩
  · next ds =>
    have hd' := hgk
    obtain ⟨v, h1, h2⟩ := A.ok i (by rw [hd']; intro z; cases z)
    rw [hd'] at h2
    obtain ⟨rfl, vs, h3, h4⟩ := h2
    exact rd (pe_var hN hv hd hcd) ⟨_, h1, k _ H ρ _ false hw A (.lst h3 (dps_same fz_le h4)) rf⟩
  · exact hw.elim⟩
def wC (d : PyData) : WE := fun ρ Q => Q d true ρ
theorem sn_int {i : Int} {j} : Snd X true (.Constant (.int i) j pos) (wC (.int i)) := ⟨fun B α Γ G σ H ρ Q R A hw k => rd pe_int (k _ H ρ _ true hw A (.int i) fun _ => ⟨rfl, Same.refl H⟩)⟩
theorem sn_str {z : Str} {j} : Snd X true (.Constant (.str z) j pos) (wC (.str z)) := ⟨fun B α Γ G σ H ρ Q R A hw k => rd pe_str (k _ H ρ _ true hw A (.str z) fun _ => ⟨rfl, Same.refl H⟩)⟩
theorem sn_bl {z : Bool} {j} : Snd X true (.Constant (.bool z) j pos) (wC (.bool z)) := ⟨fun B α Γ G σ H ρ Q R A hw k => rd pe_bl (k _ H ρ _ true hw A (.bl z) fun _ => ⟨rfl, Same.refl H⟩)⟩
theorem sn_non {j} : Snd X true (.Constant .none j pos) (wC .none) := ⟨fun B α Γ G σ H ρ Q R A hw k => rd pe_non (k _ H ρ _ true hw A .non fun _ => ⟨rfl, Same.refl H⟩)⟩
/-- any judgement of data without slots -/
theorem sn_ev {d : PyData} (h : ∀ r, EV X e r d) (hn : noL d = true) : Snd X true e (wC d) := ⟨fun B α Γ G σ H ρ Q R A hw k => (h (σ.map fun _ => none)).use ⟨by simp, fun i d h => by
    rw [List.getElem?_map] at h
    cases q : σ[i]? <;> rw [q] at h <;> cases h⟩ fun v H' e1 dv => k v H' ρ d true hw (A.to e1) (A.res e1 dv hn) fun _ => ⟨rfl, e1⟩⟩
/-! ### arguments, displays -/
def waNil : WA := fun ρ Q => Q [] true ρ
def waCons (pb : Bool) (a : WE) (b : WA) : WA := fun ρ Q => a ρ fun d f ρ1 => b ρ1 fun ds g ρ2 => (pb = true ∨ okF f d = true) ∧ Q (d :: ds) (okF f d && g) ρ2
theorem sa_nil : SndA X true [] waNil := ⟨fun B α Γ G σ H ρ Q R A hw k => rdA pa_nil (k [] H ρ [] true hw A .nil fun _ => ⟨rfl, Same.refl H⟩)⟩
theorem sa_cons {wb : WA} (ha : Snd X pa a wa) (hb : SndA X pb es wb) (hs : starEach (a :: es) X.env = (false, eval a X.env) :: starEach es X.env := by rfl) : SndA X (pa && pb) (a :: es) (waCons pb wa wb) := ⟨fun B α Γ G σ H ρ Q R A hw k => by
  refine rdA (pa_cons pe_any pa_any hs) (ha.run B α Γ G σ H ρ _ _ A hw fun x H1 ρ1 d f hw1 A1 hx pu1 => ?_)
  cases ho : okF f d with
  | true =>
    refine hb.run B α Γ ((x, d) :: G) σ H1 ρ1 _ _ (A1.addG (hx.fr A1 ho)) hw1 fun vs H2 ρ2 ds g q A2 hy pu2 => ?_
    obtain ⟨A3, hx'⟩ := A2.unG
    refine k (x :: vs) H2 ρ2 (d :: ds) _ q.2 A3 ?_ (pu_trans pu1 pu2)
    rw [ho]
    cases g with
    | true => exact .cons hx' hy
    | false => exact .cons (dp_same fz_le hx') hy
  | false =>
    cases pb with
    | true =>
      refine hb.run B α Γ G σ H1 ρ1 _ _ A1 hw1 fun vs H2 ρ2 ds g q A2 hy pu2 => ?_
      obtain ⟨rfl, e2⟩ := pu2 rfl
      refine k (x :: vs) H2 ρ2 (d :: ds) _ q.2 A2 ?_ (pu_trans pu1 pu2)
      rw [ho]
      exact .cons (dp_same e2 hx.h) hy.h
    | false =>
      refine hb.run B α Γ G σ H1 ρ1 _ _ A1 hw1 fun vs H2 ρ2 ds g q A2 hy pu2 => ?_
      rcases q.1 with h | h
      · cases h
      · rw [ho] at h; cases h⟩
def wTup (a : WA) : WE := fun ρ Q => a ρ fun ds f ρ1 => (f || noLs ds) = true ∧ ds.length ≤ 1000 ∧ Q (.tuple ds) true ρ1
def wLst (a : WA) : WE := fun ρ Q => a ρ fun ds f ρ1 => (f || noLs ds) = true ∧ ds.length ≤ 1000 ∧ Q (.list ds) true ρ1
theorem HvA.fr {K : PySem.W.Frag} {B H : Hp} {ρ : List SV} {α : Nat → Addr} {Γ : List (Addr × HO)} {G : List (V × PyData)} {σ : L2.St} {f : Bool} {vs : List V} {ds : List PyData} (A : Ax K B H σ ρ α Γ G) (h : HvA K B H ρ α Γ vs ds f) (o : (f || noLs ds) = true) : DqAll K (fz B (Ow ρ α Γ) H) vs ds := by
  cases f with
  | true => exact h
  | false => exact dps_tk A.tk h (by simpa using o)
theorem sn_tup {wa : WA} {k} (h : SndA X pu es wa) : Snd X pu (.Tuple es k pos) (wTup wa) := ⟨fun B α Γ G σ H ρ Q R A hw kk => by
  refine rd (pe_tup pa_any) (h.run B α Γ G σ H ρ _ _ A hw fun vs H1 ρ1 ds f q A1 hv pu1 => ⟨Nat.le_trans (by rw [hv.h.length]; exact q.2.1) (by decide), fun p hp => ?_⟩)
  have e := same_new (o := .tup vs) hp
  exact kk _ _ ρ1 _ true q.2.2 (A1.to e) (.tup (.of (A1.new e hp upd_same)) (dps_same (A1.fzTo e) (hv.fr A1 q.1))) fun h => ⟨(pu1 h).1, (pu1 h).2.trans e⟩⟩
theorem sn_lst {wa : WA} (h : SndA X pu es wa) : Snd X pu (.List es pos) (wLst wa) := ⟨fun B α Γ G σ H ρ Q R A hw kk => by
  refine rd (pe_lst pa_any) (h.run B α Γ G σ H ρ _ _ A hw fun vs H1 ρ1 ds f q A1 hv pu1 => ⟨Nat.le_trans (by rw [hv.h.length]; exact q.2.1) (by decide), fun p hp => ?_⟩)
  have e := same_new (o := .lst vs) hp
  exact kk _ _ ρ1 _ true q.2.2 (A1.to e) (.lst (A1.new e hp upd_same) (dps_same (A1.fzTo e) (hv.fr A1 q.1))) fun h => ⟨(pu1 h).1, (pu1 h).2.trans e⟩⟩
/-! ### operators -/
/-- the operation gives z, frozen -/
def Op2 (X : Cx) (f : Value → Value → Sem Value) (d e z : PyData) : Prop := (OpD X f d e z ∧ noL z = true) ∨ ∃ zs, z = .list zs ∧ OpL X f d e zs ∧ noLs zs = true
theorem Op2.run {f : Value → Value → Sem Value} {d e z : PyData} (h : Op2 X f d e z) : OpR X f (fun x y H Q => Dq X.K H x d ∧ Dq X.K H y e ∧ ∀ v H', Same H H' → (∀ B σ ρ α Γ G, Ax X.K B H σ ρ α Γ G → Dq X.K (fz B (Ow ρ α Γ) H') v z) → Q v H') := by
  rcases h with ⟨h, hn⟩ | ⟨zs, rfl, h, hn⟩
  · intro pins s σ H x y u v Q I rx ry q
    exact h.opR pins s σ H x y u v Q I rx ry ⟨q.1, q.2.1, fun v H' e1 dv => q.2.2 v H' e1 fun B σ ρ α Γ G A => A.res e1 dv hn⟩
  · intro pins s σ H x y u v Q I rx ry q
    exact h.opR pins s σ H x y u v Q I rx ry ⟨q.1, q.2.1, fun v H' ql => by
      obtain ⟨p, vs, e1, e2, e3, e4⟩ := id ql
      exact q.2.2 v H' e3 fun B σ ρ α Γ G A => (A.resL ql hn).2⟩
def binW : Operator → PyData → PyData → (PyData → Prop) → Prop
  | .Add, .int i, .int j, Q => Q (.int (i + j))
  | .Add, .str p, .str q, Q => p.length + q.length ≤ 100000 ∧ Q (.str (p ++ q))
  | .Add, .tuple p, .tuple q, Q => (noLs (p ++ q) = true ∧ p.length + q.length ≤ 100000) ∧ Q (.tuple (p ++ q))
  | .Add, .list p, .list q, Q => (noLs (p ++ q) = true ∧ p.length + q.length ≤ 100000) ∧ Q (.list (p ++ q))
  | .Sub, .int i, .int j, Q => Q (.int (i - j))
  | .Mult, .int i, .int j, Q => CMul i j ∧ Q (.int (i * j))
  | .Mult, .list xs, .int j, Q => (0 ≤ j ∧ xs.length * j.toNat ≤ 100000 ∧ j ≤ 100000 ∧ noLs ((List.replicate j.toNat xs).flatten) = true) ∧ Q (.list (List.replicate j.toNat xs).flatten)
  | .FloorDiv, .int i, .int j, Q => CDiv i j ∧ Q (.int (i / j))
  | .Mod, .int i, .int j, Q => 0 < j ∧ Q (.int (i % j))
  | .Pow, .int i, .int j, Q => CPow i j ∧ Q (.int (i ^ j.toNat))
  | _, _, _, _ => False
theorem binW_ok {op : Operator} {d e : PyData} {Q : PyData → Prop} (h : binW op d e Q) : ∃ z, Op2 X (binaryOp op) d e z ∧ Q z := by
  unfold binW at h
  split at h
  · exact ⟨_, .inl ⟨od_add, rfl⟩, h⟩
  · exact ⟨_, .inl ⟨od_catS h.1, rfl⟩, h.2⟩
  · exact ⟨_, .inl ⟨od_catT h.1.2, by simpa [noL] using h.1.1⟩, h.2⟩
  · exact ⟨_, .inr ⟨_, rfl, ol_cat h.1.2, h.1.1⟩, h.2⟩
  · exact ⟨_, .inl ⟨od_sub, rfl⟩, h⟩
  · exact ⟨_, .inl ⟨od_mul h.1, rfl⟩, h.2⟩
  · exact ⟨_, .inr ⟨_, rfl, ol_rep h.1.1 h.1.2.1 h.1.2.2.1, h.1.2.2.2⟩, h.2⟩
  · exact ⟨_, .inl ⟨od_fdiv h.1, rfl⟩, h.2⟩
  · exact ⟨_, .inl ⟨od_mod h.1, rfl⟩, h.2⟩
  · exact ⟨_, .inl ⟨od_pow h.1, rfl⟩, h.2⟩
  · exact h.elim
def wBin (op : Operator) (pb : Bool) (a b : WE) : WE := fun ρ Q => a ρ fun d f ρ1 => b ρ1 fun e g ρ2 => (pb = true ∨ okF f d = true) ∧ binW op d e fun z => Q z true ρ2
theorem sn_bin {op : Operator} (ha : Snd X pa a wa) (hb : Snd X pb b wb) : Snd X (pa && pb) (.BinOp a op b pos) (wBin op pb wa wb) := ⟨fun B α Γ G σ H ρ Q R A hw k => by
  refine rd (e := .BinOp a op b pos) (t := fun σ H Q => tE X a σ H fun x H1 => tE X b σ H1 fun y H2 => ∃ d e z, Op2 X (binaryOp op) d e z ∧ Dq X.K H2 x d ∧ Dq X.K H2 y e ∧ ∀ v H', Same H2 H' → (∀ B σ ρ α Γ G, Ax X.K B H2 σ ρ α Γ G → Dq X.K (fz B (Ow ρ α Γ) H') v z) → Q v H') (pe_op (r := fun x y H Q => ∃ d e z, Op2 X (binaryOp op) d e z ∧ Dq X.K H x d ∧ Dq X.K H y e ∧ ∀ v H', Same H H' → (∀ B σ ρ α Γ G, Ax X.K B H σ ρ α Γ G → Dq X.K (fz B (Ow ρ α Γ) H') v z) → Q v H')
    (fun pins s σ H x y u v Q I rx ry ⟨d, e, z, ho, q⟩ => ho.run pins s σ H x y u v Q I rx ry q) pe_any pe_any) ?_
  refine ha.run B α Γ G σ H ρ _ _ A hw fun x H1 ρ1 d f hw1 A1 hx pu1 => hb.two A1 hx hw1 fun y H2 ρ2 e g f' hq A2 hx2 _ hy pu2 => ?_
  obtain ⟨z, ho, hz⟩ := binW_ok (X := X) hq
  exact ⟨d, e, z, ho, hx2.h, hy.h, fun v H' e1 dv => k v H' ρ2 z true hz (A2.to e1) (dv B σ ρ2 α Γ G A2) fun h => ⟨(pu_trans pu1 pu2 h).1, (pu_trans pu1 pu2 h).2.trans e1⟩⟩⟩
/-! ### comparisons -/
abbrev shp (d : PyData) : Prop := SeqAt.shaped d = true
def cmpB : CmpOp → PyData → PyData → (Bool → Prop) → Prop
  | .Lt, .int i, .int j, Q => Q (decide (i < j))
  | .LtE, .int i, .int j, Q => Q (decide (i ≤ j))
  | .Gt, .int i, .int j, Q => Q (decide (j < i))
  | .GtE, .int i, .int j, Q => Q (decide (j ≤ i))
  | .Eq, d, e, Q => (shp d ∧ shp e) ∧ Q (PyData.eqv d e)
  | .NotEq, d, e, Q => (shp d ∧ shp e) ∧ Q (!PyData.eqv d e)
  | .In, d, .list ds, Q => (shp d ∧ shp (.list ds)) ∧ Q (ds.any fun y => PyData.eqv y d)
  | .In, d, .tuple ds, Q => (shp d ∧ shp (.tuple ds)) ∧ Q (ds.any fun y => PyData.eqv y d)
  | .NotIn, d, .list ds, Q => (shp d ∧ shp (.list ds)) ∧ Q (!ds.any fun y => PyData.eqv y d)
  | .NotIn, d, .tuple ds, Q => (shp d ∧ shp (.tuple ds)) ∧ Q (!ds.any fun y => PyData.eqv y d)
  | .Is, d, .none, Q => Q (isNon d)
  | .IsNot, d, .none, Q => Q (!isNon d)
  | .Is, .bool x, .bool y, Q => Q (decide (x = y))
  | .IsNot, .bool x, .bool y, Q => Q (!decide (x = y))
  | _, _, _, _ => False
theorem cmpB_ok {op : CmpOp} {d e : PyData} {Q : Bool → Prop} {k : Nat} (hr : Room k X.A) (h : cmpB op d e Q) : ∃ z, OpD X (compareOp op) d e (.bool z) ∧ Q z := by
  unfold cmpB at h
  split at h
  · exact ⟨_, oc_lt, h⟩
  · exact ⟨_, oc_le, h⟩
  · exact ⟨_, oc_gt, h⟩
  · exact ⟨_, oc_ge, h⟩
  · exact ⟨_, oc_eq hr h.1.1 h.1.2, h.2⟩
  · exact ⟨_, oc_ne hr h.1.1 h.1.2, h.2⟩
  · exact ⟨_, oc_inL hr h.1.1 h.1.2, h.2⟩
  · exact ⟨_, oc_inT hr h.1.1 h.1.2, h.2⟩
  · exact ⟨_, oc_notInL hr h.1.1 h.1.2, h.2⟩
  · exact ⟨_, oc_notInT hr h.1.1 h.1.2, h.2⟩
  · exact ⟨_, oc_isN, h⟩
  · exact ⟨_, oc_notN, h⟩
  · exact ⟨_, oc_isB, h⟩
  · exact ⟨_, oc_notB, h⟩
  · exact h.elim
def R2c (X : Cx) (op : CmpOp) : R2 := fun x y H Q => ∃ d e z, OpD X (compareOp op) d e (.bool z) ∧ Dq X.K H x d ∧ Dq X.K H y e ∧ ∀ v H', Same H H' → Dq X.K H' v (.bool z) → Q v H'
theorem r2c {op : CmpOp} : OpR X (compareOp op) (R2c X op) := fun pins s σ H x y u v Q I rx ry ⟨d, e, z, ho, q⟩ => ho.opR pins s σ H x y u v Q I rx ry q
def wCmp (op : CmpOp) (pb : Bool) (a b : WE) : WE := fun ρ Q => a ρ fun d f ρ1 => b ρ1 fun e g ρ2 => (pb = true ∨ okF f d = true) ∧ cmpB op d e fun z => Q (.bool z) true ρ2
def tCmp (op : CmpOp) (pb : Bool) (a b : WE) : WT := fun ρ Q => a ρ fun d f ρ1 => b ρ1 fun e g ρ2 => (pb = true ∨ okF f d = true) ∧ cmpB op d e fun z => Q z ρ2
theorem sn_cmp {op : CmpOp} {k : Nat} (hr : Room k X.A) (ha : Snd X pa a wa) (hb : Snd X pb b wb) (hm : behindInMarks op b = false) : Snd X (pa && pb) (.Compare a [op] [b] pos) (wCmp op pb wa wb) := ⟨fun B α Γ G σ H ρ Q R A hw k => by
  refine rd (pe_cmpR r2c pe_any pe_any hm) (ha.run B α Γ G σ H ρ _ _ A hw fun x H1 ρ1 d f hw1 A1 hx pu1 => hb.two A1 hx hw1 fun y H2 ρ2 e g f' hq A2 hx2 _ hy pu2 => ?_)
  obtain ⟨z, ho, hz⟩ := cmpB_ok hr hq
  exact ⟨d, e, z, ho, hx2.h, hy.h, fun v H' e1 dv => k v H' ρ2 _ true hz (A2.to e1) (A2.res e1 dv rfl) fun h => ⟨(pu_trans pu1 pu2 h).1, (pu_trans pu1 pu2 h).2.trans e1⟩⟩⟩
theorem st_cmp {op : CmpOp} {k : Nat} (hr : Room k X.A) (ha : Snd X pa a wa) (hb : Snd X pb b wb) (hm : behindInMarks op b = false) : SndT X (pa && pb) (.Compare a [op] [b] pos) (tCmp op pb wa wb) := ⟨fun B α Γ G σ H ρ Q R A hw k => by
  refine rdT (pt_cmpR r2c pe_any pe_any hm) (ha.run B α Γ G σ H ρ _ _ A hw fun x H1 ρ1 d f hw1 A1 hx pu1 => hb.two A1 hx hw1 fun y H2 ρ2 e g f' hq A2 hx2 _ hy pu2 => ?_)
  obtain ⟨z, ho, hz⟩ := cmpB_ok hr hq
  exact ⟨d, e, z, ho, hx2.h, hy.h, fun v H' e1 dv => by
    cases dv
    exact ⟨_, rfl, k z H' ρ2 hz (A2.to e1) fun h => ⟨(pu_trans pu1 pu2 h).1, (pu_trans pu1 pu2 h).2.trans e1⟩⟩⟩⟩
/-- a op b op' c, of ints, nothing drawn -/
def wChain (op op' : CmpOp) (a b c : WE) : WE := fun ρ Q => a ρ fun d _ _ => b ρ fun e _ _ => cmpB op d e fun z => if z = true then c ρ fun g _ _ => cmpB op' e g fun z' => Q (.bool z') true ρ else Q (.bool false) true ρ
def tChain (op op' : CmpOp) (a b c : WE) : WT := fun ρ Q => a ρ fun d _ _ => b ρ fun e _ _ => cmpB op d e fun z => if z = true then c ρ fun g _ _ => cmpB op' e g fun z' => Q z' ρ else Q false ρ
theorem sn_chain {op op' : CmpOp} {k : Nat} (hr : Room k X.A) (ha : Snd X true a wa) (hb : Snd X true b wb) (hc : Snd X true c wc) (hm : lastMarks [op, op'] [b, c] = false := by with_unfolding_all rfl) : Snd X true (.Compare a [op, op'] [b, c] pos) (wChain op op' wa wb wc) := ⟨fun B α Γ G σ H ρ Q R A hw k => by
  refine rd (pe_chain r2c r2c pe_any pe_any pe_any hm) (ha.run B α Γ G σ H ρ _ _ A hw fun x H1 ρ1 d f hw1 A1 hx pu1 => ?_)
  obtain ⟨rfl, s1⟩ := pu1 rfl
  refine hb.run B α Γ G σ H1 ρ1 _ _ A1 hw1 fun y H2 ρ2 e g hq A2 hy pu2 => ?_
  obtain ⟨rfl, s2⟩ := pu2 rfl
  obtain ⟨z, ho, hz⟩ := cmpB_ok hr hq
  refine ⟨d, e, z, ho, dp_same s2 hx.h, hy.h, fun v H3 e3 dv => ?_⟩
  cases dv
  refine ⟨_, rfl, ?_⟩
  have A3 := A2.to e3
  cases z with
  | true =>
    rw [if_pos rfl] at hz ⊢
    refine hc.run B α Γ G σ H3 ρ2 _ _ A3 hz fun y' H4 ρ4 e4 g4 hq4 A4 hy4 pu4 => ?_
    obtain ⟨rfl, s4⟩ := pu4 rfl
    obtain ⟨z', ho', hz'⟩ := cmpB_ok hr hq4
    exact ⟨e, e4, z', ho', dp_same (e3.trans s4) hy.h, hy4.h, fun v' H5 e5 dv' => k v' H5 ρ4 _ true hz' (A4.to e5) (A4.res e5 dv' rfl) fun _ => ⟨rfl, (((s1.trans s2).trans e3).trans s4).trans e5⟩⟩
  | false =>
    rw [if_neg (by intro z; cases z)] at hz ⊢
    exact k _ H3 ρ2 _ true hz A3 (.bl _) fun _ => ⟨rfl, (s1.trans s2).trans e3⟩⟩
theorem st_chain {op op' : CmpOp} {k : Nat} (hr : Room k X.A) (ha : Snd X true a wa) (hb : Snd X true b wb) (hc : Snd X true c wc) (hm : lastMarks [op, op'] [b, c] = false := by with_unfolding_all rfl) : SndT X true (.Compare a [op, op'] [b, c] pos) (tChain op op' wa wb wc) := ⟨fun B α Γ G σ H ρ Q R A hw k => by
  refine rdT (pt_chain r2c r2c pe_any pe_any pe_any hm) (ha.run B α Γ G σ H ρ _ _ A hw fun x H1 ρ1 d f hw1 A1 hx pu1 => ?_)
  obtain ⟨rfl, s1⟩ := pu1 rfl
  refine hb.run B α Γ G σ H1 ρ1 _ _ A1 hw1 fun y H2 ρ2 e g hq A2 hy pu2 => ?_
  obtain ⟨rfl, s2⟩ := pu2 rfl
  obtain ⟨z, ho, hz⟩ := cmpB_ok hr hq
  refine ⟨d, e, z, ho, dp_same s2 hx.h, hy.h, fun v H3 e3 dv => ?_⟩
  cases dv
  refine ⟨_, rfl, ?_⟩
  have A3 := A2.to e3
  cases z with
  | true =>
    rw [if_pos rfl] at hz ⊢
    refine hc.run B α Γ G σ H3 ρ2 _ _ A3 hz fun y' H4 ρ4 e4 g4 hq4 A4 hy4 pu4 => ?_
    obtain ⟨rfl, s4⟩ := pu4 rfl
    obtain ⟨z', ho', hz'⟩ := cmpB_ok hr hq4
    exact ⟨e, e4, z', ho', dp_same (e3.trans s4) hy.h, hy4.h, fun v' H5 e5 dv' => by
      cases dv'
      exact ⟨_, rfl, k z' H5 ρ4 hz' (A4.to e5) fun _ => ⟨rfl, (((s1.trans s2).trans e3).trans s4).trans e5⟩⟩⟩
  | false =>
    rw [if_neg (by intro z; cases z)] at hz ⊢
    exact ⟨_, rfl, k _ H3 ρ2 hz A3 fun _ => ⟨rfl, (s1.trans s2).trans e3⟩⟩⟩
end
end WP

namespace WP
open PySem L2 TH PyProof.Rows
section
variable {X : Cx} {a b c e : Expr} {pos p : Pos} {pa pb pc pu : Bool} {wa wb wc : WE} {ta tb : WT} {es rest : List Expr}
/-! ### tests -/
def asB : PyData → (Bool → Prop) → Prop
  | .bool x, k => k x
  | _, _ => False
theorem asB_ok {d : PyData} {k : Bool → Prop} (h : asB d k) : ∃ x, d = .bool x ∧ k x := by
  cases d <;> first | exact ⟨_, rfl, h⟩ | exact h.elim
def tNot (a : WT) : WT := fun ρ Q => a ρ fun x ρ1 => Q (!x) ρ1
theorem st_not (h : SndT X pu a ta) : SndT X pu (.UnaryOp .Not a pos) (tNot ta) := ⟨fun B α Γ G σ H ρ Q R A hw k =>
  rdT (pt_not pt_any) (h.run B α Γ G σ H ρ _ _ A hw fun x H1 ρ1 q A1 pu1 => k (!x) H1 ρ1 q A1 pu1)⟩
def tVal (a : WE) : WT := fun ρ Q => a ρ fun d _ ρ1 => asB d fun x => Q x ρ1
theorem st_val (h : Snd X pu a wa) (he : ∀ whole, isTrue a X.env whole = (do let v ← whole; standAt a.pos; holding [v] (truthy v)) := by intro _; rfl) : SndT X pu a (tVal wa) := ⟨fun B α Γ G σ H ρ Q R A hw k =>
  rdT (pt_val pe_any he) (h.run B α Γ G σ H ρ _ _ A hw fun v H1 ρ1 d f q A1 hv pu1 => by
    obtain ⟨x, rfl, q⟩ := asB_ok q
    have := hv.h
    cases this
    exact ⟨_, rfl, k x H1 ρ1 q A1 pu1⟩)⟩
theorem SndW.t (h : SndW X pu e ta) : SndT X pu e ta := ⟨fun B α Γ G σ H ρ Q R A hw k => fun pins s I => h.run B α Γ G σ H ρ Q R A hw k _ pins s I⟩
def tAnd (a b : WT) : WT := fun ρ Q => a ρ fun x ρ1 => if x = true then b ρ1 Q else Q false ρ1
def tOr (a b : WT) : WT := fun ρ Q => a ρ fun x ρ1 => if x = true then Q true ρ1 else b ρ1 Q
theorem sw_and1 (h : SndT X pu a ta) : SndW X pu (.BoolOp .And [a] pos) ta := ⟨fun B α Γ G σ H ρ Q R A hw k => rdW (pw_and1 pt_any) (h.run B α Γ G σ H ρ Q _ A hw k)⟩
theorem sw_or1 (h : SndT X pu a ta) : SndW X pu (.BoolOp .Or [a] pos) ta := ⟨fun B α Γ G σ H ρ Q R A hw k => rdW (pw_or1 pt_any) (h.run B α Γ G σ H ρ Q _ A hw k)⟩
theorem pu_fst {ρ ρ1 : List SV} {H H1 : Hp} (h1 : pa = true → ρ1 = ρ ∧ Same H H1) : (pa && pb) = true → ρ1 = ρ ∧ Same H H1 := fun h => h1 (by rw [Bool.and_eq_true] at h; exact h.1)
theorem sw_and (h : SndT X pa a ta) (h2 : SndW X pb (.BoolOp .And (b :: rest) pos) tb) : SndW X (pa && pb) (.BoolOp .And (a :: b :: rest) pos) (tAnd ta tb) := ⟨fun B α Γ G σ H ρ Q R A hw k =>
  rdW (pw_and pt_any pw_any) (h.run B α Γ G σ H ρ _ _ A hw fun x H1 ρ1 q A1 pu1 => by
    cases x with
    | true =>
      rw [if_pos rfl] at q
      exact iteT (h2.run B α Γ G σ H1 ρ1 _ _ A1 q fun y H2 ρ2 q2 A2 pu2 => k y H2 ρ2 q2 A2 (pu_trans pu1 pu2))
    | false => exact iteF (k false H1 ρ1 q A1 (pu_fst pu1)))⟩
theorem sw_or (h : SndT X pa a ta) (h2 : SndW X pb (.BoolOp .Or (b :: rest) pos) tb) : SndW X (pa && pb) (.BoolOp .Or (a :: b :: rest) pos) (tOr ta tb) := ⟨fun B α Γ G σ H ρ Q R A hw k =>
  rdW (pw_or pt_any pw_any) (h.run B α Γ G σ H ρ _ _ A hw fun x H1 ρ1 q A1 pu1 => by
    cases x with
    | true =>
      rw [if_pos rfl] at q
      exact iteT (k true H1 ρ1 q A1 (pu_fst pu1))
    | false => exact iteF (h2.run B α Γ G σ H1 ρ1 _ _ A1 q fun y H2 ρ2 q2 A2 pu2 => k y H2 ρ2 q2 A2 (pu_trans pu1 pu2)))⟩
/-! ### and, or, not as values -/
theorem sn_one {op : BoolOp} (h : Snd X pu a wa) : Snd X pu (.BoolOp op [a] pos) wa := ⟨fun B α Γ G σ H ρ Q R A hw k => rd (pe_one pe_any) (h.run B α Γ G σ H ρ Q _ A hw k)⟩
def wAnd (a b : WE) : WE := fun ρ Q => a ρ fun d _ ρ1 => asB d fun x => if x = true then b ρ1 Q else Q (.bool false) true ρ1
def wOr (a b : WE) : WE := fun ρ Q => a ρ fun d _ ρ1 => asB d fun x => if x = true then Q (.bool true) true ρ1 else b ρ1 Q
theorem sn_and (h : Snd X pa a wa) (h2 : Snd X pb (.BoolOp .And (b :: rest) pos) wb) : Snd X (pa && pb) (.BoolOp .And (a :: b :: rest) pos) (wAnd wa wb) := ⟨fun B α Γ G σ H ρ Q R A hw k =>
  rd (pe_and pe_any pe_any) (h.run B α Γ G σ H ρ _ _ A hw fun v H1 ρ1 d f q A1 hv pu1 => by
    obtain ⟨x, rfl, q⟩ := asB_ok q
    have := hv.h
    cases this
    refine ⟨_, rfl, ?_⟩
    cases x with
    | true => exact iteT (h2.run B α Γ G σ H1 ρ1 Q _ A1 q fun y H2 ρ2 d f q2 A2 hy pu2 => k y H2 ρ2 d f q2 A2 hy (pu_trans pu1 pu2))
    | false => exact iteF (k _ H1 ρ1 _ true q A1 (.bl _) (pu_fst pu1)))⟩
theorem sn_or (h : Snd X pa a wa) (h2 : Snd X pb (.BoolOp .Or (b :: rest) pos) wb) : Snd X (pa && pb) (.BoolOp .Or (a :: b :: rest) pos) (wOr wa wb) := ⟨fun B α Γ G σ H ρ Q R A hw k =>
  rd (pe_or pe_any pe_any) (h.run B α Γ G σ H ρ _ _ A hw fun v H1 ρ1 d f q A1 hv pu1 => by
    obtain ⟨x, rfl, q⟩ := asB_ok q
    have := hv.h
    cases this
    refine ⟨_, rfl, ?_⟩
    cases x with
    | true => exact iteT (k _ H1 ρ1 _ true q A1 (.bl _) (pu_fst pu1))
    | false => exact iteF (h2.run B α Γ G σ H1 ρ1 Q _ A1 q fun y H2 ρ2 d f q2 A2 hy pu2 => k y H2 ρ2 d f q2 A2 hy (pu_trans pu1 pu2)))⟩
def wNot (a : WE) : WE := fun ρ Q => a ρ fun d _ ρ1 => asB d fun x => Q (.bool (!x)) true ρ1
theorem sn_not (h : Snd X pu a wa) : Snd X pu (.UnaryOp .Not a pos) (wNot wa) := ⟨fun B α Γ G σ H ρ Q R A hw k =>
  rd (pe_not pe_any) (h.run B α Γ G σ H ρ _ _ A hw fun v H1 ρ1 d f q A1 hv pu1 => by
    obtain ⟨x, rfl, q⟩ := asB_ok q
    have := hv.h
    cases this
    exact ⟨_, rfl, k _ H1 ρ1 _ true q A1 (.bl _) pu1⟩)⟩
def wIf (t : WT) (a b : WE) : WE := fun ρ Q => t ρ fun x ρ1 => if x = true then a ρ1 Q else b ρ1 Q
theorem sn_if (hc : SndT X pc c ta) (ha : Snd X pa a wa) (hb : Snd X pb b wb) : Snd X (pc && (pa && pb)) (.IfExp c a b pos) (wIf ta wa wb) := ⟨fun B α Γ G σ H ρ Q R A hw k =>
  rd (pe_ifExp pt_any pe_any pe_any) (hc.run B α Γ G σ H ρ _ _ A hw fun x H1 ρ1 q A1 pu1 => by
    cases x with
    | true =>
      rw [if_pos rfl] at q
      exact iteT (ha.run B α Γ G σ H1 ρ1 _ _ A1 q fun y H2 ρ2 d f q2 A2 hy pu2 => k y H2 ρ2 d f q2 A2 hy (pu_trans pu1 (pu_fst pu2)))
    | false => exact iteF (hb.run B α Γ G σ H1 ρ1 _ _ A1 q fun y H2 ρ2 d f q2 A2 hy pu2 => k y H2 ρ2 d f q2 A2 hy (pu_trans pu1 (fun h => pu2 (by rw [Bool.and_eq_true] at h; exact h.2)))))⟩
/-! ### items -/
def ixW : PyData → PyData → (PyData → Prop) → Prop
  | .tuple ds, .int i, k => ∃ z, atI ds i = some z ∧ k z
  | .list ds, .int i, k => ∃ z, atI ds i = some z ∧ k z
  | _, _, _ => False
def wIx (pb : Bool) (a b : WE) : WE := fun ρ Q => a ρ fun d f ρ1 => b ρ1 fun e _ ρ2 => (pb = true ∨ okF f d = true) ∧ ixW d e fun z => Q z (okF f d) ρ2
def R2ix (K : PySem.W.Frag) : R2 := fun x y H Q => ∃ (p : Addr) (vs : List V) (i : Int) (v : V), x = .ref p ∧ y = .int i ∧ (SqT K H p vs ∨ SqL K H p vs) ∧ atI vs i = some v ∧ Q v H
theorem r2ix : IxR X (R2ix X.K) := by
  intro e1 e2 pins s σ H x y u v Q I rx ry h
  obtain ⟨p, vs, i, w, e1, e2, h3 | h3, h4, h5⟩ := h
  · exact ix_tup _ _ pins s σ H x y u v Q I rx ry ⟨p, vs, i, w, e1, e2, h3, h4, h5⟩
  · exact ix_list _ _ pins s σ H x y u v Q I rx ry ⟨p, vs, i, w, e1, e2, h3, h4, h5⟩
theorem sn_ix (ha : Snd X pa a wa) (hb : Snd X pb b wb) (hs : PlainIx b := by intro _ _; rfl) : Snd X (pa && pb) (.Subscript a b pos) (wIx pb wa wb) := ⟨fun B α Γ G σ H ρ Q R A hw k => by
  refine rd (pe_ix r2ix pe_any pe_any hs) (ha.run B α Γ G σ H ρ _ _ A hw fun x H1 ρ1 d f hw1 A1 hx pu1 => hb.two A1 hx hw1 fun y H2 ρ2 e g f' hq A2 hx2 hf hy pu2 => ?_)
  have put := pu_trans pu1 pu2
  rw [hf] at hq
  have key : ∀ (F : Hp), Same F H2 → Dq X.K F x d → (∀ v z, Dq X.K F v z → Q z (okF f' d) ρ2 → R v H2) → R2ix X.K x y H2 R := by
    intro F sF hd kk
    have hyd := hy.h
    unfold ixW at hq
    split at hq
    · next ds i =>
      obtain ⟨z, hz, hq⟩ := hq
      cases hyd
      cases hd with
      | tup hs' hal =>
        obtain ⟨v, h1, h2⟩ := atI_dq hal hz
        exact ⟨_, _, i, v, rfl, rfl, .inl (by
          rcases hs' with (h | ⟨o, h⟩) | h
          · exact .inl (.inl (sF _ _ h))
          · exact .inl (.inr ⟨o, sF _ _ h⟩)
          · exact .inr h), h1, kk v z h2 hq⟩
    · next ds i =>
      obtain ⟨z, hz, hq⟩ := hq
      cases hyd
      cases hd with
      | lst hs' hal =>
        obtain ⟨v, h1, h2⟩ := atI_dq hal hz
        exact ⟨_, _, i, v, rfl, rfl, .inr (.of (sF _ _ hs')), h1, kk v z h2 hq⟩
    · exact hq.elim
  cases ho : okF f' d with
  | true => exact key _ fz_le (hx2.fr A2 ho) fun v z hv q => k v H2 ρ2 z true (by rw [ho] at q; exact q) A2 hv put
  | false => exact key _ (Same.refl H2) hx2.h fun v z hv q => k v H2 ρ2 z false (by rw [ho] at q; exact q) A2 hv put⟩
theorem sqt_same {K : PySem.W.Frag} {H H' : Hp} {a : Addr} {xs : List V} (e : Same H H') (h : SqT K H a xs) : SqT K H' a xs := by
  rcases h with (h | ⟨o, h⟩) | h
  · exact .inl (.inl (e _ _ h))
  · exact .inl (.inr ⟨o, e _ _ h⟩)
  · exact .inr h
/-! ### slices -/
abbrev WO := List SV → (Option Int → List SV → Prop) → Prop
structure SndO (X : Cx) (pu : Bool) (e : Option Expr) (w : WO) : Prop where
  run : ∃ t : TO, PO X e t ∧ ∀ (B : Hp) (α : Nat → Addr) (Γ : List (Addr × HO)) (G : List (V × PyData)) (σ : L2.St) (H : Hp) (ρ : List SV) (Q : Option Int → List SV → Prop) (R : Option Int → Hp → Prop), Ax X.K B H σ ρ α Γ G → w ρ Q →
    (∀ o H' ρ', Q o ρ' → Ax X.K B H' σ ρ' α Γ G → (pu = true → ρ' = ρ ∧ Same H H') → R o H') → t σ H R
def woN : WO := fun ρ Q => Q none ρ
def asI : PyData → (Int → Prop) → Prop
  | .int x, k => k x
  | _, _ => False
theorem asI_ok {d : PyData} {k : Int → Prop} (h : asI d k) : ∃ x, d = .int x ∧ k x := by
  cases d <;> first | exact ⟨_, rfl, h⟩ | exact h.elim
def woS (a : WE) : WO := fun ρ Q => a ρ fun d _ ρ1 => asI d fun i => Q (some i) ρ1
theorem so_none : SndO X true none woN := ⟨_, po_none, fun B α Γ G σ H ρ Q R A hw k => k none H ρ hw A fun _ => ⟨rfl, Same.refl H⟩⟩
theorem so_some (h : Snd X pu a wa) : SndO X pu (some a) (woS wa) := ⟨_, po_some pe_any, fun B α Γ G σ H ρ Q R A hw k => h.run B α Γ G σ H ρ _ _ A hw fun v H1 ρ1 d f q A1 hv pu1 => by
  obtain ⟨i, rfl, q⟩ := asI_ok q
  have := hv.h
  cases this
  exact ⟨_, rfl, k (some i) H1 ρ1 q A1 pu1⟩⟩
def cutW (l u : Option Int) : PyData → (PyData → Prop) → Prop
  | .tuple ds, k => k (.tuple (TH.cutD ds l u))
  | .list ds, k => k (.list (TH.cutD ds l u))
  | _, _ => False
/-- the base is a frozen one, or its items are without lists and the bounds draw nothing -/
def itemsN : PyData → Bool
  | .list ds => noLs ds
  | .tuple ds => noLs ds
  | _ => false
def wSl (pb : Bool) (a : WE) (lo hi : WO) : WE := fun ρ Q => a ρ fun d f ρ1 => lo ρ1 fun l ρ2 => hi ρ2 fun u ρ3 => (okF f d || (pb && itemsN d)) = true ∧ cutW l u d fun z => Q z true ρ3
theorem noL_cut {ds : List PyData} (l u : Option Int) (h : noLs ds = true) : noLs (TH.cutD ds l u) = true := by
  rw [noLs_iff] at h ⊢
  intro d hd
  exact h d (List.mem_of_mem_drop (List.mem_of_mem_take hd))
theorem sn_sl {lo hi : Option Expr} {p2 : Pos} {wl wh : WO} (ha : Snd X pa a wa) (hl : SndO X pb lo wl) (hh : SndO X pc hi wh) : Snd X (pa && (pb && pc)) (.Subscript a (.Slice lo hi none p2) pos) (wSl (pb && pc) wa wl wh) := by
  obtain ⟨tl, pl, hl⟩ := hl.run
  obtain ⟨tu, pu, hh⟩ := hh.run
  refine ⟨fun B α Γ G σ H ρ Q R A hw k => ?_⟩
  refine rd (pe_slice (sl_tupA.or sl_list) pe_any pl pu) (ha.run B α Γ G σ H ρ _ _ A hw fun x H1 ρ1 d f hw1 A1 hx pu1 => ?_)
  cases ho : okF f d with
  | false =>
    -- an own list: the bounds draw nothing, its items are without lists
    refine hl B α Γ G σ H1 ρ1 _ _ A1 hw1 fun l H2 ρ2 q2 A2 pu2 => hh B α Γ G σ H2 ρ2 _ _ A2 q2 fun u H3 ρ3 q3 A3 pu3 => ?_
    rw [ho, Bool.false_or, Bool.and_eq_true] at q3
    obtain ⟨⟨hpp, hit⟩, hq⟩ := q3
    obtain ⟨rfl, e23⟩ := pu_trans pu2 pu3 hpp
    have hx3 := dp_same e23 hx.h
    have put := pu_trans pu1 (pu_trans pu2 pu3)
    unfold cutW at hq
    split at hq
    · next ds =>
      have : okF f (.tuple ds) = true := by
        unfold okF
        rw [show noL (.tuple ds) = noLs ds by simp [noL], show noLs ds = true from hit, Bool.or_true]
      rw [this] at ho; cases ho
    · next ds =>
      cases hx3 with
      | @lst _ vs _ hs hal =>
        refine .inr ⟨_, _, rfl, .of hs, fun p hp => ?_⟩
        have e := same_new (o := .lst (cutV vs l u)) hp
        exact k _ _ ρ3 _ true hq (A3.to e) (.lst (A3.new e hp upd_same) (dps_tk (A3.to e).tk (dps_same e (cut_dq hal l u)) (noL_cut l u hit))) fun h => ⟨(put h).1, (put h).2.trans e⟩
    · exact hq.elim
  | true =>
    refine hl B α Γ ((x, d) :: G) σ H1 ρ1 _ _ (A1.addG (hx.fr A1 ho)) hw1 fun l H2 ρ2 q2 A2 pu2 => hh B α Γ ((x, d) :: G) σ H2 ρ2 _ _ A2 q2 fun u H3 ρ3 q3 A3' pu3 => ?_
    obtain ⟨A3, hx3⟩ := A3'.unG
    have hq := q3.2
    have put := pu_trans pu1 (pu_trans pu2 pu3)
    unfold cutW at hq
    split at hq
    · next ds =>
      cases hx3 with
      | @tup _ vs _ hs hal =>
        refine .inl ⟨_, _, rfl, sqt_same fz_le hs, fun w => ?_, fun _ p hp => ?_⟩
        · have q : TH.cutD ds l u = ds := by
            unfold TH.cutD
            rw [← hal.length, w.1, w.2, hal.length, List.drop_zero, Nat.sub_zero, List.take_length]
          rw [q] at hq
          exact k _ H3 ρ3 _ true hq A3 (.tup hs hal) put
        · have e := same_new (o := .tup (cutV vs l u)) hp
          exact k _ _ ρ3 _ true hq (A3.to e) (.tup (.of (A3.new e hp upd_same)) (dps_same (A3.fzTo e) (cut_dq hal l u))) fun h => ⟨(put h).1, (put h).2.trans e⟩
    · next ds =>
      cases hx3 with
      | @lst _ vs _ hs hal =>
        refine .inr ⟨_, _, rfl, .of (fz_le _ _ hs), fun p hp => ?_⟩
        have e := same_new (o := .lst (cutV vs l u)) hp
        exact k _ _ ρ3 _ true hq (A3.to e) (.lst (A3.new e hp upd_same) (dps_same (A3.fzTo e) (cut_dq hal l u))) fun h => ⟨(put h).1, (put h).2.trans e⟩
    · exact hq.elim
/-! ### calls of what is built in -/
/-- the call gives z, frozen -/
def Ca2 (X : Cx) (f : Value) (ds : List PyData) (z : PyData) : Prop := (CaD X f ds z ∧ noL z = true) ∨ ∃ zs, z = .list zs ∧ CaL X f ds zs ∧ noLs zs = true
theorem Ca2.run {f : Value} {ds : List PyData} {z : PyData} (h : Ca2 X f ds z) : CallR X f (fun xs H Q => DqAll X.K H xs ds ∧ ∀ v H', Same H H' → (∀ B σ ρ α Γ G, Ax X.K B H σ ρ α Γ G → Dq X.K (fz B (Ow ρ α Γ) H') v z) → Q v H') := by
  rcases h with ⟨h, hn⟩ | ⟨zs, rfl, h, hn⟩
  · intro pins s σ H xs us Q I rx q
    exact h.callR pins s σ H xs us Q I rx ⟨q.1, fun v H' e1 dv => q.2 v H' e1 fun B σ ρ α Γ G A => A.res e1 dv hn⟩
  · intro pins s σ H xs us Q I rx q
    exact h.callR pins s σ H xs us Q I rx ⟨q.1, fun v H' ql => by
      obtain ⟨p, vs, e1, e2, e3, e4⟩ := id ql
      exact q.2 v H' e3 fun B σ ρ α Γ G A => (A.resL ql hn).2⟩
abbrev CW := List PyData → (PyData → Prop) → Prop
def CwOk (X : Cx) (f : Value) (c : CW) : Prop := ∀ ds Q, c ds Q → ∃ z, Ca2 X f ds z ∧ Q z
theorem CwOk.run {f : Value} {c : CW} (h : CwOk X f c) : CallR X f (fun xs H Q => ∃ ds Qz, c ds Qz ∧ DqAll X.K H xs ds ∧ ∀ z v H', Qz z → Same H H' → (∀ B σ ρ α Γ G, Ax X.K B H σ ρ α Γ G → Dq X.K (fz B (Ow ρ α Γ) H') v z) → Q v H') := by
  intro pins s σ H xs us Q I rx ⟨ds, Qz, hc, hd, q⟩
  obtain ⟨z, hz, hq⟩ := h ds Qz hc
  exact hz.run pins s σ H xs us Q I rx ⟨hd, fun v H' e1 dv => q z v H' hq e1 dv⟩
def wCall (c : CW) (a : WA) : WE := fun ρ Q => a ρ fun ds _ ρ1 => c ds fun z => Q z true ρ1
variable {n : Str} {id T : String} {cw : CW} {wsa : WA}
theorem sn_callB (hc : CwOk X (.builtin id) cw) (hg : Gl X n) (hm : X.mg n = none) (hv : bootBuiltins n = some (.builtin id)) (ha : SndA X pu (a :: es) wsa) (hn : n ≠ "__name__" := by decide) (hdb : (n == ("__debug__" : Str)) = false := by decide)
    (he : starEach (a :: es) X.env = (false, eval a X.env) :: starEach es X.env := by rfl) (hpl : (backTo pos (starEach es X.env)).any (·.1) = false := by rfl) : Snd X pu (.Call (.Name n p) (a :: es) [] pos) (wCall cw wsa) := ⟨fun B α Γ G σ H ρ Q R A hw k =>
  rd (pe_callB hc.run hg hm hv pa_any hn hdb he hpl) (ha.run B α Γ G σ H ρ _ _ A hw fun vs H1 ρ1 ds f q A1 hv1 pu1 =>
    ⟨ds, _, q, hv1.h, fun z v H2 hz e2 dv => k v H2 ρ1 z true hz (A1.to e2) (dv B σ ρ1 α Γ G A1) fun h => ⟨(pu1 h).1, (pu1 h).2.trans e2⟩⟩)⟩
theorem sn_callTy (hc : CwOk X (.type T) cw) (hg : Gl X n) (hm : X.mg n = none) (hv : bootBuiltins n = some (.type T)) (ha : SndA X pu (a :: es) wsa) (hn : n ≠ "__name__" := by decide) (hdb : (n == ("__debug__" : Str)) = false := by decide)
    (he : starEach (a :: es) X.env = (false, eval a X.env) :: starEach es X.env := by rfl) (hpl : (backTo pos (starEach es X.env)).any (·.1) = false := by rfl) : Snd X pu (.Call (.Name n p) (a :: es) [] pos) (wCall cw wsa) := ⟨fun B α Γ G σ H ρ Q R A hw k =>
  rd (pe_callTy hc.run hg hm hv pa_any hn hdb he hpl) (ha.run B α Γ G σ H ρ _ _ A hw fun vs H1 ρ1 ds f q A1 hv1 pu1 =>
    ⟨ds, _, q, hv1.h, fun z v H2 hz e2 dv => k v H2 ρ1 z true hz (A1.to e2) (dv B σ ρ1 α Γ G A1) fun h => ⟨(pu1 h).1, (pu1 h).2.trans e2⟩⟩)⟩
end
end WP

namespace WP
open PySem L2 TH PyProof.Rows
section
variable {X : Cx} {a b c e : Expr} {pos p p2 : Pos} {pa pb pc pu : Bool} {wa wb wc : WE} {ta tb : WT} {es rest : List Expr}
/-! ### isinstance -/
def wIsi (f : PyData → Bool) (a : WE) : WE := fun ρ Q => a ρ fun d _ ρ1 => Q (.bool (f d)) true ρ1
theorem sn_isi {T : String} {n : Str} {f : PyData → Bool} (hb : ∀ d, kitB (tyN d) T = some (f d)) (ha : Snd X pu a wa) (hg : Gl X "isinstance") (hm : X.mg "isinstance" = none) (hg2 : Gl X n) (hm2 : X.mg n = none) (hv : bootBuiltins n = some (.type T)) (hn : n ≠ "__name__" := by decide) (hd : (n == ("__debug__" : Str)) = false := by decide)
    (hs : starEach [a, .Name n p2] X.env = (false, eval a X.env) :: starEach [.Name n p2] X.env := by rfl) (hpl : (backTo pos (starEach [.Name n p2] X.env)).any (·.1) = false := by rfl) : Snd X pu (.Call (.Name "isinstance" p) [a, .Name n p2] [] pos) (wIsi f wa) := ⟨fun B α Γ G σ H ρ Q R A hw k =>
  rd (pe_callB call_isi hg hm (by decide +kernel) (pa_cons pe_any (pa_cons (pe_bltn (v := .ty T) hg2 hm2 hv rfl hn hd) pa_nil) hs) (by decide) (by decide) hs hpl) (ha.run B α Γ G σ H ρ _ _ A hw fun v H1 ρ1 d f' q A1 hv1 pu1 =>
    ⟨v, .ty T, _, _, f d, rfl, .ty T, dq_ty hv1.h, kit_ty (hb d), k _ H1 ρ1 _ true q A1 (.bl _) pu1⟩)⟩
/-! ### built-ins -/
def isTD : PyData → Bool
  | .bool b => b
  | _ => false
def isID : PyData → Bool
  | .int _ => true
  | _ => false
def intOf : PyData → Int
  | .int i => i
  | _ => 0
def lenW : CW
  | [.tuple xs], Q => Q (.int xs.length)
  | [.list xs], Q => Q (.int xs.length)
  | _, _ => False
theorem ok_len : CwOk X (.builtin "len") lenW := fun ds Q h => by
  unfold lenW at h
  split at h
  · exact ⟨_, .inl ⟨ca_lenT, rfl⟩, h⟩
  · exact ⟨_, .inl ⟨ca_lenL, rfl⟩, h⟩
  · exact h.elim
theorem bools_eq : ∀ {ds : List PyData}, ds.all isBoolD = true → ds = (ds.map isTD).map PyData.bool
  | [], _ => rfl
  | .bool b :: ds, h => by
    rw [List.all_cons, Bool.and_eq_true] at h
    rw [List.map_cons, List.map_cons, ← bools_eq h.2]
    rfl
  | .int _ :: _, h => by cases h
  | .none :: _, h => by cases h
  | .str _ :: _, h => by cases h
  | .list _ :: _, h => by cases h
  | .tuple _ :: _, h => by cases h
  | .dict _ :: _, h => by cases h
theorem ints_eq : ∀ {ds : List PyData}, ds.all isID = true → ds = (ds.map intOf).map PyData.int
  | [], _ => rfl
  | .int b :: ds, h => by
    rw [List.all_cons, Bool.and_eq_true] at h
    rw [List.map_cons, List.map_cons, ← ints_eq h.2]
    rfl
  | .bool _ :: _, h => by cases h
  | .none :: _, h => by cases h
  | .str _ :: _, h => by cases h
  | .list _ :: _, h => by cases h
  | .tuple _ :: _, h => by cases h
  | .dict _ :: _, h => by cases h
def allW : CW
  | [.list ds], Q => ds.all isBoolD = true ∧ Q (.bool (ds.all isTD))
  | _, _ => False
def anyW : CW
  | [.list ds], Q => ds.all isBoolD = true ∧ Q (.bool (ds.any isTD))
  | _, _ => False
theorem ok_all (hc : X.calm = true) : CwOk X (.builtin "all") allW := fun ds Q h => by
  unfold allW at h
  split at h
  · next ds =>
    refine ⟨_, .inl ⟨?_, rfl⟩, h.2⟩
    have := ca_all (X := X) (bs := ds.map isTD) hc
    rw [← bools_eq h.1, List.all_map] at this
    exact this
  · exact h.elim
theorem ok_any (hc : X.calm = true) : CwOk X (.builtin "any") anyW := fun ds Q h => by
  unfold anyW at h
  split at h
  · next ds =>
    refine ⟨_, .inl ⟨?_, rfl⟩, h.2⟩
    have := ca_any (X := X) (bs := ds.map isTD) hc
    rw [← bools_eq h.1, List.any_map] at this
    exact this
  · exact h.elim
def sumW : CW
  | [.list ds], Q => ds.all isID = true ∧ Q (.int (ds.map intOf).sum)
  | _, _ => False
theorem ok_sum (hc : X.calm = true) : CwOk X (.builtin "sum") sumW := fun ds Q h => by
  unfold sumW at h
  split at h
  · next ds =>
    refine ⟨_, .inl ⟨?_, rfl⟩, h.2⟩
    have := ca_sumL (X := X) (ns := ds.map intOf) hc
    rw [← ints_eq h.1] at this
    exact this
  · exact h.elim
def absW : CW
  | [.int i], Q => Q (.int (if i < 0 then -i else i))
  | _, _ => False
theorem ok_abs : CwOk X (.builtin "abs") absW := fun ds Q h => by
  unfold absW at h
  split at h
  · exact ⟨_, .inl ⟨ca_abs, rfl⟩, h⟩
  · exact h.elim
def tupleW : CW
  | [.list ds], Q => noLs ds = true ∧ Q (.tuple ds)
  | _, _ => False
theorem ok_tuple : CwOk X (.type "tuple") tupleW := fun ds Q h => by
  unfold tupleW at h
  split at h
  · exact ⟨_, .inl ⟨ca_tupleL, by simpa [noL] using h.1⟩, h.2⟩
  · exact h.elim
def listW : CW
  | [.tuple ds], Q => noLs ds = true ∧ Q (.list ds)
  | [.list ds], Q => noLs ds = true ∧ Q (.list ds)
  | _, _ => False
theorem ok_list : CwOk X (.type "list") listW := fun ds Q h => by
  unfold listW at h
  split at h
  · exact ⟨_, .inr ⟨_, rfl, cl_listT, h.1⟩, h.2⟩
  · exact ⟨_, .inr ⟨_, rfl, cl_listL, h.1⟩, h.2⟩
  · exact h.elim
def intW : CW
  | [.int i], Q => Q (.int i)
  | [.bool k], Q => Q (.int (if k = true then 1 else 0))
  | _, _ => False
theorem ok_int : CwOk X (.type "int") intW := fun ds Q h => by
  unfold intW at h
  split at h
  · exact ⟨_, .inl ⟨ca_intI, rfl⟩, h⟩
  · exact ⟨_, .inl ⟨ca_intB, rfl⟩, h⟩
  · exact h.elim
/-- list(range(e)) -/
def asN : PyData → (Nat → Prop) → Prop
  | .int i, k => 0 ≤ i ∧ k i.toNat
  | _, _ => False
theorem asN_ok {d : PyData} {k : Nat → Prop} (h : asN d k) : ∃ n : Nat, d = .int n ∧ k n := by
  cases d with
  | int i =>
    obtain ⟨h0, h1⟩ := h
    exact ⟨i.toNat, by rw [Int.toNat_of_nonneg h0], h1⟩
  | none => exact h.elim
  | bool b => exact h.elim
  | str b => exact h.elim
  | list b => exact h.elim
  | tuple b => exact h.elim
  | dict b => exact h.elim
def wLrg (a : WE) : WE := fun ρ Q => a ρ fun d _ ρ1 => asN d fun n => n ≤ 100000 ∧ Q (.list (rgD n)) true ρ1
theorem dq_rg {K : PySem.W.Frag} {H : Hp} (n : Nat) : DqAll K H (rgV 0 n) (rgD n) := by
  unfold rgV rgD
  have e : ((n : Int) - 0).toNat = n := by omega
  rw [e]
  have q : ∀ (l : List Nat), DqAll K H (l.map fun i => V.int (0 + (i : Nat))) (l.map fun (i : Nat) => PyData.int (i : Int)) := fun l => by
    induction l with
    | nil => exact .nil
    | cons i l ih =>
      refine .cons ?_ ih
      have : (0 : Int) + (i : Nat) = (i : Nat) := by omega
      show Dq K H (V.int (0 + (i : Nat))) (.int (i : Nat))
      rw [this]
      exact .int _
  exact q _
theorem sn_listRg {q q2 : Pos} (hc : X.calm = true) (hg : Gl X "list") (hm : X.mg "list" = none) (hg2 : Gl X "range") (hm2 : X.mg "range" = none) (ha : Snd X pu a wa)
    (na : starEach [a] X.env = (false, eval a X.env) :: starEach [] X.env := by rfl) (na2 : starEach [.Call (.Name "range" p2) [a] [] q2] X.env = (false, eval (.Call (.Name "range" p2) [a] [] q2) X.env) :: starEach [] X.env := by rfl) :
    Snd X pu (.Call (.Name "list" p) [.Call (.Name "range" p2) [a] [] q2] [] q) (wLrg wa) := ⟨fun B α Γ G σ H ρ Q R A hw k =>
  rd (pe_listRg hc hg hm (prg_1 hg2 hm2 pe_any na) na2) (ha.run B α Γ G σ H ρ _ _ A hw fun v H1 ρ1 d f q A1 hv pu1 => by
    obtain ⟨n, rfl, hn, q⟩ := asN_ok q
    have := hv.h
    cases this
    refine ⟨_, rfl, RgOk.of_le (by omega) (by omega) (by omega) (by omega), fun l hl => ?_⟩
    have e := same_new (o := .lst (rgV 0 n)) hl
    exact k _ _ ρ1 _ true q (A1.to e) (.lst (A1.new e hl upd_same) (dq_rg n)) fun h => ⟨(pu1 h).1, (pu1 h).2.trans e⟩)⟩
/-! ### calls of the text's own defs -/
def spW (K : PySem.W.Frag) (ar : Nat) (sp : CW) : Sp := fun vs H Q _ => ∃ ds Qz, ds.length = ar ∧ DqAll K H vs ds ∧ sp ds Qz ∧ ∀ z, Qz z → ∀ v H', Same H H' → Dq K (fz H (fun _ => False) H') v z → Q v H'
abbrev FnW (X : Cx) (k : Nat) (n : Str) (ar : Nat) (sp : CW) : Prop := FnD X.prog X.w X.K X.mg X.base k n (spW X.K ar sp)
theorem Ax.ret {K : PySem.W.Frag} {B H H' : Hp} {ρ : List SV} {α : Nat → Addr} {Γ : List (Addr × HO)} {G : List (V × PyData)} {σ : L2.St} (A : Ax K B H σ ρ α Γ G) : Same (fz H (fun _ => False) H') (fz B (Ow ρ α Γ) H') := fun a o h => by
  obtain ⟨h1, h2, h3⟩ := fz_some h
  refine fz_of (fun q => ?_) (fun u hu => h2 u (A.same a u hu)) h3
  obtain ⟨_, u, h4, h5⟩ := A.fresh a q
  rw [h2 u h4] at h5; cases h5
variable {n : Str} {k ar : Nat} {sp : CW} {wsa : WA}
def arW (ar : Nat) (sp : CW) : CW := fun ds Q => ds.length = ar ∧ sp ds Q
theorem sn_call (F : FnW X k n ar sp) (hr : Room k X.A) (hg : Gl X n) (ha : SndA X pu (a :: es) wsa) (hdb : (n == ("__debug__" : Str)) = false := by decide)
    (he : starEach (a :: es) X.env = (false, eval a X.env) :: starEach es X.env := by rfl) (hpl : (backTo pos (starEach es X.env)).any (·.1) = false := by rfl) : Snd X pu (.Call (.Name n p) (a :: es) [] pos) (wCall (arW ar sp) wsa) := by
  obtain ⟨f, fd, ps, h1, h2, h3, h4⟩ := F.ex
  refine ⟨fun B α Γ G σ H ρ Q R A hw k => ?_⟩
  refine rd (pe_call h4 hr hg h1 h2 h3 .nil pass0 pa_any hdb he hpl) (ha.run B α Γ G σ H ρ _ _ A hw fun vs H1 ρ1 ds f q A1 hv pu1 => ⟨ds, _, q.1, by rw [List.append_nil]; exact hv.h, q.2, fun z hz v H2 e2 dv => ?_⟩)
  exact k v H2 ρ1 z true hz (A1.to e2) (dp_same A1.ret dv) fun h => ⟨(pu1 h).1, (pu1 h).2.trans e2⟩
/-! ### old promises -/
theorem tk_nw {H H' : Hp} (e : Same H H') : Tk H' (fz H (fun _ => False) H') := by
  have key : ∀ a o, H' a = some o → mutO o = false → fz H (fun _ => False) H' a = some o := fun a o h hm => fz_of (fun q => q) (fun u hu => by
    have := e a u hu
    rw [h] at this; cases this; exact hm) h
  exact ⟨fun a xs h => key a _ h rfl, fun a o u h => key a _ h rfl⟩
theorem FnD.imp {P : Program} {w : World} {K : PySem.W.Frag} {mg : Str → Option Value} {base : Heap} {k : Nat} {n : Str} {sp sp' : Sp} (F : FnD P w K mg base k n sp) (h : ∀ vs H Q E, sp' vs H Q E → sp vs H Q E) : FnD P w K mg base k n sp' := by
  obtain ⟨f, fd, ps, h1, h2, h3, h4⟩ := F.ex
  exact ⟨f, fd, ps, h1, h2, h3, h4.imp h⟩
theorem FnD.mono {P : Program} {w : World} {K : PySem.W.Frag} {mg : Str → Option Value} {base : Heap} {k k' : Nat} {n : Str} {sp : Sp} (F : FnD P w K mg base k n sp) (h : k ≤ k') : FnD P w K mg base k' n sp := by
  obtain ⟨f, fd, ps, h1, h2, h3, h4⟩ := F.ex
  exact ⟨f, fd, ps, h1, h2, h3, h4.mono h⟩
/-- a promise of data without lists, in the new form -/
theorem FnD.toW {P : Program} {w : World} {K : PySem.W.Frag} {mg : Str → Option Value} {base : Heap} {k ar : Nat} {n : Str} {rel : List PyData → PyData → Prop} {sp : CW} (F : FnD P w K mg base k n (spR K ar rel)) (h : ∀ ds Q, sp ds Q → ∃ z, rel ds z ∧ noL z = true ∧ Q z) : FnD P w K mg base k n (spW K ar sp) := FnD.imp F fun vs H Q E ⟨ds, Qz, hl, hd, hs, q⟩ => by
  obtain ⟨z, h1, h2, h3⟩ := h ds Qz hs
  exact ⟨by rw [hd.length, hl], ds, z, hd, h1, fun v H' e dv => q z h3 v H' e (dp_tk (tk_nw e) dv h2)⟩
theorem FnD.toWL {P : Program} {w : World} {K : PySem.W.Frag} {mg : Str → Option Value} {base : Heap} {k ar : Nat} {n : Str} {rel : List PyData → List PyData → Prop} {sp : CW} (F : FnD P w K mg base k n (spL K ar rel)) (h : ∀ ds Q, sp ds Q → ∃ z, rel ds z ∧ noLs z = true ∧ Q (.list z)) : FnD P w K mg base k n (spW K ar sp) := FnD.imp F fun vs H Q E ⟨ds, Qz, hl, hd, hs, q⟩ => by
  obtain ⟨z, h1, h2, h3⟩ := h ds Qz hs
  refine ⟨by rw [hd.length, hl], ds, z, hd, h1, fun v H' ql => ?_⟩
  obtain ⟨p, vs, rfl, e1, e2, e3, e4⟩ := ql
  exact q (.list z) h3 _ H' e2 (.lst (fz_of (fun q => q) (fun u hu => by rw [e1] at hu; cases hu) e3) (dps_tk (tk_nw e2) e4 h2))
/-! ### draws -/
def twW : SV → SV → (Addr → Nat → Nat → Prop) → Prop
  | .tw t n c, .sc ss, k => ss.length = n ∧ n ≤ 63 ∧ k t n c
  | _, _, _ => False
theorem twW_ok {x y : SV} {k : Addr → Nat → Nat → Prop} (h : twW x y k) : ∃ t n c ss, x = .tw t n c ∧ y = .sc ss ∧ ss.length = n ∧ n ≤ 63 ∧ k t n c := by
  unfold twW at h
  split at h
  · exact ⟨_, _, _, _, rfl, rfl, h⟩
  · exact h.elim
/-- f(script, town, e): slot i the town, slot j the script -/
def wDrw (i j kd : Nat) (Pr : PyData → Prop) (Rl : PyData → PyData → Prop) (a : WE) : WE := fun ρ Q => twW (gs ρ i) (gs ρ j) fun _ _ _ => a ρ fun d f ρ1 => okF f d = true ∧ twW (gs ρ1 i) (gs ρ1 j) fun t n c => c + kd ≤ 2 ^ 60 ∧ Pr d ∧ ∀ z, Rl d z → noL z = true → Q z true (ρ1.set i (.tw t n (c + kd)))
theorem Ax.val {K : PySem.W.Frag} {B H : Hp} {ρ : List SV} {α : Nat → Addr} {Γ : List (Addr × HO)} {G : List (V × PyData)} {σ : L2.St} (A : Ax K B H σ ρ α Γ G) {i : Nat} (h : (gs ρ i).own = true) : σ[i]? = some (some (.ref (α i))) := by
  obtain ⟨w, h1, h2⟩ := A.ok i (own_ne h)
  have : w = .ref (α i) := by
    cases hx : gs ρ i with
    | ml ds => rw [hx] at h2; exact h2.1
    | tw t n c => rw [hx] at h2; exact h2.1
    | dk n => rw [hx] at h2; exact h2.1
    | dt n => rw [hx] at h2; exact h2.1
    | ob n => rw [hx] at h2; exact h2.1
    | no => rw [hx] at h; cases h
    | im d => rw [hx] at h; cases h
    | bo d => rw [hx] at h; cases h
    | sc d => rw [hx] at h; cases h
  rw [h1, this]
theorem fz_wo {B H : Hp} {O : Addr → Prop} {t : Addr} (h : O t) : Same (fz B O H) (wo H t) := fun a o e => by
  obtain ⟨h1, _, h3⟩ := fz_some e
  rw [wo_ne (fun q => h1 (by rw [q]; exact h))]
  exact h3
theorem sn_draw {i j kd : Nat} {x y f : Str} {p1 p2 : Pos} {Pr : PyData → Prop} {Rl : PyData → PyData → Prop} (F : FnD X.prog X.w X.K X.mg X.base k f (spT X.K kd Pr Rl)) (hr : Room k X.A) (hg : Gl X f) (hNj : X.N[j]? = some x) (hvj : Vis X.env.scope x) (hNi : X.N[i]? = some y) (hvi : Vis X.env.scope y) (h3 : Snd X pu e wa)
    (hdb : (f == ("__debug__" : Str)) = false := by decide) (he : starEach [.Name x p1, .Name y p2, e] X.env = (false, eval (.Name x p1) X.env) :: starEach [.Name y p2, e] X.env := by rfl) (he2 : starEach [.Name y p2, e] X.env = (false, eval (.Name y p2) X.env) :: starEach [e] X.env := by rfl) (he3 : starEach [e] X.env = (false, eval e X.env) :: starEach [] X.env := by rfl) (hpl : (backTo pos (starEach [.Name y p2, e] X.env)).any (·.1) = false := by rfl)
    (hd1 : (x == ("__debug__" : Str)) = false := by decide) (hcd1 : (x == ("__classdict__" : Str)) = false := by decide) (hd2 : (y == ("__debug__" : Str)) = false := by decide) (hcd2 : (y == ("__classdict__" : Str)) = false := by decide) :
    Snd X false (.Call (.Name f p) [.Name x p1, .Name y p2, e] [] pos) (wDrw i j kd Pr Rl wa) := by
  obtain ⟨fa, fd, ps, h1, h2, hb, h4⟩ := F.ex
  refine ⟨fun B α Γ G σ H ρ Q R A hw k => ?_⟩
  refine rd (pe_call h4 hr hg h1 h2 hb .nil pass0 (pa_cons (pe_var hNj hvj hd1 hcd1) (pa_cons (pe_var hNi hvi hd2 hcd2) (pa_cons pe_any pa_nil he3) he2) he) hdb he hpl) ?_
  -- the two names are read ahead: their values are those behind e as well
  obtain ⟨t0, n0, c0, ss0, hi0, hj0, _, _, hw⟩ := twW_ok hw
  have o0 : (gs ρ i).own = true := by rw [hi0]; rfl
  obtain ⟨sv, s1, s2⟩ := A.ok j (by rw [hj0]; intro z; cases z)
  rw [hj0] at s2
  obtain ⟨sa, rfl, _⟩ := s2
  refine ⟨_, s1, _, A.val o0, h3.run B α Γ G σ H ρ _ _ A hw fun v H1 ρ1 d f q A1 hv pu1 => ?_⟩
  obtain ⟨ho, q⟩ := q
  obtain ⟨t, n, c, ss, hi, hj, hs, h63, hc, hpr, q⟩ := twW_ok q
  obtain ⟨sv', s1', s2'⟩ := A1.ok j (by rw [hj]; intro z; cases z)
  rw [hj] at s2'
  obtain ⟨sa', rfl, hsq⟩ := s2'
  rw [s1] at s1'
  cases s1'
  have o1 : (gs ρ1 i).own = true := by rw [hi]; rfl
  have oi : Ow ρ1 α Γ (α i) := .inr ⟨i, o1, rfl⟩
  obtain ⟨w, w1, w2⟩ := A1.ok i (own_ne o1)
  rw [hi] at w2
  obtain ⟨rfl, hti, ws, ds, w3, w4, tw⟩ := w2
  have hB := (A1.fresh _ oi).1
  refine ⟨n, c, sa, α i, v, ss, d, ws, ds, rfl, hc, h63, hs, sqL_same (same_wo A1.same hB) hsq, dp_same (fz_wo oi) (hv.fr A1 ho), hpr, w3, dps_same fz_le w4, tw, fun v' H2 ws' ds' z e1 e2 e3 tw' dz hn rz => ?_⟩
  obtain ⟨ns, rfl⟩ := tw'.ints
  have ew := e3.ints
  subst ew
  have A2 : Ax X.K B (upd H1 (α i) (.lst (ns.map V.int))) σ (ρ1.set i (.tw t n (c + kd))) α Γ G := A1.mut o1 rfl rfl ⟨rfl, hti, _, _, upd_same, dq_ints ns, tw'⟩
  have A3 := A2.to (same_back e1 e2)
  exact k v' H2 _ z true (q z rz hn) A3 (dp_tk A3.tk dz hn) fun h => nomatch h
end
end WP

namespace WP
open PySem PySem.Spec L2 TH PyProof.Rows RZ
/-! ## what is walked -/
structure IWk (K : PySem.W.Frag) (J : It) (ds : List PyData) (g : List (V × PyData)) : Prop where
  go : ∀ i H F, Same F H → (∀ x ∈ g, Dq K F x.1 x.2) → i < ds.length → J.go i H
  stop : ∀ H F, Same F H → (∀ x ∈ g, Dq K F x.1 x.2) → J.stop ds.length H
  yld : ∀ i H F x H3, Same F H → (∀ x ∈ g, Dq K F x.1 x.2) → i < ds.length → J.yld i H x H3 → Same H H3 ∧ ∃ d, ds[i]? = some d ∧ ∀ F3, Same F F3 → (∀ a o, H a = none → H3 a = some o → F3 a = some o) → Dq K F3 x d
/-- what is walked stays: frozen things, or the caller's -/
def Wst (K : PySem.W.Frag) (B F : Hp) (g : List (V × PyData)) (ds : List PyData) : Bool → Prop
  | true => ∀ x ∈ g, Dq K F x.1 x.2
  | false => (∀ x ∈ g, Dq K B x.1 x.2) ∧ noLs ds = true
abbrev WI := List SV → (List PyData → List SV → Prop) → Prop
structure SndI (X : Cx) (pu : Bool) (tg iter : Expr) (w : WI) : Prop where
  run : ∃ wi : TI, PI X tg iter wi ∧ ∀ (B : Hp) (α : Nat → Addr) (Γ : List (Addr × HO)) (G : List (V × PyData)) (σ : L2.St) (H : Hp) (ρ : List SV) (Q : List PyData → List SV → Prop) (R : It → Hp → Prop), Ax X.K B H σ ρ α Γ G → w ρ Q →
    (∀ J H' ρ' ds g m, Q ds ρ' → Ax X.K B H' σ ρ' α Γ G → IWk X.K J ds g → Wst X.K B (fz B (Ow ρ' α Γ) H') g ds m → (pu = true → ρ' = ρ ∧ Same H H') → R J H') → wi σ H R
def iSeq (K : PySem.W.Frag) (tl : TE) : TI := fun σ H R => tl σ H fun v H1 => ∃ a, v = .ref a ∧ ((∃ xs, SqL K H1 a xs ∧ R (Itl K a) H1) ∨ ∃ xs, SqT K H1 a xs ∧ R (Itt K a) H1)
theorem pi_seq {X : Cx} {tg l : Expr} {tl : TE} (hl : PE X l tl) : PI X tg l (iSeq X.K tl) := by
  refine ⟨fun pins s σ H R I h => ?_⟩
  refine thn (hl.run pins s σ H _ I h) fun v s1 ⟨x, H1, I1, r1, q1⟩ => ?_
  obtain ⟨a, e, ⟨xs, hq, q⟩ | ⟨xs, hq, q⟩⟩ := q1
  · subst e
    cases r1
    obtain ⟨its, rv, p, hz⟩ := I1.list hq
    refine wpAny_pyIter_list p.isList ?_
    refine ⟨s1.heap.objs.size, [s1.heap.objs.size], _, _, H1, rfl, I1.kept (t' := s1.toks) fun b o e => Heap.get?_push_of_some _ e, turn_list a _, ⟨_, Heap.get?_push_size _ rfl, rfl, rfl⟩, fun b hb => ?_, q⟩
    have e : b = s1.heap.objs.size := by simpa using hb
    subst e
    exact I1.fpOk (Nat.le_refl _) (I1.hok.fresh (Nat.le_refl _))
  · subst e
    cases r1
    obtain ⟨its, rv, p, hz⟩ := I1.tuple hq
    refine wpAny_pyIter_tuple (show s1.heap.IsTuple a its.toArray from p) ?_
    refine ⟨s1.heap.objs.size, [s1.heap.objs.size], _, _, H1, rfl, I1.kept (t' := s1.toks) fun b o e => Heap.get?_push_of_some _ e, turn_tuple a _, ⟨_, Heap.get?_push_size _ rfl, rfl, rfl⟩, fun b hb => ?_, q⟩
    have e : b = s1.heap.objs.size := by simpa using hb
    subst e
    exact I1.fpOk (Nat.le_refl _) (I1.hok.fresh (Nat.le_refl _))
theorem sql_same {K : PySem.W.Frag} {H H' : Hp} {a : Addr} {xs : List V} (e : Same H H') (h : H a = some (.lst xs)) : SqL K H' a xs := .of (e _ _ h)
/-- a tuple or a list, walked -/
theorem iwk_seq {K : PySem.W.Frag} {F H : Hp} {v : V} {d : PyData} {ds : List PyData} (hd : d = .tuple ds ∨ d = .list ds) (sF : Same F H) (h : Dq K F v d) : ∃ a, v = .ref a ∧ ((∃ xs, SqL K H a xs ∧ IWk K (Itl K a) ds [(v, d)]) ∨ ∃ xs, SqT K H a xs ∧ IWk K (Itt K a) ds [(v, d)]) := by
  rcases hd with rfl | rfl
  · cases h with
    | @tup a xs _ hs hal =>
      refine ⟨a, rfl, .inr ⟨xs, sqt_same sF hs, ⟨fun i H F sF hg hi => ?_, fun H F sF hg => ?_, fun i H F x H3 sF hg hi y => ?_⟩⟩⟩
      · have h := hg _ List.mem_cons_self
        cases h with
        | tup hs hal =>
          rw [← hal.length] at hi
          exact walk_tup.goes i H hi (sqt_same sF hs)
      · have h := hg _ List.mem_cons_self
        cases h with
        | tup hs hal =>
          rw [← hal.length]
          exact walk_tup.stops H (sqt_same sF hs)
      · have h := hg _ List.mem_cons_self
        cases h with
        | tup hs hal =>
          rw [← hal.length] at hi
          obtain ⟨h1, h2⟩ := walk_tup.yields i H x H3 hi (sqt_same sF hs) y
          subst h1
          obtain ⟨d, h3, h4⟩ := hal.get h2
          exact ⟨Same.refl _, d, h3, fun F3 s3 _ => dp_same s3 h4⟩
  · cases h with
    | @lst a xs _ hs hal =>
      refine ⟨a, rfl, .inl ⟨xs, sql_same sF hs, ⟨fun i H F sF hg hi => ?_, fun H F sF hg => ?_, fun i H F x H3 sF hg hi y => ?_⟩⟩⟩
      · have h := hg _ List.mem_cons_self
        cases h with
        | lst hs hal =>
          rw [← hal.length] at hi
          exact walk_list.goes i H hi (sql_same sF hs)
      · have h := hg _ List.mem_cons_self
        cases h with
        | lst hs hal =>
          rw [← hal.length]
          exact walk_list.stops H (sql_same sF hs)
      · have h := hg _ List.mem_cons_self
        cases h with
        | lst hs hal =>
          rw [← hal.length] at hi
          obtain ⟨h1, h2⟩ := walk_list.yields i H x H3 hi (sql_same sF hs) y
          subst h1
          obtain ⟨d, h3, h4⟩ := hal.get h2
          exact ⟨Same.refl _, d, h3, fun F3 s3 _ => dp_same s3 h4⟩
def seqW : PyData → (List PyData → Prop) → Prop
  | .tuple ds, k => k ds
  | .list ds, k => k ds
  | _, _ => False
theorem seqW_ok {d : PyData} {k : List PyData → Prop} (h : seqW d k) : ∃ ds, (d = .tuple ds ∨ d = .list ds) ∧ k ds := by
  cases d with
  | tuple ds => exact ⟨ds, .inl rfl, h⟩
  | list ds => exact ⟨ds, .inr rfl, h⟩
  | none => exact h.elim
  | bool b => exact h.elim
  | str b => exact h.elim
  | int b => exact h.elim
  | dict b => exact h.elim
section
variable {X : Cx} {a b c e tg : Expr} {pos p p2 : Pos} {pa pb pc pu : Bool} {wa wb wc : WE} {ta tb : WT} {es rest : List Expr}
/-- any expression: frozen -/
def wiE (a : WE) : WI := fun ρ Q => a ρ fun d f ρ1 => okF f d = true ∧ seqW d fun ds => Q ds ρ1
theorem si_exp (h : Snd X pu a wa) : SndI X pu tg a (wiE wa) := ⟨_, pi_seq pe_any, fun B α Γ G σ H ρ Q R A hw k => h.run B α Γ G σ H ρ _ _ A hw fun v H1 ρ1 d f q A1 hv pu1 => by
  obtain ⟨ho, q⟩ := q
  obtain ⟨ds, hd, q⟩ := seqW_ok q
  have hf := hv.fr A1 ho
  obtain ⟨a, rfl, ⟨xs, h1, h2⟩ | ⟨xs, h1, h2⟩⟩ := iwk_seq hd fz_le hf
  · exact ⟨a, rfl, .inl ⟨xs, h1, k _ H1 ρ1 ds _ true q A1 h2 (fun x hx => by rw [List.mem_singleton] at hx; subst hx; exact hf) pu1⟩⟩
  · exact ⟨a, rfl, .inr ⟨xs, h1, k _ H1 ρ1 ds _ true q A1 h2 (fun x hx => by rw [List.mem_singleton] at hx; subst hx; exact hf) pu1⟩⟩⟩
/-- a name -/
def itK : SV → (List PyData → Prop) → Prop
  | .im d, k => seqW d k
  | .bo d, k => seqW d fun ds => noLs ds = true ∧ k ds
  | _, _ => False
def wiV (i : Nat) : WI := fun ρ Q => itK (gs ρ i) fun ds => Q ds ρ
theorem si_var {i : Nat} {n : Str} (hN : X.N[i]? = some n) (hv : Vis X.env.scope n) (hd : (n == ("__debug__" : Str)) = false := by decide) (hcd : (n == ("__classdict__" : Str)) = false := by decide) : SndI X true tg (.Name n pos) (wiV i) := ⟨_, pi_seq (pe_var hN hv hd hcd), fun B α Γ G σ H ρ Q R A hw k => by
  have rf : true = true → ρ = ρ ∧ Same H H := fun _ => ⟨rfl, Same.refl H⟩
  unfold wiV at hw
  generalize hgk : gs ρ i = x at hw
  unfold itK at hw
  split at hw
  · next d =>
    have hd' := hgk
    obtain ⟨v, h1, h2⟩ := A.ok i (by rw [hd']; intro z; cases z)
    rw [hd'] at h2
    obtain ⟨ds, hd, q⟩ := seqW_ok hw
    refine ⟨v, h1, ?_⟩
    obtain ⟨a, rfl, ⟨xs, q1, q2⟩ | ⟨xs, q1, q2⟩⟩ := iwk_seq hd fz_le h2
    · exact ⟨a, rfl, .inl ⟨xs, q1, k _ H ρ ds _ true q A q2 (fun x hx => by rw [List.mem_singleton] at hx; subst hx; exact h2) rf⟩⟩
    · exact ⟨a, rfl, .inr ⟨xs, q1, k _ H ρ ds _ true q A q2 (fun x hx => by rw [List.mem_singleton] at hx; subst hx; exact h2) rf⟩⟩
  · next d =>
    have hd' := hgk
    obtain ⟨v, h1, h2⟩ := A.ok i (by rw [hd']; intro z; cases z)
    rw [hd'] at h2
    obtain ⟨ds, hd, hn, q⟩ := seqW_ok hw
    refine ⟨v, h1, ?_⟩
    obtain ⟨a, rfl, ⟨xs, q1, q2⟩ | ⟨xs, q1, q2⟩⟩ := iwk_seq hd A.same h2
    · exact ⟨a, rfl, .inl ⟨xs, q1, k _ H ρ ds _ false q A q2 ⟨(fun x hx => by rw [List.mem_singleton] at hx; subst hx; exact h2), hn⟩ rf⟩⟩
    · exact ⟨a, rfl, .inr ⟨xs, q1, k _ H ρ ds _ false q A q2 ⟨(fun x hx => by rw [List.mem_singleton] at hx; subst hx; exact h2), hn⟩ rf⟩⟩
  · exact hw.elim⟩
/-- range(e) -/
def wiR (a : WE) : WI := fun ρ Q => a ρ fun d _ ρ1 => asN d fun n => n < 1000000 ∧ Q (rgD n) ρ1
theorem si_range (h : Snd X pu a wa) (hg : Gl X "range") (hm : X.mg "range" = none) (hs : starEach [a] X.env = [(false, eval a X.env)] := by rfl) : SndI X pu tg (.Call (.Name "range" p) [a] [] pos) (wiR wa) :=
  ⟨_, pi_range1 hg hm (pa_cons pe_any pa_nil hs) hs, fun B α Γ G σ H ρ Q R A hw k => h.run B α Γ G σ H ρ _ _ A hw fun v H1 ρ1 d f q A1 hv pu1 => by
    obtain ⟨n, rfl, hn, q⟩ := asN_ok q
    have := hv.h
    cases this
    refine ⟨_, rfl, by omega, by omega, k _ H1 ρ1 (rgD n) [] true q A1 ?_ (fun x hx => nomatch hx) pu1⟩
    have hl : (rgD n).length = n := by simp [rgD]
    refine ⟨fun i H2 F sF _ hi => ?_, fun H2 F sF _ => ?_, fun i H2 F x H3 sF _ hi y => ?_⟩
    · rw [hl] at hi
      show i < (n : Int).toNat
      omega
    · rw [hl]
      show (n : Int).toNat ≤ n
      omega
    · rw [hl] at hi
      obtain ⟨h1, h2⟩ := y
      subst h1 h2
      refine ⟨Same.refl _, .int (i : Nat), ?_, fun F3 _ _ => ?_⟩
      · simp [rgD, hi]
      · have : (0 : Int) + (i : Nat) = (i : Nat) := by omega
        rw [this]
        exact .int _⟩
/-- zip(a, b), two tuples -/
theorem zip_yldF {K : PySem.W.Frag} {F H H' : Hp} {ds es : List PyData} {a b : Addr} {i : Nat} {x : V} (sF : Same F H) (h1 : Dq K F (.ref a) (.tuple ds)) (h2 : Dq K F (.ref b) (.tuple es)) (hy : (ItzT K a b).yld i H x H') : Same H H' ∧ ∃ d, (zD ds es)[i]? = some d ∧ ∀ F3, Same F F3 → (∀ a o, H a = none → H' a = some o → F3 a = some o) → Dq K F3 x d := by
  obtain ⟨T, u, v, rfl, hT, rfl, k1, k2⟩ := hy
  cases h1 with
  | tup q1 q2 =>
    cases h2 with
    | tup q3 q4 =>
      obtain ⟨d1, g1, g2⟩ := q2.get (k1 _ (sqt_same sF q1))
      obtain ⟨d2, g3, g4⟩ := q4.get (k2 _ (sqt_same sF q3))
      exact ⟨same_new hT, _, zD_get g1 g3, fun F3 s3 hn => .tup (.inl (.inl (hn T _ hT upd_same))) (.cons (dp_same s3 g2) (.cons (dp_same s3 g4) .nil))⟩
def zipW : PyData → PyData → (List PyData → Prop) → Prop
  | .tuple ds, .tuple es, k => k (zD ds es)
  | _, _, _ => False
def wiZ (pb : Bool) (a b : WE) : WI := fun ρ Q => a ρ fun d f ρ1 => b ρ1 fun e g ρ2 => (pb = true ∨ okF f d = true) ∧ okF f d = true ∧ okF g e = true ∧ zipW d e fun ds => Q ds ρ2
theorem si_zip {elts : List Expr} {kk : Nat} {tpos : Pos} (ha : Snd X pa a wa) (hb : Snd X pb b wb) (hg : Gl X "zip") (hm : X.mg "zip" = none)
    (hs : starEach [a, b] X.env = (false, eval a X.env) :: starEach [b] X.env := by rfl) (hpl : (backTo pos (starEach [b] X.env)).any (·.1) = false := by rfl) (hs2 : starEach [b] X.env = (false, eval b X.env) :: starEach [] X.env := by rfl) : SndI X (pa && pb) (.Tuple elts kk tpos) (.Call (.Name "zip" p) [a, b] [] pos) (wiZ pb wa wb) :=
  ⟨_, pi_zipA hg hm (pa_cons pe_any (pa_cons pe_any pa_nil hs2) hs) hs hpl, fun B α Γ G σ H ρ Q R A hw k => ha.run B α Γ G σ H ρ _ _ A hw fun x H1 ρ1 d f q A1 hx pu1 => by
    refine hb.two A1 hx q fun y H2 ρ2 e g f' q2 A2 hx2 hf hy pu2 => ?_
    obtain ⟨o1, o2, q2⟩ := q2
    rw [hf] at o1
    have hx3 := hx2.fr A2 o1
    have hy3 := hy.fr A2 o2
    unfold zipW at q2
    split at q2
    · next ds es =>
      have hx4 := dp_same fz_le hx3
      have hy4 := dp_same fz_le hy3
      obtain ⟨ax, xs, rfl, q1⟩ : ∃ a xs, x = .ref a ∧ SqT X.K H2 a xs := by
        cases hx4 with
        | tup q1 _ => exact ⟨_, _, rfl, q1⟩
      obtain ⟨ay, ys, rfl, q3⟩ : ∃ a xs, y = .ref a ∧ SqT X.K H2 a xs := by
        cases hy4 with
        | tup q1 _ => exact ⟨_, _, rfl, q1⟩
      · · refine ⟨_, _, _, _, rfl, .inr ⟨q1, q3, k _ H2 ρ2 (zD ds es) [(.ref ax, .tuple ds), (.ref ay, .tuple es)] true q2 A2 ⟨fun i H F sF hg hi => ?_, fun H F sF hg => ?_, fun i H F x H3 sF hg hi y => ?_⟩ (fun z hz => ?_) (pu_trans pu1 pu2)⟩⟩
          · exact zip_go (dp_same sF (hg _ List.mem_cons_self)) (dp_same sF (hg _ (List.mem_cons_of_mem _ List.mem_cons_self))) hi
          · exact zip_stop (dp_same sF (hg _ List.mem_cons_self)) (dp_same sF (hg _ (List.mem_cons_of_mem _ List.mem_cons_self)))
          · have h1 := hg _ List.mem_cons_self
            have h2 := hg _ (List.mem_cons_of_mem _ List.mem_cons_self)
            obtain ⟨e1, e2⟩ := zip_yldF sF h1 h2 y
            exact ⟨e1, e2⟩
          · simp only [List.mem_cons, List.not_mem_nil, or_false] at hz
            rcases hz with rfl | rfl
            · exact hx3
            · exact hy3
    · exact q2.elim⟩
end
end WP

namespace WP
open PySem PySem.Spec L2 TH PyProof.Rows RZ
/-! ## targets -/
abbrev TW := PyData → List SV → (List SV → Prop) → Prop
def twN (i : Nat) : TW := fun d ρ k => k (ρ.set i (.im d))
def puts : List Nat → List PyData → List SV → (List SV → Prop) → Prop
  | [], [], ρ, k => k ρ
  | i :: is, d :: ds, ρ, k => puts is ds (ρ.set i (.im d)) k
  | _, _, _, _ => False
def twT (is : List Nat) : TW
  | .tuple ds, ρ, k => puts is ds ρ k
  | _, _, _ => False
/-- the store of a frozen datum; the slots sl alone change -/
def RdX (K : PySem.W.Frag) (g : TG) (t : TW) (sl : List Nat) : Prop := ∀ (v : V) (σ : L2.St) (B H : Hp) (ρ : List SV) (α : Nat → Addr) (Γ : List (Addr × HO)) (G : List (V × PyData)) (d : PyData) (k : List SV → Prop) (Q : L2.St → Hp → Prop), Ax K B H σ ρ α Γ G → Dq K (fz B (Ow ρ α Γ) H) v d → t d ρ k →
    (∀ σ' ρ', k ρ' → Ax K B H σ' ρ' α Γ G → (∀ vs : List Nat, (∀ i ∈ sl, i ∈ vs) → wipe σ' vs = wipe σ vs) → (∀ Γ' a, Ow ρ' α Γ' a → Ow ρ α Γ' a) → Q σ' H) → g v σ H Q
theorem rx_name {K : PySem.W.Frag} (i : Nat) : RdX K (gName i) (twN i) [i] := fun v σ B H ρ α Γ G d k Q A hd ht q =>
  q _ _ ht (A.setI i hd) (fun vs h => wipe_set (h i List.mem_cons_self)) fun _ _ h => ow_set0 rfl h
def gNames : List Nat → TGs
  | [] => gNil
  | i :: is => gCons (gName i) (gNames is)
theorem rx_names {K : PySem.W.Frag} : ∀ (is : List Nat) (vs : List V) (ds : List PyData) (σ : L2.St) (B H : Hp) (ρ : List SV) (α : Nat → Addr) (Γ : List (Addr × HO)) (G : List (V × PyData)) (k : List SV → Prop) (Q : L2.St → Hp → Prop), Ax K B H σ ρ α Γ G → DqAll K (fz B (Ow ρ α Γ) H) vs ds → puts is ds ρ k →
    (∀ σ' ρ', k ρ' → Ax K B H σ' ρ' α Γ G → (∀ us : List Nat, (∀ i ∈ is, i ∈ us) → wipe σ' us = wipe σ us) → (∀ Γ' a, Ow ρ' α Γ' a → Ow ρ α Γ' a) → Q σ' H) → gNames is vs σ H Q
  | [], vs, ds, σ, B, H, ρ, α, Γ, G, k, Q, A, hd, hp, q => by
    cases hd with
    | nil => exact ⟨rfl, q σ ρ hp A (fun _ _ => rfl) fun _ _ h => h⟩
    | cons h t => exact hp.elim
  | i :: is, vs, ds, σ, B, H, ρ, α, Γ, G, k, Q, A, hd, hp, q => by
    cases hd with
    | nil => exact hp.elim
    | @cons v vs d ds h t =>
      refine ⟨v, vs, rfl, ?_⟩
      have A2 := A.setI i h
      have F : Same (fz B (Ow ρ α Γ) H) (fz B (Ow (ρ.set i (.im d)) α Γ) H) := fz_mono (fun _ _ _ q => ow_set0 rfl q) fun _ _ _ q => q
      exact rx_names is vs ds _ B H _ α Γ G k Q A2 (dps_same F t) hp fun σ' ρ' hk A3 hw ho => q σ' ρ' hk A3 (fun us hu => (hw us fun j hj => hu j (List.mem_cons_of_mem _ hj)).trans (wipe_set (hu i List.mem_cons_self))) fun Γ' a h => ow_set0 rfl (ho Γ' a h)
theorem puts_len : ∀ (is : List Nat) (ds : List PyData) (ρ : List SV) (k : List SV → Prop), puts is ds ρ k → ds.length = is.length := by
  intro is
  induction is with
  | nil => intro ds ρ k h; cases ds with
    | nil => rfl
    | cons => exact h.elim
  | cons i is ih => intro ds ρ k h; cases ds with
    | nil => exact h.elim
    | cons d ds => simp [ih ds _ k h]
theorem rx_tup {K : PySem.W.Frag} (is : List Nat) : RdX K (gTup K is.length (gNames is)) (twT is) is := fun v σ B H ρ α Γ G d k Q A hd ht q => by
  unfold twT at ht
  split at ht
  · next ds =>
    cases hd with
    | @tup a xs _ hs hal =>
      exact ⟨a, xs, rfl, sqt_same fz_le hs, by rw [hal.length]; exact puts_len _ _ _ _ ht, rx_names is xs ds σ B H ρ α Γ G k Q A hal ht q⟩
  · exact ht.elim
/-- a target's store leaves the other slots -/
theorem keep_name {i : Nat} {vs : List Nat} (hi : i ∈ vs) (d : PyData) (ρ : List SV) (k : List SV → Prop) (h : twN i d ρ k) : twN i d ρ fun ρ' => ρ'.length = ρ.length ∧ (∀ j, j ∉ vs → gs ρ' j = gs ρ j) ∧ k ρ' :=
  ⟨List.length_set .., fun j hj => gs_ne (fun e => hj (by rw [← e]; exact hi)), h⟩
theorem keep_puts {vs : List Nat} : ∀ (is : List Nat) (ds : List PyData) (ρ : List SV) (k : List SV → Prop), (∀ i ∈ is, i ∈ vs) → puts is ds ρ k → puts is ds ρ fun ρ' => ρ'.length = ρ.length ∧ (∀ j, j ∉ vs → gs ρ' j = gs ρ j) ∧ k ρ' := by
  intro is
  induction is with
  | nil => intro ds ρ k _ h; cases ds with
    | nil => exact ⟨rfl, fun _ _ => rfl, h⟩
    | cons => exact h.elim
  | cons i is ih => intro ds ρ k hi h; cases ds with
    | nil => exact h.elim
    | cons d ds =>
      have q := ih ds (ρ.set i (.im d)) k (fun j hj => hi j (List.mem_cons_of_mem _ hj)) h
      · have mono : ∀ (is : List Nat) (ds : List PyData) (ρ : List SV) (k k' : List SV → Prop), (∀ r, k r → k' r) → puts is ds ρ k → puts is ds ρ k' := by
          intro is
          induction is with
          | nil => intro ds ρ k k' hk h; cases ds with
            | nil => exact hk _ h
            | cons => exact h.elim
          | cons i is ih => intro ds ρ k k' hk h; cases ds with
            | nil => exact h.elim
            | cons d ds => exact ih ds _ k k' hk h
        refine mono is ds _ _ _ (fun r hr => ?_) q
        exact ⟨by rw [hr.1, List.length_set], fun j hj => by rw [hr.2.1 j hj, gs_ne (fun e => hj (by rw [← e]; exact hi i List.mem_cons_self))], hr.2.2⟩
theorem keep_tup {is vs : List Nat} (hi : ∀ i ∈ is, i ∈ vs) (d : PyData) (ρ : List SV) (k : List SV → Prop) (h : twT is d ρ k) : twT is d ρ fun ρ' => ρ'.length = ρ.length ∧ (∀ j, j ∉ vs → gs ρ' j = gs ρ j) ∧ k ρ' := by
  unfold twT at h ⊢
  split at h
  · exact keep_puts is _ ρ k hi h
  · exact h.elim
/-! ## comprehensions -/
def wipeS (ρ : List SV) : List Nat → List SV
  | [] => ρ
  | v :: vs => (wipeS ρ vs).set v .no
theorem wipeS_len (ρ : List SV) : ∀ vs, (wipeS ρ vs).length = ρ.length
  | [] => rfl
  | v :: vs => by unfold wipeS; rw [List.length_set, wipeS_len ρ vs]
theorem gs_wipe {ρ : List SV} {i : Nat} : ∀ {vs : List Nat}, gs (wipeS ρ vs) i = if i ∈ vs then .no else gs ρ i
  | [] => by simp [wipeS]
  | v :: vs => by
    unfold wipeS
    rw [gs_set, wipeS_len, gs_wipe (vs := vs)]
    by_cases h : v = i
    · subst h
      by_cases hl : v < ρ.length
      · simp [hl]
      · rw [if_neg (fun q => hl q.2), if_pos List.mem_cons_self]
        split
        · rfl
        · exact gs_out (by omega)
    · rw [if_neg (fun q => h q.1)]
      by_cases hm : i ∈ vs
      · rw [if_pos hm, if_pos (List.mem_cons_of_mem _ hm)]
      · rw [if_neg hm, if_neg (by simp [hm, Ne.symm h])]
section
variable {K : PySem.W.Frag} {B H : Hp} {σ σ2 : L2.St} {ρ : List SV} {α : Nat → Addr} {Γ : List (Addr × HO)} {G : List (V × PyData)}
theorem wipe_get {i : Nat} : ∀ {vs : List Nat}, i ∉ vs → (wipe σ vs)[i]? = σ[i]?
  | [], _ => rfl
  | v :: vs, h => by
    unfold wipe
    rw [List.getElem?_set_ne (fun e => h (by rw [e]; exact List.mem_cons_self)), wipe_get fun q => h (List.mem_cons_of_mem _ q)]
theorem wipe_len : ∀ (vs : List Nat), (wipe σ vs).length = σ.length
  | [] => rfl
  | v :: vs => by unfold wipe; rw [List.length_set, wipe_len vs]
/-- other values where nothing is known -/
theorem Ax.slots (A : Ax K B H σ ρ α Γ G) (hl : σ2.length = σ.length) (h : ∀ i, gs ρ i ≠ .no → σ2[i]? = σ[i]?) : Ax K B H σ2 ρ α Γ G :=
  ⟨A.same, hl.trans A.len, fun i hi => by rw [h i hi]; exact A.ok i hi, A.fresh, A.inj, A.hid, A.nd, A.gh⟩
theorem Ax.wipe (A : Ax K B H σ ρ α Γ G) (vs : List Nat) : Ax K B H (L2.wipe σ vs) (wipeS ρ vs) α Γ G := by
  have : Ax K B H σ (wipeS ρ vs) α Γ G := by
    induction vs with
    | nil => exact A
    | cons v vs ih => exact ih.drop v
  refine this.slots (wipe_len vs) fun i hi => wipe_get fun q => hi ?_
  rw [gs_wipe, if_pos q]
theorem Ax.gApp {G2 : List (V × PyData)} (A : Ax K B H σ ρ α Γ G) (h : ∀ x ∈ G2, Dq K (fz B (Ow ρ α Γ) H) x.1 x.2) : Ax K B H σ ρ α Γ (G2 ++ G) :=
  ⟨A.same, A.len, A.ok, A.fresh, A.inj, A.hid, A.nd, fun g hg => (List.mem_append.mp hg).elim (h g) (A.gh g)⟩
theorem Ax.gDrop {G2 : List (V × PyData)} (A : Ax K B H σ ρ α Γ (G2 ++ G)) : Ax K B H σ ρ α Γ G :=
  ⟨A.same, A.len, A.ok, A.fresh, A.inj, A.hid, A.nd, fun g hg => A.gh g (List.mem_append_right _ hg)⟩
end
/-- what the walk gives, as ghosts -/
def gOf (m : Bool) (g : List (V × PyData)) : List (V × PyData) := if m = true then g else []
section
variable {K : PySem.W.Frag} {B H H3 : Hp} {σ : L2.St} {ρ : List SV} {α : Nat → Addr} {Γ : List (Addr × HO)} {G g : List (V × PyData)} {J : It} {ds : List PyData} {m : Bool} {i : Nat} {x : V}
theorem Wst.put (A : Ax K B H σ ρ α Γ G) (w : Wst K B (fz B (Ow ρ α Γ) H) g ds m) : Ax K B H σ ρ α Γ (gOf m g ++ G) := A.gApp fun x hx => by
  cases m with
  | true => exact w x hx
  | false => cases hx
/-- a heap over which the walk goes on -/
theorem IWk.at (A : Ax K B H σ ρ α Γ (gOf m g ++ G)) (w : m = false → (∀ x ∈ g, Dq K B x.1 x.2) ∧ noLs ds = true) : ∃ F, Same F H ∧ (∀ x ∈ g, Dq K F x.1 x.2) ∧ (m = true → F = fz B (Ow ρ α Γ) H) := by
  cases m with
  | true => exact ⟨_, fz_le, fun x hx => A.gh x (List.mem_append_left _ hx), fun _ => rfl⟩
  | false => exact ⟨B, A.same, (w rfl).1, fun h => nomatch h⟩
theorem IWk.go' (I : IWk K J ds g) (A : Ax K B H σ ρ α Γ (gOf m g ++ G)) (w : m = false → (∀ x ∈ g, Dq K B x.1 x.2) ∧ noLs ds = true) (hi : i < ds.length) : J.go i H := by
  obtain ⟨F, h1, h2, _⟩ := IWk.at A w
  exact I.go i H F h1 h2 hi
theorem IWk.stop' (I : IWk K J ds g) (A : Ax K B H σ ρ α Γ (gOf m g ++ G)) (w : m = false → (∀ x ∈ g, Dq K B x.1 x.2) ∧ noLs ds = true) : J.stop ds.length H := by
  obtain ⟨F, h1, h2, _⟩ := IWk.at A w
  exact I.stop H F h1 h2
theorem IWk.yld' (I : IWk K J ds g) (A : Ax K B H σ ρ α Γ (gOf m g ++ G)) (w : m = false → (∀ x ∈ g, Dq K B x.1 x.2) ∧ noLs ds = true) (hi : i < ds.length) (y : J.yld i H x H3) : Same H H3 ∧ ∃ d, ds[i]? = some d ∧ Dq K (fz B (Ow ρ α Γ) H3) x d := by
  obtain ⟨F, h1, h2, h3⟩ := IWk.at A w
  obtain ⟨e1, d, e2, e3⟩ := I.yld i H F x H3 h1 h2 hi y
  refine ⟨e1, d, e2, ?_⟩
  cases m with
  | true =>
    rw [h3 rfl] at e3
    exact e3 _ (A.fzTo e1) fun a o ha ho => A.new e1 ha ho
  | false =>
    refine dp_tk (A.to e1).tk (e3 H3 (h1.trans e1) fun a o _ ho => ho) ?_
    exact noLs_iff.mp (w rfl).2 d (List.mem_of_getElem? e2)
end
theorem dqZip {K : PySem.W.Frag} {H : Hp} : ∀ {vs : List V} {ds : List PyData}, DqAll K H vs ds → ∀ z ∈ vs.zip ds, Dq K H z.1 z.2
  | _, _, .nil, z, hz => nomatch hz
  | _, _, .cons h t, z, hz => by
    rw [List.zip_cons_cons, List.mem_cons] at hz
    rcases hz with rfl | hz
    · exact h
    · exact dqZip t z hz
theorem dqUnzip {K : PySem.W.Frag} {H : Hp} : ∀ {vs : List V} {ds : List PyData}, vs.length = ds.length → (∀ z ∈ vs.zip ds, Dq K H z.1 z.2) → DqAll K H vs ds
  | [], [], _, _ => .nil
  | v :: vs, d :: ds, hl, h => .cons (h (v, d) (by rw [List.zip_cons_cons]; exact List.mem_cons_self)) (dqUnzip (by simpa using hl) fun z hz => h z (by rw [List.zip_cons_cons]; exact List.mem_cons_of_mem _ hz))
  | [], _ :: _, hl, _ => by cases hl
  | _ :: _, [], hl, _ => by cases hl
/-- the turns: what is made so far, the slots (the clause's names wiped) -/
def lcW (tw : TW) (ts : WT) (elt : WE) (vs : List Nat) : List PyData → List SV → List PyData → (List PyData → List SV → Prop) → Prop
  | [], ρ, acc, k => k acc ρ
  | d :: ds, ρ, acc, k => tw d ρ fun ρ1 => ts ρ1 fun b ρ2 => if b = true then elt ρ2 fun z f ρ3 => okF f z = true ∧ lcW tw ts elt vs ds (wipeS ρ3 vs) (acc ++ [z]) k else lcW tw ts elt vs ds (wipeS ρ2 vs) acc k
structure SndTs (X : Cx) (pu : Bool) (ifs : List Expr) (w : WT) : Prop where
  run : ∀ (B : Hp) (α : Nat → Addr) (Γ : List (Addr × HO)) (G : List (V × PyData)) (σ : L2.St) (H : Hp) (ρ : List SV) (Q : Bool → List SV → Prop) (R : Bool → Hp → Prop), Ax X.K B H σ ρ α Γ G → w ρ Q →
    (∀ b H' ρ', Q b ρ' → Ax X.K B H' σ ρ' α Γ G → (pu = true → ρ' = ρ ∧ Same H H') → R b H') → tTs X ifs σ H R
theorem pts_any {X : Cx} {ifs : List Expr} : PTs X ifs (tTs X ifs) := ⟨fun pins s σ H Q I h => h pins s I⟩
theorem rdTs {X : Cx} {ifs : List Expr} {t : TT} (h : PTs X ifs t) {σ : L2.St} {H : Hp} {Q : Bool → Hp → Prop} (q : t σ H Q) : tTs X ifs σ H Q := fun pins s I => h.run pins s σ H Q I q
def tYesW : WT := fun ρ Q => Q true ρ
theorem sts_nil {X : Cx} : SndTs X true [] tYesW := ⟨fun B α Γ G σ H ρ Q R A hw k => rdTs pts_nil (k true H ρ hw A fun _ => ⟨rfl, Same.refl H⟩)⟩
theorem sts_one {X : Cx} {c : Expr} {pu : Bool} {t : WT} (h : SndT X pu c t) : SndTs X pu [c] t := ⟨fun B α Γ G σ H ρ Q R A hw k => rdTs (pts_one pt_any) (h.run B α Γ G σ H ρ Q _ A hw k)⟩
/-- [elt for target in iter if ..] -/
def wLc (pu : Bool) (wi : WI) (tw : TW) (ts : WT) (elt : WE) (vs : List Nat) : WE := fun ρ Q => wi ρ fun ds ρ1 => (ds.length ≤ 100000 ∧ (vs.all fun v => !(gs ρ1 v).own) = true) ∧ lcW tw ts elt vs ds (wipeS ρ1 vs) [] fun zs ρ2 => Q (.list zs) true (if pu = true then ρ else ρ2)
section
variable {X : Cx} {elt tg iter : Expr} {ifs : List Expr} {scope : Scope} {own : List (Str × Nat)} {pos : Pos} {g : TG} {sl : List Nat} {tw : TW} {wi : WI} {ts : WT} {we : WE} {pi pt pe : Bool}
theorem wipeS_wipe {ρ ρ2 : List SV} {vs : List Nat} (hl : ρ2.length = ρ.length) (h : ∀ i, i ∉ vs → gs ρ2 i = gs ρ i) : wipeS ρ2 vs = wipeS ρ vs := by
  have key : ∀ (l m : List SV), l.length = m.length → (∀ i, gs l i = gs m i) → l = m := by
    intro l
    induction l with
    | nil => intro m hl _; cases m with
      | nil => rfl
      | cons => cases hl
    | cons x l ih => intro m hl hg; cases m with
      | nil => cases hl
      | cons y m =>
        have h0 := hg 0
        have : x = y := h0
        rw [this, ih m (by simpa using hl) fun i => hg (i + 1)]
  apply key
  · rw [wipeS_len, wipeS_len, hl]
  · intro i
    rw [gs_wipe, gs_wipe]
    split
    · rfl
    · next q => exact h i q
theorem lc_rd {ti : TI} (hi : ∀ (B : Hp) (α : Nat → Addr) (Γ : List (Addr × HO)) (G : List (V × PyData)) (σ : L2.St) (H : Hp) (ρ : List SV) (Q : List PyData → List SV → Prop) (R : It → Hp → Prop), Ax X.K B H σ ρ α Γ G → wi ρ Q →
    (∀ J H' ρ' ds g m, Q ds ρ' → Ax X.K B H' σ ρ' α Γ G → IWk X.K J ds g → Wst X.K B (fz B (Ow ρ' α Γ) H') g ds m → (pi = true → ρ' = ρ ∧ Same H H') → R J H') → ti σ H R)
    (hr : RdX X.K g tw sl) (hsl : ∀ i ∈ sl, i ∈ own.map (·.2)) (htw : ∀ d ρ k, tw d ρ k → tw d ρ fun ρ' => ρ'.length = ρ.length ∧ (∀ i, i ∉ own.map (·.2) → gs ρ' i = gs ρ i) ∧ k ρ')
    (ht : Blk X scope fun Y => SndTs Y pt ifs ts) (he : Blk X scope fun Y => Snd Y pe elt we) {B : Hp} {α : Nat → Addr} {Γ : List (Addr × HO)} {G : List (V × PyData)} {σ : L2.St} {H : Hp} {ρ : List SV} {Q : WQ} {R : VK} (A : Ax X.K B H σ ρ α Γ G) (hw : wLc (pi && (pt && pe)) wi tw ts we (own.map (·.2)) ρ Q)
    (k : ∀ v H' ρ' d f, Q d f ρ' → Ax X.K B H' σ ρ' α Γ G → Hv X.K B H' ρ' α Γ v d f → ((pi && (pt && pe)) = true → ρ' = ρ ∧ Same H H') → R v H') :
    tLc ti g (fun σ H Q => Blk X scope fun Y => tTs Y ifs σ H Q) (fun σ H Q => Blk X scope fun Y => tE Y elt σ H Q) (own.map (·.2)) σ H R := by
  refine hi B α Γ G σ H ρ _ _ A hw fun J H1 ρ1 ds g' m q A1 hI hW pu1 D hD => ?_
  generalize hvs : own.map (·.2) = vs at *
  obtain ⟨⟨hz, hown⟩, hl⟩ := q
  have hm : m = false → (∀ x ∈ g', Dq X.K B x.1 x.2) ∧ noLs ds = true := fun h => by subst h; exact hW
  have A1' := (Wst.put A1 hW).wipe vs
  have e0 : Same H1 (upd H1 D (.lst [])) := same_new hD
  -- the state ahead of turn i
  refine ⟨fun i mm H' => mm = ds.length - i ∧ i ≤ ds.length ∧ ∃ ρi acc va, Ax X.K B H' (wipe σ vs) ρi α ((D, .lst va) :: Γ) (gOf m g' ++ G) ∧ (∀ j ∈ vs, gs ρi j = .no) ∧ DqAll X.K (fz B (Ow ρi α ((D, .lst va) :: Γ)) H') va acc ∧ acc.length ≤ i ∧ lcW tw ts we vs (ds.drop i) ρi acc (fun zs ρ2 => Q (.list zs) true (if (pi && (pt && pe)) = true then ρ else ρ2)) ∧ ((pt && pe) = true → ρi = wipeS ρ1 vs ∧ Same H1 H'), ⟨ds.length, by simp, Nat.zero_le _, wipeS ρ1 vs, [], [], A1'.hide hD e0 upd_same rfl, fun j hj => by rw [gs_wipe, if_pos hj], .nil, Nat.le_refl _, by rw [List.drop_zero]; exact hl, fun _ => ⟨rfl, e0⟩⟩, ?_⟩
  rintro i mm H2 ⟨rfl, hi', ρi, acc, va, A2, hno, dv, hal, hlc, hpu⟩
  by_cases hlt : i < ds.length
  · right
    refine ⟨hI.go' A2 hm hlt, fun H' => i + 1 ≤ ds.length ∧ ∃ ρi acc va, Ax X.K B H' (wipe σ vs) ρi α ((D, .lst va) :: Γ) (gOf m g' ++ G) ∧ (∀ j ∈ vs, gs ρi j = .no) ∧ DqAll X.K (fz B (Ow ρi α ((D, .lst va) :: Γ)) H') va acc ∧ acc.length ≤ i + 1 ∧ lcW tw ts we vs (ds.drop (i + 1)) ρi acc (fun zs ρ2 => Q (.list zs) true (if (pi && (pt && pe)) = true then ρ else ρ2)) ∧ ((pt && pe) = true → ρi = wipeS ρ1 vs ∧ Same H1 H'), fun H' h => ⟨_, by omega, rfl, h⟩, fun x H3 y => ?_⟩
    obtain ⟨e3, d, hd, dx⟩ := hI.yld' A2 hm hlt y
    have hdr : ds.drop i = d :: ds.drop (i + 1) := by
      rw [List.drop_eq_getElem_cons hlt]
      rw [List.getElem?_eq_getElem hlt] at hd
      cases hd; rfl
    rw [hdr] at hlc
    have A3 := A2.to e3
    refine hr x _ B H3 ρi α _ _ d _ _ A3 dx (htw _ _ _ hlc) fun σ2 ρ2 hk A4 hwp hO => ⟨(hwp vs hsl).trans (wipe_twice _ _), ?_⟩
    obtain ⟨hl2, hg2, hk⟩ := hk
    have wp2 : wipe σ2 vs = wipe σ vs := (hwp vs hsl).trans (wipe_twice _ _)
    have dv3 : DqAll X.K (fz B (Ow ρi α ((D, .lst va) :: Γ)) H3) va acc := dps_same (A2.fzTo e3) dv
    -- what is made so far is held as ghosts
    have hgh : ∀ z ∈ va.zip acc, Dq X.K (fz B (Ow ρi α ((D, .lst va) :: Γ)) H3) z.1 z.2 := dqZip dv3
    have F4 : Same (fz B (Ow ρi α ((D, .lst va) :: Γ)) H3) (fz B (Ow ρ2 α ((D, .lst va) :: Γ)) H3) := fz_mono (fun a _ _ h => hO _ a h) fun _ _ _ h => h
    have hlv := dv.length
    intro s1 H0 C cl fp
    refine (ht s1 H0 C cl fp).run B α _ (va.zip acc ++ (gOf m g' ++ G)) σ2 H3 ρ2 _ _ (A4.gApp fun z hz => dp_same F4 (hgh z hz)) hk fun b H4 ρ4 hb A5 pu4 => ?_
    have back : ∀ {ρ' : List SV} {H' : Hp} {va' : List V} {G'}, Ax X.K B H' σ2 ρ' α ((D, .lst va') :: Γ) G' → Ax X.K B H' (wipe σ vs) (wipeS ρ' vs) α ((D, .lst va') :: Γ) G' := fun A => by rw [← wp2]; exact A.wipe vs
    have Fw : ∀ {ρ' : List SV} {Γ' : List (Addr × HO)} {H' : Hp}, Same (fz B (Ow ρ' α Γ') H') (fz B (Ow (wipeS ρ' vs) α Γ') H') := fun {ρ' Γ' H'} => fz_mono (fun a _ _ h => by
      rcases h with h | ⟨j, h1, h2⟩
      · exact .inl h
      · rw [gs_wipe] at h1
        split at h1
        · cases h1
        · exact .inr ⟨j, h1, h2⟩) fun _ _ _ h => h
    have nov : ∀ {ρ' : List SV}, ∀ j ∈ vs, gs (wipeS ρ' vs) j = .no := fun j hj => by rw [gs_wipe, if_pos hj]
    have pure2 : (pt && pe) = true → wipeS ρ2 vs = wipeS ρ1 vs := fun h => by
      obtain ⟨rfl, _⟩ := hpu h
      rw [wipeS_wipe hl2 hg2]
      exact wipeS_wipe (wipeS_len _ _) fun j hj => by rw [gs_wipe, if_neg hj]
    cases b with
    | true =>
      rw [if_pos rfl] at hb ⊢
      intro s2 H0' C' cl' fp'
      refine (he s2 H0' C' cl' fp').run B α _ _ σ2 H4 ρ4 _ _ A5 hb fun yv H5 ρ5 z f hq A6 hv pu5 => ?_
      obtain ⟨hof, hq⟩ := hq
      refine ⟨va, (A6.hid _ List.mem_cons_self).1, ?_, ?_⟩
      · have : (100000 : Nat) < sizeLine := by decide
        omega
      · have dz := hv.fr A6 hof
        have A7 : Ax X.K B (upd H5 D (.lst (va ++ [yv]))) σ2 ρ5 α ((D, .lst (va ++ [yv])) :: Γ) (va.zip acc ++ (gOf m g' ++ G)) := A6.hmut rfl
        have A8 := back A7
        refine ⟨hlt, _, acc ++ [z], va ++ [yv], A8.gDrop, nov, ?_, by simp; omega, hq, fun h => ?_⟩
        · have dva : DqAll X.K (fz B (Ow ρ5 α ((D, .lst va) :: Γ)) H5) va acc := dqUnzip hlv fun w hw => A6.gh w (List.mem_append_left _ hw)
          have d7 := dva.append (.cons dz .nil)
          refine dps_same Fw ?_
          refine dps_same (fun a o h => ?_) d7
          obtain ⟨h1, h2, h3⟩ := fz_some h
          have hne : a ≠ D := fun e => h1 (.inl ⟨(D, .lst va), List.mem_cons_self, e.symm⟩)
          refine fz_of (fun q => h1 ?_) h2 (by rw [upd_ne hne]; exact h3)
          rcases q with ⟨g, hg, q⟩ | q
          · rcases List.mem_cons.mp hg with rfl | hg
            · exact absurd q.symm hne
            · exact .inl ⟨g, List.mem_cons_of_mem _ hg, q⟩
          · exact .inr q
        · have h' := h
          rw [Bool.and_eq_true] at h'
          obtain ⟨rfl, e4⟩ := pu4 h'.1
          obtain ⟨rfl, e5⟩ := pu5 h'.2
          refine ⟨pure2 h, fun a o ha => ?_⟩
          rw [upd_ne (ne_of_none ha hD)]
          exact e5 _ _ (e4 _ _ (e3 _ _ ((hpu h).2 _ _ ha)))
    | false =>
      rw [if_neg (by intro z; cases z)] at hb ⊢
      refine ⟨hlt, _, acc, va, (back A5).gDrop, nov, ?_, by omega, hb, fun h => ?_⟩
      · exact dps_same Fw (dqUnzip hlv fun w hw => A5.gh w (List.mem_append_left _ hw))
      · have h' := h
        rw [Bool.and_eq_true] at h'
        obtain ⟨rfl, e4⟩ := pu4 h'.1
        exact ⟨pure2 h, ((hpu h).2.trans e3).trans e4⟩
  · left
    have hie : i = ds.length := by omega
    subst hie
    refine ⟨hI.stop' A2 hm, ?_⟩
    rw [List.drop_length] at hlc
    obtain ⟨A3, F3, hD3⟩ := A2.hpop
    have dD : Dq X.K (fz B (Ow ρi α Γ) H2) (.ref D) (.list acc) := .lst hD3 (dps_same F3 dv)
    cases hp : (pi && (pt && pe)) with
    | false =>
      have hlc' : Q (.list acc) true ρi := by
        have h := hlc
        unfold lcW at h
        rw [hp] at h
        exact h
      refine k (.ref D) H2 ρi _ true hlc' (A3.gDrop.slots (by rw [wipe_len]) fun j hj => ?_) dD fun h => by rw [hp] at h; cases h
      exact (wipe_get fun q => hj (hno j q)).symm
    | true =>
      have hlc' : Q (.list acc) true ρ := by
        have h := hlc
        unfold lcW at h
        rw [hp] at h
        exact h
      have hp' := hp
      rw [Bool.and_eq_true] at hp'
      obtain ⟨rfl, e1⟩ := pu1 hp'.1
      obtain ⟨rfl, e2⟩ := hpu hp'.2
      have eH := e1.trans e2
      refine k (.ref D) H2 ρ1 _ true hlc' (A.to eH) ?_ fun _ => ⟨rfl, eH⟩
      -- the list, of what is frozen without the wiped slots
      have hd2 : Dq X.K (fz B (Ow ρ1 α Γ) H2) (.ref D) (.list acc) := by
        refine dp_same (fz_mono (fun a _ _ h => ?_) fun _ _ _ h => h) dD
        rcases h with h | ⟨j, h1, h2⟩
        · exact .inl h
        · refine .inr ⟨j, ?_, h2⟩
          rw [gs_wipe, if_neg]
          · exact h1
          · intro hj
            have := List.all_eq_true.mp hown j hj
            rw [h1] at this; cases this
      exact hd2
theorem sn_lc (hc : X.calm = true) (hN : X.N.Nodup) (hi : SndI X pi tg iter wi) (ok : BlkOk X.N X.env.scope scope own) (hg : Blk X scope fun Y => PG Y tg g) (hr : RdX X.K g tw sl) (hsl : ∀ i ∈ sl, i ∈ own.map (·.2)) (htw : ∀ d ρ k, tw d ρ k → tw d ρ fun ρ' => ρ'.length = ρ.length ∧ (∀ i, i ∉ own.map (·.2) → gs ρ' i = gs ρ i) ∧ k ρ')
    (ht : Blk X scope fun Y => SndTs Y pt ifs ts) (he : Blk X scope fun Y => Snd Y pe elt we)
    (hs : ∀ x, foldedSetIterable iter X.env x = pure x := by intro _; rfl) : Snd X (pi && (pt && pe)) (.ListComp elt [⟨tg, iter, ifs, 0⟩] scope pos) (wLc (pi && (pt && pe)) wi tw ts we (own.map (·.2))) := by
  obtain ⟨ti, pii, hi⟩ := hi.run
  refine ⟨fun B α Γ G σ H ρ Q R A hw k => ?_⟩
  exact rd (pe_lc hc hN pii ok hg (tt := fun σ H Q => Blk X scope fun Y => tTs Y ifs σ H Q) (fun s H C cl fp => ⟨fun pins s' σ H' Q I h => h s H C cl fp pins s' I⟩) (te := fun σ H Q => Blk X scope fun Y => tE Y elt σ H Q) (fun s H C cl fp => ⟨fun pins s' σ H' Q I h => h s H C cl fp pins s' I⟩) hs) (lc_rd hi hr hsl htw ht he A hw k)
end
end WP

namespace WP
open PySem PySem.Spec L2 TH PyProof.Rows RZ
/-! ## statements -/
structure EndsW where
  nx : List SV → Prop
  rt : PyData → List SV → Prop
  bk : List SV → Prop := fun _ => False
  ct : List SV → Prop := fun _ => False
abbrev WS := EndsW → List SV → Prop
structure EnOk (K : PySem.W.Frag) (B : Hp) (Γ : List (Addr × HO)) (G : List (V × PyData)) (E : EndsW) (D : Ends) : Prop where
  nx : ∀ σ H ρ α, E.nx ρ → Ax K B H σ ρ α Γ G → D.nx σ H
  rt : ∀ v σ H ρ α d, E.rt d ρ → Ax K B H σ ρ α Γ G → Dq K (fz B (Ow ρ α Γ) H) v d → D.rt v H
  bk : ∀ σ H ρ α, E.bk ρ → Ax K B H σ ρ α Γ G → D.bk σ H
  ct : ∀ σ H ρ α, E.ct ρ → Ax K B H σ ρ α Γ G → D.ct σ H
structure SndS (X : Cx) (sts : List Stmt) (w : WS) : Prop where
  run : ∀ (B : Hp) (α : Nat → Addr) (Γ : List (Addr × HO)) (G : List (V × PyData)) (σ : L2.St) (H : Hp) (ρ : List SV) (E : EndsW) (D : Ends), Ax X.K B H σ ρ α Γ G → w E ρ → EnOk X.K B Γ G E D → GO X sts D σ H
def tSt (X : Cx) (st : Stmt) : TS := fun D σ H => ∀ (pins : List (Addr × Obj)) (s : Shared), Inv X pins σ H s → wpAny (model X.prog X.w) X.A (exec st X.env) (SP X pins D) X.xe s
theorem ps_any {X : Cx} {st : Stmt} : PS X st (tSt X st) := ⟨fun pins s σ H D I h => h pins s I⟩
theorem rdS {X : Cx} {st : Stmt} {t : TS} (h : PS X st t) {σ : L2.St} {H : Hp} {D : Ends} (q : t D σ H) : tSt X st D σ H := fun pins s I => h.run pins s σ H D I q
structure Snd1 (X : Cx) (st : Stmt) (w : WS) : Prop where
  run : ∀ (B : Hp) (α : Nat → Addr) (Γ : List (Addr × HO)) (G : List (V × PyData)) (σ : L2.St) (H : Hp) (ρ : List SV) (E : EndsW) (D : Ends), Ax X.K B H σ ρ α Γ G → w E ρ → EnOk X.K B Γ G E D → tSt X st D σ H
section
variable {X : Cx} {a b c e tg iter : Expr} {pos p py : Pos} {pa pb pc pu : Bool} {wa wb wc : WE} {ta tb : WT} {es : List Expr} {st : Stmt} {rest body els : List Stmt} {w1 w2 : WS}
def wNil : WS := fun E ρ => E.nx ρ
def wSeq (w1 w2 : WS) : WS := fun E ρ => w1 { E with nx := fun ρ1 => w2 E ρ1 } ρ
theorem ss_nil : SndS X [] wNil := ⟨fun B α Γ G σ H ρ E D A hw ok => go_nil (ok.nx σ H ρ α hw A)⟩
theorem ss_cons (h1 : Snd1 X st w1) (h2 : SndS X rest w2) : SndS X (st :: rest) (wSeq w1 w2) := ⟨fun B α Γ G σ H ρ E D A hw ok =>
  go_cons ps_any (h1.run B α Γ G σ H ρ _ _ A hw ⟨fun σ' H' ρ' α' q A' => h2.run B α' Γ G σ' H' ρ' E D A' q ok, ok.rt, ok.bk, ok.ct⟩)⟩
/-! ### plain ones -/
def wPass : WS := fun E ρ => E.nx ρ
theorem s1_pass : Snd1 X (.Pass pos) wPass := ⟨fun B α Γ G σ H ρ E D A hw ok => rdS ps_pass (ok.nx σ H ρ α hw A)⟩
def wBrk : WS := fun E ρ => E.bk ρ
theorem s1_brk : Snd1 X (.Break pos) wBrk := ⟨fun B α Γ G σ H ρ E D A hw ok => rdS ps_break (ok.bk σ H ρ α hw A)⟩
def wCnt : WS := fun E ρ => E.ct ρ
theorem s1_cnt : Snd1 X (.Continue pos) wCnt := ⟨fun B α Γ G σ H ρ E D A hw ok => rdS ps_continue (ok.ct σ H ρ α hw A)⟩
def wExpr (a : WE) : WS := fun E ρ => a ρ fun _ _ ρ1 => E.nx ρ1
theorem s1_expr (h : Snd X pu e wa) (hs : swapsWith e none pos.line X.env = pure false := by rfl) : Snd1 X (.Expr e pos) (wExpr wa) := ⟨fun B α Γ G σ H ρ E D A hw ok =>
  rdS (ps_expr pe_any hs) (h.run B α Γ G σ H ρ _ _ A hw fun v H1 ρ1 d f q A1 hv pu1 => ok.nx σ H1 ρ1 α q A1)⟩
def wRet (a : WE) : WS := fun E ρ => a ρ fun d f ρ1 => okF f d = true ∧ E.rt d ρ1
theorem s1_ret (h : Snd X pu e wa) : Snd1 X (.Return (some e) pos) (wRet wa) := ⟨fun B α Γ G σ H ρ E D A hw ok =>
  rdS (ps_ret pe_any) (h.run B α Γ G σ H ρ _ _ A hw fun v H1 ρ1 d f q A1 hv pu1 => ok.rt v σ H1 ρ1 α d q.2 A1 (hv.fr A1 q.1))⟩
def wRetN : WS := fun E ρ => E.rt .none ρ
theorem s1_retN : Snd1 X (.Return none pos) wRetN := ⟨fun B α Γ G σ H ρ E D A hw ok => rdS ps_retN (ok.rt .non σ H ρ α .none hw A .non)⟩
def wIfS (t : WT) (w1 w2 : WS) : WS := fun E ρ => t ρ fun x ρ1 => if x = true then w1 E ρ1 else w2 E ρ1
theorem s1_if (hc : SndT X pc c ta) (h1 : SndS X body w1) (h2 : SndS X els w2) : Snd1 X (.If c body els pos) (wIfS ta w1 w2) := ⟨fun B α Γ G σ H ρ E D A hw ok =>
  rdS (ps_if pt_any pss_any pss_any) (hc.run B α Γ G σ H ρ _ _ A hw fun x H1 ρ1 q A1 pu1 => by
    cases x with
    | true =>
      rw [if_pos rfl] at q
      exact iteT (h1.run B α Γ G σ H1 ρ1 E D A1 q ok)
    | false => exact iteF (h2.run B α Γ G σ H1 ρ1 E D A1 q ok))⟩
/-! ### an own list becomes a datum -/
theorem Ax.freeze {K : PySem.W.Frag} {B H : Hp} {σ : L2.St} {ρ : List SV} {α : Nat → Addr} {Γ : List (Addr × HO)} {G : List (V × PyData)} {i : Nat} {ds : List PyData} (A : Ax K B H σ ρ α Γ G) (hi : gs ρ i = .ml ds) : σ[i]? = some (some (.ref (α i))) ∧ Ax K B H σ (ρ.set i (.im (.list ds))) α Γ G ∧ Dq K (fz B (Ow (ρ.set i (.im (.list ds))) α Γ) H) (.ref (α i)) (.list ds) := by
  have o : (gs ρ i).own = true := by rw [hi]; rfl
  obtain ⟨v, h1, h2⟩ := A.ok i (own_ne o)
  rw [hi] at h2
  obtain ⟨rfl, vs, h3, h4⟩ := h2
  have A1 := A.drop i
  have F : Same (fz B (Ow ρ α Γ) H) (fz B (Ow (ρ.set i .no) α Γ) H) := fz_mono (fun _ _ _ q => ow_set0 rfl q) fun _ _ _ q => q
  have hd : Dq K (fz B (Ow (ρ.set i .no) α Γ) H) (.ref (α i)) (.list ds) := by
    refine .lst (fz_of ?_ (fun u hu => ?_) h3) (dps_same F h4)
    · rintro (⟨g, hg, q⟩ | ⟨j, q1, q2⟩)
      · exact (A.hid g hg).2 i o q.symm
      · rw [gs_set] at q1
        split at q1
        · cases q1
        · next hne =>
          exact hne ⟨A.inj i j o q1 q2.symm, own_lt o⟩
    · rw [(A.fresh _ (.inr ⟨i, o, rfl⟩)).1] at hu; cases hu
  have A2 := A1.setI (v := .ref (α i)) i hd
  have e1 : (ρ.set i SV.no).set i (.im (.list ds)) = ρ.set i (.im (.list ds)) := List.set_set ..
  rw [e1] at A2
  have e2 : σ.set i (some (.ref (α i))) = σ := by
    apply List.ext_getElem?
    intro j
    by_cases h : i = j
    · subst h
      rw [List.getElem?_set_self (by rw [A.len]; exact own_lt o), h1]
    · rw [List.getElem?_set_ne h]
  rw [e2] at A2
  refine ⟨h1, A2, dp_same (fz_mono (fun a _ _ q => ?_) fun _ _ _ q => q) hd⟩
  rw [← e1] at q
  exact ow_set0 rfl q
def fzK : SV → (PyData → Bool → Prop) → (List PyData → Prop) → Prop
  | .ml ds, _, m => m ds
  | .im d, k, _ => k d true
  | .bo d, k, _ => k d false
  | _, _, _ => False
def wFz (i : Nat) : WE := fun ρ Q => fzK (gs ρ i) (fun d f => Q d f ρ) fun ds => Q (.list ds) true (ρ.set i (.im (.list ds)))
theorem sn_frz {i : Nat} {n : Str} (hN : X.N[i]? = some n) (hv : Vis X.env.scope n) (hd : (n == ("__debug__" : Str)) = false := by decide) (hcd : (n == ("__classdict__" : Str)) = false := by decide) : Snd X false (.Name n pos) (wFz i) := ⟨fun B α Γ G σ H ρ Q R A hw k => by
  unfold wFz at hw
  generalize hgk : gs ρ i = x at hw
  unfold fzK at hw
  split at hw
  · next ds =>
    have hd' := hgk
    obtain ⟨h1, A2, h2⟩ := A.freeze hd'
    exact rd (pe_var hN hv hd hcd) ⟨_, h1, k _ H _ _ true hw A2 h2 fun h => nomatch h⟩
  · next d =>
    have hd' := hgk
    obtain ⟨v, h1, h2⟩ := A.ok i (by rw [hd']; intro z; cases z)
    rw [hd'] at h2
    exact rd (pe_var hN hv hd hcd) ⟨v, h1, k v H ρ d true hw A h2 fun h => nomatch h⟩
  · next d =>
    have hd' := hgk
    obtain ⟨v, h1, h2⟩ := A.ok i (by rw [hd']; intro z; cases z)
    rw [hd'] at h2
    exact rd (pe_var hN hv hd hcd) ⟨v, h1, k v H ρ d false hw A (dp_same A.same h2) fun h => nomatch h⟩
  · exact hw.elim⟩
/-! ### what is stored: data, or new lists of one's own -/
def Pd (K : PySem.W.Frag) (B H : Hp) (σ : L2.St) (ρ : List SV) (α : Nat → Addr) (Γ : List (Addr × HO)) (G : List (V × PyData)) (v : V) : SV → Prop
  | .im d => Ax K B H σ ρ α Γ G ∧ Dq K (fz B (Ow ρ α Γ) H) v d
  | .ml ds => ∃ p vs, v = .ref p ∧ Ax K B H σ ρ α ((p, .lst vs) :: Γ) G ∧ DqAll K (fz B (Ow ρ α ((p, .lst vs) :: Γ)) H) vs ds
  | _ => False
abbrev WP' := List SV → (SV → List SV → Prop) → Prop
structure SndP (X : Cx) (pu : Bool) (e : Expr) (w : WP') : Prop where
  run : ∀ (B : Hp) (α : Nat → Addr) (Γ : List (Addr × HO)) (G : List (V × PyData)) (σ : L2.St) (H : Hp) (ρ : List SV) (Q : SV → List SV → Prop) (R : VK), Ax X.K B H σ ρ α Γ G → w ρ Q →
    (∀ v H' ρ' x, Q x ρ' → Pd X.K B H' σ ρ' α Γ G v x → R v H') → tE X e σ H R
def pIm (a : WE) : WP' := fun ρ Q => a ρ fun d f ρ1 => okF f d = true ∧ Q (.im d) ρ1
theorem sp_im (h : Snd X pu e wa) : SndP X pu e (pIm wa) := ⟨fun B α Γ G σ H ρ Q R A hw k => h.run B α Γ G σ H ρ _ _ A hw fun v H1 ρ1 d f q A1 hv _ => k v H1 ρ1 (.im d) q.2 ⟨A1, hv.fr A1 q.1⟩⟩
def pLst (a : WA) : WP' := fun ρ Q => a ρ fun ds f ρ1 => (f || noLs ds) = true ∧ ds.length ≤ 1000 ∧ Q (.ml ds) ρ1
theorem hideF {K : PySem.W.Frag} {B H H' : Hp} {σ : L2.St} {ρ : List SV} {α : Nat → Addr} {Γ : List (Addr × HO)} {G : List (V × PyData)} {p : Addr} {o : HO} (A : Ax K B H σ ρ α Γ G) (hp : H p = none) (e : Same H H') : Same (fz B (Ow ρ α Γ) H) (fz B (Ow ρ α ((p, o) :: Γ)) H') := fz_mono (fun a u hu q => by
    rcases q with ⟨g, hg, q⟩ | q
    · rcases List.mem_cons.mp hg with rfl | hg
      · simp only at q; subst q; rw [hp] at hu; cases hu
      · exact .inl ⟨g, hg, q⟩
    · exact .inr q) fun a u _ h => e a u h
theorem sp_lst {wa : WA} (h : SndA X pu es wa) : SndP X pu (.List es pos) (pLst wa) := ⟨fun B α Γ G σ H ρ Q R A hw kk => by
  refine rd (pe_lst pa_any) (h.run B α Γ G σ H ρ _ _ A hw fun vs H1 ρ1 ds f q A1 hv pu1 => ⟨Nat.le_trans (by rw [hv.h.length]; exact q.2.1) (by decide), fun p hp => ?_⟩)
  have e := same_new (o := .lst vs) hp
  exact kk _ _ ρ1 (.ml ds) q.2.2 ⟨p, vs, rfl, A1.hide hp e upd_same rfl, dps_same (hideF A1 hp e) (hv.fr A1 q.1)⟩⟩
def asL : PyData → (List PyData → Prop) → Prop
  | .list zs, k => k zs
  | _, _ => False
/-- list(..) of a tuple or a list -/
def pList (a : WA) : WP' := fun ρ Q => a ρ fun ds _ ρ1 => listW ds fun z => asL z fun zs => Q (.ml zs) ρ1
theorem sp_list {wsa : WA} (hg : Gl X "list") (hm : X.mg "list" = none) (ha : SndA X pu (a :: es) wsa)
    (he : starEach (a :: es) X.env = (false, eval a X.env) :: starEach es X.env := by rfl) (hpl : (backTo pos (starEach es X.env)).any (·.1) = false := by rfl) : SndP X pu (.Call (.Name "list" p) (a :: es) [] pos) (pList wsa) := ⟨fun B α Γ G σ H ρ Q R A hw k => by
  refine rd (pe_callTy (T := "list") (r := fun xs H Q => ∃ ds zs, CaL X (.type "list") ds zs ∧ DqAll X.K H xs ds ∧ ∀ v H', QL X.K H zs v H' → Q v H') (fun pins s σ H xs us Q I rx ⟨ds, zs, hc, q⟩ => hc.callR pins s σ H xs us Q I rx q) hg hm (by decide +kernel) pa_any (by decide) (by decide) he hpl) (ha.run B α Γ G σ H ρ _ _ A hw fun vs H1 ρ1 ds f q A1 hv pu1 => ?_)
  have fin : ∀ zs, noLs zs = true → Q (.ml zs) ρ1 → ∀ v H', QL X.K H1 zs v H' → R v H' := fun zs hn hq v H' ql => by
    obtain ⟨p, ws, rfl, e1, e2, e3, e4⟩ := ql
    have A2 := A1.hide e1 e2 e3 rfl
    exact k _ H' ρ1 (.ml zs) hq ⟨p, ws, rfl, A2, dps_tk A2.tk e4 hn⟩
  unfold listW at q
  split at q
  · exact ⟨_, _, cl_listT, hv.h, fin _ q.1 q.2⟩
  · exact ⟨_, _, cl_listL, hv.h, fin _ q.1 q.2⟩
  · exact q.elim⟩
def pLrg (a : WE) : WP' := fun ρ Q => a ρ fun d _ ρ1 => asN d fun n => n ≤ 100000 ∧ Q (.ml (rgD n)) ρ1
theorem sp_listRg {q q2 p2 : Pos} (hc : X.calm = true) (hg : Gl X "list") (hm : X.mg "list" = none) (hg2 : Gl X "range") (hm2 : X.mg "range" = none) (ha : Snd X pu a wa)
    (na : starEach [a] X.env = (false, eval a X.env) :: starEach [] X.env := by rfl) (na2 : starEach [.Call (.Name "range" p2) [a] [] q2] X.env = (false, eval (.Call (.Name "range" p2) [a] [] q2) X.env) :: starEach [] X.env := by rfl) :
    SndP X pu (.Call (.Name "list" p) [.Call (.Name "range" p2) [a] [] q2] [] q) (pLrg wa) := ⟨fun B α Γ G σ H ρ Q R A hw k =>
  rd (pe_listRg hc hg hm (prg_1 hg2 hm2 pe_any na) na2) (ha.run B α Γ G σ H ρ _ _ A hw fun v H1 ρ1 d f q A1 hv pu1 => by
    obtain ⟨n, rfl, hn, q⟩ := asN_ok q
    have := hv.h
    cases this
    refine ⟨_, rfl, RgOk.of_le (by omega) (by omega) (by omega) (by omega), fun l hl => ?_⟩
    have e := same_new (o := .lst (rgV 0 n)) hl
    exact k _ _ ρ1 (.ml (rgD n)) q ⟨l, _, rfl, A1.hide hl e upd_same rfl, dq_rg n⟩)⟩
/-- the pending thing into slot i -/
theorem Ax.unhide {K : PySem.W.Frag} {B H : Hp} {σ : L2.St} {ρ : List SV} {α : Nat → Addr} {Γ : List (Addr × HO)} {G : List (V × PyData)} {p : Addr} {vs : List V} {ds : List PyData} {i : Nat} (A : Ax K B H σ ρ α ((p, .lst vs) :: Γ) G) (hil : i < ρ.length) (hd : DqAll K (fz B (Ow ρ α ((p, .lst vs) :: Γ)) H) vs ds) :
    Ax K B H (σ.set i (some (.ref p))) (ρ.set i (.ml ds)) (alSet α i p) Γ G := by
  have aother : ∀ {j}, j ≠ i → alSet α i p j = α j := fun h => by unfold alSet; rw [if_neg h]
  have aself : alSet α i p i = p := by unfold alSet; rw [if_pos rfl]
  have hp := A.hid _ List.mem_cons_self
  have hnd := A.nd
  rw [List.map_cons, List.nodup_cons] at hnd
  have hO : ∀ a, Ow (ρ.set i (.ml ds)) (alSet α i p) Γ a → Ow ρ α ((p, .lst vs) :: Γ) a := by
    rintro a (⟨g, hg, q⟩ | ⟨j, q1, q2⟩)
    · exact .inl ⟨g, List.mem_cons_of_mem _ hg, q⟩
    · by_cases hj : j = i
      · subst hj; rw [aself] at q2; exact .inl ⟨(p, .lst vs), List.mem_cons_self, q2⟩
      · rw [aother hj] at q2
        rw [gs_ne (Ne.symm hj)] at q1
        exact .inr ⟨j, q1, q2⟩
  have F : Same (fz B (Ow ρ α ((p, .lst vs) :: Γ)) H) (fz B (Ow (ρ.set i (.ml ds)) (alSet α i p) Γ) H) := fz_mono (fun a _ _ q => hO a q) fun _ _ _ h => h
  refine ⟨A.same, by simp [A.len], fun j hj => ?_, fun a q => A.fresh a (hO a q), fun a b ha hb q => ?_, fun g hg => ⟨(A.hid g (List.mem_cons_of_mem _ hg)).1, fun j hj => ?_⟩, hnd.2, fun g hg => dp_same F (A.gh g hg)⟩
  · by_cases hj' : j = i
    · subst hj'
      rw [gs_self hil, aself]
      exact ⟨.ref p, List.getElem?_set_self (by rw [A.len]; exact hil), rfl, vs, hp.1, dps_same F hd⟩
    · rw [gs_ne (Ne.symm hj')] at hj ⊢
      obtain ⟨w, h1, h2⟩ := A.ok j hj
      exact ⟨w, by rw [List.getElem?_set_ne (Ne.symm hj')]; exact h1, h2.to F fun ho => ⟨aother hj', rfl⟩⟩
  · by_cases h1 : a = i
    · by_cases h2 : b = i
      · rw [h1, h2]
      · subst h1
        rw [aself, aother h2] at q
        rw [gs_ne (Ne.symm h2)] at hb
        exact absurd q.symm (hp.2 b hb)
    · rw [gs_ne (Ne.symm h1)] at ha
      by_cases h2 : b = i
      · subst h2
        rw [aself, aother h1] at q
        exact absurd q (hp.2 a ha)
      · rw [gs_ne (Ne.symm h2)] at hb
        rw [aother h1, aother h2] at q
        exact A.inj a b ha hb q
  · by_cases h1 : j = i
    · subst h1
      rw [aself]
      intro e2
      exact hnd.1 (List.mem_map.mpr ⟨g, hg, e2.symm⟩)
    · rw [gs_ne (Ne.symm h1)] at hj
      rw [aother h1]
      exact (A.hid g (List.mem_cons_of_mem _ hg)).2 j hj
theorem Pd.put {K : PySem.W.Frag} {B H : Hp} {σ : L2.St} {ρ : List SV} {α : Nat → Addr} {Γ : List (Addr × HO)} {G : List (V × PyData)} {v : V} {x : SV} {i : Nat} (h : Pd K B H σ ρ α Γ G v x) (hil : i < ρ.length) : ∃ α', Ax K B H (σ.set i (some v)) (ρ.set i x) α' Γ G := by
  cases x with
  | im d => exact ⟨α, h.1.setI i h.2⟩
  | ml ds =>
    obtain ⟨p, vs, rfl, A, hd⟩ := h
    exact ⟨_, A.unhide hil hd⟩
  | no => exact h.elim
  | bo d => exact h.elim
  | tw t n c => exact h.elim
  | sc s => exact h.elim
  | dk s => exact h.elim
  | dt s => exact h.elim
  | ob s => exact h.elim
/-- name = e -/
def wSet (i : Nat) (w : WP') : WS := fun E ρ => w ρ fun x ρ1 => i < ρ1.length ∧ E.nx (ρ1.set i x)
theorem s1_set {i : Nat} {x : Str} {w : WP'} (hN : X.N.Nodup) (hi : X.N[i]? = some x) (hx : Loc X.env.scope x) (h : SndP X pu e w) (hs : swapsWith e (some (.Name x py)) pos.line X.env = pure false := by rfl) (hf : X.fn x = true ∨ X.env.scope.names.lookup x = some .local := by first | exact .inl rfl | exact .inr rfl | assumption) :
    Snd1 X (.Assign [.Name x py] e pos) (wSet i w) := ⟨fun B α Γ G σ H ρ E D A hw ok => rdS (ps_set hN hi hx pe_any hs hf) (h.run B α Γ G σ H ρ _ _ A hw fun v H1 ρ1 x q pd => by
  obtain ⟨α', A'⟩ := pd.put q.1
  exact ok.nx _ H1 _ α' q.2 A')⟩
/-- targets = e -/
def wAsg (tw : TW) (a : WE) : WS := fun E ρ => a ρ fun d f ρ1 => okF f d = true ∧ tw d ρ1 fun ρ2 => E.nx ρ2
theorem s1_asg {g : TG} {tw : TW} {sl : List Nat} (hg : PG X tg g) (hr : RdX X.K g tw sl) (h : Snd X pu e wa)
    (hs : swapsWithSole [tg] e pos.line X.env = pure false := by rfl) (hw : swappedStores [tg] e X.env = pure none := by rfl) (h1 : (assignEach [tg] X.env).map (·.2) = [assign tg X.env] := by rfl) : Snd1 X (.Assign [tg] e pos) (wAsg tw wa) := ⟨fun B α Γ G σ H ρ E D A hwp ok =>
  rdS (ps_asg pe_any hg hs hw h1) (h.run B α Γ G σ H ρ _ _ A hwp fun v H1 ρ1 d f q A1 hv pu1 => hr v σ B H1 ρ1 α Γ G d _ _ A1 (hv.fr A1 q.1) q.2 fun σ' ρ' hk A' _ _ => ok.nx σ' H1 ρ' α hk A')⟩
/-- name = [.. for ..] -/
theorem s1_setLc {i : Nat} {x : Str} {elt : Expr} {ifs : List Expr} {scope : Scope} {own : List (Str × Nat)} {pos' : Pos} {g : TG} {sl : List Nat} {tw : TW} {wi : WI} {ts : WT} {we : WE} {pi pt pe : Bool} (hc : X.calm = true) (hN : X.N.Nodup) (hx : X.N[i]? = some x) (hxl : X.env.scope.names.lookup x = some .local)
    (hsw : swapsWith (.ListComp elt [⟨tg, iter, ifs, 0⟩] scope pos') (some (.Name x py)) pos.line X.env = pure true)
    (hi : SndI X pi tg iter wi) (ok : BlkOk X.N X.env.scope scope own) (hg : Blk X scope fun Y => PG Y tg g) (hr : RdX X.K g tw sl) (hsl : ∀ i ∈ sl, i ∈ own.map (·.2)) (htw : ∀ d ρ k, tw d ρ k → tw d ρ fun ρ' => ρ'.length = ρ.length ∧ (∀ i, i ∉ own.map (·.2) → gs ρ' i = gs ρ i) ∧ k ρ')
    (ht : Blk X scope fun Y => SndTs Y pt ifs ts) (he : Blk X scope fun Y => Snd Y pe elt we)
    (hs : ∀ x, foldedSetIterable iter X.env x = pure x := by intro _; rfl) : Snd1 X (.Assign [.Name x py] (.ListComp elt [⟨tg, iter, ifs, 0⟩] scope pos') pos) (wSet i (pIm (wLc (pi && (pt && pe)) wi tw ts we (own.map (·.2))))) := by
  obtain ⟨ti, pii, hi⟩ := hi.run
  refine ⟨fun B α Γ G σ H ρ E D A hw en => ?_⟩
  refine rdS (ps_setLc hc hN hx hxl hsw pii ok hg (tt := fun σ H Q => Blk X scope fun Y => tTs Y ifs σ H Q) (fun s H C cl fp => ⟨fun pins s' σ H' Q I h => h s H C cl fp pins s' I⟩) (te := fun σ H Q => Blk X scope fun Y => tE Y elt σ H Q) (fun s H C cl fp => ⟨fun pins s' σ H' Q I h => h s H C cl fp pins s' I⟩) hs) ?_
  have hw' : wLc (pi && (pt && pe)) wi tw ts we (own.map (·.2)) ρ (fun d f ρ1 => okF f d = true ∧ (i < ρ1.length ∧ E.nx (ρ1.set i (.im d)))) := hw
  refine lc_rd hi hr hsl htw ht he A hw' fun v H1 ρ1 d f q A1 hv _ => ?_
  exact en.nx _ H1 _ α q.2.2 (A1.setI i (hv.fr A1 q.1))
end
end WP

namespace WP
open PySem PySem.Spec L2 TH PyProof.Rows RZ
section
variable {X : Cx} {a b c e tg iter : Expr} {pos p py : Pos} {pa pb pc pu : Bool} {wa wb wc : WE} {ta tb : WT} {es : List Expr} {st : Stmt} {rest body els : List Stmt} {w1 w2 : WS}
/-! ### own lists -/
def asML : SV → (List PyData → Prop) → Prop
  | .ml ds, k => k ds
  | _, _ => False
theorem asML_ok {x : SV} {k : List PyData → Prop} (h : asML x k) : ∃ ds, x = .ml ds ∧ k ds := by
  unfold asML at h
  split at h
  · exact ⟨_, rfl, h⟩
  · exact h.elim
def wApp (i : Nat) (a : WE) : WS := fun E ρ => asML (gs ρ i) fun _ => a ρ fun d f ρ1 => okF f d = true ∧ asML (gs ρ1 i) fun ds => ds.length < 100000 ∧ E.nx (ρ1.set i (.ml (ds ++ [d])))
theorem s1_append {i : Nat} {n : Str} {pn pa' pc' : Pos} (hN : X.N[i]? = some n) (hv : Vis X.env.scope n) (h : Snd X pu e wa)
    (hbase : attributeBase (.Name n pn) "append" X.env (eval (.Name n pn) X.env) = eval (.Name n pn) X.env := by rfl)
    (hfew : ((backTo pc' (starEach [e] X.env)).all (fun x => !x.1) && (backToKw pc' (keywordEach [] X.env)).all (fun x => x.1.isSome) && decide ([e].length + ([] : List Keyword).length + (if ([] : List Keyword).isEmpty then 0 else 1) < 30)) = true := by rfl)
    (hline : (pa'.endLine == pc'.line) = true := by rfl) (hs : starEach [e] X.env = (false, eval e X.env) :: starEach [] X.env := by rfl) (hplain : (backTo pc' (starEach [] X.env)).any (·.1) = false := by rfl)
    (hsw : swapsWith (.Call (.Attribute (.Name n pn) "append" pa') [e] [] pc') none pos.line X.env = pure false := by rfl) (hd : (n == ("__debug__" : Str)) = false := by decide) (hcd : (n == ("__classdict__" : Str)) = false := by decide) :
    Snd1 X (.Expr (.Call (.Attribute (.Name n pn) "append" pa') [e] [] pc') pos) (wApp i wa) := ⟨fun B α Γ G σ H ρ E D A hw ok => by
  refine rdS (ps_expr (pe_bm PySem.F.plainAttrs_list PySem.F.slot_list_append PySem.F.type_list_append mt_append (pe_var hN hv hd hcd) (pa_cons pe_any pa_nil hs) hbase hfew hline hs hplain) hsw) ?_
  obtain ⟨ds0, hi0, hw⟩ := asML_ok hw
  obtain ⟨v0, h1, h2⟩ := A.ok i (by rw [hi0]; intro z; cases z)
  rw [hi0] at h2
  obtain ⟨rfl, vs0, h3, _⟩ := h2
  refine ⟨_, h1, .inl ⟨rfl, _, .of h3⟩, h.run B α Γ G σ H ρ _ _ A hw fun w H1 ρ1 d f q A1 hv pu1 => ?_⟩
  obtain ⟨hof, q⟩ := q
  obtain ⟨ds, hi, hz, q⟩ := asML_ok q
  have o : (gs ρ1 i).own = true := by rw [hi]; rfl
  obtain ⟨v1, k1, k2⟩ := A1.ok i (own_ne o)
  rw [hi] at k2
  obtain ⟨rfl, vs, k3, k4⟩ := k2
  refine ⟨α i, vs, w, rfl, rfl, k3, Nat.lt_of_lt_of_le (by rw [k4.length]; exact hz) (by decide), ?_⟩
  exact ok.nx σ _ _ α q (A1.mut o rfl rfl ⟨rfl, vs ++ [w], upd_same, k4.append (.cons (hv.fr A1 hof) .nil)⟩)⟩
/-- x[k] = e -/
def wSetIx (i : Nat) (e a : WE) : WS := fun E ρ => e ρ fun d f ρ1 => asML (gs ρ1 i) fun _ => a ρ1 fun k _ ρ2 => okF f d = true ∧ asML (gs ρ2 i) fun ds => asI k fun kk => ∃ j, ixN ds.length kk = some j ∧ E.nx (ρ2.set i (.ml (ds.set j d)))
theorem s1_setIx {i : Nat} {n : Str} {pn pt : Pos} (hN : X.N[i]? = some n) (hv : Vis X.env.scope n) (h : Snd X pa e wa) (ha : Snd X pb a wb)
    (hs : swapsWithSole [.Subscript (.Name n pn) a pt] e pos.line X.env = pure false := by rfl) (hw : swappedStores [.Subscript (.Name n pn) a pt] e X.env = pure none := by rfl) (h1 : (assignEach [.Subscript (.Name n pn) a pt] X.env).map (·.2) = [assign (.Subscript (.Name n pn) a pt) X.env] := by rfl)
    (hst : ∀ v, assign (.Subscript (.Name n pn) a pt) X.env v = (do
      let ov ← holding [v] (eval (.Name n pn) X.env)
      let iv ← holding [v, ov] (eval a X.env)
      standAt pt
      holding [v, ov, iv] (setItem ov iv v)
      release [v, ov, iv] []) := by intro _; rfl) (hd : (n == ("__debug__" : Str)) = false := by decide) (hcd : (n == ("__classdict__" : Str)) = false := by decide) :
    Snd1 X (.Assign [.Subscript (.Name n pn) a pt] e pos) (wSetIx i wa wb) := ⟨fun B α Γ G σ H ρ E D A hwp ok => by
  refine rdS (ps_asg pe_any (pg_sub (pe_var hN hv hd hcd) pe_any set_list hst) hs hw h1) ?_
  refine h.run B α Γ G σ H ρ _ _ A hwp fun w H1 ρ1 d f q A1 hv1 pu1 => ?_
  obtain ⟨ds0, hi0, q⟩ := asML_ok q
  have o0 : (gs ρ1 i).own = true := by rw [hi0]; rfl
  refine ⟨_, A1.val o0, ?_⟩
  cases hof : okF f d with
  | false =>
    refine ha.run B α Γ G σ H1 ρ1 _ _ A1 q fun y H2 ρ2 k g q2 A2 hv2 pu2 => ?_
    rw [hof] at q2; cases q2.1
  | true =>
    refine ha.run B α Γ ((w, d) :: G) σ H1 ρ1 _ _ (A1.addG (hv1.fr A1 hof)) q fun y H2 ρ2 k g q2 A2' hv2 pu2 => ?_
    obtain ⟨A2, hw2⟩ := A2'.unG
    obtain ⟨_, q2⟩ := q2
    obtain ⟨ds, hi, q2⟩ := asML_ok q2
    obtain ⟨kk, rfl, j, hj, q2⟩ := asI_ok q2
    have := hv2.h
    cases this
    have o : (gs ρ2 i).own = true := by rw [hi]; rfl
    obtain ⟨v1, k1, k2⟩ := A2.ok i (own_ne o)
    rw [hi] at k2
    obtain ⟨rfl, vs, k3, k4⟩ := k2
    refine ⟨α i, vs, kk, j, rfl, rfl, k3, by rw [k4.length]; exact hj, ?_⟩
    exact ok.nx σ _ _ α q2 (A2.mut o rfl rfl ⟨rfl, vs.set j w, upd_same, k4.set hw2 j⟩)⟩
/-! ### a, b = x, y -/
theorem sp_two {B H1 : Hp} {α : Nat → Addr} {Γ : List (Addr × HO)} {G : List (V × PyData)} {σ : L2.St} {ρ1 : List SV} {v : V} {x : SV} (pd : Pd X.K B H1 σ ρ1 α Γ G v x) {w : WP'} {Q : SV → List SV → Prop} {R : VK} (h : SndP X pu e w) (hw : w ρ1 Q)
    (k : ∀ v2 H2 ρ2 y, Q y ρ2 → (∃ Γ' G', (∀ H' α' ρ' σ', Ax X.K B H' σ' ρ' α' Γ' G' → (∀ j, j < ρ'.length → ∃ α'', Ax X.K B H' (σ'.set j (some v)) (ρ'.set j x) α'' Γ G)) ∧ Pd X.K B H2 σ ρ2 α Γ' G' v2 y) → R v2 H2) : tE X e σ H1 R := by
  cases x with
  | im d =>
    obtain ⟨A, hd⟩ := pd
    refine h.run B α Γ ((v, d) :: G) σ H1 ρ1 Q R (A.addG hd) hw fun v2 H2 ρ2 y q pd2 => k v2 H2 ρ2 y q ⟨Γ, (v, d) :: G, fun H' α' ρ' σ' A' j hj => ?_, pd2⟩
    obtain ⟨A3, h3⟩ := A'.unG
    exact ⟨α', A3.setI j h3⟩
  | ml ds =>
    obtain ⟨pp, vs, rfl, A, hd⟩ := pd
    refine h.run B α ((pp, .lst vs) :: Γ) (vs.zip ds ++ G) σ H1 ρ1 Q R (A.gApp (dqZip hd)) hw fun v2 H2 ρ2 y q pd2 => k v2 H2 ρ2 y q ⟨(pp, .lst vs) :: Γ, vs.zip ds ++ G, fun H' α' ρ' σ' A' j hj => ?_, pd2⟩
    exact ⟨_, A'.gDrop.unhide hj (dqUnzip hd.length fun z hz => A'.gh z (List.mem_append_left _ hz))⟩
  | no => exact pd.elim
  | bo d => exact pd.elim
  | tw t n c => exact pd.elim
  | sc s => exact pd.elim
  | dk s => exact pd.elim
  | dt s => exact pd.elim
  | ob s => exact pd.elim
def wPar (i j : Nat) (w w' : WP') : WS := fun E ρ => w ρ fun x ρ1 => w' ρ1 fun y ρ2 => (i < ρ2.length ∧ j < ρ2.length) ∧ E.nx ((ρ2.set i x).set j y)
theorem s1_par {i j : Nat} {x y : Str} {px py' pt : Pos} {kt k2 pt2} {wp wq : WP'} (hc : X.calm = true) (hN : X.N.Nodup) (hi : X.N[i]? = some x) (hj : X.N[j]? = some y) (hij : i ≠ j)
    (hx : X.env.scope.names.lookup x = some .local) (hy : X.env.scope.names.lookup y = some .local) (ha : SndP X pa a wp) (hb : SndP X pb b wq)
    (hw : swappedStores [.Tuple [.Name x px, .Name y py'] kt pt] (.Tuple [a, b] k2 pt2) X.env = pure (some [x, y]))
    (hs : swapsWithSole [.Tuple [.Name x px, .Name y py'] kt pt] (.Tuple [a, b] k2 pt2) pos.line X.env = pure false := by rfl)
    (hs1 : starEach [a, b] X.env = (false, eval a X.env) :: starEach [b] X.env := by rfl) (hs2 : starEach [b] X.env = (false, eval b X.env) :: starEach [] X.env := by rfl) :
    Snd1 X (.Assign [.Tuple [.Name x px, .Name y py'] kt pt] (.Tuple [a, b] k2 pt2) pos) (wPar i j wp wq) := ⟨fun B α Γ G σ H ρ E D A hwp ok => by
  refine rdS (ps_par hc hN hi hj hij hx hy (pa_cons pe_any (pa_cons pe_any pa_nil hs2) hs1) hw hs) ?_
  refine ha.run B α Γ G σ H ρ _ _ A hwp fun v H1 ρ1 x q pd => sp_two pd hb q fun v2 H2 ρ2 y q2 ⟨Γ', G', st, pd2⟩ => ⟨v, v2, rfl, ?_⟩
  obtain ⟨⟨li, lj⟩, q2⟩ := q2
  obtain ⟨α2, A2⟩ := pd2.put lj
  obtain ⟨α3, A3⟩ := st _ _ _ _ A2 i (by simpa using li)
  rw [List.set_comm _ _ (Ne.symm hij)] at A3
  rw [List.set_comm _ _ (Ne.symm hij)] at A3
  exact ok.nx _ H2 _ α3 q2 A3⟩
def wPar3 (i j l : Nat) (w w' w'' : WP') : WS := fun E ρ => w ρ fun x ρ1 => w' ρ1 fun y ρ2 => w'' ρ2 fun z ρ3 => (i < ρ3.length ∧ j < ρ3.length ∧ l < ρ3.length) ∧ E.nx (((ρ3.set i x).set j y).set l z)
theorem s1_par3 {i j l : Nat} {x y z : Str} {px py' pz pt : Pos} {kt k2 pt2} {wp wq wr : WP'} (hc : X.calm = true) (hN : X.N.Nodup) (hi : X.N[i]? = some x) (hj : X.N[j]? = some y) (hl : X.N[l]? = some z) (hij : i ≠ j) (hil : i ≠ l) (hjl : j ≠ l)
    (hx : X.env.scope.names.lookup x = some .local) (hy : X.env.scope.names.lookup y = some .local) (hz : X.env.scope.names.lookup z = some .local) (ha : SndP X pa a wp) (hb : SndP X pb b wq) (hcc : SndP X pc c wr)
    (hw : swappedStores [.Tuple [.Name x px, .Name y py', .Name z pz] kt pt] (.Tuple [a, b, c] k2 pt2) X.env = pure (some [x, y, z]))
    (hs : swapsWithSole [.Tuple [.Name x px, .Name y py', .Name z pz] kt pt] (.Tuple [a, b, c] k2 pt2) pos.line X.env = pure false := by rfl)
    (hs1 : starEach [a, b, c] X.env = (false, eval a X.env) :: starEach [b, c] X.env := by rfl) (hs2 : starEach [b, c] X.env = (false, eval b X.env) :: starEach [c] X.env := by rfl) (hs3 : starEach [c] X.env = (false, eval c X.env) :: starEach [] X.env := by rfl) :
    Snd1 X (.Assign [.Tuple [.Name x px, .Name y py', .Name z pz] kt pt] (.Tuple [a, b, c] k2 pt2) pos) (wPar3 i j l wp wq wr) := ⟨fun B α Γ G σ H ρ E D A hwp ok => by
  refine rdS (ps_par3 hc hN hi hj hl hij hil hjl hx hy hz (pa_cons pe_any (pa_cons pe_any (pa_cons pe_any pa_nil hs3) hs2) hs1) hw hs) ?_
  refine ha.run B α Γ G σ H ρ _ _ A hwp fun v H1 ρ1 x q pd => sp_two pd hb q fun v2 H2 ρ2 y q2 ⟨Γ', G', st, pd2⟩ => sp_two pd2 hcc q2 fun v3 H3 ρ3 z q3 ⟨Γ2, G2, st2, pd3⟩ => ⟨v, v2, v3, rfl, ?_⟩
  obtain ⟨⟨li, lj, ll⟩, q3⟩ := q3
  obtain ⟨α2, A2⟩ := pd3.put ll
  obtain ⟨α3, A3⟩ := st2 _ _ _ _ A2 j (by simpa using lj)
  obtain ⟨α4, A4⟩ := st _ _ _ _ A3 i (by simpa using li)
  have e1 : ∀ {β : Type} (s : List β) (u v w : β), ((s.set l w).set j v).set i u = ((s.set i u).set j v).set l w := fun s u v w => by
    rw [List.set_comm _ _ (Ne.symm hij), List.set_comm (l := s) _ _ (Ne.symm hil), List.set_comm _ _ (Ne.symm hjl)]
  rw [e1, e1] at A4
  exact ok.nx _ H3 _ α4 q3 A4⟩
/-! ### loops -/
def wLoop (tw : TW) (w : WS) : List PyData → WS
  | [], E, ρ => E.nx ρ
  | d :: ds, E, ρ => tw d ρ fun ρ1 => w { nx := wLoop tw w ds E, ct := wLoop tw w ds E, bk := E.nx, rt := E.rt } ρ1
def wFor (wi : WI) (tw : TW) (w : WS) : WS := fun E ρ => wi ρ fun ds ρ1 => wLoop tw w ds E ρ1
theorem s1_for {g : TG} {tw : TW} {sl : List Nat} {wi : WI} (hp : PassesOwn (model X.prog X.w) X.A X.env X.xe) (hc : X.calm = true) (hi : SndI X pu tg iter wi) (hg : PG X tg g) (hr : RdX X.K g tw sl) (hb : SndS X body w1)
    (hs : ∀ x, foldedSetIterable iter X.env x = pure x := by intro _; rfl) : Snd1 X (.For tg iter body [] pos) (wFor wi tw w1) := by
  obtain ⟨ti, pii, hi⟩ := hi.run
  refine ⟨fun B α Γ G σ H ρ E D A hw ok => ?_⟩
  refine rdS (ps_for hp hc pii hg pss_any hs) (hi B α Γ G σ H ρ _ _ A hw fun J H1 ρ1 ds g' m q A1 hI hW _ => ?_)
  have hm : m = false → (∀ x ∈ g', Dq X.K B x.1 x.2) ∧ noLs ds = true := fun h => by subst h; exact hW
  have A1' := Wst.put A1 hW
  refine ⟨fun i mm σ' H' => mm = ds.length - i ∧ i ≤ ds.length ∧ ∃ ρ' α', Ax X.K B H' σ' ρ' α' Γ (gOf m g' ++ G) ∧ wLoop tw w1 (ds.drop i) E ρ', ⟨ds.length, by simp, Nat.zero_le _, ρ1, α, A1', by rw [List.drop_zero]; exact q⟩, ?_⟩
  rintro i mm σ2 H2 ⟨rfl, hi', ρ2, α2, A2, hl⟩
  by_cases hlt : i < ds.length
  · right
    refine ⟨hI.go' A2 hm hlt, fun σ' H' => i + 1 ≤ ds.length ∧ ∃ ρ' α', Ax X.K B H' σ' ρ' α' Γ (gOf m g' ++ G) ∧ wLoop tw w1 (ds.drop (i + 1)) E ρ', fun σ' H' h => ⟨_, by omega, rfl, h⟩, fun x H3 y => ?_⟩
    obtain ⟨e3, d, hd, dx⟩ := hI.yld' A2 hm hlt y
    have hdr : ds.drop i = d :: ds.drop (i + 1) := by
      rw [List.drop_eq_getElem_cons hlt]
      rw [List.getElem?_eq_getElem hlt] at hd
      cases hd; rfl
    rw [hdr] at hl
    have A3 := A2.to e3
    refine hr x _ B H3 ρ2 α2 _ _ d _ _ A3 dx hl fun σ4 ρ4 hk A4 _ _ => ?_
    exact hb.run B α2 Γ _ σ4 H3 ρ4 _ _ A4 hk ⟨fun σ' H' ρ' α' q A' => ⟨hlt, ρ', α', A', q⟩, fun v σ' H' ρ' α' d q A' hd => ok.rt v σ' H' ρ' α' d q A'.gDrop hd, fun σ' H' ρ' α' q A' => ok.nx σ' H' ρ' α' q A'.gDrop, fun σ' H' ρ' α' q A' => ⟨hlt, ρ', α', A', q⟩⟩
  · left
    have hie : i = ds.length := by omega
    subst hie
    rw [List.drop_length] at hl
    exact ⟨hI.stop' A2 hm, ok.nx σ2 H2 ρ2 α2 hl A2.gDrop⟩
def wTurns (t : WT) (w : WS) : Nat → WS
  | 0, _, _ => False
  | n + 1, E, ρ => t ρ fun b ρ1 => if b = true then w { nx := wTurns t w n E, ct := wTurns t w n E, bk := E.nx, rt := E.rt } ρ1 else E.nx ρ1
def wWhile (t : WT) (w : WS) : WS := fun E ρ => ∃ n, wTurns t w n E ρ
theorem s1_while (hp : PassesOwn (model X.prog X.w) X.A X.env X.xe) (hc : SndT X pc c ta) (hb : SndS X body w1) : Snd1 X (.While c body [] pos) (wWhile ta w1) := ⟨fun B α Γ G σ H ρ E D A hw ok => by
  obtain ⟨n, hw⟩ := hw
  refine rdS (ps_while hp pt_any pss_any) ⟨fun m σ' H' => ∃ ρ' α', Ax X.K B H' σ' ρ' α' Γ G ∧ wTurns ta w1 m E ρ', ⟨n, ρ, α, A, hw⟩, ?_⟩
  rintro m σ2 H2 ⟨ρ2, α2, A2, h2⟩
  cases m with
  | zero => exact h2.elim
  | succ m =>
    refine hc.run B α2 Γ G σ2 H2 ρ2 _ _ A2 h2 fun b H3 ρ3 q A3 _ => ?_
    cases b with
    | true =>
      rw [if_pos rfl] at q
      refine iteT ⟨fun σ' H' => ∃ ρ' α', Ax X.K B H' σ' ρ' α' Γ G ∧ wTurns ta w1 m E ρ', fun σ' H' h => ⟨m, by omega, h⟩, ?_⟩
      exact hb.run B α2 Γ G σ2 H3 ρ3 _ _ A3 q ⟨fun σ' H' ρ' α' q A' => ⟨ρ', α', A', q⟩, fun v σ' H' ρ' α' d q A' hd => ok.rt v σ' H' ρ' α' d q A' hd, fun σ' H' ρ' α' q A' => ok.nx σ' H' ρ' α' q A', fun σ' H' ρ' α' q A' => ⟨ρ', α', A', q⟩⟩
    | false => exact iteF (ok.nx σ2 H3 ρ3 α2 q A3)⟩
end
/-! ## a def keeps its promise -/
section
variable {P : Program} {w : World} {K : PySem.W.Frag} {mg : Str → Option Value} {base : Heap} {f : Addr} {fd : FuncData} {N ps : List Str} {k : Nat} {x qual : Str} {st : Stmt}
/-- an argument's slot -/
def argS (d : PyData) : SV := if noL d = true then .im d else .bo d
theorem Ax.startS {K : PySem.W.Frag} {H : Hp} {vs : List V} {ds : List PyData} {N : List Str} {α : Nat → Addr} (h : DqAll K H vs ds) (hl : vs.length ≤ N.length) : Ax K H H (L2.start N vs) (ds.map argS ++ List.replicate (N.length - ds.length) SV.no) α [] [] := by
  have A := Ax.start (α := α) h hl
  have gso : ∀ (l : List PyData) (k i : Nat), gs (l.map argS ++ List.replicate k SV.no) i = (match l[i]? with | some d => argS d | none => .no) ∧ gs (l.map SV.bo ++ List.replicate k SV.no) i = (match l[i]? with | some d => SV.bo d | none => .no) := by
    intro l
    induction l with
    | nil =>
      intro k
      induction k with
      | zero => intro i; exact ⟨rfl, rfl⟩
      | succ k ih => intro i; cases i with
        | zero => exact ⟨rfl, rfl⟩
        | succ i => exact ih i
    | cons d l ih => intro k i; cases i with
      | zero => exact ⟨rfl, rfl⟩
      | succ i => exact ih k i
  have ao : ∀ d, (argS d).own = false := fun d => by unfold argS; split <;> rfl
  have no : ∀ i, (gs (ds.map argS ++ List.replicate (N.length - ds.length) SV.no) i).own = false := fun i => by
    rw [(gso _ _ _).1]; split
    · exact ao _
    · rfl
  have noO : ∀ a, ¬ Ow (ds.map argS ++ List.replicate (N.length - ds.length) SV.no) α [] a := by
    rintro a (⟨g, hg, _⟩ | ⟨i, q, _⟩)
    · cases hg
    · rw [no] at q; cases q
  have tk : Tk H (fz H (Ow (ds.map argS ++ List.replicate (N.length - ds.length) SV.no) α []) H) := by
    have key : ∀ a o, H a = some o → mutO o = false → fz H (Ow (ds.map argS ++ List.replicate (N.length - ds.length) SV.no) α []) H a = some o := fun a o h hm => fz_of (noO a) (fun u hu => by rw [h] at hu; cases hu; exact hm) h
    exact ⟨fun a xs h => key a _ h rfl, fun a o u h => key a _ h rfl⟩
  refine ⟨Same.refl H, by rw [A.len]; simp, fun i hi => ?_, fun a q => absurd q (noO a), fun i j q => (by rw [no] at q; cases q), (fun g hg => nomatch hg), List.nodup_nil, fun g hg => nomatch hg⟩
  have hb := A.ok i
  rw [(gso _ _ _).1] at hi ⊢
  rw [(gso _ _ _).2] at hb
  cases e : ds[i]? with
  | none => rw [e] at hi; exact absurd rfl hi
  | some d =>
    rw [e] at hb
    obtain ⟨v, h1, h2⟩ := hb (by intro z; cases z)
    refine ⟨v, h1, ?_⟩
    show SvOk _ _ _ _ _ _ (argS d)
    unfold argS
    split
    · next hn => exact dp_tk tk h2 hn
    · exact h2
/-- a def whose body's reading is W -/
theorem Fun.okW {ar : Nat} {sp : CW} {W : WS} (F : Fun K x qual st f fd) (S : FnScope N ps (defScope st)) (hl : ar = ps.length) (hN : ps.length ≤ N.length)
    (snd : ∀ (cdv : Value) (A : Around) (outer : List Env) (s : Shared) (H : Hp) (E : XK), Room k (A.deeper (envOfC qual (defScope st) s.heap.objs.size f cdv)) → SndS (CxF P w K mg base N qual st f cdv A outer s H E) (defBody st) W)
    (law : ∀ ds Q, ds.length = ar → sp ds Q → W { nx := fun _ => Q .none, rt := fun z _ => Q z } (ds.map argS ++ List.replicate (N.length - ds.length) SV.no)) : FnOk P w K mg base CX0 (k + 1) f fd ps (spW K ar sp) :=
  Fun.okG F S (fun vs H Q E ⟨ds, Qz, h1, h2, _⟩ => by rw [h2.length, h1, hl]) fun cdv A outer s H vs Q E hr ⟨ds, Qz, h1, h2, h3, h4⟩ => by
    have A0 : Ax K H H (L2.start N vs) (ds.map argS ++ List.replicate (N.length - ds.length) SV.no) (fun _ => 0) [] [] := Ax.startS h2 (by rw [h2.length, h1, hl]; exact hN)
    refine (snd cdv A outer s H E hr).run H _ [] [] _ H _ _ _ A0 (law ds Qz h1 h3) ⟨fun σ' H' ρ' α' q A' => h4 _ q _ _ A'.same .non, fun v σ' H' ρ' α' d q A' hd => h4 _ q _ _ A'.same (dp_same (fz_mono (fun _ _ _ h => h.elim) fun _ _ _ h => h) hd), fun _ _ _ _ q _ => q.elim, fun _ _ _ _ q _ => q.elim⟩
end
end WP

namespace WP
open PySem PySem.Spec L2 TH PyProof.Rows RZ
def visB (sc : Scope) (x : Str) : Bool := match sc.names.lookup x with
  | some .local => true
  | some .cell => true
  | some .free => true
  | _ => false
theorem vis_of {sc : Scope} {x : Str} (h : visB sc x = true) : Vis sc x := by
  unfold visB at h
  unfold Vis
  split at h
  · next e => exact .inl e
  · next e => exact .inr (.inl e)
  · next e => exact .inr (.inr e)
  · cases h
def locB (sc : Scope) (x : Str) : Bool := match sc.names.lookup x with
  | some .local => true
  | some .cell => true
  | _ => false
theorem loc_of {sc : Scope} {x : Str} (h : locB sc x = true) : L2.Loc sc x := by
  unfold locB at h
  unfold L2.Loc
  split at h
  · next e => exact .inl e
  · next e => exact .inr e
  · cases h
section
variable {X : Cx} {a b c e o tg iter : Expr} {pos p py apos : Pos} {pa pb pc pu : Bool} {wa wb wc : WE} {ta tb : WT} {es : List Expr} {st : Stmt} {rest body els : List Stmt} {w1 w2 : WS}
/-- a statement that is not reached -/
def wAbs : WS := fun _ _ => False
theorem s1_abs : Snd1 X st wAbs := ⟨fun _ _ _ _ _ _ _ _ _ _ hw _ => hw.elim⟩
def wNeg (a : WE) : WE := fun ρ Q => a ρ fun d _ ρ1 => asI d fun i => Q (.int (-i)) true ρ1
theorem sn_neg (h : Snd X pu a wa) : Snd X pu (.UnaryOp .USub a pos) (wNeg wa) := ⟨fun B α Γ G σ H ρ Q R A hw k =>
  rd (pe_un un_neg pe_any) (h.run B α Γ G σ H ρ _ _ A hw fun v H1 ρ1 d f q A1 hv pu1 => by
    obtain ⟨x, rfl, q⟩ := asI_ok q
    have := hv.h
    cases this
    exact ⟨_, rfl, k _ H1 ρ1 _ true q A1 (.int _) pu1⟩)⟩
/-- l.index(e) -/
def idxW : PyData → PyData → (PyData → Prop) → Prop
  | .list ds, d, k => (shp (.list ds) ∧ shp d) ∧ ∃ j : Nat, (∃ z, ds[j]? = some z ∧ PyData.eqv z d = true) ∧ (∀ (m : Nat) (y : PyData), m < j → ds[m]? = some y → PyData.eqv y d = false) ∧ k (.int (j : Int))
  | _, _, _ => False
def isLD : PyData → Bool
  | .list _ => true
  | _ => false
def wIdx (pb : Bool) (a b : WE) : WE := fun ρ Q => a ρ fun d f ρ1 => isLD d = true ∧ b ρ1 fun e g ρ2 => (pb = true ∨ okF f d = true) ∧ idxW d e fun z => Q z true ρ2
theorem sn_index {k : Nat} (hr : Room k X.A) (ha : Snd X pa o wa) (hb : Snd X pb e wb)
    (hbase : attributeBase o "index" X.env (eval o X.env) = eval o X.env := by rfl)
    (hfew : ((backTo pos (starEach [e] X.env)).all (fun x => !x.1) && (backToKw pos (keywordEach [] X.env)).all (fun x => x.1.isSome) && decide ([e].length + ([] : List Keyword).length + (if ([] : List Keyword).isEmpty then 0 else 1) < 30)) = true := by rfl)
    (hline : (apos.endLine == pos.line) = true := by rfl) (hs : starEach [e] X.env = (false, eval e X.env) :: starEach [] X.env := by rfl) (hplain : (backTo pos (starEach [] X.env)).any (·.1) = false := by rfl) : Snd X (pa && pb) (.Call (.Attribute o "index" apos) [e] [] pos) (wIdx pb wa wb) := ⟨fun B α Γ G σ H ρ Q R A hw k => by
  refine rd (pe_bm PySem.F.plainAttrs_list PySem.F.slot_list_index PySem.F.type_list_index (mt_indexD (room65 hr)) pe_any (pa_cons pe_any pa_nil hs) hbase hfew hline hs hplain) (ha.run B α Γ G σ H ρ _ _ A hw fun x H1 ρ1 d f hw1 A1 hx pu1 => ?_)
  obtain ⟨hl, hw1⟩ := hw1
  obtain ⟨ds, rfl⟩ : ∃ ds, d = .list ds := by
    cases d with
    | list ds => exact ⟨ds, rfl⟩
    | none => cases hl
    | bool b => cases hl
    | str b => cases hl
    | int b => cases hl
    | tuple b => cases hl
    | dict b => cases hl
  obtain ⟨pp, vs, rfl, hpp⟩ : ∃ p vs, x = .ref p ∧ H1 p = some (.lst vs) := by
    have := hx.h
    cases this with
    | lst h1 h2 => exact ⟨_, _, rfl, h1⟩
  refine ⟨.inl ⟨rfl, _, .of hpp⟩, hb.two A1 hx hw1 fun y H2 ρ2 e g f' hq A2 hx2 _ hy pu2 => ?_⟩
  obtain ⟨⟨s1, s2⟩, j, ⟨z, hz, hzq⟩, hno, hq⟩ := hq
  exact ⟨_, y, e, ds, j, z, rfl, rfl, hx2.h.dp, hy.h.dp, s1, s2, hz, hzq, hno, k _ H2 ρ2 _ true hq A2 (.int _) (pu_trans pu1 pu2)⟩⟩
end
end WP

namespace WP
open PySem PySem.Spec L2 TH PyProof.Rows RZ
/-! ## loops by what holds between two turns -/
theorem while_ind {t : WT} {w : WS} {E : EndsW} (I : Nat → List SV → Prop) (h : ∀ n ρ, I n ρ → ∀ N : List SV → Prop, (∀ m ρ', m < n → I m ρ' → N ρ') → t ρ fun b ρ1 => if b = true then w { nx := N, ct := N, bk := E.nx, rt := E.rt } ρ1 else E.nx ρ1) {n : Nat} {ρ : List SV} (h0 : I n ρ) : wWhile t w E ρ := by
  have key : ∀ n ρ, I n ρ → ∀ k, n < k → wTurns t w k E ρ := by
    intro n
    induction n using Nat.strongRecOn with
    | _ n ih =>
      intro ρ hi k hk
      cases k with
      | zero => omega
      | succ k => exact h n ρ hi _ fun m ρ' hm hi' => ih m hm ρ' hi' k (by omega)
  exact ⟨n + 1, key n ρ h0 _ (by omega)⟩
theorem loop_ind {tw : TW} {w : WS} {E : EndsW} {ds : List PyData} (I : Nat → List SV → Prop) (h : ∀ i d ρ, ds[i]? = some d → I i ρ → ∀ N : List SV → Prop, (∀ ρ', I (i + 1) ρ' → N ρ') → tw d ρ fun ρ1 => w { nx := N, ct := N, bk := E.nx, rt := E.rt } ρ1) (he : ∀ ρ, I ds.length ρ → E.nx ρ) {ρ : List SV} (h0 : I 0 ρ) : wLoop tw w ds E ρ := by
  have key : ∀ k i, i + k = ds.length → ∀ ρ, I i ρ → wLoop tw w (ds.drop i) E ρ := by
    intro k
    induction k with
    | zero =>
      intro i hi ρ hI
      have : i = ds.length := by omega
      subst this
      rw [List.drop_length]
      exact he ρ hI
    | succ k ih =>
      intro i hi ρ hI
      have hlt : i < ds.length := by omega
      rw [List.drop_eq_getElem_cons hlt]
      exact h i ds[i] ρ (List.getElem?_eq_getElem hlt) hI _ fun ρ' hI' => ih (i + 1) (by omega) ρ' hI'
  have := key ds.length 0 (by omega) ρ h0
  rwa [List.drop_zero] at this
/-- a comprehension that draws nothing -/
theorem lc_fil {tw : TW} {ts : WT} {elt : WE} {vs : List Nat} {ρ : List SV} (p : PyData → Bool) (f : PyData → PyData) : ∀ {ds acc : List PyData} {k : List PyData → List SV → Prop},
    (∀ d ∈ ds, ∀ N : List SV → Option PyData → Prop, N ρ (if p d = true then some (f d) else none) → tw d ρ fun ρ1 => ts ρ1 fun b ρ2 => if b = true then elt ρ2 fun z g ρ3 => okF g z = true ∧ N (wipeS ρ3 vs) (some z) else N (wipeS ρ2 vs) none) →
    k (acc ++ (ds.filter p).map f) ρ → lcW tw ts elt vs ds ρ acc k := by
  intro ds
  induction ds with
  | nil => intro acc k _ hk; simpa [lcW] using hk
  | cons d ds ih =>
    intro acc k h hk
    refine h d List.mem_cons_self (fun ρ' o => match o with
      | some z => lcW tw ts elt vs ds ρ' (acc ++ [z]) k
      | none => lcW tw ts elt vs ds ρ' acc k) ?_
    cases hp : p d with
    | true =>
      show lcW tw ts elt vs ds ρ (acc ++ [f d]) k
      refine ih (fun e he => h e (List.mem_cons_of_mem _ he)) ?_
      rw [List.filter_cons_of_pos hp] at hk
      simpa using hk
    | false =>
      show lcW tw ts elt vs ds ρ acc k
      refine ih (fun e he => h e (List.mem_cons_of_mem _ he)) ?_
      rw [List.filter_cons_of_neg (by rw [hp]; intro z; cases z)] at hk
      exact hk
theorem lc_map {tw : TW} {ts : WT} {elt : WE} {vs : List Nat} {ρ : List SV} (f : PyData → PyData) {ds acc : List PyData} {k : List PyData → List SV → Prop}
    (h : ∀ d ∈ ds, ∀ N : List SV → Option PyData → Prop, N ρ (some (f d)) → tw d ρ fun ρ1 => ts ρ1 fun b ρ2 => if b = true then elt ρ2 fun z g ρ3 => okF g z = true ∧ N (wipeS ρ3 vs) (some z) else N (wipeS ρ2 vs) none)
    (hk : k (acc ++ ds.map f) ρ) : lcW tw ts elt vs ds ρ acc k :=
  lc_fil (fun _ => true) f (fun d hd N hN => h d hd N (by simpa using hN)) (by rw [List.filter_eq_self.mpr fun _ _ => rfl]; exact hk)
/-! ## houses and what they are made of -/
theorem shp_W (w : Way) : shp (dW w) := (sh_W w).shaped (by decide)
theorem shp_R (w : List Way) : shp (dR w) := (sh_R w).shaped (by decide)
theorem shp_H (w : House) : shp (dH w) := (sh_H w).shaped (by decide)
theorem shp_S (w : Stg) : shp (dS w) := (sh_S w).shaped (by decide)
theorem shp_int (i : Int) : shp (.int i) := (sh_int i).shaped (by decide)
theorem shp_bool (i : Bool) : shp (.bool i) := (sh_bool i).shaped (by decide)
theorem shp_none : shp .none := sh_none.shaped (by decide)
theorem argS_im {d : PyData} (h : noL d = true) : argS d = .im d := by unfold argS; rw [if_pos h]
theorem argS_H (h : House) : argS (dH h) = .im (dH h) := argS_im (noL_H h)
theorem argS_S (h : Stg) : argS (dS h) = .im (dS h) := argS_im (noL_S h)
theorem argS_N (h : Nat) : argS (dN h) = .im (dN h) := rfl
theorem argS_I (h : Int) : argS (.int h) = .im (.int h) := rfl
/-! ## defs that draw -/
theorem sqL_wo {K : PySem.W.Frag} {H : Hp} {a : Addr} {xs : List V} (h : SqL K H a xs) : SqL K H a xs := h
theorem Ax.startT {K : PySem.W.Frag} {H : Hp} {t sa : Addr} {v : V} {vs : List V} {ds : List PyData} {d : PyData} {ss : List Int} {n c m : Nat} (h0 : SqL K (wo H t) sa (ss.map V.int)) (h1 : H t = some (.lst vs)) (h2 : DqAll K H vs ds) (tw : Tw n c ds) (h3 : Dq K (wo H t) v d) :
    Ax K (wo H t) H ([some (.ref sa), some (.ref t), some v] ++ List.replicate m none) ([.sc ss, .tw t n c, argS d] ++ List.replicate m .no) (fun _ => t) [] [] := by
  obtain ⟨ns, rfl⟩ := tw.ints
  have hv : vs = ns.map V.int := h2.ints
  subst hv
  have grep : ∀ (m j : Nat), gs (List.replicate m SV.no) j = .no := by
    intro m
    induction m with
    | zero => intro j; rfl
    | succ m ih => intro j; cases j with
      | zero => rfl
      | succ j => exact ih j
  have ao : (argS d).own = false := by unfold argS; split <;> rfl
  have own1 : ∀ j, (gs ([.sc ss, .tw t n c, argS d] ++ List.replicate m .no) j).own = true → j = 1 := by
    intro j hj
    match j with
    | 0 => cases hj
    | 1 => rfl
    | 2 => rw [show gs ([.sc ss, .tw t n c, argS d] ++ List.replicate m .no) 2 = argS d from rfl, ao] at hj; cases hj
    | j + 3 => rw [show gs ([.sc ss, .tw t n c, argS d] ++ List.replicate m .no) (j + 3) = gs (List.replicate m .no) j from rfl, grep] at hj; cases hj
  have hO : ∀ a, Ow ([.sc ss, .tw t n c, argS d] ++ List.replicate m .no) (fun _ => t) [] a ↔ a = t := by
    intro a
    constructor
    · rintro (⟨g, hg, _⟩ | ⟨j, _, q⟩)
      · cases hg
      · exact q.symm
    · rintro rfl
      exact .inr ⟨1, rfl, rfl⟩
  have tk : Tk (wo H t) (fz (wo H t) (Ow ([.sc ss, .tw t n c, argS d] ++ List.replicate m .no) (fun _ => t) []) H) := by
    have key : ∀ a o, wo H t a = some o → mutO o = false → fz (wo H t) (Ow ([.sc ss, .tw t n c, argS d] ++ List.replicate m .no) (fun _ => t) []) H a = some o := fun a o h hm => by
      have hne : a ≠ t := fun e => by rw [e, wo_at] at h; cases h
      refine fz_of (fun q => hne ((hO a).mp q)) (fun u hu => by rw [h] at hu; cases hu; exact hm) ?_
      rw [wo_ne hne] at h
      exact h
    exact ⟨fun a xs h => key a _ h rfl, fun a o u h => key a _ h rfl⟩
  refine ⟨wo_le, by simp, fun i hi => ?_, fun a q => ?_, fun i j hi hj _ => (by rw [own1 i hi, own1 j hj]), (fun g hg => nomatch hg), List.nodup_nil, fun g hg => nomatch hg⟩
  · match i with
    | 0 => exact ⟨_, rfl, sa, rfl, h0⟩
    | 1 => exact ⟨_, rfl, rfl, rfl, _, _, h1, dq_ints ns, tw⟩
    | 2 =>
      refine ⟨v, rfl, ?_⟩
      have key : ∀ F, Tk (wo H t) F → SvOk K (wo H t) F H v t (argS d) := fun F tk => by
        unfold argS
        split
        · next hn => exact dp_tk tk h3 hn
        · exact h3
      exact key _ tk
    | i + 3 => exact absurd (grep m i) hi
  · rw [(hO a).mp q]
    exact ⟨wo_at, _, h1, rfl⟩
section
variable {P : Program} {w : World} {K : PySem.W.Frag} {mg : Str → Option Value} {base : Heap} {f : Addr} {fd : FuncData} {N : List Str} {k : Nat} {x qual : Str} {st : Stmt}
/-- the reading of a def that draws: what its end must be -/
abbrev endT (t : Addr) (n c : Nat) (Rz : PyData → Prop) : EndsW := { nx := fun _ => False, rt := fun z ρ => noL z = true ∧ Rz z ∧ ∃ c', c' ≤ c ∧ gs ρ 1 = .tw t n c' }
theorem Fun.okT {kd : Nat} {Pr : PyData → Prop} {Rl : PyData → PyData → Prop} {W : WS} {p1 p2 p3 : Str} (F : Fun K x qual st f fd) (S : FnScope N [p1, p2, p3] (defScope st)) (hN : 3 ≤ N.length)
    (snd : ∀ (cdv : Value) (A : Around) (outer : List Env) (s : Shared) (H : Hp) (E : XK), Room k (A.deeper (envOfC qual (defScope st) s.heap.objs.size f cdv)) → SndS (CxF P w K mg base N qual st f cdv A outer s H E) (defBody st) W)
    (law : ∀ t n c ss d, ss.length = n → n ≤ 63 → c + kd ≤ 2 ^ 60 → Pr d → W (endT t n (c + kd) (Rl d)) ([.sc ss, .tw t n c, argS d] ++ List.replicate (N.length - 3) .no)) : FnOk P w K mg base CX0 (k + 1) f fd [p1, p2, p3] (spT K kd Pr Rl) :=
  Fun.okG F S (fun vs H Q E ⟨n, c, sa, t, v, ss, d, ws, ds, h, _⟩ => by rw [h]; rfl) fun cdv A outer s H vs Q E hr ⟨n, c, sa, t, v, ss, d, ws, ds, hvs, hc, h63, hs, h0, h3, hpr, h1, h2, tw, q⟩ => by
    subst hvs
    have A0 : Ax K (wo H t) H (L2.start N [.ref sa, .ref t, v]) ([.sc ss, .tw t n c, argS d] ++ List.replicate (N.length - 3) .no) (fun _ => t) [] [] := Ax.startT h0 h1 h2 tw h3
    refine (snd cdv A outer s H E hr).run (wo H t) _ [] [] _ H _ _ _ A0 (law t n c ss d hs h63 hc hpr) ⟨fun _ _ _ _ q _ => q.elim, fun v' σ' H' ρ' α' z hz A' hd => ?_, fun _ _ _ _ q _ => q.elim, fun _ _ _ _ q _ => q.elim⟩
    obtain ⟨hn, hrz, c', hc', hg⟩ := hz
    obtain ⟨u, u1, u2⟩ := A'.ok 1 (by rw [hg]; intro z; cases z)
    rw [hg] at u2
    obtain ⟨_, ha, ws', ds', w1, w2, w3⟩ := u2
    rw [ha] at w1
    exact q v' H' ws' ds' z A'.same w1 (dps_same fz_le w2) (w3.le hc') (dp_same fz_le hd) hn hrz
end
end WP

namespace TH
open PySem
def isOut : Pn → Bool
  | (.x _, _) => true
  | _ => false
/-- where a person is, after each of at most n moves -/
def trl (h : House) : Nat → Pn → List Way
  | 0, p => [p.1]
  | n + 1, p => if isOut p = true then [p.1] else p.1 :: trl h n (stp h p)
abbrev dP (p : Pn) : PyData := .tuple [dW p.1, dS p.2]
def dWalk : Option (Ex × Nat × Stg) → PyData
  | none => .none
  | some (c, k, t) => .tuple [dX c, dN k, dS t]
end TH
namespace WP
open PySem L2 TH PyProof.Rows
/-! ## promises by the kinds of the arguments -/
theorem dH_inj {a b : House} (h : dH a = dH b) : a = b := by rw [← hsOf_d a, h, hsOf_d]
theorem dS_inj {a b : Stg} (h : dS a = dS b) : a = b := by rw [← sgOf_d a, h, sgOf_d]
theorem dN_inj {a b : Nat} (h : dN a = dN b) : a = b := by rw [← natOf_d a, h, natOf_d]
def spH (R : House → (PyData → Prop) → Prop) : CW := fun ds Q => ∃ h, ds = [dH h] ∧ R h Q
def spHN (R : House → Nat → (PyData → Prop) → Prop) : CW := fun ds Q => ∃ h x, ds = [dH h, dN x] ∧ R h x Q
def spHS (R : House → Stg → (PyData → Prop) → Prop) : CW := fun ds Q => ∃ h s, ds = [dH h, dS s] ∧ R h s Q
def spHSN (R : House → Stg → Nat → (PyData → Prop) → Prop) : CW := fun ds Q => ∃ h s x, ds = [dH h, dS s, dN x] ∧ R h s x Q
def spHSNN (R : House → Stg → Nat → Nat → (PyData → Prop) → Prop) : CW := fun ds Q => ∃ h s x n, ds = [dH h, dS s, dN x, dN n] ∧ R h s x n Q
def spHSS (R : House → Stg → List Nat → (PyData → Prop) → Prop) : CW := fun ds Q => ∃ h s x, ds = [dH h, dS s, dS x] ∧ R h s x Q
def spHSSS (R : House → Stg → List Nat → List Nat → (PyData → Prop) → Prop) : CW := fun ds Q => ∃ h s x y, ds = [dH h, dS s, dS x, dS y] ∧ R h s x y Q
section
variable {h : House} {s p q : Stg} {x n : Nat} {Q : PyData → Prop}
theorem spH_eq {R : House → (PyData → Prop) → Prop} : spH R [dH h] Q = R h Q := by
  apply propext
  constructor
  · rintro ⟨h', e, r⟩
    simp only [List.cons.injEq, and_true] at e
    rw [dH_inj e]; exact r
  · exact fun r => ⟨h, rfl, r⟩
theorem spHN_eq {R : House → Nat → (PyData → Prop) → Prop} : spHN R [dH h, dN x] Q = R h x Q := by
  apply propext
  constructor
  · rintro ⟨h', x', e, r⟩
    simp only [List.cons.injEq, and_true] at e
    rw [dH_inj e.1, dN_inj e.2]; exact r
  · exact fun r => ⟨h, x, rfl, r⟩
theorem spHS_eq {R : House → Stg → (PyData → Prop) → Prop} : spHS R [dH h, dS s] Q = R h s Q := by
  apply propext
  constructor
  · rintro ⟨h', x', e, r⟩
    simp only [List.cons.injEq, and_true] at e
    rw [dH_inj e.1, dS_inj e.2]; exact r
  · exact fun r => ⟨h, s, rfl, r⟩
theorem spHSN_eq {R : House → Stg → Nat → (PyData → Prop) → Prop} : spHSN R [dH h, dS s, dN x] Q = R h s x Q := by
  apply propext
  constructor
  · rintro ⟨h', s', x', e, r⟩
    simp only [List.cons.injEq, and_true] at e
    rw [dH_inj e.1, dS_inj e.2.1, dN_inj e.2.2]; exact r
  · exact fun r => ⟨h, s, x, rfl, r⟩
theorem spHSNN_eq {R : House → Stg → Nat → Nat → (PyData → Prop) → Prop} : spHSNN R [dH h, dS s, dN x, dN n] Q = R h s x n Q := by
  apply propext
  constructor
  · rintro ⟨h', s', x', n', e, r⟩
    simp only [List.cons.injEq, and_true] at e
    rw [dH_inj e.1, dS_inj e.2.1, dN_inj e.2.2.1, dN_inj e.2.2.2]; exact r
  · exact fun r => ⟨h, s, x, n, rfl, r⟩
theorem spHSS_eq {R : House → Stg → List Nat → (PyData → Prop) → Prop} : spHSS R [dH h, dS s, dS p] Q = R h s p Q := by
  apply propext
  constructor
  · rintro ⟨h', s', x', e, r⟩
    simp only [List.cons.injEq, and_true] at e
    rw [dH_inj e.1, dS_inj e.2.1, dS_inj e.2.2]; exact r
  · exact fun r => ⟨h, s, p, rfl, r⟩
theorem spHSSS_eq {R : House → Stg → List Nat → List Nat → (PyData → Prop) → Prop} : spHSSS R [dH h, dS s, dS p, dS q] Q = R h s p q Q := by
  apply propext
  constructor
  · rintro ⟨h', s', x', y', e, r⟩
    simp only [List.cons.injEq, and_true] at e
    rw [dH_inj e.1, dS_inj e.2.1, dS_inj e.2.2.1, dS_inj e.2.2.2]; exact r
  · exact fun r => ⟨h, s, p, q, rfl, r⟩
end
theorem isStr_dX (c : Ex) : isStrD (dX c) = true := rfl
theorem isStr_int (i : Int) : isStrD (.int i) = false := rfl
theorem dW_h (y : Nat) : dW (.h y) = .int y := rfl
theorem dW_x (c : Ex) : dW (.x c) = dX c := rfl
/-! ## lists of things -/
theorem noLs_W (l : List Way) : noLs (l.map dW) = true := noLs_map noL_W l
theorem noLs_S (l : List Stg) : noLs (l.map dS) = true := noLs_map noL_S l
theorem noLs_N (l : List Nat) : noLs (l.map dN) = true := noLs_map (fun _ => rfl) l
theorem noLs_I (l : List Int) : noLs (l.map PyData.int) = true := noLs_map (fun _ => rfl) l
theorem noLs_X (l : List Ex) : noLs (l.map dX) = true := noLs_map (fun _ => rfl) l
theorem noLs_app (l m : List PyData) : noLs (l ++ m) = (noLs l && noLs m) := by
  induction l with
  | nil => simp [noLs]
  | cons d l ih => simp [noLs, ih, Bool.and_assoc]
theorem isStr_W (w : Way) : isStrD (dW w) = (match w with | .x _ => true | .h _ => false) := by cases w <;> rfl
theorem plc_get {s : Stg} {x : Nat} (hx : x < s.length) : s[x]? = some (plc s x) := by
  unfold plc
  rw [List.getD_eq_getElem?_getD, List.getElem?_eq_getElem hx]
  rfl
def wyD (r : List Way) (i : Nat) : Way := r.getD i (.h 0)
theorem wy_get {r : List Way} {i : Nat} (hi : i < r.length) : r[i]? = some (wyD r i) := by
  unfold wyD
  rw [List.getD_eq_getElem?_getD, List.getElem?_eq_getElem hi]
  rfl
theorem ex_some {α : Type} {a : α} {o : Option α} (h : o = some a) {k : α → Prop} : (∃ z, o = some z ∧ k z) = k a := by
  apply propext
  constructor
  · rintro ⟨z, e, q⟩
    rw [h] at e; cases e; exact q
  · exact fun q => ⟨a, h, q⟩
section
variable {h : House} {r : List Way} {s : Stg} {x n : Nat} {k : PyData → Prop} {kl : List PyData → Prop}
theorem ixW_H (hx : x < h.length) : ixW (dH h) (.int x) k = k (dR (row h x)) := ex_some (atI_map (f := dR) (row_some hx))
theorem ixW_R (hx : x < r.length) : ixW (dR r) (.int x) k = k (dW (wyD r x)) := ex_some (atI_map (f := dW) (wy_get hx))
theorem ixW_S (hx : x < s.length) : ixW (dS s) (.int x) k = k (dN (plc s x)) := ex_some (atI_map (f := dN) (plc_get hx))
theorem ixW_last {ds : List PyData} {d : PyData} : ixW (.list (ds ++ [d])) (.int (-1)) k = k d := ex_some (L2.atI_last ds d)
theorem lenW_H : lenW [dH h] k = k (.int h.length) := by show k _ = _; rw [List.length_map]
theorem lenW_R : lenW [dR r] k = k (.int r.length) := by show k _ = _; rw [List.length_map]
theorem lenW_S : lenW [dS s] k = k (.int s.length) := by show k _ = _; rw [List.length_map]
theorem seqW_H : seqW (dH h) kl = kl (h.map dR) := rfl
theorem seqW_R : seqW (dR r) kl = kl (r.map dW) := rfl
theorem seqW_S : seqW (dS s) kl = kl (s.map dN) := rfl
end
theorem noL_P (p : Pn) : noL (dP p) = true := by
  show (noL (dW p.1) && (noL (dS p.2) && true)) = true
  rw [noL_W, noL_S]
  rfl
end WP
namespace WP
open PySem L2 TH PyProof.Rows
section
variable {r : List Way} {s : Stg} {x n : Nat} {k : PyData → Prop}
theorem ixW_LN (hx : x < s.length) : ixW (.list (s.map dN)) (.int x) k = k (dN (plc s x)) := ex_some (atI_map (f := dN) (plc_get hx))
theorem emod_nat (a b : Nat) : ((a : Int) + 1) % (b : Int) = (((a + 1) % b : Nat) : Int) := by rw [Int.natCast_emod]; rfl
theorem ixN_nat {m j : Nat} (h : j < m) : ixN m (j : Int) = some j := by
  unfold ixN
  rw [if_pos (by omega), if_pos (by omega)]
  simp
theorem ex_eq_some {α : Type} {o : Option α} {P : α → Prop} : (∃ z, o = some z ∧ P z) = (match o with | some z => P z | none => False) := by
  apply propext
  cases o with
  | none => exact ⟨fun ⟨_, h, _⟩ => by (cases h), fun h => h.elim⟩
  | some a => exact ⟨fun ⟨z, h, q⟩ => by (cases h); exact q, fun q => ⟨a, rfl, q⟩⟩
theorem map_setN (s : Stg) (j v : Nat) : (s.map dN).set j (.int v) = (s.set j v).map dN := by
  rw [List.map_set]
theorem lenW_LN {α : Type} {f : α → PyData} {l : List α} : lenW [.list (l.map f)] k = k (.int l.length) := by show k _ = _; rw [List.length_map]
end
end WP
namespace WP
open PySem L2 TH PyProof.Rows
theorem listW_S {s : Stg} {k : PyData → Prop} : listW [dS s] k = k (.list (s.map dN)) := by
  show (noLs _ = true ∧ k _) = _
  apply propext
  exact ⟨fun h => h.2, fun h => ⟨noLs_N s, h⟩⟩
theorem rgD_len (n : Nat) : (rgD n).length = n := by simp [rgD]
theorem mem_rgD {n : Nat} {d : PyData} (h : d ∈ rgD n) : ∃ i : Nat, i < n ∧ d = dN i := by
  unfold rgD at h
  obtain ⟨i, hi, rfl⟩ := List.mem_map.mp h
  exact ⟨i, List.mem_range.mp hi, rfl⟩
theorem binW_SS {s : Stg} {p : Nat} {k : PyData → Prop} : binW .Add (dS s) (.tuple [.int p]) k = (s.length + 1 ≤ 100000 ∧ k (dS (s ++ [p]))) := by
  show ((noLs (s.map dN ++ [.int (p : Int)]) = true ∧ (s.map dN).length + 1 ≤ 100000) ∧ k (.tuple (s.map dN ++ [.int (p : Int)]))) = _
  apply propext
  rw [List.length_map]
  have e : dS (s ++ [p]) = .tuple (s.map dN ++ [.int (p : Int)]) := by show PyData.tuple _ = _; rw [List.map_append]; rfl
  rw [e]
  have n : noLs (s.map dN ++ [.int (p : Int)]) = true := by rw [noLs_app, noLs_N]; rfl
  exact ⟨fun h => ⟨h.1.2, h.2⟩, fun h => ⟨⟨n, h.1⟩, h.2⟩⟩
theorem allS_take {h : House} (g : GoodH h) (i : Nat) : (allS (h.take i)).length ≤ 81 := by
  have key : ∀ (l : House), (∀ r ∈ l, r.length ≤ 3) → ∀ rows : List Stg, (l.foldl addR rows).length ≤ rows.length * 3 ^ l.length := by
    intro l
    induction l with
    | nil => intro _ rows; simp
    | cons r l ih =>
      intro hr rows
      rw [List.foldl_cons, List.length_cons, Nat.pow_succ]
      have h1 := ih (fun q hq => hr q (List.mem_cons_of_mem _ hq)) (addR rows r)
      have h2 := addR_len (rows := rows) (hr r List.mem_cons_self)
      have h3 := Nat.mul_le_mul_right (3 ^ l.length) h2
      calc _ ≤ _ := h1
        _ ≤ _ := h3
        _ = _ := by rw [Nat.mul_assoc, Nat.mul_comm 3]
  have h1 := key (h.take i) (fun r hr => (g.rows r (List.mem_of_mem_take hr)).2) [[]]
  have h2 : (h.take i).length ≤ 4 := by rw [List.length_take]; have := g.four; omega
  have h3 : 3 ^ (h.take i).length ≤ 3 ^ 4 := Nat.pow_le_pow_right (by decide) h2
  unfold allS
  simp only [List.length_cons, List.length_nil] at h1
  omega
end WP

namespace WP
open PySem PySem.Spec L2 TH PyProof.Rows RZ
/-! ## a dict of True by tuples of tuples -/
mutual
def nk : PyData → NestedKey
  | .none => .none
  | .int i => .num i
  | .str z => .text z
  | .tuple ds => .tup (nks ds)
  | .bool _ => .none
  | .list _ => .none
  | .dict _ => .none
def nks : List PyData → List NestedKey
  | [] => []
  | d :: ds => nk d :: nks ds
end
mutual
def okN : PyData → Bool
  | .none => true
  | .int _ => true
  | .str _ => true
  | .tuple ds => okNs ds
  | .bool _ => false
  | .list _ => false
  | .dict _ => false
def okNs : List PyData → Bool
  | [] => true
  | d :: ds => okN d && okNs ds
end
section
variable {X : Cx} {pins : List (Addr × Obj)} {s : Shared} {σ : L2.St} {H : Hp}
mutual
theorem nested_of (I : Inv X pins σ H s) : ∀ {v : V} {d : PyData} {u : Value}, Dq X.K H v d → RelV v u → okN d = true → NestedIs s.heap (nk d) u
  | _, _, u, .non, r, _ => by cases r; exact .none
  | _, _, u, .bl b, _, o => by simp [okN] at o
  | _, _, u, .int i, r, _ => by obtain ⟨t, rfl⟩ := r; exact .int _ _
  | _, _, u, .str z, r, _ => by obtain ⟨t, rfl⟩ := r; exact .text _ _
  | _, _, u, .lst _ _, _, o => by simp [okN] at o
  | _, _, u, .tup hs ha, r, o => by
    cases r
    obtain ⟨its, rv, ⟨ob, h1, h2, n, h3⟩, _⟩ := I.tuple hs
    exact .tup h1 h2 h3 (by simpa using nesteds_of I ha rv (by simpa [okN] using o))
theorem nesteds_of (I : Inv X pins σ H s) : ∀ {vs : List V} {ds : List PyData} {us : List Value}, DqAll X.K H vs ds → Vals vs us → okNs ds = true → NestedAll s.heap (nks ds) us
  | _, _, _, .nil, r, _ => by cases r; exact .nil
  | _, _, _, .cons h t, r, o => by
    cases r with
    | cons r1 r2 =>
      simp only [okNs, Bool.and_eq_true] at o
      exact .cons (nested_of I h r1 o.1) (nesteds_of I t r2 o.2)
end
end
abbrev rawYs (xs : List (NestedKey × Addr)) : List (NestedKey × Addr × Value) := xs.map fun x => (x.1, x.2, Value.bool true)
def rawN (P : Program) (w : World) (a : Addr) (xs : List (NestedKey × Addr)) : HO := .ext fun h => (a == sysModules) = false ∧ xs.length ≤ sizeLine ∧ ∃ o es ep, h.get? a = some o ∧ o.ExactDict ∧ o.data = .dict es ep ∧ es.toList = (rawYs xs).map (entryOfKey (nestedKind P w)) ∧ (xs.map (·.1)).Nodup
theorem raw_ok {P : Program} {w : World} {H : Hp} {h : Heap} {a : Addr} {xs : List (NestedKey × Addr)} (hd : (a == sysModules) = false) (hz : xs.length ≤ sizeLine) {o : Obj} {es : Array DictEntry} {ep : Nat} (h1 : h.get? a = some o) (h2 : o.ExactDict) (h3 : o.data = .dict es ep) (h4 : es.toList = (rawYs xs).map (entryOfKey (nestedKind P w))) (h5 : (xs.map (·.1)).Nodup) : ObjOk P w H h a (rawN P w a xs) := by
  refine ⟨⟨hd, hz, o, es, ep, h1, h2, h3, h4, h5⟩, ⟨o, h1⟩, ?_⟩
  rintro k1 k2 ⟨q1, q2, o', es', ep', q3, q4, q5, q6, q7⟩ hk
  exact ⟨q1, q2, o', es', ep', hk _ q3, q4, q5, q6, q7⟩
section
variable {X : Cx} {pos : Pos}
theorem pe_dnewN : PE X (.Dict [] [] pos) (fun _ H Q => ∀ p, H p = none → Q (.ref p) (upd H p (rawN X.prog X.w p []))) := ⟨fun pins s σ H Q I h =>
  wpAny_Dict_empty ⟨.ref s.heap.objs.size, _, I.laid (a := s.heap.objs.size) (o := rawN X.prog X.w s.heap.objs.size []) (t' := s.toks) (fun _ _ q => Heap.get?_push_of_some _ q) (Nat.le_refl _) (raw_ok (beq_eq_false_iff_ne.mpr (Ne.symm (Nat.ne_of_lt I.big))) (Nat.zero_le _) (es := #[]) (ep := 0) (Heap.get?_push_size _ rfl) ⟨rfl, rfl, rfl⟩ rfl rfl List.nodup_nil), rfl, h _ (I.hok.fresh (Nat.le_refl _))⟩⟩
/-- the keys stand -/
def KeysOk (K : PySem.W.Frag) (H : Hp) (xs : List (NestedKey × Addr)) : Prop := ∀ x ∈ xs, ∃ d, Dq K H (.ref x.2) d ∧ okN d = true ∧ nk d = x.1 ∧ (nk d).depth ≤ 8
theorem raw_of {pins : List (Addr × Obj)} {s : Shared} {σ : L2.St} {H : Hp} {p : Addr} {xs : List (NestedKey × Addr)} (I : Inv X pins σ H s) (e : H p = some (rawN X.prog X.w p xs)) (hk : KeysOk X.K H xs) : (p == sysModules) = false ∧ xs.length ≤ sizeLine ∧ s.heap.DictOfH (nestedKind X.prog X.w) p (rawYs xs) := by
  obtain ⟨⟨h1, h2, o, es, ep, h3, h4, h5, h6, h7⟩, _, _⟩ := (show ObjOk X.prog X.w H s.heap p (rawN X.prog X.w p xs) from I.hok p _ e)
  refine ⟨h1, h2, o, es, ep, h3, h4, h5, h6, fun y hy => ?_, ?_⟩
  · obtain ⟨x, hx, rfl⟩ := List.mem_map.mp hy
    obtain ⟨d, d1, d2, d3, d4⟩ := hk x hx
    have := nested_of I d1 rfl d2
    rw [d3] at this d4
    exact ⟨this, d4⟩
  · rw [show (rawYs xs).map (·.1) = xs.map (·.1) by simp [rawYs]]
    exact h7
theorem atKey_raw (xs : List (NestedKey × Addr)) (k : NestedKey) : (atKey (rawYs xs) k).isSome = xs.any fun x => decide (x.1 = k) := by
  unfold atKey rawYs
  induction xs with
  | nil => rfl
  | cons x xs ih =>
    rw [List.map_cons, List.any_cons]
    by_cases h : x.1 = k
    · simp [h]
    · rw [List.find?_cons_of_neg (by simpa using h)]
      simp only [h, decide_false, Bool.false_or]
      exact ih
theorem op_inN {k : Nat} (hr : Room k X.A) : OpR X (compareOp .In) (fun x y H Q => ∃ p xs b ds, x = .ref b ∧ y = .ref p ∧ H p = some (rawN X.prog X.w p xs) ∧ KeysOk X.K H xs ∧ Dq X.K H (.ref b) (.tuple ds) ∧ okNs ds = true ∧ (nk (.tuple ds)).depth ≤ 8 ∧ Q (.bl (xs.any fun x => decide (x.1 = nk (.tuple ds)))) H) := by
  intro pins s σ H x y u v Q I rx ry h
  obtain ⟨p, xs, b, ds, rfl, rfl, e, hk, hd, ho, hdp, q⟩ := h
  cases rx
  cases ry
  obtain ⟨h1, h2, h3⟩ := raw_of I e hk
  have hu := room65 hr
  refine wpAny_in_heap (knd := nestedKind X.prog X.w) (k := nk (.tuple ds)) (by show X.A.units + 1 + 8 < cLine; omega) ⟨nested_of I hd rfl (by simpa [okN] using ho), hdp⟩ h1 h3 ?_
  rw [atKey_raw]
  exact ⟨.bl _, H, I.tok _, rfl, q⟩
theorem set_dN {k : Nat} (hr : Room k X.A) : PSet X (fun o i v H Q => ∃ p xs b ds, o = .ref p ∧ i = .ref b ∧ v = .bl true ∧ H p = some (rawN X.prog X.w p xs) ∧ KeysOk X.K H xs ∧ Dq X.K H (.ref b) (.tuple ds) ∧ okNs ds = true ∧ (nk (.tuple ds)).depth ≤ 8 ∧ (xs.any fun x => decide (x.1 = nk (.tuple ds))) = false ∧ xs.length < sizeLine ∧ Q (upd H p (rawN X.prog X.w p (xs ++ [(nk (.tuple ds), b)])))) := by
  intro pins s σ H o i v ov iv u Q I ro ri rv h
  obtain ⟨p, xs, b, ds, rfl, rfl, rfl, e, hk, hd, ho, hdp, hno, hz, q⟩ := h
  cases ro
  cases ri
  cases rv
  obtain ⟨h1, h2, h3⟩ := raw_of I e hk
  have hu := room65 hr
  have hno' : atKey (rawYs xs) (nk (.tuple ds)) = none := by
    have := atKey_raw xs (nk (.tuple ds))
    rw [hno] at this
    cases hh : atKey (rawYs xs) (nk (.tuple ds)) with
    | none => rfl
    | some _ => rw [hh] at this; cases this
  refine wpAny_setItem_heap (knd := nestedKind X.prog X.w) (k := nk (.tuple ds)) (hsz := by simpa [rawYs] using h2) (by show X.A.units + 1 + 8 < cLine; omega) ⟨nested_of I hd rfl (by simpa [okN] using ho), hdp⟩ h3 fun h' dd' hs => ?_
  rw [storedH_new hno'] at dd'
  obtain ⟨o', es, ep, q1, q2, q3, q4, q5, q6⟩ := dd'
  have ey : rawYs xs ++ [(nk (.tuple ds), b, Value.bool true)] = rawYs (xs ++ [(nk (.tuple ds), b)]) := by simp [rawYs]
  rw [ey] at q4 q6
  refine ⟨_, d_write I (by rw [e]; exact True.intro) hs ⟨o', q1⟩ (raw_ok h1 (by simp; omega) q1 q2 q3 q4 (by rw [show (xs ++ [(nk (.tuple ds), b)]).map (·.1) = (rawYs (xs ++ [(nk (.tuple ds), b)])).map (·.1) by simp [rawYs]]; exact q6)), q⟩
end
end WP

namespace WP
open PySem PySem.Spec L2 TH PyProof.Rows RZ
/-! ## the town is made; the law -/
def spTown (K : PySem.W.Frag) : Sp := fun vs H Q _ => ∃ (a : Addr) (ss : List Int), vs = [.ref a] ∧ ss.length ≤ 63 ∧ SqL K H a (ss.map V.int) ∧ ∀ v H', QL K H (.int 0 :: ss.map .int) v H' → Q v H'
def asSc : SV → (List Int → Prop) → Prop
  | .sc ss, k => k ss
  | _, _ => False
theorem asSc_ok {x : SV} {k : List Int → Prop} (h : asSc x k) : ∃ ss, x = .sc ss ∧ k ss := by
  unfold asSc at h
  split at h
  · exact ⟨_, rfl, h⟩
  · exact h.elim
section
variable {X : Cx} {pos p py p1 : Pos}
def wTown (i j : Nat) : WS := fun E ρ => asSc (gs ρ j) fun ss => (ss.length ≤ 63 ∧ i < ρ.length) ∧ ∀ t, E.nx (ρ.set i (.tw t ss.length 0))
theorem s1_town {i j k : Nat} {x y f : Str} (F : FnD X.prog X.w X.K X.mg X.base k f (spTown X.K)) (hr : Room k X.A) (hg : Gl X f) (hN : X.N.Nodup) (hi : X.N[i]? = some x) (hx : L2.Loc X.env.scope x) (hNj : X.N[j]? = some y) (hvj : Vis X.env.scope y)
    (hs : swapsWith (.Call (.Name f p) [.Name y p1] [] pos) (some (.Name x py)) pos.line X.env = pure false := by rfl) (hf : X.fn x = true ∨ X.env.scope.names.lookup x = some .local := by first | exact .inl rfl | exact .inr rfl | assumption)
    (hdb : (f == ("__debug__" : Str)) = false := by decide) (he : starEach [.Name y p1] X.env = (false, eval (.Name y p1) X.env) :: starEach [] X.env := by rfl) (hpl : (backTo pos (starEach [] X.env)).any (·.1) = false := by rfl) (hd : (y == ("__debug__" : Str)) = false := by decide) (hcd : (y == ("__classdict__" : Str)) = false := by decide) {pos2 : Pos}
    (hs2 : swapsWith (.Call (.Name f p) [.Name y p1] [] pos) (some (.Name x py)) pos2.line X.env = pure false := by rfl) :
    Snd1 X (.Assign [.Name x py] (.Call (.Name f p) [.Name y p1] [] pos) pos2) (wTown i j) := by
  obtain ⟨fa, fd, ps, h1, h2, hb, h4⟩ := F.ex
  refine ⟨fun B α Γ G σ H ρ E D A hw ok => ?_⟩
  obtain ⟨ss, hj, ⟨hs3, hil⟩, hw⟩ := asSc_ok hw
  obtain ⟨v, v1, v2⟩ := A.ok j (by rw [hj]; intro z; cases z)
  rw [hj] at v2
  obtain ⟨sa, rfl, hsq⟩ := v2
  refine rdS (ps_set hN hi hx (pe_call h4 hr hg h1 h2 hb .nil pass0 (pa_cons (pe_var hNj hvj hd hcd) pa_nil he) hdb he hpl) hs2 hf) ?_
  refine ⟨_, v1, sa, ss, rfl, hs3, sqL_same A.same hsq, fun v H' ql => ?_⟩
  obtain ⟨t, vs, rfl, e1, e2, e3, e4⟩ := ql
  have hn : DqAll X.K (fz B (Ow (ρ.set i (.tw t ss.length 0)) (alSet α i t) Γ) H') vs (.int 0 :: ss.map .int) := by
    have q : vs = (0 :: ss).map V.int := DqAll.ints (ns := 0 :: ss) e4
    rw [q]
    exact dq_ints (0 :: ss)
  exact ok.nx _ H' _ _ (hw t) (A.setN i hil e1 e2 e3 rfl rfl ⟨rfl, rfl, vs, _, e3, hn, 0, ss, Nat.le_refl _, rfl, rfl⟩)
end
theorem Ax.startL {K : PySem.W.Frag} {H : Hp} {a : Addr} {ss : List Int} (m : Nat) (h : SqL K H a (ss.map V.int)) : Ax K H H (some (.ref a) :: List.replicate m none) (.sc ss :: List.replicate m .no) (fun _ => 0) [] [] := by
  have grep : ∀ (m j : Nat), gs (List.replicate m SV.no) j = .no := by
    intro m
    induction m with
    | zero => intro j; rfl
    | succ m ih => intro j; cases j with
      | zero => rfl
      | succ j => exact ih j
  have no : ∀ i, (gs (.sc ss :: List.replicate m .no) i).own = false := fun i => by
    cases i with
    | zero => rfl
    | succ i => rw [show gs (.sc ss :: List.replicate m .no) (i + 1) = gs (List.replicate m .no) i from rfl, grep]; rfl
  have noO : ∀ a, ¬ Ow (.sc ss :: List.replicate m .no) (fun _ => 0) [] a := by
    rintro a (⟨g, hg, _⟩ | ⟨i, q, _⟩)
    · cases hg
    · rw [no] at q; cases q
  refine ⟨Same.refl H, by simp, fun i hi => ?_, fun a q => absurd q (noO a), fun i j q => (by rw [no] at q; cases q), (fun g hg => nomatch hg), List.nodup_nil, fun g hg => nomatch hg⟩
  cases i with
  | zero => exact ⟨_, rfl, a, rfl, h⟩
  | succ i => exact absurd (grep m i) hi
def spLaw (K : PySem.W.Frag) : Sp := fun vs H Q _ => ∃ (a : Addr) (ss : List Int), vs = [.ref a] ∧ ss.length ≤ 63 ∧ SqL K H a (ss.map V.int) ∧ ∀ H', Q (.bl true) H'
theorem Fun.okLaw {P : Program} {w : World} {K : PySem.W.Frag} {mg : Str → Option Value} {base : Heap} {f : Addr} {fd : FuncData} {N : List Str} {k : Nat} {x qual : Str} {st : Stmt} {W : WS} (F : Fun K x qual st f fd) (S : FnScope N ["script"] (defScope st)) (hN : 1 ≤ N.length)
    (snd : ∀ (cdv : Value) (A : Around) (outer : List Env) (s : Shared) (H : Hp) (E : XK), Room k (A.deeper (envOfC qual (defScope st) s.heap.objs.size f cdv)) → SndS (CxF P w K mg base N qual st f cdv A outer s H E) (defBody st) W)
    (law : ∀ ss : List Int, ss.length ≤ 63 → W { nx := fun _ => False, rt := fun z _ => z = .bool true } (.sc ss :: List.replicate (N.length - 1) .no)) : FnOk P w K mg base CX0 (k + 1) f fd ["script"] (spLaw K) :=
  Fun.okG F S (fun vs H Q E ⟨_, _, h, _⟩ => by rw [h]; rfl) fun cdv A outer s H vs Q E hr ⟨a, ss, hv, hs, hS, q⟩ => by
    subst hv
    have A0 : Ax K H H (L2.start N [.ref a]) (.sc ss :: List.replicate (N.length - 1) .no) (fun _ => 0) [] [] := Ax.startL _ hS
    refine (snd cdv A outer s H E hr).run H _ [] [] _ H _ _ _ A0 (law ss hs) ⟨fun _ _ _ _ q _ => q.elim, fun v' σ' H' ρ' α' z hz A' hd => ?_, fun _ _ _ _ q _ => q.elim, fun _ _ _ _ q _ => q.elim⟩
    subst hz
    cases hd
    exact q H'
end WP

namespace WP
open PySem L2 TH PyProof.Rows
section
variable {s a b : Stg} {x n : Nat} {k : PyData → Prop}
theorem cutW_S_hi (hx : x ≤ s.length) : cutW none (some (x : Int)) (dS s) k = k (dS (s.take x)) := by
  show k (.tuple (TH.cutD (s.map dN) none (some (x : Int)))) = _
  unfold TH.cutD
  rw [HT.sIx_none, HT.sIx_nat, List.drop_zero, Nat.sub_zero, List.length_map, Nat.min_eq_left hx, ← List.map_take]
  rfl
theorem cutW_S_lo (hx : x ≤ s.length) : cutW (some (x : Int)) none (dS s) k = k (dS (s.drop x)) := by
  show k (.tuple (TH.cutD (s.map dN) (some (x : Int)) none)) = _
  unfold TH.cutD
  rw [HT.sIx_none, HT.sIx_nat, List.length_map, Nat.min_eq_left hx, ← List.map_drop, List.take_of_length_le (by rw [List.length_map, List.length_drop]; omega)]
  rfl
theorem cutW_S_lo1 (hx : x < s.length) : cutW (some ((x : Int) + 1)) none (dS s) k = k (dS (s.drop (x + 1))) := cutW_S_lo (x := x + 1) hx
theorem binW_S : binW .Add (dS a) (dS b) k = (a.length + b.length ≤ 100000 ∧ k (dS (a ++ b))) := by
  show ((noLs (a.map dN ++ b.map dN) = true ∧ (a.map dN).length + (b.map dN).length ≤ 100000) ∧ k (.tuple (a.map dN ++ b.map dN))) = _
  apply propext
  rw [List.length_map, List.length_map, ← List.map_append]
  exact ⟨fun h => ⟨h.1.2, h.2⟩, fun h => ⟨⟨noLs_N _, h.1⟩, h.2⟩⟩
theorem turn_cut {h : House} (hx : x < s.length) : s.take x ++ ([(plc s x + 1) % (row h x).length] ++ s.drop (x + 1)) = turn h s x := by
  unfold turn
  rw [List.set_eq_take_append_cons_drop, if_pos hx]
  rfl
end
theorem eqv_P (p q : Pn) : PyData.eqv (dP p) (dP q) = decide (p = q) := by
  obtain ⟨a, b⟩ := p
  obtain ⟨c, d⟩ := q
  show PyData.eqvAll [dW a, dS b] [dW c, dS d] = _
  simp only [PyData.eqvAll, eqv_W, eqv_S, Bool.and_true]
  simp [Prod.ext_iff]
theorem sh_P (p : Pn) : Sh 2 (dP p) := sh_tup fun d hd => by
  simp only [List.mem_cons, List.not_mem_nil, or_false] at hd
  rcases hd with rfl | rfl
  · exact (sh_W _).mono (by decide)
  · exact sh_S _
theorem shp_P (p : Pn) : shp (dP p) := (sh_P p).shaped (by decide)
theorem eqv_bool (a b : Bool) : PyData.eqv (.bool a) (.bool b) = decide (a = b) := by cases a <;> cases b <;> rfl
theorem sh_X (c : Ex) : Sh 0 (dX c) := sh_str (strOk_ex c)
theorem sh_walk (o : Option (Ex × Nat × Stg)) : Sh 2 (dWalk o) := by
  cases o with
  | none => exact sh_none.mono (by decide)
  | some p =>
    obtain ⟨c, k, t⟩ := p
    refine sh_tup fun d hd => ?_
    simp only [List.mem_cons, List.not_mem_nil, or_false] at hd
    rcases hd with rfl | rfl | rfl
    · exact (sh_X _).mono (by decide)
    · exact (sh_int _).mono (by decide)
    · exact sh_S _
theorem shp_walk (o : Option (Ex × Nat × Stg)) : shp (dWalk o) := (sh_walk o).shaped (by decide)
theorem eqv_walk (o p : Option (Ex × Nat × Stg)) : PyData.eqv (dWalk o) (dWalk p) = decide (o = p) := by
  cases o with
  | none => cases p with
    | none => rfl
    | some q => rfl
  | some q =>
    obtain ⟨c, k, t⟩ := q
    cases p with
    | none => rfl
    | some q =>
      obtain ⟨c', k', t'⟩ := q
      show PyData.eqvAll [dX c, dN k, dS t] [dX c', dN k', dS t'] = _
      simp only [PyData.eqvAll, eqv_ex, eqv_nat, eqv_S, Bool.and_true]
      simp [Prod.ext_iff]
/-- tuples and lists of things -/
theorem shp_tupM {α : Type} {f : α → PyData} {n : Nat} (h : ∀ a, Sh n (f a)) (hn : n < 64) (l : List α) : shp (.tuple (l.map f)) := (sh_tup (sh_map h l)).shaped hn
theorem shp_lstM {α : Type} {f : α → PyData} {n : Nat} (h : ∀ a, Sh n (f a)) (hn : n < 64) (l : List α) : shp (.list (l.map f)) := (sh_lst (sh_map h l)).shaped hn
theorem shp_tN (l : List Nat) : shp (.tuple (l.map dN)) := shp_tupM (fun _ => sh_int _) (by decide) l
theorem shp_lN (l : List Nat) : shp (.list (l.map dN)) := shp_lstM (fun _ => sh_int _) (by decide) l
theorem shp_tW (l : List Way) : shp (.tuple (l.map dW)) := shp_tupM sh_W (by decide) l
theorem shp_lW (l : List Way) : shp (.list (l.map dW)) := shp_lstM sh_W (by decide) l
theorem shp_tS (l : List Stg) : shp (.tuple (l.map dS)) := shp_tupM sh_S (by decide) l
theorem shp_lS (l : List Stg) : shp (.list (l.map dS)) := shp_lstM sh_S (by decide) l
theorem shp_tX (l : List Ex) : shp (.tuple (l.map dX)) := shp_tupM sh_X (by decide) l
theorem shp_lX (l : List Ex) : shp (.list (l.map dX)) := shp_lstM sh_X (by decide) l
theorem shp_nilL : shp (.list []) := by decide +kernel
theorem shp_nilT : shp (.tuple []) := by decide +kernel
theorem eqvA_map {α : Type} [DecidableEq α] {f : α → PyData} (h : ∀ a b, PyData.eqv (f a) (f b) = decide (a = b)) (l m : List α) : PyData.eqv (.tuple (l.map f)) (.tuple (m.map f)) = decide (l = m) := eqvAll_map h l m
theorem eqvL_map {α : Type} [DecidableEq α] {f : α → PyData} (h : ∀ a b, PyData.eqv (f a) (f b) = decide (a = b)) (l m : List α) : PyData.eqv (.list (l.map f)) (.list (m.map f)) = decide (l = m) := eqvAll_map h l m
theorem eqv_tN (l m : List Nat) : PyData.eqv (.tuple (l.map dN)) (.tuple (m.map dN)) = decide (l = m) := eqvA_map eqv_nat l m
theorem eqv_lN (l m : List Nat) : PyData.eqv (.list (l.map dN)) (.list (m.map dN)) = decide (l = m) := eqvL_map eqv_nat l m
theorem eqv_tW (l m : List Way) : PyData.eqv (.tuple (l.map dW)) (.tuple (m.map dW)) = decide (l = m) := eqvA_map eqv_W l m
theorem eqv_tS (l m : List Stg) : PyData.eqv (.tuple (l.map dS)) (.tuple (m.map dS)) = decide (l = m) := eqvA_map eqv_S l m
theorem eqv_lS (l m : List Stg) : PyData.eqv (.list (l.map dS)) (.list (m.map dS)) = decide (l = m) := eqvL_map eqv_S l m
theorem eqv_tX (l m : List Ex) : PyData.eqv (.tuple (l.map dX)) (.tuple (m.map dX)) = decide (l = m) := eqvA_map eqv_ex l m
theorem eqv_lX (l m : List Ex) : PyData.eqv (.list (l.map dX)) (.list (m.map dX)) = decide (l = m) := eqvL_map eqv_ex l m
theorem eqv_nilL {α : Type} {f : α → PyData} (l : List α) : PyData.eqv (.list (l.map f)) (.list []) = l.isEmpty := by cases l <;> rfl
theorem any_dec {α : Type} [DecidableEq α] {f : α → PyData} (h : ∀ a b, PyData.eqv (f a) (f b) = decide (a = b)) (l : List α) (x : α) : (l.map f).any (fun y => PyData.eqv y (f x)) = decide (x ∈ l) := by
  rw [List.any_map]
  induction l with
  | nil => rfl
  | cons a l ih =>
    rw [List.any_cons, ih]
    show (PyData.eqv (f a) (f x) || _) = _
    rw [h]
    by_cases e : a = x
    · simp [e]
    · simp [e, Ne.symm e]
theorem any_N (l : List Nat) (x : Nat) : (l.map dN).any (fun y => PyData.eqv y (.int x)) = decide (x ∈ l) := any_dec eqv_nat l x
theorem any_S (l : List Stg) (x : Stg) : (l.map dS).any (fun y => PyData.eqv y (dS x)) = decide (x ∈ l) := by rw [any_dec eqv_S l x]; exact decide_eq_decide.mpr Iff.rfl
theorem mem_safeL {h : House} {x : Nat} (hx : x < h.length) : decide (x ∈ safeL h) = safeB h x := by
  apply Bool.eq_iff_iff.mpr
  unfold safeL
  rw [decide_eq_true_eq, List.mem_filter, List.mem_range]
  exact ⟨fun q => q.2, fun q => ⟨hx, q⟩⟩
theorem trl_len {h : House} : ∀ (n k : Nat) (p : Pn), k ≤ n → outP (it h k p) → (∀ j, j < k → ¬ outP (it h j p)) → (trl h n p).length = k + 1 := by
  intro n
  induction n with
  | zero =>
    intro k p hk _ _
    have : k = 0 := by omega
    subst this
    rfl
  | succ n ih =>
    intro k p hk ho hn
    unfold trl
    cases k with
    | zero =>
      have : isOut p = true := by
        obtain ⟨v, t⟩ := p
        cases v with
        | h x => exact ho.elim
        | x c => rfl
      rw [if_pos this]
      rfl
    | succ k =>
      have hp := hn 0 (by omega)
      have : isOut p = false := by
        obtain ⟨v, t⟩ := p
        cases v with
        | h x => rfl
        | x c => exact absurd trivial hp
      rw [if_neg (by rw [this]; intro z; cases z), List.length_cons, ih k (stp h p) (by omega) ho fun j hj => hn (j + 1) (by omega)]
end WP
namespace WP
open PySem L2 TH PyProof.Rows
theorem atI_0 {α : Type} {a : α} {l : List α} : atI (a :: l) 0 = some a := by
  unfold atI ixN
  simp
theorem atI_1 {α : Type} {a b : α} {l : List α} : atI (a :: b :: l) 1 = some b := by
  unfold atI ixN
  rw [if_pos (by decide), if_pos (by simp; omega)]
  rfl
theorem atI_2 {α : Type} {a b c : α} {l : List α} : atI (a :: b :: c :: l) 2 = some c := by
  unfold atI ixN
  rw [if_pos (by decide), if_pos (by simp; omega)]
  rfl
theorem atI_3 {α : Type} {a b c d : α} {l : List α} : atI (a :: b :: c :: d :: l) 3 = some d := by
  unfold atI ixN
  rw [if_pos (by decide), if_pos (by simp; omega)]
  rfl
end WP
namespace WP
open PySem L2 TH PyProof.Rows
theorem lenW_TW {α : Type} {f : α → PyData} {l : List α} {k : PyData → Prop} : lenW [.tuple (l.map f)] k = k (.int l.length) := by show k _ = _; rw [List.length_map]
end WP
namespace WP
open PySem L2 TH PyProof.Rows
section
variable {h a b : House} {r q : List Way} {x : Nat} {k : PyData → Prop}
theorem cutW_H_lo (hx : x ≤ h.length) : cutW (some (x : Int)) none (dH h) k = k (dH (h.drop x)) := by
  show k (.tuple (TH.cutD (h.map dR) (some (x : Int)) none)) = _
  unfold TH.cutD
  rw [HT.sIx_none, HT.sIx_nat, List.length_map, Nat.min_eq_left hx, ← List.map_drop, List.take_of_length_le (by rw [List.length_map, List.length_drop]; omega)]
  rfl
theorem cutW_H_hi (hx : x ≤ h.length) : cutW none (some (x : Int)) (dH h) k = k (dH (h.take x)) := by
  show k (.tuple (TH.cutD (h.map dR) none (some (x : Int)))) = _
  unfold TH.cutD
  rw [HT.sIx_none, HT.sIx_nat, List.drop_zero, Nat.sub_zero, List.length_map, Nat.min_eq_left hx, ← List.map_take]
  rfl
theorem cutW_R_hi : cutW none (some (x : Int)) (dR r) k = k (dR (r.take x)) := by
  show k (.tuple (TH.cutD (r.map dW) none (some (x : Int)))) = _
  unfold TH.cutD
  rw [HT.sIx_none, HT.sIx_nat, List.drop_zero, Nat.sub_zero, List.length_map, ← List.map_take]
  have : r.take (min x r.length) = r.take x := by
    by_cases hx : x ≤ r.length
    · rw [Nat.min_eq_left hx]
    · rw [Nat.min_eq_right (by omega), List.take_of_length_le (Nat.le_refl _), List.take_of_length_le (by omega)]
  rw [this]
  rfl
theorem cutW_R_lo : cutW (some (x : Int)) none (dR r) k = k (dR (r.drop x)) := by
  show k (.tuple (TH.cutD (r.map dW) (some (x : Int)) none)) = _
  unfold TH.cutD
  rw [HT.sIx_none, HT.sIx_nat, List.length_map, ← List.map_drop, List.take_of_length_le (by rw [List.length_map, List.length_drop]; omega)]
  have : r.drop (min x r.length) = r.drop x := by
    by_cases hx : x ≤ r.length
    · rw [Nat.min_eq_left hx]
    · rw [Nat.min_eq_right (by omega), List.drop_of_length_le (Nat.le_refl _), List.drop_of_length_le (by omega)]
  rw [this]
  rfl
theorem cutW_H_lo1 (hx : 1 ≤ h.length) : cutW (some 1) none (dH h) k = k (dH (h.drop 1)) := cutW_H_lo (x := 1) hx
theorem cutW_R_hi2 : cutW none (some 2) (dR r) k = k (dR (r.take 2)) := cutW_R_hi (x := 2)
theorem cutW_R_lo1 : cutW (some 1) none (dR r) k = k (dR (r.drop 1)) := cutW_R_lo (x := 1)
theorem ixW_H0 (hx : 0 < h.length) : ixW (dH h) (.int 0) k = k (dR (row h 0)) := ixW_H (x := 0) hx
theorem noLs_R (l : List (List Way)) : noLs (l.map dR) = true := noLs_map noL_R l
theorem binW_H : binW .Add (dH a) (dH b) k = (a.length + b.length ≤ 100000 ∧ k (dH (a ++ b))) := by
  show ((noLs (a.map dR ++ b.map dR) = true ∧ (a.map dR).length + (b.map dR).length ≤ 100000) ∧ k (.tuple (a.map dR ++ b.map dR))) = _
  apply propext
  rw [List.length_map, List.length_map, ← List.map_append]
  exact ⟨fun h => ⟨h.1.2, h.2⟩, fun h => ⟨⟨noLs_R _, h.1⟩, h.2⟩⟩
theorem binW_R : binW .Add (dR r) (dR q) k = (r.length + q.length ≤ 100000 ∧ k (dR (r ++ q))) := by
  show ((noLs (r.map dW ++ q.map dW) = true ∧ (r.map dW).length + (q.map dW).length ≤ 100000) ∧ k (.tuple (r.map dW ++ q.map dW))) = _
  apply propext
  rw [List.length_map, List.length_map, ← List.map_append]
  exact ⟨fun h => ⟨h.1.2, h.2⟩, fun h => ⟨⟨noLs_W _, h.1⟩, h.2⟩⟩
theorem listW_R : listW [dR r] k = k (.list (r.map dW)) := by
  show (noLs _ = true ∧ k _) = _
  apply propext
  exact ⟨fun h => h.2, fun h => ⟨noLs_W r, h⟩⟩
theorem tupleW_W : tupleW [.list (r.map dW)] k = k (dR r) := by
  show (noLs _ = true ∧ k _) = _
  apply propext
  exact ⟨fun h => h.2, fun h => ⟨noLs_W r, h⟩⟩
theorem dH_one (r : List Way) : PyData.tuple [dR r] = dH [r] := rfl
theorem dR_C : PyData.tuple [.str "C"] = dR [.x .C] := rfl
theorem dR_A : PyData.tuple [.str "A"] = dR [.x .A] := rfl
theorem dR_B : PyData.tuple [.str "B"] = dR [.x .B] := rfl
theorem map_setW (r : List Way) (j y : Nat) : (r.map dW).set j (.int y) = (r.set j (.h y)).map dW := by rw [List.map_set]; rfl
end
theorem row_cons (r : List Way) (h : House) : row (r :: h) 0 = r := rfl
theorem head_drop {h : House} (hl : 1 ≤ h.length) : h = row h 0 :: h.drop 1 := by
  cases h with
  | nil => simp at hl
  | cons r h => rfl
/-- a house, but for an exit -/
structure PreH (h : House) : Prop where
  one : 1 ≤ h.length
  four : h.length ≤ 4
  rows : ∀ r ∈ h, 1 ≤ r.length ∧ r.length ≤ 3
  ways : ∀ r ∈ h, ∀ n, Way.h n ∈ r → n < h.length
theorem GoodH.pre {h : House} (g : GoodH h) : PreH h := ⟨g.one, g.four, g.rows, g.ways⟩
theorem PreH.good {h : House} (g : PreH h) (e : ∃ r ∈ h, ∃ c, Way.x c ∈ r) : GoodH h := ⟨g.one, g.four, g.rows, g.ways, e⟩
theorem out_ex {h : House} (g : GoodH h) {x : Nat} {s : Stg} (gp : GoodP h (.h x, s)) {k : Nat} (o : outP (it h k (.h x, s))) : HasEx h x := by
  induction k with
  | zero => exact o.elim
  | succ k ih =>
    by_cases ok : outP (it h k (.h x, s))
    · exact ih ok
    · obtain ⟨y, hy⟩ := hall_of ok
      rw [it_succ, stp_hall hy] at o
      have gk := it_good g gp k
      have hyl := gk.hall y hy
      refine ⟨y, it_rch g gp k y hy, ?_⟩
      have hm := wayAt_mem gk.stg hyl
      cases hw : wayAt h (it h k (.h x, s)).2 y with
      | h z => rw [hw] at o; exact o.elim
      | x c => exact ⟨c, by rw [← hw]; exact hm⟩
theorem trl_held {h : House} : ∀ (n : Nat) (p : Pn), (∀ j, ¬ outP (it h j p)) → (trl h n p).length = n + 1 := by
  intro n
  induction n with
  | zero => intro p _; rfl
  | succ n ih =>
    intro p hp
    have h0 := hp 0
    have : isOut p = false := by
      obtain ⟨v, t⟩ := p
      cases v with
      | h x => rfl
      | x c => exact absurd trivial h0
    unfold trl
    rw [if_neg (by rw [this]; intro z; cases z), List.length_cons, ih (stp h p) fun j => hp (j + 1)]
theorem trl_last {h : House} : ∀ (n k : Nat) (p : Pn), k ≤ n → outP (it h k p) → (∀ j, j < k → ¬ outP (it h j p)) → (trl h n p)[k]? = some (it h k p).1 := by
  intro n
  induction n with
  | zero =>
    intro k p hk _ _
    have : k = 0 := by omega
    subst this
    rfl
  | succ n ih =>
    intro k p hk ho hn
    unfold trl
    cases k with
    | zero =>
      split
      · rfl
      · rfl
    | succ k =>
      have hp := hn 0 (by omega)
      have : isOut p = false := by
        obtain ⟨v, t⟩ := p
        cases v with
        | h x => rfl
        | x c => exact absurd trivial hp
      rw [if_neg (by rw [this]; intro z; cases z), List.getElem?_cons_succ]
      exact ih k (stp h p) (by omega) ho fun j hj => hn (j + 1) (by omega)
theorem any_P (l : List Pn) (x : Pn) : (l.map dP).any (fun y => PyData.eqv y (dP x)) = decide (x ∈ l) := by rw [any_dec eqv_P l x]; exact decide_eq_decide.mpr Iff.rfl
theorem noLs_P (l : List Pn) : noLs (l.map dP) = true := noLs_map noL_P l
theorem shp_lP (l : List Pn) : shp (.list (l.map dP)) := shp_lstM sh_P (by decide) l
theorem shp_lB (l : List Bool) : shp (.list (l.map .bool)) := shp_lstM sh_bool (by decide) l
theorem any_B (l : List Bool) (x : Bool) : (l.map PyData.bool).any (fun y => PyData.eqv y (.bool x)) = decide (x ∈ l) := any_dec eqv_bool l x
end WP
namespace WP
open PySem TH
theorem sh_shp {n : Nat} {d : PyData} (h : Sh n d) (hn : n ≤ 64 := by decide) : shp d := h.shaped hn
end WP
namespace WP
open PySem TH
theorem cutD_R_hi (r : List Way) (x : Nat) : PyData.tuple (TH.cutD (r.map dW) none (some (x : Int))) = dR (r.take x) := (cutW_R_hi (r := r) (x := x) (k := fun d => d = dR (r.take x))).mpr rfl
theorem tup_W (r : List Way) : PyData.tuple (r.map dW) = dR r := rfl
theorem tup_H (h : House) (r : List Way) : PyData.tuple (h.map dR ++ [dR r]) = dH (h ++ [r]) := by
  show _ = PyData.tuple ((h ++ [r]).map dR)
  rw [List.map_append]
  rfl
end WP

namespace WP
open PySem PySem.Spec L2 TH PyProof.Rows RZ
section
variable {X : Cx} {a b c e o tg iter : Expr} {pos p py apos : Pos} {pa pb pc pu : Bool} {wa wb wc : WE}
/-! ### l.count(e) -/
def rCountD (K : PySem.W.Frag) : V → List V → Hp → VK → Prop := fun x xs H Q => ∃ (a : Addr) (y : V) (d : PyData) (ds : List PyData), x = V.ref a ∧ xs = [y] ∧ Dp K H (V.ref a) (.list ds) ∧ Dp K H y d ∧ SeqAt.shaped (.list ds) = true ∧ SeqAt.shaped d = true ∧ Q (.int (ds.countP (fun z => PyData.eqv z d) : Nat)) H
theorem mt_countD (hu : X.A.units + 65 < cLine) : MtR X "list.count" (rCountD X.K) := by
  intro pins s σ H x xs v us Q I rx rxs h
  obtain ⟨a, y, d, ds, rfl, rfl, hl, hy, sl, sd, q⟩ := h
  cases rx
  cases rxs with
  | cons ry rt =>
    rename_i uy ut
    cases rt
    obtain ⟨bs, r1⟩ := Dp.reads I d y uy hy ry
    have hxs : PyData.canLayAll0 ds = true := SeqAt.canLay_of_shaped sl
    have hroom : X.A.units + 1 + min (PyData.depthAll ds) d.depth < cLine := room_in_shaped sd hu
    cases hl with
    | lst hs ha =>
      obtain ⟨its, rv, ⟨⟨cls, dd, data, sls⟩, n, ho, hc, hdn, hdt⟩, hlen⟩ := I.list hs
      simp only at hc hdt
      subst hc hdt
      obtain ⟨as, h4⟩ := Dp.readsAll I ds _ its ha rv
      have hmap : its.map (SeqAt.readOf s.heap) = ds := SeqAt.readsAll_map ds its as hxs h4
      refine call_meets PySem.F.slot_list_count ⟨_, ho, rfl⟩ PySem.F.entry_list_count (PySem.F.args_list_count_2 _ _)
        (SeqAt.list_countAt a its.toArray n dd sls uy (fun u => PyData.eqv (SeqAt.readOf s.heap u) d)) ⟨ho, SeqAt.items_eqAt (vs := its.toArray) (show ReadsAll s.heap its.toArray.toList ds as from h4) r1 hxs (SeqAt.canLay_of_shaped sd) hroom, ?_⟩
      have ec : its.toArray.toList.countP (fun u => PyData.eqv (SeqAt.readOf s.heap u) d) = ds.countP (fun z => PyData.eqv z d) := by
        rw [← hmap, List.countP_map]
        rfl
      refine ⟨.int (ds.countP (fun z => PyData.eqv z d) : Nat), H, I.tok _, ⟨s.toks, ?_⟩, q⟩
      show Value.int ((its.toArray.toList.countP _ : Nat) : Int) s.toks = Value.int ((ds.countP _ : Nat) : Int) s.toks
      rw [ec]
def cntW : PyData → PyData → (PyData → Prop) → Prop
  | .list ds, d, k => (shp (.list ds) ∧ shp d) ∧ k (.int ((ds.countP fun z => PyData.eqv z d : Nat) : Int))
  | _, _, _ => False
def wCount (pb : Bool) (a b : WE) : WE := fun ρ Q => a ρ fun d f ρ1 => isLD d = true ∧ b ρ1 fun e g ρ2 => (pb = true ∨ okF f d = true) ∧ cntW d e fun z => Q z true ρ2
theorem sn_count {k : Nat} (hr : Room k X.A) (ha : Snd X pa o wa) (hb : Snd X pb e wb)
    (hbase : attributeBase o "count" X.env (eval o X.env) = eval o X.env := by rfl)
    (hfew : ((backTo pos (starEach [e] X.env)).all (fun x => !x.1) && (backToKw pos (keywordEach [] X.env)).all (fun x => x.1.isSome) && decide ([e].length + ([] : List Keyword).length + (if ([] : List Keyword).isEmpty then 0 else 1) < 30)) = true := by rfl)
    (hline : (apos.endLine == pos.line) = true := by rfl) (hs : starEach [e] X.env = (false, eval e X.env) :: starEach [] X.env := by rfl) (hplain : (backTo pos (starEach [] X.env)).any (·.1) = false := by rfl) : Snd X (pa && pb) (.Call (.Attribute o "count" apos) [e] [] pos) (wCount pb wa wb) := ⟨fun B α Γ G σ H ρ Q R A hw k => by
  refine rd (pe_bm PySem.F.plainAttrs_list PySem.F.slot_list_count PySem.F.type_list_count (mt_countD (room65 hr)) pe_any (pa_cons pe_any pa_nil hs) hbase hfew hline hs hplain) (ha.run B α Γ G σ H ρ _ _ A hw fun x H1 ρ1 d f hw1 A1 hx pu1 => ?_)
  obtain ⟨hl, hw1⟩ := hw1
  obtain ⟨ds, rfl⟩ : ∃ ds, d = .list ds := by
    cases d with
    | list ds => exact ⟨ds, rfl⟩
    | none => cases hl
    | bool b => cases hl
    | str b => cases hl
    | int b => cases hl
    | tuple b => cases hl
    | dict b => cases hl
  obtain ⟨pp, vs, rfl, hpp⟩ : ∃ p vs, x = .ref p ∧ H1 p = some (.lst vs) := by
    have := hx.h
    cases this with
    | lst h1 h2 => exact ⟨_, _, rfl, h1⟩
  refine ⟨.inl ⟨rfl, _, .of hpp⟩, hb.two A1 hx hw1 fun y H2 ρ2 e g f' hq A2 hx2 _ hy pu2 => ?_⟩
  obtain ⟨⟨s1, s2⟩, hq⟩ := hq
  exact ⟨_, y, e, ds, rfl, rfl, hx2.h.dp, hy.h.dp, s1, s2, k _ H2 ρ2 _ true hq A2 (.int _) (pu_trans pu1 pu2)⟩⟩
end
theorem count_X (l : List Ex) (c : Ex) : (l.map dX).countP (fun z => PyData.eqv z (dX c)) = l.count c := by
  rw [List.countP_map]
  unfold List.count
  congr 1
  funext z
  show PyData.eqv (.str (exS z)) (.str (exS c)) = (z == c)
  rw [eqv_ex]
  rfl
end WP
namespace WP
open PySem L2 TH PyProof.Rows
section
variable {α : Type} {f : α → PyData} {l : List α} {x y : Nat} {k : PyData → Prop} {h : House}
theorem cutW_L_hi (hx : x ≤ l.length) : cutW none (some (x : Int)) (.list (l.map f)) k = k (.list ((l.take x).map f)) := by
  show k (.list (TH.cutD (l.map f) none (some (x : Int)))) = _
  unfold TH.cutD
  rw [HT.sIx_none, HT.sIx_nat, List.drop_zero, Nat.sub_zero, List.length_map, Nat.min_eq_left hx, ← List.map_take]
theorem cutW_L_lo (hx : x ≤ l.length) : cutW (some (x : Int)) none (.list (l.map f)) k = k (.list ((l.drop x).map f)) := by
  show k (.list (TH.cutD (l.map f) (some (x : Int)) none)) = _
  unfold TH.cutD
  rw [HT.sIx_none, HT.sIx_nat, List.length_map, Nat.min_eq_left hx, ← List.map_drop, List.take_of_length_le (by rw [List.length_map, List.length_drop]; omega)]
theorem cutW_L_mid (hx : x + y ≤ l.length) : cutW (some (x : Int)) (some ((x : Int) + (y : Int))) (.list (l.map f)) k = k (.list (((l.drop x).take y).map f)) := by
  show k (.list (TH.cutD (l.map f) (some (x : Int)) (some ((x : Int) + (y : Int))))) = _
  unfold TH.cutD
  rw [show ((x : Int) + (y : Int)) = ((x + y : Nat) : Int) by omega, HT.sIx_nat, HT.sIx_nat, List.length_map, Nat.min_eq_left hx, Nat.min_eq_left (by omega), Nat.add_sub_cancel_left, ← List.map_drop, ← List.map_take]
theorem sIx_m1 (n d : Nat) (hn : 1 ≤ n) : HT.sIx n d (some (-1)) = n - 1 := by
  unfold HT.sIx
  simp
  omega
theorem cutW_H_m1 (hl : 1 ≤ h.length) : cutW none (some (-1)) (dH h) k = k (dH h.dropLast) := by
  show k (.tuple (TH.cutD (h.map dR) none (some (-1)))) = _
  unfold TH.cutD
  rw [HT.sIx_none, List.length_map, sIx_m1 _ _ hl, List.drop_zero, Nat.sub_zero, ← List.map_take, ← List.dropLast_eq_take]
  rfl
theorem ixW_H_m1 (hl : 1 ≤ h.length) : ixW (dH h) (.int (-1)) k = k (dR (row h (h.length - 1))) := by
  refine ex_some ?_
  have e : h.map dR = (h.dropLast).map dR ++ [dR (row h (h.length - 1))] := by
    have h1 : h ≠ [] := by intro e; rw [e] at hl; simp at hl
    have h2 := List.dropLast_concat_getLast h1
    have h3 : h.getLast h1 = row h (h.length - 1) := by
      unfold row
      rw [List.getLast_eq_getElem, List.getD_eq_getElem?_getD, List.getElem?_eq_getElem (by omega)]
      rfl
    rw [h3] at h2
    have := congrArg (List.map dR) h2
    rw [List.map_append] at this
    exact this.symm
  show atI (h.map dR) (-1) = _
  rw [e]
  exact L2.atI_last _ _
theorem ixW_LM {a : α} (hx : l[x]? = some a) : ixW (.list (l.map f)) (.int x) k = k (f a) := ex_some (atI_map hx)
theorem ixW_LM2 {a : α} (hx : l[x + y]? = some a) : ixW (.list (l.map f)) (.int ((x : Int) + (y : Int))) k = k (f a) := by
  have := ixW_LM (f := f) (k := k) hx
  rw [show ((x : Int) + (y : Int)) = ((x + y : Nat) : Int) by omega]
  exact this
end
end WP
namespace WP
open PySem PySem.Spec L2 TH PyProof.Rows RZ
section
variable {X : Cx}
theorem cr_sumT (hc : X.calm = true) : CallR X (.builtin "sum") (fun vs H Q => ∃ (a : Addr) (ns : List Int), vs = [V.ref a] ∧ SqT X.K H a (ns.map V.int) ∧ Q (.int ns.sum) H) := by
  intro pins s σ H vs us Q I r h
  obtain ⟨a, ns, rfl, hs, q⟩ := h
  obtain ⟨its, rv, hl, _⟩ := I.tuple hs
  rw [Vals.ref1 r]
  have hi := rv.ints
  obtain ⟨xs, e⟩ := hi.allInts.items
  have hn : numsOf (intItems xs).toList = ns := by rw [← e]; exact hi.numsOf
  rw [nums_intItems] at hn
  have hl' : s.heap.IsTuple a (intItems xs) := by rw [← e]; exact hl
  have hlt : a < s.heap.objs.size := by obtain ⟨_, e, _⟩ := hl'; exact Heap.lt_size e
  refine call_sum_walkG (wpAny_pyIter_tuple hl' ?_)
  refine ⟨_, _, _, _, _, _, numAt xs, rfl, Walks.tuple (A := X.A.in1) (I.ok.hd hc) s.heap.objs.size a (Nat.ne_of_lt hlt) (intItems xs), ⟨⟨_, Heap.get?_push_size _ rfl, rfl, rfl⟩, ?_⟩, fun b hb => ?_, (fun _ _ => intItems_at), fun h' tk t' hk => ?_⟩
  · obtain ⟨o, h1, h2⟩ := hl'
    exact ⟨o, Heap.get?_push_of_some _ h1, h2⟩
  · show b < (s.heap.push _).objs.size
    rw [Heap.size_push]
    simp only [List.mem_cons, List.not_mem_nil, or_false] at hb
    rcases hb with rfl | rfl
    · exact Nat.lt_succ_self _
    · exact Nat.lt_succ_of_lt hlt
  · have keep : ∀ b o, s.heap.get? b = some o → h'.get? b = some o := fun b o e => hk b o (fun hm => by
      simp only [List.mem_cons, List.not_mem_nil, or_false] at hm
      subst hm
      exact absurd (Heap.lt_size e) (Nat.lt_irrefl _)) (Heap.get?_push_of_some _ e)
    refine ⟨.int ns.sum, H, I.kept keep, ⟨t', ?_⟩, q⟩
    rw [preSum_eq, List.take_of_length_le (by simp [intItems]), hn]
theorem ca_sumT {ns : List Int} (hc : X.calm = true) : CaD X (.builtin "sum") [.tuple (ns.map .int)] (.int ns.sum) := ⟨_, cr_sumT hc, fun vs H h => by
  obtain ⟨v, rfl, hv⟩ := dq1 h
  cases hv with
  | tup hs ha => exact ⟨_, ns, rfl, by rw [ha.ints] at hs; exact hs, Same.refl H, .int _⟩⟩
def sum2W : CW
  | [.list ds], Q => ds.all isID = true ∧ Q (.int (ds.map intOf).sum)
  | [.tuple ds], Q => ds.all isID = true ∧ Q (.int (ds.map intOf).sum)
  | _, _ => False
theorem ok_sum2 (hc : X.calm = true) : CwOk X (.builtin "sum") sum2W := fun ds Q h => by
  unfold sum2W at h
  split at h
  · next ds =>
    refine ⟨_, .inl ⟨?_, rfl⟩, h.2⟩
    have := ca_sumL (X := X) (ns := ds.map intOf) hc
    rw [← ints_eq h.1] at this
    exact this
  · next ds =>
    refine ⟨_, .inl ⟨?_, rfl⟩, h.2⟩
    have := ca_sumT (X := X) (ns := ds.map intOf) hc
    rw [← ints_eq h.1] at this
    exact this
  · exact h.elim
end
theorem sum2_TN {l : List Nat} {k : PyData → Prop} : sum2W [.tuple (l.map dN)] k = k (.int ((l.sum : Nat) : Int)) := by
  show ((l.map dN).all isID = true ∧ k (.int ((l.map dN).map intOf).sum)) = _
  have h1 : (l.map dN).all isID = true := by rw [List.all_map]; exact List.all_eq_true.mpr fun _ _ => rfl
  have h2 : ((l.map dN).map intOf).sum = ((l.sum : Nat) : Int) := by
    induction l with
    | nil => rfl
    | cons a l ih =>
      have h3 : (l.map dN).all isID = true := by rw [List.all_map]; exact List.all_eq_true.mpr fun _ _ => rfl
      rw [List.map_cons, List.map_cons, List.sum_cons, List.sum_cons, ih h3]
      show (a : Int) + _ = _
      omega
  rw [h2]
  apply propext
  exact ⟨fun h => h.2, fun h => ⟨h1, h⟩⟩
end WP
namespace WP
open PySem L2 TH PyProof.Rows
theorem eqv_shp {d : PyData} (h : shp d) : PyData.eqv d d = true := PySem.SeqAt.eqv_refl d (shaped_iff.mp h).1
theorem sh_tup2 {n : Nat} {a b : PyData} (ha : Sh n a) (hb : Sh n b) : Sh (n + 1) (.tuple [a, b]) := sh_tup fun d hd => by
  simp only [List.mem_cons, List.not_mem_nil, or_false] at hd
  rcases hd with rfl | rfl
  · exact ha
  · exact hb
theorem ex1_mem {h : House} {s : Stg} {x : Nat} (o : OkS h s x) : ex1 h x s ∈ exitsOf h := by
  obtain ⟨_, hit, hno⟩ := walkR_some o.walk
  cases hk : mv1 h x s with
  | zero => rw [hk] at hit; cases hit
  | succ k =>
    rw [hk] at hit hno
    have hnk := hno k (by omega)
    obtain ⟨y, hy⟩ := hall_of hnk
    rw [it_succ, stp_hall hy] at hit
    have gk := it_good o.g o.gp k
    have hyl := gk.hall y hy
    have hm := wayAt_mem gk.stg hyl
    have e := congrArg Prod.fst hit
    simp only at e
    rw [e] at hm
    exact mem_exitsOf.mpr ⟨_, row_mem hyl, hm⟩
theorem sum_filt {α : Type} (p : α → Bool) (f : α → Nat) (hp : ∀ a, p a = false → f a = 0) : ∀ l : List α, ((l.filter p).map f).sum = (l.map f).sum
  | [] => rfl
  | a :: l => by
    have ih := sum_filt p f hp l
    cases h : p a with
    | true => rw [List.filter_cons_of_pos h, List.map_cons, List.map_cons, List.sum_cons, List.sum_cons, ih]
    | false => rw [List.filter_cons_of_neg (by rw [h]; intro z; cases z), List.map_cons, List.sum_cons, ih, hp a h, Nat.zero_add]
theorem sum_exits {h : House} {l : List Ex} (hl : ∀ e ∈ l, e ∈ exitsOf h) : ((exitsOf h).map fun e => l.count e).sum = l.length := by
  have hs := count_sum l
  have z : ∀ e : Ex, (h.any fun r => r.contains (.x e)) = false → l.count e = 0 := fun e he => List.count_eq_zero.mpr fun q => by
    have := hl e q
    unfold exitsOf at this
    rw [(List.mem_filter.mp this).2] at he
    cases he
  unfold exitsOf
  rw [sum_filt _ _ z]
  simp only [List.map_cons, List.map_nil, List.sum_cons, List.sum_nil]
  omega
theorem sum_cnt {h : House} {s : Stg} {x : Nat} (o : OkS h s x) (m : Nat) : ((exitsOf h).map fun e => TH.cnt h x s m e).sum = m := by
  have := sum_exits (h := h) (l := exL h x s m) fun e he => by
    unfold exL at he
    obtain ⟨k, _, rfl⟩ := List.mem_map.mp he
    exact ex1_mem (OkS.nit o k)
  rw [exL_len] at this
  exact this
theorem filt_X2 (l : List Ex) (c : Ex) : ((l.map dX).filter fun d => PyData.eqv d (dX c)).length = l.count c := by
  rw [← count_X, List.countP_eq_length_filter]
theorem filt_X (l : List Ex) (c : Ex) : (((l.map dX).filter fun d => PyData.eqv d (dX c)).map fun d => d).length = l.count c := by
  rw [List.map_id', ← count_X, List.countP_eq_length_filter]
end WP

namespace TK
open PySem L2 TH
def topS (i : Nat) : Stmt := PySem.Challenge.pw_turnhalls_k11_whole_people.main.body.getD i (.Pass ⟨0, 0, 0, 0⟩)
abbrev s_is_between : Stmt := topS 9
abbrev s_is_way : Stmt := topS 10
abbrev s_is_house : Stmt := topS 11
abbrev s_check_house : Stmt := topS 12
abbrev s_is_known_standing : Stmt := topS 13
abbrev s_check_standing : Stmt := topS 14
abbrev s_check_hall : Stmt := topS 15
abbrev s_found_exits : Stmt := topS 16
abbrev s_met_from : Stmt := topS 17
abbrev s_has_exit : Stmt := topS 18
abbrev s_is_safe : Stmt := topS 19
abbrev s_check_safe : Stmt := topS 20
abbrev s_moved : Stmt := topS 22
abbrev s_check_three : Stmt := topS 23
abbrev s_walked : Stmt := topS 24
abbrev s_check_walk : Stmt := topS 26
abbrev s_course : Stmt := topS 27
abbrev s_sent : Stmt := topS 28
abbrev s_check_people : Stmt := topS 29
abbrev s_send : Stmt := topS 30
abbrev s_returns : Stmt := topS 31
abbrev s__law_town : Stmt := topS 33
abbrev s__law_draw : Stmt := topS 34
abbrev s__law_pick : Stmt := topS 35
abbrev s__law_house : Stmt := topS 36
abbrev s__law_standing : Stmt := topS 37
abbrev s__law_exits : Stmt := topS 38
abbrev s__law_reach : Stmt := topS 39
abbrev s__law_safe : Stmt := topS 40
abbrev s__law_walk : Stmt := topS 41
abbrev s__law_open_house : Stmt := topS 42
abbrev s_law : Stmt := topS 43
end TK

namespace TH
open PySem L2 PyProof.Rows
/-- the built-in names are as they were -/
structure Bts (mg : Str → Option Value) : Prop where
  isinstance : mg "isinstance" = none
  int : mg "int" = none
  bool : mg "bool" = none
  str : mg "str" = none
  tuple : mg "tuple" = none
  list : mg "list" = none
  dict : mg "dict" = none
  set : mg "set" = none
  len : mg "len" = none
  range : mg "range" = none
  sorted : mg "sorted" = none
  any : mg "any" = none
  all : mg "all" = none
  sum : mg "sum" = none
  abs : mg "abs" = none
  max : mg "max" = none
  min : mg "min" = none
  zip : mg "zip" = none
  enumerate : mg "enumerate" = none
/-- the def st of the text stands under the name n -/
structure Lnk (K : PySem.W.Frag) (mg : Str → Option Value) (n : Str) (st : Stmt) (ps : List Str) : Prop where
  ex : ∃ f fd, mg n = some (.ref f) ∧ Fun K n n st f fd ∧ Binds K fd ps []
theorem Lnk.fnD {P : Program} {w : World} {K : PySem.W.Frag} {mg : Str → Option Value} {base : Heap} {n : Str} {st : Stmt} {ps : List Str} {k : Nat} {sp : Sp} (L : Lnk K mg n st ps) (h : ∀ f fd, Fun K n n st f fd → FnOk P w K mg base CX0 k f fd ps sp) : FnD P w K mg base k n sp := by
  obtain ⟨f, fd, h1, h2, h3⟩ := L.ex
  exact ⟨f, fd, ps, h1, h2.kp, h3, h f fd h2⟩
/-- the module's name EXITS -/
structure GEx (K : PySem.W.Frag) (mg : Str → Option Value) : Prop where
  ex : ∃ a, mg "EXITS" = some (.ref a) ∧ ∀ H, Dq K H (.ref a) (.tuple exD)
theorem gex_mk {K : PySem.W.Frag} {mg : Str → Option Value} {f : Addr} {od : Option Addr} {sl : Array (Option Value)} {n : Nat} {t1 t2 t3 : Tok} (hm : mg "EXITS" = some (.ref f)) (l : K.lookup f = some ⟨.type "tuple", od, .seq #[.str "A" t1, .str "B" t2, .str "C" t3] n, sl⟩) : GEx K mg :=
  ⟨f, hm, fun H => .tup (xs := [.str "A", .str "B", .str "C"]) (.inr ⟨_, _, _, l, rfl, rfl, show 3 ≤ sizeLine by decide, .cons ⟨t1, rfl⟩ (.cons ⟨t2, rfl⟩ (.cons ⟨t3, rfl⟩ .nil))⟩) (.cons (.str _) (.cons (.str _) (.cons (.str _) .nil)))⟩
theorem ev_exits {X : Cx} {r : List (Option PyData)} {pos : Pos} (G : GEx X.K X.mg) (hg : Gl X "EXITS") : EV X (.Name "EXITS" pos) r (.tuple exD) := by
  obtain ⟨a, h1, h2⟩ := G.ex
  exact ev_glob (v := .ref a) hg h1 rfl h2 (by decide)
end TH

namespace TK
open PySem L2 TH PyProof.Rows
section
variable {P : Program} {w : World} {K : PySem.W.Frag} {mg : Str → Option Value} {base : Heap} {f : Addr} {fd : FuncData}
/-! ### is_between -/
def r_is_between (ds : List PyData) (z : PyData) : Prop := ∃ (d : PyData) (lo hi : Int), ds = [d, .int lo, .int hi] ∧ z = .bool (isBtw d lo hi)
theorem sc_is_between : FnScope ["value", "low", "high"] ["value", "low", "high"] (defScope s_is_between) := ⟨rfl, rfl, rfl, by decide +kernel, rfl, by decide +kernel, by decide +kernel⟩
theorem fd_is_between (L : Lnk K mg "is_between" s_is_between ["value", "low", "high"]) (T : Bts mg) : FnD P w K mg base 1 "is_between" (spR K 3 r_is_between) := L.fnD fun f fd F => by
  refine Fun.okD F sc_is_between rfl (by decide) fun cdv A outer s H Q E ds z σ hr rel hl q A0 => ?_
  obtain ⟨d, lo, hi, rfl, rfl⟩ := rel
  refine go_ret A0 (EV.cast (ev_and (y := isBtw d lo hi) (ev_isInt (ev_var (i := 0) rfl (.inl rfl) rfl) rfl T.isinstance rfl T.int) fun h1 => EV.cast (ev_and (y := isBtw d lo hi) (ev_not (ev_isBool (ev_var (i := 0) rfl (.inl rfl) rfl) rfl T.isinstance rfl T.bool)) fun h2 => ?_) ?_) ?_) q
  · cases d with
    | int i => exact ev_one (ev_chain (ev_var (i := 1) rfl (.inl rfl) rfl) (ev_var (i := 0) rfl (.inl rfl) rfl) (fun _ => (ev_var (i := 2) rfl (.inl rfl) rfl)) oc_le (fun _ => oc_le))
    | bool b => cases h2
    | none => cases h1
    | str z => cases h1
    | list l => cases h1
    | tuple l => cases h1
    | dict l => cases h1
  · cases d with
    | int i => rfl
    | bool b => rfl
    | none => rfl
    | str z => rfl
    | list l => rfl
    | tuple l => rfl
    | dict l => rfl
  · cases d with
    | int i => rfl
    | bool b => rfl
    | none => rfl
    | str z => rfl
    | list l => rfl
    | tuple l => rfl
    | dict l => rfl
/-! ### is_way -/
def r_is_way (ds : List PyData) (z : PyData) : Prop := ∃ (d : PyData) (n : Int), ds = [d, .int n] ∧ SeqAt.shaped d = true ∧ z = .bool (isWayD d n)
theorem sh_exD : SeqAt.shaped (.tuple exD) = true := by decide +kernel
theorem sc_is_way : FnScope ["value", "halls"] ["value", "halls"] (defScope s_is_way) := ⟨rfl, rfl, rfl, by decide +kernel, rfl, by decide +kernel, by decide +kernel⟩
theorem fd_is_way (L : Lnk K mg "is_way" s_is_way ["value", "halls"]) (T : Bts mg) (G : GEx K mg) (F1 : FnD P w K mg base 1 "is_between" (spR K 3 r_is_between)) : FnD P w K mg base 2 "is_way" (spR K 2 r_is_way) := L.fnD fun f fd F => by
  refine Fun.okD F sc_is_way rfl (by decide) fun cdv A outer s H Q E ds z σ hr rel hl q A0 => ?_
  obtain ⟨d, n, rfl, hs, rfl⟩ := rel
  refine go_ret A0 (EV.cast (ev_or (ev_call F1 (hr.mono (by decide)) rfl (es_cons (ev_var (i := 0) rfl (.inl rfl) rfl) (es_cons ev_int (es_cons (ev_bin (ev_var (i := 1) rfl (.inl rfl) rfl) ev_int od_sub) es_nil))) rfl ⟨d, 0, n - 1, rfl, rfl⟩) fun _ =>
    (ev_one (ev_and (ev_isStr (ev_var (i := 0) rfl (.inl rfl) rfl) rfl T.isinstance rfl T.str) fun _ => (ev_one (ev_cmp (ev_var (i := 0) rfl (.inl rfl) rfl) (ev_exits G rfl) (oc_inT hr hs sh_exD) (by rfl)))))) rfl) q
/-! ### is_house -/
def r_is_house (ds : List PyData) (z : PyData) : Prop := ∃ (d : PyData), ds = [d] ∧ noL d = true ∧ SeqAt.shaped d = true ∧ (tupOf d).length ≤ 1000 ∧ (∀ r ∈ tupOf d, (tupOf r).length ≤ 1000) ∧ z = .bool (isHouseD d)
theorem sc_is_house : FnScope ["value", "hall", "way"] ["value"] (defScope s_is_house) := ⟨rfl, rfl, rfl, by decide +kernel, rfl, by decide +kernel, by decide +kernel⟩
theorem shaped_tup {ds : List PyData} (h : SeqAt.shaped (.tuple ds) = true) : ∀ d ∈ ds, SeqAt.shaped d = true := fun d hd => by
  rw [shaped_iff] at h ⊢
  obtain ⟨h1, h2⟩ := h
  simp only [PyData.canLay0] at h1
  simp only [PyData.depth] at h2
  have h3 : PyData.depthAll ds ≤ 63 := by omega
  exact ⟨layAll_iff.mp h1 d hd, Nat.le_trans (depthAll_le.mp h3 d hd) (by omega)⟩
theorem noL_tup {ds : List PyData} (h : noL (.tuple ds) = true) : ∀ d ∈ ds, noL d = true := noLs_iff.mp (by simpa [noL] using h)
/-- a test that a datum is a tuple of so many items -/
theorem tup_test {d : PyData} {a b : Int} (h : (!isTupD d || !(decide (a ≤ ((tupOf d).length : Int)) && decide (((tupOf d).length : Int) ≤ b))) = false) : ∃ l, d = .tuple l ∧ a ≤ (l.length : Int) ∧ (l.length : Int) ≤ b := by
  cases d with
  | tuple l =>
    have h' : (!(decide (a ≤ (l.length : Int)) && decide ((l.length : Int) ≤ b))) = false := h
    rw [Bool.not_eq_false', Bool.and_eq_true] at h'
    exact ⟨l, rfl, of_decide_eq_true h'.1, of_decide_eq_true h'.2⟩
  | int i => cases h
  | bool b => cases h
  | none => cases h
  | str z => cases h
  | list l => cases h
  | dict l => cases h
theorem tup_testN {d : PyData} {a b : Nat} (h : (!isTupD d || !(decide ((a : Int) ≤ ((tupOf d).length : Int)) && decide (((tupOf d).length : Int) ≤ (b : Int)))) = true) : (isTupD d && (decide (a ≤ (tupOf d).length) && decide ((tupOf d).length ≤ b))) = false := by
  cases hd : isTupD d with
  | false => rfl
  | true =>
    rw [hd] at h
    cases hc : (decide (a ≤ (tupOf d).length) && decide ((tupOf d).length ≤ b)) with
    | false => rfl
    | true =>
      rw [Bool.and_eq_true, decide_eq_true_eq, decide_eq_true_eq] at hc
      rw [decide_eq_true (by omega), decide_eq_true (by omega)] at h
      cases h
theorem row_bad {l : List PyData} {r : PyData} (hm : r ∈ l) (h : rowOk l.length r = false) : isHouseD (.tuple l) = false := by
  have e1 : l.all (rowOk l.length) = false := by
    cases h' : l.all (rowOk l.length) with
    | false => rfl
    | true => rw [List.all_eq_true.mp h' r hm] at h; cases h
  unfold isHouseD
  simp only [tupOf]
  rw [e1, Bool.and_false, Bool.false_and]
theorem any_rows (l : List PyData) : (l.flatMap (row2 tupOf (fun _ => true) (fun _ _ => true) fun _ e => .bool (isStrD e))) = ((l.flatMap tupOf).map fun e => PyData.bool (isStrD e)) := by
  induction l with
  | nil => rfl
  | cons d l ih =>
    rw [List.flatMap_cons, List.flatMap_cons, List.map_append, ih]
    have e : (tupOf d).filter (fun _ => true) = tupOf d := List.filter_eq_self.mpr fun _ _ => rfl
    unfold row2
    rw [if_pos rfl, e]
theorem fd_is_house (L : Lnk K mg "is_house" s_is_house ["value"]) (T : Bts mg) (F1 : FnD P w K mg base 2 "is_way" (spR K 2 r_is_way)) : FnD P w K mg base 3 "is_house" (spR K 1 r_is_house) := L.fnD fun f fd F => by
  refine Fun.okD F sc_is_house rfl (by decide) fun cdv A outer s H Q E ds z σ hr rel hl q A0 => ?_
  obtain ⟨d, rfl, hn, hs, hz, hz2, rfl⟩ := rel
  -- if not isinstance(value, tuple) or not 1 <= len(value) <= 4: return False
  refine go_if (b := !isTupD d || !(decide ((1 : Int) ≤ ((tupOf d).length : Int)) && decide (((tupOf d).length : Int) ≤ 4))) A0 (EVW.t (ew_or (et_not (et_val (ev_isTuple (ev_var (i := 0) rfl (.inr (.inl rfl)) rfl) rfl T.isinstance rfl T.tuple))) fun h1 => (ew_or1 (et_not ?_)))) (fun hb H1 A1 => ?_) (fun hb H1 A1 => ?_)
  · cases d with
    | tuple l => exact et_chain ev_int (ev_callB ca_lenT rfl T.len (by decide +kernel) (es_cons (ev_var (i := 0) rfl (.inr (.inl rfl)) rfl) es_nil)) (fun _ => ev_int) oc_le (fun _ => oc_le)
    | int i => cases h1
    | bool b => cases h1
    | none => cases h1
    | str z => cases h1
    | list l => cases h1
    | dict l => cases h1
  · refine go_ret A1 ev_bl ?_
    have e : isHouseD d = false := by
      have e0 := tup_testN (a := 1) (b := 4) hb
      unfold isHouseD
      rw [e0]
      rfl
    rw [e] at q
    exact q
  · obtain ⟨l, rfl, l1, l2⟩ := tup_test hb
    refine go_nil ?_
    -- for hall in value
    refine go_for (ds := l) (u := fun d ρ => ρ.set 1 (.im d)) (Iv := fun i ρ => ∃ x, ρ = [.im (.tuple l), x, .no] ∧ (l.take i).all (rowOk l.length) = true) A1 PassesOwn.never rfl (ev_var (i := 0) rfl (.inr (.inl rfl)) rfl) (by simpa [noL] using hn) (pg_name (i := 1) sc_is_house.nd rfl (.inl rfl)) (fun d _ => ra_name 1 d) ⟨.no, rfl, rfl⟩ ?_ ?_
    · rintro γ' i r ρ' σ' H' hr' ⟨x, rfl, hall⟩ A2
      have hm : r ∈ l := List.mem_of_getElem? hr'
      have hrs := shaped_tup hs r hm
      -- if not isinstance(hall, tuple) or not 1 <= len(hall) <= 3: return False
      refine go_if (b := !isTupD r || !(decide ((1 : Int) ≤ ((tupOf r).length : Int)) && decide (((tupOf r).length : Int) ≤ 3))) A2 (EVW.t (ew_or (et_not (et_val (ev_isTuple (ev_var (i := 1) rfl (.inl rfl) rfl) rfl T.isinstance rfl T.tuple))) fun h1 => (ew_or1 (et_not ?_)))) (fun hb H3 A3 => ?_) (fun hb H3 A3 => ?_)
      · cases r with
        | tuple l => exact et_chain ev_int (ev_callB ca_lenT rfl T.len (by decide +kernel) (es_cons (ev_var (i := 1) rfl (.inl rfl) rfl) es_nil)) (fun _ => ev_int) oc_le (fun _ => oc_le)
        | int i => cases h1
        | bool b => cases h1
        | none => cases h1
        | str z => cases h1
        | list l => cases h1
        | dict l => cases h1
      · refine go_ret A3 ev_bl ?_
        have e := row_bad hm (by
          have e0 := tup_testN (a := 1) (b := 3) hb
          unfold rowOk
          rw [e0]
          rfl)
        rw [e] at q
        exact q
      · obtain ⟨ws, rfl, w1, w2⟩ := tup_test hb
        refine go_nil ?_
        -- if not all([is_way(way, len(value)) for way in hall]): return False
        refine go_if (b := !(ws.all fun d => isWayD d l.length)) A3 (et_not (et_val (ev_callB (ca_allM (g := fun d => isWayD d l.length) rfl) rfl T.all (by decide +kernel) (es_cons (EVL.ev (el_map (ds := ws) (u := fun d r => r.set 2 (some d)) (own := [("way", 2)]) (sl := [2]) (f := fun d => .bool (isWayD d l.length)) rfl sc_is_house.nd (it_tupS (ev_var (i := 1) rfl (.inl rfl) rfl)) (blkOk_by (N := ["value", "hall", "way"]) (sc := defScope s_is_house) (by decide +kernel)) (fun _ _ _ _ _ => (pg_name (i := 2) sc_is_house.nd rfl (.inl rfl))) (fun d _ => rg_name 2 d) (by decide)
          (fun d hd _ _ _ _ _ => (ev_call F1 (hr.mono (by decide)) rfl (es_cons (ev_var (i := 2) rfl (.inl rfl) rfl) (es_cons (ev_callB ca_lenT rfl T.len (by decide +kernel) (es_cons (ev_var (i := 0) rfl (.inr (.inl rfl)) rfl) es_nil)) es_nil)) rfl ⟨d, l.length, rfl, shaped_tup hrs d hd, rfl⟩)) (fun _ _ => rfl) (Nat.le_trans (hz2 _ hm) (by decide)))) es_nil)))) (fun hb2 H4 A4 => ?_) (fun hb2 H4 A4 => ?_)
        · refine go_ret A4 ev_bl ?_
          have e := row_bad hm (by
            unfold rowOk
            simp only [tupOf]
            rw [Bool.not_eq_true'] at hb2
            rw [hb2, Bool.and_false])
          rw [e] at q
          exact q
        · refine go_nil (go_nil ⟨_, ⟨.im (.tuple ws), rfl, ?_⟩, A4⟩)
          rw [take_succ hr', List.all_append, hall, Bool.true_and]
          simp only [List.all_cons, List.all_nil, Bool.and_true]
          show ((true && (decide (1 ≤ ws.length) && decide (ws.length ≤ 3))) && ws.all fun w => isWayD w l.length) = true
          rw [decide_eq_true (show 1 ≤ ws.length by omega), decide_eq_true (show ws.length ≤ 3 by omega)]
          simpa using hb2
    · rintro ρ' σ' H' ⟨x, rfl, hall⟩ A2
      rw [List.take_length] at hall
      -- return any([isinstance(way, str) for hall in value for way in hall])
      refine go_ret A2 (d := .bool ((l.flatMap tupOf).any isStrD)) (ev_callB (ca_anyM (g := isStrD) rfl) rfl T.any (by decide +kernel) (es_cons (EVL.ev (EVL.cast (el_lc2 (ds := l) (rb := [some (.tuple l), none, none]) (u := fun d r => r.set 1 (some d)) (u1 := fun d r => r.set 2 (some d)) (own := [("hall", 1), ("way", 2)]) (vs1 := [2]) (sl := [1]) (sl1 := [2]) (es := tupOf) (pt := fun _ => true) (pt1 := fun _ _ => true) (f := fun _ e => .bool (isStrD e)) rfl sc_is_house.nd (it_tupS (ev_var (i := 0) rfl (.inr (.inl rfl)) rfl)) (blkOk_by (N := ["value", "hall", "way"]) (sc := defScope s_is_house) (by decide +kernel)) (by decide) (fun _ _ _ _ _ => (pg_name (i := 1) sc_is_house.nd rfl (.inl rfl))) (fun _ _ _ _ _ => (pg_name (i := 2) sc_is_house.nd rfl (.inl rfl)))
        ?_ (fun d _ => rg_name 1 d) (by decide) (fun d _ e _ => rg_name 2 e) (by decide) ?_ (fun d hd _ _ _ _ _ => ets_nil) ?_ (fun d hd hp e he _ _ _ _ _ => ets_nil) (fun d hd hp e he hq _ _ _ _ _ => (ev_isStr (ev_var (i := 2) rfl (.inl rfl) rfl) rfl T.isinstance rfl T.str)) (fun _ _ _ _ _ _ => rfl) ?_ ?_) (any_rows l))) es_nil)) ?_
      · refine ⟨rfl, fun i d h => ?_⟩
        match i with
        | 0 => exact h
        | 1 => cases h
        | 2 => cases h
        | n + 3 => cases h
      · intro d hd
        show (noL (.tuple l) && (noL d && (true && true))) = true
        rw [hn, noL_tup hn d hd]
        rfl
      · intro d hd hp _ _ _ _ _
        obtain ⟨ws, rfl⟩ : ∃ ws, d = .tuple ws := by
          have := List.all_eq_true.mp hall d hd
          unfold rowOk at this
          cases d with
          | tuple ws => exact ⟨ws, rfl⟩
          | int i => cases this
          | bool b => cases this
          | none => cases this
          | str z => cases this
          | list l => cases this
          | dict l => cases this
        exact it_tup (ev_var (i := 1) rfl (.inl rfl) rfl) (by have := noL_tup hn _ hd; show noLs ws = true; simpa [noL] using this)
      · intro i
        have h1 : ∀ k : List PyData, (∀ d ∈ k, (tupOf d).length ≤ 3) → (k.flatMap (row2 tupOf (fun _ => true) (fun _ _ => true) fun _ e => PyData.bool (isStrD e))).length ≤ 3 * k.length := fun k => by
          induction k with
          | nil => intro _; simp
          | cons d k ih =>
            intro h
            rw [List.flatMap_cons, List.length_append, List.length_cons]
            have a1 := ih fun e he => h e (List.mem_cons_of_mem _ he)
            have a2 : (row2 tupOf (fun _ => true) (fun _ _ => true) (fun _ e => PyData.bool (isStrD e)) d).length ≤ 3 := by
              unfold row2
              rw [if_pos rfl, List.length_map]
              exact Nat.le_trans (List.length_filter_le _ _) (h d List.mem_cons_self)
            omega
        refine Nat.le_trans (h1 _ fun d hd => ?_) (by rw [List.length_take]; omega)
        have := List.all_eq_true.mp hall d (List.mem_of_mem_take hd)
        unfold rowOk at this
        simp only [Bool.and_eq_true, decide_eq_true_eq] at this
        omega
      · intro d hd
        exact Nat.le_trans (hz2 d hd) (by decide)
      · have e : isHouseD (.tuple l) = (l.flatMap tupOf).any isStrD := by
          rw [List.any_flatMap]
          show ((true && (decide (1 ≤ l.length) && decide (l.length ≤ 4)) && l.all (rowOk l.length)) && _) = _
          rw [hall, decide_eq_true (show 1 ≤ l.length by omega), decide_eq_true (show l.length ≤ 4 by omega)]
          rfl
        rw [e] at q
        exact q
/-! ### check_house, of a house -/
def r_check_house (ds : List PyData) (z : PyData) : Prop := ∃ h : House, GoodH h ∧ ds = [dH h] ∧ z = .none
theorem sc_check_house : FnScope ["value"] ["value"] (defScope s_check_house) := ⟨rfl, rfl, rfl, by decide +kernel, rfl, by decide +kernel, by decide +kernel⟩
theorem house_isR {h : House} (g : GoodH h) : r_is_house [dH h] (.bool true) := by
  refine ⟨dH h, rfl, noL_H h, (sh_H h).shaped (by decide), ?_, fun r hr => ?_, by rw [isHouse_ok g]⟩
  · show (h.map dR).length ≤ 1000
    rw [List.length_map]
    have := g.four
    omega
  · obtain ⟨q, hq, rfl⟩ := List.mem_map.mp (show r ∈ h.map dR from hr)
    show (q.map dW).length ≤ 1000
    rw [List.length_map]
    have := (g.rows q hq).2
    omega
theorem fd_check_house (L : Lnk K mg "check_house" s_check_house ["value"]) (F1 : FnD P w K mg base 3 "is_house" (spR K 1 r_is_house)) : FnD P w K mg base 4 "check_house" (spR K 1 r_check_house) := L.fnD fun f fd F => by
  refine Fun.okD F sc_check_house rfl (by decide) fun cdv A outer s H Q E ds z σ hr rel hl q A0 => ?_
  obtain ⟨h, g, rfl, rfl⟩ := rel
  refine go_ifF A0 (EVT.cast (et_not (et_val (ev_call F1 (hr.mono (by decide)) rfl (es_cons (ev_var (i := 0) rfl (.inl rfl) rfl) es_nil) rfl (house_isR g)))) rfl) fun H1 A1 => go_nil ?_
  exact q .non H1 A1.same .non
end
end TK

namespace TK
open PySem L2 TH PyProof.Rows
section
variable {P : Program} {w : World} {K : PySem.W.Frag} {mg : Str → Option Value} {base : Heap} {f : Addr} {fd : FuncData}
/-! ### check_hall, of a hall -/
def r_check_hall (ds : List PyData) (z : PyData) : Prop := ∃ (h : House) (x : Nat), GoodH h ∧ x < h.length ∧ ds = [dH h, dN x] ∧ z = .none
theorem sc_check_hall : FnScope ["house", "hall"] ["house", "hall"] (defScope s_check_hall) := ⟨rfl, rfl, rfl, by decide +kernel, rfl, by decide +kernel, by decide +kernel⟩
theorem dH_len (h : House) : (h.map dR).length = h.length := List.length_map _
theorem fd_check_hall (L : Lnk K mg "check_hall" s_check_hall ["house", "hall"]) (T : Bts mg) (F1 : FnD P w K mg base 1 "is_between" (spR K 3 r_is_between)) : FnD P w K mg base 2 "check_hall" (spR K 2 r_check_hall) := L.fnD fun f fd F => by
  refine Fun.okD F sc_check_hall rfl (by decide) fun cdv A outer s H Q E ds z σ hr rel hl q A0 => ?_
  obtain ⟨h, x, g, hx, rfl, rfl⟩ := rel
  refine go_ifF A0 (EVT.cast (et_not (et_val (ev_call F1 (hr.mono (by decide)) rfl (es_cons (ev_var (i := 1) rfl (.inl rfl) rfl) (es_cons ev_int (es_cons (ev_bin (ev_callB ca_lenT rfl T.len (by decide +kernel) (es_cons (ev_var (i := 0) rfl (.inl rfl) rfl) es_nil)) ev_int od_sub) es_nil))) rfl ⟨_, _, _, rfl, rfl⟩))) ?_) fun H1 A1 => go_nil (q .non H1 A1.same .non)
  show (!(decide ((0 : Int) ≤ (x : Int)) && decide ((x : Int) ≤ ((h.map dR).length : Int) - 1))) = false
  rw [dH_len, decide_eq_true (show (0 : Int) ≤ (x : Int) by omega), decide_eq_true (show (x : Int) ≤ (h.length : Int) - 1 by omega)]
  rfl
/-! ### found_exits, exits -/
def r_found_exits (ds : List PyData) (z : List PyData) : Prop := ∃ (h : House), GoodH h ∧ ds = [dH h] ∧ z = (exitsOf h).map dX
theorem sc_found_exits : FnScope ["house", "hall", "way"] ["house"] (defScope s_found_exits) := ⟨rfl, rfl, rfl, by decide +kernel, rfl, by decide +kernel, by decide +kernel⟩
def isX : Way → Bool
  | .x _ => true
  | _ => false
theorem isStr_dW (v : Way) : isStrD (dW v) = isX v := by cases v <;> rfl
theorem exits_rows (h : House) : rows2 h (fun r => r) (fun _ v => isX v) (fun _ v => dW v) = (exitWays h).map dX := by
  unfold rows2 exitWays
  induction h with
  | nil => rfl
  | cons r l ih =>
    rw [List.flatMap_cons, List.flatMap_cons, List.map_append, ih]
    congr 1
    induction r with
    | nil => rfl
    | cons v r ihr =>
      cases v with
      | h n =>
        rw [List.filterMap_cons_none (show exW (.h n) = none from rfl), List.filter_cons_of_neg (by simp [isX])]
        exact ihr
      | x c =>
        rw [List.filterMap_cons_some (show exW (.x c) = some c from rfl), List.filter_cons_of_pos (by simp [isX]), List.map_cons, List.map_cons, ihr]
        rfl
theorem map_exS (l : List Ex) : l.map dX = (l.map exS).map PyData.str := by rw [List.map_map]; rfl
theorem exitWays_len {h : House} (g : GoodH h) : (exitWays h).length ≤ 12 := by
  have q : (rows2 h (fun r => r) (fun _ v => isX v) (fun _ v => dW v)).length ≤ 4 * 3 := rows2_len (fun r hr => (g.rows r hr).2) g.four
  rw [exits_rows, List.length_map] at q
  exact q
theorem fd_found_exits (L : Lnk K mg "found_exits" s_found_exits ["house"]) (T : Bts mg) : FnD P w K mg base 1 "found_exits" (spL K 1 r_found_exits) := L.fnD fun f fd F => by
  refine Fun.okL F sc_found_exits rfl (by decide) fun cdv A outer s H Q E ds z σ hr rel hl q A0 => ?_
  obtain ⟨h, g, rfl, rfl⟩ := rel
  refine go_retL A0 (ds := (exitsOf h).map dX) (EVL.cast (el_srtS (xs := (exitWays h).map exS) (zs := (exitsOf h).map exS) (EV.cast (EVL.ev (el_lc2T (n := 4) (m := 3) (ns := h) (enc := dR) (dec := rwOf) (enc1 := dW) (dec1 := wayOf) (es := fun r => r) (pt1 := fun _ v => isX v) (f2 := fun _ v => dW v) (rb := [some (dH h), none, none]) (u := fun d r => r.set 1 (some d)) (u1 := fun d r => r.set 2 (some d)) (own := [("hall", 1), ("way", 2)]) (vs1 := [2]) (sl := [1]) (sl1 := [2]) (fun _ _ => rwOf_d _) (fun _ _ _ _ => wayOf_d _) rfl sc_found_exits.nd (it_tupS (ev_var (i := 0) rfl (.inl rfl) rfl)) (blkOk_by (N := ["house", "hall", "way"]) (sc := defScope s_found_exits) (by decide +kernel)) (by decide) (fun _ _ _ _ _ => (pg_name (i := 1) sc_found_exits.nd rfl (.inl rfl))) (fun _ _ _ _ _ => (pg_name (i := 2) sc_found_exits.nd rfl (.inl rfl)))
    (Sub.refl _) (fun d _ => rg_name 1 _) (by decide) (fun d _ e _ => rg_name 2 _) (by decide) ?_ (fun r hr _ _ _ _ _ => (it_tup (ev_var (i := 1) rfl (.inl rfl) rfl) (noLs_map noL_W r))) (fun d hd e he _ _ _ _ _ => ets_one (EVT.cast (et_val (ev_isStr (ev_var (i := 2) rfl (.inl rfl) rfl) rfl T.isinstance rfl T.str)) (isStr_dW e))) (fun d hd e he hq _ _ _ _ _ => (ev_var (i := 2) rfl (.inl rfl) rfl)) (fun _ _ v _ _ => noL_W v) (fun r hr => (g.rows r hr).2) g.four (by decide) (by decide))) (by rw [exits_rows, map_exS])) ?_ ?_ rfl rfl T.sorted rfl T.set) (map_exS _).symm) ?_
  · intro r hr
    show (noL (dH h) && (noL (dR r) && (true && true))) = true
    rw [noL_H, noL_R]
    rfl
  · rw [List.length_map]
    exact Nat.le_trans (exitWays_len g) (by decide)
  · refine srtS_is ?_ (exitsOf_sorted h) fun k => ?_
    · exact List.pairwise_map.mpr ((exitsOf_nodup h).imp fun hne he => hne (exS_inj he))
    · rw [List.mem_map, List.mem_map]
      constructor
      · rintro ⟨c, hc, rfl⟩
        exact ⟨c, mem_exitWays.mpr (mem_exitsOf.mp hc), rfl⟩
      · rintro ⟨c, hc, rfl⟩
        exact ⟨c, mem_exitsOf.mpr (mem_exitWays.mp hc), rfl⟩
  · intro p vs H' h1 h2 h3 h4
    exact q _ _ ⟨p, vs, rfl, h1, h2, h3, h4⟩
def r_exits (ds : List PyData) (z : PyData) : Prop := ∃ (h : House), GoodH h ∧ ds = [dH h] ∧ z = .tuple ((exitsOf h).map dX)
end
end TK

namespace TK
open PySem L2 TH PyProof.Rows
/-! ### what met_from does -/
/-- met and waiting; the row of y is done up to the way number i -/
structure MetI (h : House) (x : Nat) (ms ws : List Nat) (y : Option (Nat × Nat)) : Prop where
  nd : ms.Nodup
  st : x ∈ ms
  rc : ∀ m ∈ ms, Rch h x m
  sub : ∀ m ∈ ws, m ∈ ms
  cl : ∀ m ∈ ms, m ∈ ws ∨ (∃ i, y = some (m, i)) ∨ ∀ z, Way.h z ∈ row h m → z ∈ ms
  part : ∀ m i, y = some (m, i) → m ∈ ms ∧ ∀ z, Way.h z ∈ (row h m).take i → z ∈ ms
theorem MetI.start (h : House) (x : Nat) : MetI h x [x] [x] none := by
  refine ⟨by simp, by simp, fun m hm => ?_, fun m hm => hm, fun m hm => .inl hm, fun m i e => by cases e⟩
  rw [List.mem_singleton] at hm
  subst hm
  exact .refl _
theorem MetI.pop {h : House} {x : Nat} {ms ws : List Nat} {y : Nat} (I : MetI h x ms (ws ++ [y]) none) : MetI h x ms ws (some (y, 0)) := by
  refine ⟨I.nd, I.st, I.rc, fun m hm => I.sub m (List.mem_append.mpr (.inl hm)), fun m hm => ?_, fun m i e => ?_⟩
  · rcases I.cl m hm with h1 | ⟨i, h1⟩ | h1
    · rcases List.mem_append.mp h1 with h1 | h1
      · exact .inl h1
      · rw [List.mem_singleton] at h1
        subst h1
        exact .inr (.inl ⟨0, rfl⟩)
    · cases h1
    · exact .inr (.inr h1)
  · cases e
    exact ⟨I.sub y (by simp), fun z hz => by simp at hz⟩
theorem MetI.skip {h : House} {x : Nat} {ms ws : List Nat} {y i : Nat} {v : Way} (I : MetI h x ms ws (some (y, i))) (hv : (row h y)[i]? = some v) (hk : ∀ z, v = .h z → z ∈ ms) : MetI h x ms ws (some (y, i + 1)) := by
  refine ⟨I.nd, I.st, I.rc, I.sub, fun m hm => ?_, fun m j e => ?_⟩
  · rcases I.cl m hm with h1 | ⟨j, h1⟩ | h1
    · exact .inl h1
    · cases h1
      exact .inr (.inl ⟨_, rfl⟩)
    · exact .inr (.inr h1)
  · cases e
    obtain ⟨h1, h2⟩ := I.part y i rfl
    refine ⟨h1, fun z hz => ?_⟩
    rw [take_succ hv] at hz
    rcases List.mem_append.mp hz with hz | hz
    · exact h2 z hz
    · rw [List.mem_singleton] at hz
      exact hk z hz.symm
theorem MetI.add {h : House} {x : Nat} {ms ws : List Nat} {y i z : Nat} (I : MetI h x ms ws (some (y, i))) (hv : (row h y)[i]? = some (.h z)) (hz : z ∉ ms) : MetI h x (ms ++ [z]) (ws ++ [z]) (some (y, i + 1)) := by
  obtain ⟨py, pp⟩ := I.part y i rfl
  refine ⟨?_, List.mem_append.mpr (.inl I.st), fun m hm => ?_, fun m hm => ?_, fun m hm => ?_, fun m j e => ?_⟩
  · refine List.nodup_append.mpr ⟨I.nd, by simp, fun a ha b hb => ?_⟩
    rw [List.mem_singleton] at hb
    subst hb
    intro e
    subst e
    exact hz ha
  · rcases List.mem_append.mp hm with hm | hm
    · exact I.rc m hm
    · rw [List.mem_singleton] at hm
      subst hm
      exact (I.rc y py).step (List.mem_of_getElem? hv)
  · rcases List.mem_append.mp hm with hm | hm
    · exact List.mem_append.mpr (.inl (I.sub m hm))
    · exact List.mem_append.mpr (.inr hm)
  · rcases List.mem_append.mp hm with hm | hm
    · rcases I.cl m hm with h1 | ⟨j, h1⟩ | h1
      · exact .inl (List.mem_append.mpr (.inl h1))
      · cases h1
        exact .inr (.inl ⟨_, rfl⟩)
      · exact .inr (.inr fun z hz => List.mem_append.mpr (.inl (h1 z hz)))
    · exact .inl (List.mem_append.mpr (.inr hm))
  · cases e
    refine ⟨List.mem_append.mpr (.inl py), fun u hu => ?_⟩
    rw [take_succ hv] at hu
    rcases List.mem_append.mp hu with hu | hu
    · exact List.mem_append.mpr (.inl (pp u hu))
    · rw [List.mem_singleton] at hu
      cases hu
      exact List.mem_append.mpr (.inr (by simp))
theorem MetI.done {h : House} {x : Nat} {ms ws : List Nat} {y i : Nat} (I : MetI h x ms ws (some (y, i))) (hi : (row h y).length ≤ i) : MetI h x ms ws none := by
  refine ⟨I.nd, I.st, I.rc, I.sub, fun m hm => ?_, fun m j e => by cases e⟩
  rcases I.cl m hm with h1 | ⟨j, h1⟩ | h1
  · exact .inl h1
  · cases h1
    obtain ⟨_, pp⟩ := I.part y i rfl
    rw [List.take_of_length_le hi] at pp
    exact .inr (.inr pp)
  · exact .inr (.inr h1)
theorem MetI.fin {h : House} {x : Nat} {ms : List Nat} (I : MetI h x ms [] none) : ∀ y, Rch h x y → y ∈ ms := by
  intro y r
  induction r with
  | refl => exact I.st
  | step _ m ih =>
    rcases I.cl _ ih with h1 | ⟨i, h1⟩ | h1
    · cases h1
    · cases h1
    · exact h1 _ m
def kvM (ms : List Nat) : List (Key × V) := ms.map fun (m : Nat) => ((Sum.inl (m : Int) : Key), V.bl true)
theorem kvM_val (ms : List Nat) (z : Nat) : (valV (kvM ms) (Sum.inl (z : Int))).isSome = decide (z ∈ ms) := by
  induction ms with
  | nil => simp [kvM, valV]
  | cons m ms ih =>
    unfold kvM
    rw [List.map_cons]
    by_cases e : m = z
    · subst e
      rw [valV_pos rfl]
      simp
    · rw [valV_neg (by intro q; cases q; exact e (by omega))]
      show (valV (kvM ms) _).isSome = _
      rw [ih]
      have : (z ∈ m :: ms) ↔ z ∈ ms := by
        rw [List.mem_cons]
        exact ⟨fun h => h.resolve_left fun q => e q.symm, .inr⟩
      exact decide_eq_decide.mpr this.symm
theorem kvM_put {ms : List Nat} {z : Nat} (hz : z ∉ ms) : putK (kvM ms) (Sum.inl (z : Int)) (.bl true) = kvM (ms ++ [z]) := by
  have h1 : valV (kvM ms) (Sum.inl (z : Int)) = none := by
    have := kvM_val ms z
    rw [decide_eq_false hz] at this
    exact Option.isSome_eq_false_iff.mp this |> Option.isNone_iff_eq_none.mp
  rw [putK_new _ h1]
  unfold kvM
  rw [List.map_append]
  rfl
section
variable {P : Program} {w : World} {K : PySem.W.Frag} {mg : Str → Option Value} {base : Heap} {f : Addr} {fd : FuncData}
theorem dq_nats {K : PySem.W.Frag} {H : Hp} (f : Nat → V) (ns : List Nat) (hf : ∀ n, f n = .int (n : Int) := by intro _; rfl) : DqAll K H (ns.map f) (ns.map dN) := by
  induction ns with
  | nil => exact .nil
  | cons n ns ih => exact .cons (by rw [hf n]; exact .int _) ih
/-- the slots while halls are waiting -/
def JM (h : House) (x : Nat) (d p : Addr) (ρ : List Sl) : Prop := ∃ (ms ws : List Nat) (s4 : Sl), ρ = [.im (dH h), .im (dN x), .ob d (.dK (kvM ms)), .ml p (ws.map dN), s4] ∧ MetI h x ms ws none ∧ 2 * (h.length - ms.length) + ws.length ≤ 2 * h.length
def muM (h : House) : List Sl → Nat
  | [_, _, .ob _ (.dK kvs), .ml _ ds, _] => 2 * (h.length - kvs.length) + ds.length
  | _ => 0
def r_met_from (ds : List PyData) (z : List PyData) : Prop := ∃ (h : House) (x : Nat), GoodH h ∧ x < h.length ∧ ds = [dH h, dN x] ∧ z = (reachL h x).map dN
theorem sc_met_from : FnScope ["house", "hall", "met", "waiting", "way"] ["house", "hall"] (defScope s_met_from) := ⟨rfl, rfl, rfl, by decide +kernel, rfl, by decide +kernel, by decide +kernel⟩
theorem fd_met_from (L : Lnk K mg "met_from" s_met_from ["house", "hall"]) (T : Bts mg) : FnD P w K mg base 1 "met_from" (spL K 2 r_met_from) := L.fnD fun f fd F => by
  refine Fun.okL F sc_met_from rfl (by decide) fun cdv A outer s H Q E ds z σ hr rel hl q A0 => ?_
  obtain ⟨h, x, g, hx, rfl, rfl⟩ := rel
  have hu := hu_of hr
  -- met, waiting = ({hall: True}, [hall])
  refine go_cons (ps_par (i := 2) (j := 3) rfl sc_met_from.nd rfl rfl (by decide) rfl rfl (pa_cons (pe_disp (pps_cons (pe_var (i := 1) rfl (.inl rfl)) pe_bl pps_nil) rfl rfl (by simp) (by decide)) (pa_cons pe_any pa_nil)) (by rfl)) ?_
  intro d hd
  obtain ⟨v1, hv1, dv1⟩ := A0.dat (i := 1) rfl
  cases dv1
  refine ⟨_, hv1, ?_⟩
  refine ⟨upd_same, [(Sum.inl (x : Int), .bl true)], rfl, by simp, ?_⟩
  rw [upd_upd]
  have A1 : At K H (upd H d (.dK (kvM [x]))) σ _ [(.ref d, .ob d (.dK (kvM [x])))] := A0.addN (x := .ob d (.dK (kvM [x]))) hd (same_new hd) rfl ⟨rfl, hd, rfl, upd_same⟩
  refine EVL.use (ds := [dN x]) (el_lst (es_cons (ev_var (i := 1) rfl (.inl rfl) rfl) es_nil) (by simp)) A1.envD fun p vs H1 e0 e1 e2 dv => ?_
  refine ⟨_, _, rfl, ?_⟩
  have A2 := (A1.addN (x := .ml p [dN x]) e0 e1 rfl ⟨rfl, A1.same.free e0, rfl, vs, e2, dv⟩)
  have A3 := (At.take A2 3)
  have A4 := (At.take A3 2)
  rw [List.set_comm _ _ (by decide)] at A4
  refine go_while (Jv := JM h x d p) (muM h) A4 PassesOwn.never ⟨[x], [x], .no, rfl, MetI.start h x, by simp; omega⟩ ?_
  rintro ρ' σ' H' ⟨ms, ws, s4, rfl, I, hmz⟩ A'
  have hml : ms.length ≤ h.length := nodup_le I.nd fun m hm => (I.rc m hm).lt g hx
  refine ⟨_, et_cmp (ev_var (i := 3) rfl (.inl rfl) rfl) (EVL.ev (el_lst es_nil (by decide))) (oc_ne hr (sh_mapL (f := dN) (fun _ => sh_int _) ws) (by decide)) (nomark _), fun hb H2 A2 => ?_, fun hb H2 A2 => ?_⟩
  · -- for way in house[waiting.pop()]
    obtain ⟨ws, y, rfl⟩ : ∃ ws' y, ws = ws' ++ [y] := by
      rcases List.eq_nil_or_concat ws with e | ⟨l, b, e⟩
      · subst e
        rw [show PyData.list [] = .list (([] : List Nat).map dN) from rfl, eqv_mapL eqv_nat] at hb
        simp at hb
      · exact ⟨l, b, by simpa using e⟩
    have hy : y < h.length := (I.rc y (I.sub y (by simp))).lt g hx
    have hrow : h[y]? = some (row h y) := row_some hy
    refine go_forX (γ := []) (B := H) (ds := (row h y).map dW) (ρ1 := [.im (dH h), .im (dN x), .ob d (.dK (kvM ms)), .ml p (ws.map dN), s4]) (u := fun d ρ => ρ.set 4 (.im d))
      (Iv := fun i ρ => ∃ (ms' ws' : List Nat) (s4 : Sl), ρ = [.im (dH h), .im (dN x), .ob d (.dK (kvM ms')), .ml p (ws'.map dN), s4] ∧ MetI h x ms' ws' (some (y, i)) ∧ ms'.length ≤ h.length ∧ 2 * (h.length - ms'.length) + ws'.length ≤ 2 * (h.length - ms.length) + ws.length)
      (pe_ix ix_tup (pe_var (i := 0) rfl (.inl rfl)) (pe_bm0 PySem.F.plainAttrs_list PySem.F.slot_list_pop PySem.F.type_list_pop mt_pop (pe_var (i := 3) rfl (.inl rfl))) (by intro _ _; rfl)) ?_ PassesOwn.never rfl (noLs_map noL_W _) (pg_name (i := 4) sc_met_from.nd rfl (.inl rfl)) (fun d _ => ra_name 4 d) ⟨ms, ws, s4, rfl, I.pop, hml, Nat.le_refl _⟩ ?_ ?_
    · intro Q q
      obtain ⟨v0, s0, d0⟩ := A2.dat (i := 0) rfl
      obtain ⟨s3, ⟨vs, h3, dvs⟩, b3, n3⟩ := A2.lst (i := 3) rfl
      obtain ⟨vs, v9, rfl, dws, d9⟩ := dq_last (ds := ws.map dN) (d := dN y) (by simpa using dvs)
      cases d9
      refine ⟨v0, s0, _, s3, .inl ⟨rfl, _, .of h3⟩, p, _, V.int y, rfl, rfl, h3, by simp, ?_⟩
      rw [List.dropLast_concat]
      have A3 := A2.mut (i := 3) rfl dws (noLs_map (f := dN) (fun _ => rfl) ws)
      obtain ⟨v0', s0', d0'⟩ := A3.dat (i := 0) rfl
      rw [s0] at s0'
      cases s0'
      cases d0' with
      | tup hs ha =>
        obtain ⟨w9, h8, h9⟩ := atI_dq ha (atI_map (f := dR) hrow)
        exact ⟨_, _, _, w9, rfl, rfl, hs, h8, q _ _ A3 h9⟩
    · rintro γ' i dd ρ1 σ1 H1 hd ⟨ms', ws', s5, rfl, J, hm2, hmu⟩ A1
      obtain ⟨wy, hwy, rfl⟩ : ∃ wy, (row h y)[i]? = some wy ∧ dW wy = dd := by
        rw [List.getElem?_map] at hd
        exact Option.map_eq_some_iff.mp hd
      refine go_ifX (ρ1 := [.im (dH h), .im (dN x), .ob d (.dK (kvM ms')), .ml p (ws'.map dN), .im (dW wy)]) (γ := γ') (B := H) (R := fun b => b = true ↔ ∃ z, wy = .h z ∧ z ∉ ms')
        (PW.pt (pw_and (pt_not pt_any) (pw_and1 (pt_cmp (pc_dnotin hu (pe_var (i := 4) rfl (.inl rfl)) (pe_var (i := 2) rfl (.inl rfl))))))) ?_ ?_ ?_
      · intro Q q
        refine EVT.use (X := CxF P w K mg base _ _ s_met_from f cdv A outer s H E) (et_val (ev_isStr (ev_var (i := 4) rfl (.inl rfl) rfl) rfl T.isinstance rfl T.str)) A1.envD fun H3 e3 => ?_
        have A3 := A1.to e3
        cases wy with
        | x c =>
          refine iteF ?_
          exact q _ _ A3 (by simp)
        | h z =>
          refine iteT ?_
          obtain ⟨v4, s4', d4⟩ := A3.dat (i := 4) rfl
          cases d4
          obtain ⟨s2, h2, _⟩ := A3.obj (i := 2) rfl
          refine ⟨_, s4', _, s2, d, _, rfl, DGet.k (k := Sum.inl (z : Int)) h2, _, rfl, q _ _ A3 ?_⟩
          rw [kvM_val]
          simp
      · intro R H3 A3
        obtain ⟨z, rfl, hz⟩ := R.mp rfl
        refine go_cons (ps_dput hu (pe_var (i := 2) rfl (.inl rfl)) (pe_var (i := 4) rfl (.inl rfl)) pe_bl (by rfl)) ?_
        obtain ⟨v4, s4', d4⟩ := A3.dat (i := 4) rfl
        cases d4
        obtain ⟨s2, h2, _⟩ := A3.obj (i := 2) rfl
        refine ⟨_, s2, _, s4', d, _, rfl, DPut.k (k := Sum.inl (z : Int)) h2 ?_, ?_⟩
        · simp [kvM]
          exact Nat.lt_of_le_of_lt hm2 (Nat.lt_of_le_of_lt g.four (by decide))
        · rw [kvM_put hz]
          have A4 := A3.mutO (i := 2) (o' := .dK (kvM (ms' ++ [z]))) rfl rfl
          have J2 := J.add hwy hz
          have hml2 : (ms' ++ [z]).length ≤ h.length := nodup_le J2.nd fun m hm => (J2.rc m hm).lt g hx
          refine go_append A4 3 rfl rfl (.inl rfl) (ev_var (i := 4) rfl (.inl rfl) rfl) rfl ?_ fun H5 A5 => ?_
          · simp at hmz ⊢
            have := g.four
            omega
          · refine go_nil (go_nil ⟨_, ⟨ms' ++ [z], ws' ++ [z], .im (dW (.h z)), ?_, J2, hml2, ?_⟩, A5⟩)
            · simp [dW]
            · simp at hml2 ⊢
              omega
      · intro R H3 A3
        refine go_nil (go_nil ⟨_, ⟨ms', ws', _, rfl, J.skip hwy fun z e => ?_, hm2, hmu⟩, A3⟩)
        apply Classical.byContradiction
        intro hz
        exact absurd (R.mpr ⟨z, e, hz⟩) (by simp)
    · rintro ρ1 σ1 H1 ⟨ms', ws', s5, rfl, J, hm2, hmu⟩ A1
      refine go_nil ⟨_, ⟨⟨ms', ws', s5, rfl, J.done (by simp), by simp at hmz; omega⟩, ?_⟩, A1⟩
      simp [muM, kvM]
      omega
  · -- return sorted(met)
    have : ws = [] := by
      rw [show PyData.list [] = .list (([] : List Nat).map dN) from rfl, eqv_mapL eqv_nat] at hb
      simpa using hb
    subst this
    obtain ⟨s2, h2, b2⟩ := A2.obj (i := 2) rfl
    refine go_cons (ps_ret (pe_callB (call_sortedDI rfl) rfl T.sorted (by decide +kernel) (pa_cons (pe_var (i := 2) rfl (.inl rfl)) pa_nil))) ?_
    refine ⟨_, s2, d, kvM ms, ms.map fun (m : Nat) => (m : Int), rfl, .inl h2, by simp [kvM], by simp; have := g.four; omega, fun ys p' py ps hp' => ?_⟩
    have e : ys = (reachL h x).map fun (m : Nat) => (m : Int) := by
      have nz : (reachL h x).Nodup := (reachL_pw h x).imp fun h => by omega
      have p2 : ys.Perm ((reachL h x).map fun (m : Nat) => (m : Int)) := py.trans ((perm_of_mem I.nd nz fun k => ⟨fun hk => mem_reachL.mpr ⟨(I.rc k hk).lt g hx, I.rc k hk⟩, fun hk => I.fin k (mem_reachL.mp hk).2⟩).map _)
      refine PySem.W.ksm_same p2 ps ?_
      rw [List.pairwise_map]
      exact (reachL_pw h x).imp fun h => by omega
    subst e
    have hp0 : H p' = none := A2.same.free hp'
    exact q _ _ ⟨p', _, rfl, hp0, A2.same.trans (same_new hp'), upd_same, by rw [List.map_map]; exact dq_nats _ _⟩
end
end TK

namespace TK
open PySem L2 TH PyProof.Rows
section
variable {P : Program} {w : World} {K : PySem.W.Frag} {mg : Str → Option Value} {base : Heap} {f : Addr} {fd : FuncData}
/-! ### reached, has_exit, is_safe, safe_halls -/
def r_reached (ds : List PyData) (z : PyData) : Prop := ∃ (h : House) (x : Nat), GoodH h ∧ x < h.length ∧ ds = [dH h, dN x] ∧ z = .tuple ((reachL h x).map dN)
def r_has_exit (ds : List PyData) (z : PyData) : Prop := ∃ (h : House) (x : Nat), GoodH h ∧ x < h.length ∧ ds = [dH h, dN x] ∧ z = .bool (hasExB h x)
theorem sc_has_exit : FnScope ["house", "hall", "other", "way"] ["house", "hall"] (defScope s_has_exit) := ⟨rfl, rfl, rfl, by decide +kernel, rfl, by decide +kernel, by decide +kernel⟩
theorem rows2_bool {α β : Type} (ns : List α) (es : α → List β) (b : α → β → Bool) : rows2 ns es (fun _ _ => true) (fun a c => .bool (b a c)) = (ns.flatMap fun a => (es a).map (b a)).map PyData.bool := by
  unfold rows2
  rw [List.map_flatMap]
  congr 1
  funext a
  rw [List.filter_eq_self.mpr (fun _ _ => rfl), List.map_map]
  rfl
theorem hasEx_eq (h : House) (x : Nat) (g : GoodH h) (hx : x < h.length) : (((reachL h x).flatMap fun y => (row h y).map isX).any fun q => q) = hasExB h x := by
  rw [Bool.eq_iff_iff, hasExB_iff, List.any_eq_true]
  constructor
  · rintro ⟨b, hb, hq⟩
    obtain ⟨y, hy, hb⟩ := List.mem_flatMap.mp hb
    obtain ⟨v, hv, rfl⟩ := List.mem_map.mp hb
    cases v with
    | h n => cases hq
    | x c => exact ⟨y, (mem_reachL.mp hy).2, c, hv⟩
  · rintro ⟨y, r, c, hc⟩
    exact ⟨true, List.mem_flatMap.mpr ⟨y, mem_reachL.mpr ⟨r.lt g hx, r⟩, List.mem_map.mpr ⟨_, hc, rfl⟩⟩, rfl⟩
theorem fd_has_exit (L : Lnk K mg "has_exit" s_has_exit ["house", "hall"]) (T : Bts mg) (F3 : FnD P w K mg base 1 "met_from" (spL K 2 r_met_from)) : FnD P w K mg base 2 "has_exit" (spR K 2 r_has_exit) := L.fnD fun f fd F => by
  refine Fun.okD F sc_has_exit rfl (by decide) fun cdv A outer s H Q E ds z σ hr rel hl q A0 => ?_
  obtain ⟨h, x, g, hx, rfl, rfl⟩ := rel
  refine go_ret A0 (EV.cast (ev_callB (ca_any rfl) rfl T.any (by decide +kernel) (es_cons (EVL.ev (EVL.cast (el_lc2T (n := 4) (m := 3) (ns := reachL h x) (enc := dN) (dec := natOf) (enc1 := dW) (dec1 := wayOf) (es := fun y => row h y) (pt1 := fun _ v => true) (f2 := fun _ v => .bool (isX v)) (rb := [some (dH h), some (dN x), none, none]) (u := fun d r => r.set 2 (some d)) (u1 := fun d r => r.set 3 (some d)) (own := [("other", 2), ("way", 3)]) (vs1 := [3]) (sl := [2]) (sl1 := [3]) (fun _ _ => natOf_d _) (fun _ _ _ _ => wayOf_d _) rfl sc_has_exit.nd (it_list (EVL.ev (el_call F3 (hr.mono (by decide)) rfl (es_cons (ev_var (i := 0) rfl (.inr (.inl rfl)) rfl) (es_cons (ev_var (i := 1) rfl (.inl rfl) rfl) es_nil)) rfl ⟨h, x, g, hx, rfl, rfl⟩))) (blkOk_by (N := ["house", "hall", "other", "way"]) (sc := defScope s_has_exit) (by decide +kernel)) (by decide) (fun _ _ _ _ _ => (pg_name (i := 2) sc_has_exit.nd rfl (.inl rfl))) (fun _ _ _ _ _ => (pg_name (i := 3) sc_has_exit.nd rfl (.inl rfl)))
    (Sub.refl _) (fun d _ => rg_name 2 _) (by decide) (fun d _ e _ => rg_name 3 _) (by decide) ?_ (fun y hy _ _ _ _ _ => (it_tup (ev_ix (ev_var (i := 0) rfl (.inr (.inl rfl)) rfl) (ev_var (i := 2) rfl (.inl rfl) rfl) (ix_T (atI_map (f := dR) (row_some (mem_reachL.mp hy).1)))) (noLs_map noL_W _))) (fun d hd e he _ _ _ _ _ => ets_nil) (fun d hd e he hq _ _ _ _ _ => EV.cast (ev_isStr (ev_var (i := 3) rfl (.inl rfl) rfl) rfl T.isinstance rfl T.str) (by rw [isStr_dW])) (fun _ _ v _ _ => rfl) (fun y hy => (g.rows _ (row_mem (mem_reachL.mp hy).1)).2) (Nat.le_trans (reachL_len h x) g.four) (by decide) (by decide)) (rows2_bool _ _ _))) es_nil)) (by rw [hasEx_eq h x g hx])) q
  intro y hy
  show (noL (dH h) && (noL (dN x) && (true && (true && true)))) = true
  rw [noL_H]
  rfl
def r_is_safe (ds : List PyData) (z : PyData) : Prop := ∃ (h : House) (x : Nat), GoodH h ∧ x < h.length ∧ ds = [dH h, dN x] ∧ z = .bool (safeB h x)
theorem sc_is_safe : FnScope ["house", "hall", "other"] ["house", "hall"] (defScope s_is_safe) := ⟨rfl, rfl, rfl, by decide +kernel, rfl, by decide +kernel, by decide +kernel⟩
theorem safe_eq (h : House) (x : Nat) (g : GoodH h) (hx : x < h.length) : (((reachL h x).map fun y => hasExB h y).all fun q => q) = safeB h x := by
  rw [Bool.eq_iff_iff, safeB_iff, List.all_eq_true]
  constructor
  · intro q y r
    exact hasExB_iff.mp (q _ (List.mem_map.mpr ⟨y, mem_reachL.mpr ⟨r.lt g hx, r⟩, rfl⟩))
  · intro q b hb
    obtain ⟨y, hy, rfl⟩ := List.mem_map.mp hb
    exact hasExB_iff.mpr (q y (mem_reachL.mp hy).2)
theorem fd_is_safe (L : Lnk K mg "is_safe" s_is_safe ["house", "hall"]) (T : Bts mg) (F3 : FnD P w K mg base 1 "met_from" (spL K 2 r_met_from)) (F4 : FnD P w K mg base 2 "has_exit" (spR K 2 r_has_exit)) : FnD P w K mg base 3 "is_safe" (spR K 2 r_is_safe) := L.fnD fun f fd F => by
  refine Fun.okD F sc_is_safe rfl (by decide) fun cdv A outer s H Q E ds z σ hr rel hl q A0 => ?_
  obtain ⟨h, x, g, hx, rfl, rfl⟩ := rel
  exact go_ret A0 (EV.cast (ev_callB (ca_all rfl) rfl T.all (by decide +kernel) (es_cons (EVL.ev (EVL.cast (el_mapT (ns := reachL h x) (enc := dN) (dec := natOf) (own := [("other", 2)]) (u := fun d r => r.set 2 (some d)) (sl := [2]) (f := fun y => .bool (hasExB h y)) (fun _ _ => natOf_d _) rfl sc_is_safe.nd (it_list (EVL.ev (el_call F3 (hr.mono (by decide)) rfl (es_cons (ev_var (i := 0) rfl (.inr (.inl rfl)) rfl) (es_cons (ev_var (i := 1) rfl (.inl rfl) rfl) es_nil)) rfl ⟨h, x, g, hx, rfl, rfl⟩))) (blkOk_by (N := ["house", "hall", "other"]) (sc := defScope s_is_safe) (by decide +kernel)) (fun _ _ _ _ _ => (pg_name (i := 2) sc_is_safe.nd rfl (.inl rfl))) (fun d _ => rg_name 2 _) (by decide) (fun d hd _ _ _ _ _ => (ev_call F4 (hr.mono (by decide)) rfl (es_cons (ev_var (i := 0) rfl (.inr (.inl rfl)) rfl) (es_cons (ev_var (i := 2) rfl (.inl rfl) rfl) es_nil)) rfl ⟨h, d, g, (mem_reachL.mp hd).1, rfl, rfl⟩)) (fun _ _ => rfl) (Nat.le_trans (reachL_len h x) (Nat.le_trans g.four (by decide)))) (List.map_map (f := fun y => hasExB h y) (g := PyData.bool)).symm)) es_nil)) (by rw [safe_eq h x g hx])) q
def r_safe_halls (ds : List PyData) (z : PyData) : Prop := ∃ (h : House), GoodH h ∧ ds = [dH h] ∧ z = .tuple ((safeL h).map dN)
end
end TK

namespace TH
open PySem L2 PyProof.Rows
section
variable {X : Cx} {i n k c : Nat} {e : Expr} {ρ : List Sl} {B H : Hp} {σ : L2.St} {γ : List (V × Sl)} {t : Addr} {ds : List PyData} {d : PyData} {pos : Pos} {rest : List Stmt} {D : Ends}
theorem go_retT (A : At X.K B H σ ρ γ) (hi : ρ[i]? = some (.ml t ds)) (h : EV X e (ρ.map view) d) (q : ∀ v H' ws, Same B H' → H' t = some (.lst ws) → DqAll X.K H' ws ds → Dq X.K H' v d → D.rt v H') : GO X (.Return (some e) pos :: rest) D σ H :=
  go_cons (ps_ret pe_any) (h.use A.envD fun v H' e1 dv => by
    obtain ⟨_, ⟨ws, h1, h2⟩, _⟩ := (A.to e1).lst hi
    exact q v H' ws (A.same.trans e1) h1 h2 dv)
end
theorem ixN_lt {n j : Nat} (h : j < n) : ixN n (j : Int) = some j := by
  unfold ixN
  rw [if_pos (by omega), if_pos (by omega)]
  simp
theorem lg_le {a : Nat} (h : a ≤ 2 ^ 60) : -(2 ^ 64) < (a : Int) ∧ (a : Int) < 2 ^ 64 := by
  constructor <;> omega
end TH
namespace TK
open PySem L2 TH PyProof.Rows
section
variable {P : Program} {w : World} {K : PySem.W.Frag} {mg : Str → Option Value} {base : Heap} {f : Addr} {fd : FuncData}
/-! ### the town and draws -/
def sp_town (K : PySem.W.Frag) : Sp := fun vs H Q _ => ∃ (a : Addr) (ss : List Int), vs = [.ref a] ∧ ss.length ≤ 63 ∧ SqL K H a (ss.map V.int) ∧ ∀ v H', QL K H (.int 0 :: ss.map .int) v H' → Q v H'
theorem sc__law_town : FnScope ["script"] ["script"] (defScope s__law_town) := ⟨rfl, rfl, rfl, by decide +kernel, rfl, by decide +kernel, by decide +kernel⟩
theorem startS {H : Hp} {a : Addr} {ss : List Int} (n : Nat) (h : SqL K H a (ss.map V.int)) : At K H H (some (.ref a) :: List.replicate n none) (.sc a ss :: List.replicate n .no) [] := by
  refine ⟨Same.refl H, by simp, fun j x q => ?_, (fun g hg => nomatch hg), ?_⟩
  · cases j with
    | zero =>
      cases q
      exact .inr ⟨.ref a, rfl, rfl, h⟩
    | succ j =>
      have := List.mem_of_getElem? (by simpa using q : (List.replicate n Sl.no)[j]? = some x)
      exact .inl (List.eq_of_mem_replicate this)
  · have : (List.replicate n Sl.no).filterMap Sl.adr = [] := by
      rw [List.filterMap_eq_nil_iff]
      intro x hx
      rw [List.eq_of_mem_replicate hx]
      rfl
    rw [List.filterMap_cons_none rfl, this]
    exact List.nodup_nil
theorem fd__law_town (L : Lnk K mg "_law_town" s__law_town ["script"]) (T : Bts mg) : FnD P w K mg base 1 "_law_town" (sp_town K) := L.fnD fun f fd F => by
  refine Fun.okG F sc__law_town (fun vs H Q E ⟨_, _, h, _⟩ => by rw [h]; rfl) ?_
  rintro cdv A outer s H vs Q E hr ⟨a, ss, rfl, hs, hS, q⟩
  have A0 := startS 0 hS
  refine go_cons (ps_ret pe_any) (evlh_bin (X := CxF P w K mg base ["script"] "_law_town" s__law_town f cdv A outer s H E) (d := .list [.int 0]) (y := .list (ss.map .int)) (zs := .int 0 :: ss.map .int) (EV.h (EVL.ev (el_lst (es_cons ev_int es_nil) (by decide))) A0.envD) (fun H1 e1 => EVLH.h (evl_listS (A0.to e1) (i := 0) rfl rfl (.inl rfl) rfl T.list)) (ol_cat (by simp; omega)) _ q)
theorem evl_town {X : Cx} {σ : L2.St} {B H : Hp} {ρ : List Sl} {γ : List (V × Sl)} {p pn pos : Pos} {x : Str} {a : Addr} {ss : List Int} {i : Nat} (F : FnD X.prog X.w X.K X.mg X.base 1 "_law_town" (sp_town X.K)) (hr : Room 1 X.A) (hg : Gl X "_law_town") (A : At X.K B H σ ρ γ) (hi : ρ[i]? = some (.sc a ss)) (h63 : ss.length ≤ 63) (hN : X.N[i]? = some x) (hv : Vis X.env.scope x)
    (he : starEach [.Name x pn] X.env = (false, eval (.Name x pn) X.env) :: starEach [] X.env := by rfl) (hpl : (backTo pos (starEach [] X.env)).any (·.1) = false := by rfl) (hd : (x == ("__debug__" : Str)) = false := by decide) (hcd : (x == ("__classdict__" : Str)) = false := by decide) : EVLH X (.Call (.Name "_law_town" p) [.Name x pn] [] pos) σ H (.int 0 :: ss.map .int) := fun Q q => by
  obtain ⟨ff, fd, ps, g1, g2, g3, g4⟩ := F.ex
  obtain ⟨h1, h2⟩ := A.scr hi
  exact rd_of (pe_call g4 hr hg g1 g2 g3 .nil pass0 (pa_cons (pe_var hN hv hd hcd) pa_nil he) (by decide) he hpl) ⟨_, h1, a, ss, rfl, h63, h2, q⟩
def pr_draw (d : PyData) : Prop := ∃ m : Nat, 0 < m ∧ m < 1073741824 ∧ d = dN m
def r_draw (d z : PyData) : Prop := ∃ m k : Nat, d = dN m ∧ k < m ∧ z = dN k
theorem sc__law_draw : FnScope ["script", "town", "limit", "at", "left", "number"] ["script", "town", "limit"] (defScope s__law_draw) := ⟨rfl, rfl, rfl, by decide +kernel, rfl, by decide +kernel, by decide +kernel⟩
theorem r_mod {m : Nat} (hm : 0 < m) (i : Int) : r_draw (dN m) (.int (i % (m : Int))) := by
  have h1 := Int.emod_nonneg i (show (m : Int) ≠ 0 by omega)
  have h2 := Int.emod_lt_of_pos i (show (0 : Int) < (m : Int) by omega)
  exact ⟨m, (i % (m : Int)).toNat, rfl, by omega, by show _ = PyData.int _; rw [Int.toNat_of_nonneg h1]⟩
theorem fd__law_draw (L : Lnk K mg "_law_draw" s__law_draw ["script", "town", "limit"]) (T : Bts mg) : FnD P w K mg base 1 "_law_draw" (spT K 1 pr_draw r_draw) := L.fnD fun f fd F => by
  refine Fun.okG F sc__law_draw (fun vs H Q E ⟨_, _, _, _, _, _, _, _, _, h, _⟩ => by rw [h]; rfl) ?_
  rintro cdv A outer s H vs Q E hr ⟨n, c, sa, t, v, ss, d, ws, ds, rfl, hc, h63, hs, hsv, hv, ⟨m, hm0, hm1, rfl⟩, ht, hws, ⟨a, ns, ha, hns, rfl⟩, q⟩
  have A0 := At.startT (n := 6) (by decide) hsv ht hws (Tw.noL ⟨a, ns, ha, hns, rfl⟩) hv
  have ret : ∀ (v' : V) (H' : Hp) (ws' : List V) (b : Nat) (ns' : List Int) (z : Int), b ≤ c + 1 → ns'.length = n → Same (wo H t) H' → H' t = some (.lst ws') → DqAll K H' ws' (.int b :: ns'.map .int) → Dq K H' v' (.int (z % (m : Int))) → Q v' H' := fun v' H' ws' b ns' z h1 h2 h3 h4 h5 h6 => q v' H' ws' _ _ h3 h4 h5 ⟨b, ns', h1, h2, rfl⟩ h6 rfl (r_mod hm0 z)
  -- town[0] = town[0] + 1
  refine go_setIx A0 1 rfl rfl (.inl rfl) (ev_bin (ev_ix (ev_var (i := 1) rfl (.inl rfl) rfl) ev_int (ix_L (i := 0) (z := .int a) (atI_nat (j := 0) rfl))) ev_int od_add) rfl ev_int (k := 0) (j := 0) (ixN_lt (j := 0) (by simp)) fun H1 A1 => ?_
  replace A1 : At K (wo H t) H1 _ [.sc sa ss, .ml t (.int ((a + 1 : Nat) : Int) :: ns.map .int), .im (dN m), .no, .no, .no] [] := A1
  have ha1 : a + 1 ≤ 2 ^ 60 := by omega
  refine go_ifH A1 (eth_eqS hr A1 (i := 0) rfl rfl (.inl rfl) (fun H2 e2 => EV.h (EVL.ev (el_lst es_nil (by decide))) (A1.to e2).envD) (nomark _)) (fun hb H2 A2 => ?_) (fun hb H2 A2 => ?_)
  · exact go_retT A2 (i := 1) rfl (ev_bin (ev_bin (ev_bin (ev_bin (ev_ix (ev_var (i := 1) rfl (.inl rfl) rfl) ev_int (ix_L (i := 0) (atI_nat (j := 0) rfl))) (ev_ix (ev_var (i := 1) rfl (.inl rfl) rfl) ev_int (ix_L (i := 0) (atI_nat (j := 0) rfl))) (od_mul (.inl (lg_le ha1)))) ev_int (od_mul (.inr (by decide)))) ev_int (od_fdiv ⟨by decide, by decide⟩)) (ev_var (i := 2) rfl (.inl rfl) rfl) (od_mod (by omega))) fun v' H' ws' h1 h2 h3 h4 => ret v' H' ws' _ ns _ (by omega) hns h1 h2 h3 h4
  refine go_nil ?_
  have hss : 0 < ss.length := List.length_pos_iff.mpr (by simpa using hb)
  -- at = town[0] % len(script)
  obtain ⟨at', hat, eat⟩ : ∃ at' : Nat, at' < ss.length ∧ ((a + 1 : Nat) : Int) % (ss.length : Int) = (at' : Int) := ⟨(a + 1) % ss.length, Nat.mod_lt _ hss, by omega⟩
  obtain ⟨lf, hlf⟩ : ∃ lf : Int, ns[at']? = some lf := ⟨_, List.getElem?_eq_getElem (by omega)⟩
  obtain ⟨sc, hsc⟩ : ∃ sc : Int, ss[at']? = some sc := ⟨_, List.getElem?_eq_getElem hat⟩
  refine go_setH A2 3 sc__law_draw.nd rfl (.inl rfl) (d := dN at') (EVH.cast (evh_bin (EV.h (ev_ix (ev_var (i := 1) rfl (.inl rfl) rfl) ev_int (ix_L (i := 0) (atI_nat (j := 0) rfl))) A2.envD) (fun H3 e3 => evh_lenS (A2.to e3) (i := 0) rfl rfl (.inl rfl) rfl T.len) (od_mod (by omega))) (by rw [eat])) rfl fun p3 H3 A3 => ?_
  -- left = town[1 + at]
  refine go_set A3 4 sc__law_draw.nd rfl (.inl rfl) (d := .int lf) (ev_ix (ev_var (i := 1) rfl (.inl rfl) rfl) (EV.cast (d' := dN (1 + at')) (ev_bin ev_int (ev_var (i := 3) rfl (.inl rfl) rfl) od_add) (by show PyData.int _ = PyData.int _; congr 1)) (ix_L (atI_nat (by rw [Nat.add_comm 1 at', List.getElem?_cons_succ, List.getElem?_map, hlf]; rfl)))) rfl fun p4 H4 A4 => ?_
  refine go_ifH A4 (eth_and (m := decide (0 < lf)) (eth_cmp (evh_ixS A4 (i := 0) rfl rfl (.inl rfl) (EV.h (ev_var (i := 3) rfl (.inl rfl) rfl) A4.envD) hsc) (fun H5 e5 => EV.h (ev_bin ev_int ev_int (od_pow ⟨by decide, by decide, by decide⟩)) (A4.to e5).envD) oc_ge (nomark _)) fun _ H5 e5 wh Q5 q5 pins s5 I5 => EVW.use (ew_and1 (et_cmp (ev_var (i := 4) rfl (.inl rfl) rfl) ev_int oc_gt (nomark _))) (A4.to e5).envD q5 wh pins s5 I5) (fun hb5 H5 A5 => ?_) (fun hb5 H5 A5 => ?_)
  · -- town[1 + at] = left // limit
    refine go_setIx A5 1 rfl rfl (.inl rfl) (ev_bin (ev_var (i := 4) rfl (.inl rfl) rfl) (ev_var (i := 2) rfl (.inl rfl) rfl) (od_fdiv ⟨by omega, by omega⟩)) rfl (k := ((1 + at' : Nat) : Int)) (j := 1 + at') (EV.cast (ev_bin ev_int (ev_var (i := 3) rfl (.inl rfl) rfl) od_add) (by show PyData.int _ = PyData.int _; congr 1)) (ixN_lt (by simp; omega)) fun H6 A6 => ?_
    refine go_retT A6 (i := 1) rfl (ev_bin (ev_var (i := 4) rfl (.inl rfl) rfl) (ev_var (i := 2) rfl (.inl rfl) rfl) (od_mod (by omega))) fun v' H' ws' h1 h2 h3 h4 => ret v' H' ws' (a + 1) (ns.set at' (lf / m)) _ (by omega) (by simp [hns]) h1 h2 ?_ h4
    have e : (PyData.int ((a + 1 : Nat) : Int) :: ns.map PyData.int).set (1 + at') (.int (lf / m)) = PyData.int ((a + 1 : Nat) : Int) :: (ns.set at' (lf / m)).map PyData.int := by
      rw [Nat.add_comm 1 at', List.set_cons_succ, List.map_set]
    rw [← e]
    exact h3
  refine go_nil ?_
  have hp : ∀ (x : Int) (b : Int), 0 < b → b < 4294967296 → (x % b).natAbs < 2 ^ 64 := fun x b h1 h2 => by
    have := Int.emod_nonneg x (show b ≠ 0 by omega)
    have := Int.emod_lt_of_pos x h1
    omega
  refine go_setH A5 5 sc__law_draw.nd rfl (.inl rfl) (evh_bin (evh_bin (evh_ixS A5 (i := 0) rfl rfl (.inl rfl) (EV.h (ev_var (i := 3) rfl (.inl rfl) rfl) A5.envD) hsc) (fun H6 e6 => EV.h (ev_bin ev_int (ev_ix (ev_var (i := 1) rfl (.inl rfl) rfl) ev_int (ix_L (i := 0) (atI_nat (j := 0) rfl))) (od_mul (.inl (by decide)))) (A5.to e6).envD) od_add) (fun H6 e6 => EV.h ev_int (A5.to e6).envD) (od_mod (by decide))) rfl fun p6 H6 A6 => ?_
  refine go_set A6 5 sc__law_draw.nd rfl (.inl rfl) (ev_bin (ev_bin (ev_var (i := 5) rfl (.inl rfl) rfl) ev_int (od_pow ⟨by decide, by decide, hp _ _ (by decide) (by decide)⟩)) ev_int (od_mod (by decide))) rfl fun p7 H7 A7 => ?_
  exact go_retT A7 (i := 1) rfl (ev_bin (ev_bin (ev_bin (ev_bin (ev_bin (ev_bin (ev_var (i := 5) rfl (.inl rfl) rfl) ev_int (od_fdiv ⟨by decide, by decide⟩)) ev_int (od_mul (.inr (by decide)))) (ev_var (i := 5) rfl (.inl rfl) rfl) od_add) ev_int (od_mod (by decide))) ev_int (od_fdiv ⟨by decide, by decide⟩)) (ev_var (i := 2) rfl (.inl rfl) rfl) (od_mod (by omega))) fun v' H' ws' h1 h2 h3 h4 => ret v' H' ws' (a + 1) ns _ (by omega) hns h1 h2 h3 h4
def pr_pick (d : PyData) : Prop := ∃ es : List PyData, d = .list es ∧ es ≠ [] ∧ es.length ≤ 100000 ∧ noLs es = true
def r_pick (d z : PyData) : Prop := ∃ es : List PyData, d = .list es ∧ z ∈ es
theorem sc__law_pick : FnScope ["script", "town", "choices"] ["script", "town", "choices"] (defScope s__law_pick) := ⟨rfl, rfl, rfl, by decide +kernel, rfl, by decide +kernel, by decide +kernel⟩
theorem fd__law_pick (L : Lnk K mg "_law_pick" s__law_pick ["script", "town", "choices"]) (T : Bts mg) (F1 : FnD P w K mg base 1 "_law_draw" (spT K 1 pr_draw r_draw)) : FnD P w K mg base 2 "_law_pick" (spT K 1 pr_pick r_pick) := L.fnD fun f fd F => by
  refine Fun.okG F sc__law_pick (fun vs H Q E ⟨_, _, _, _, _, _, _, _, _, h, _⟩ => by rw [h]; rfl) ?_
  rintro cdv A outer s H vs Q E hr ⟨n, c, sa, t, v, ss, d, ws, ds, rfl, hc, h63, hs, hsv, hv, ⟨es, rfl, he, hl, hn⟩, ht, hws, tw, q⟩
  have A0 := At.startT (n := 3) (by decide) hsv ht hws tw.noL hv
  refine go_retX (n := n) (i := 1) (ρ := [.sc sa ss, .no, .im (.list es)]) A0 tw hc (ex_ixV (R := fun z => z ∈ es) (j := 2) rfl rfl (.inl rfl) (ex_callT (j := 0) F1 (hr.mono (by decide)) rfl (Nat.lt.step (Nat.lt.base 1)) rfl hs h63 (by decide) rfl (.inl rfl) rfl (.inl rfl) (ea_ev (d := dN es.length) (ev_callB ca_lenL rfl T.len (by decide +kernel) (es_cons (ev_var (i := 2) rfl (.inl rfl) rfl) es_nil)) rfl (Nat.lt.step (Nat.lt.base 1))) (fun d hd => ⟨es.length, List.length_pos_iff.mpr he, by omega, hd⟩)) ?_) ?_
  · rintro z ⟨d, rfl, m, k, hm, hk, rfl⟩
    have : m = es.length := by
      have := PyData.int.inj hm
      omega
    subst this
    exact ⟨es[k], ix_L (atI_nat (List.getElem?_eq_getElem hk)), noLs_iff.mp hn _ (List.getElem_mem hk), List.getElem_mem hk⟩
  · rintro v' y ds' H' ⟨z, rfl, hz⟩ tw' A'
    obtain ⟨_, ⟨ws', h1, h2⟩, _⟩ := A'.townAt (Nat.lt.step (Nat.lt.base 1))
    exact q v' H' ws' ds' z A'.same h1 h2 tw' A'.g0 (noLs_iff.mp hn z hz) ⟨es, rfl, hz⟩
end
end TK

namespace TH
open PySem L2 PyProof.Rows
/-! ### the text of a way -/
def wC : Way → Nat
  | .h n => 48 + n
  | .x .A => 65
  | .x .B => 66
  | .x .C => 67
theorem wC_str {n : Nat} (h : n < 4) : (toString (n : Int) : Str) = SX.S [wC (.h n)] := by
  match n, h with
  | 0, _ => decide +kernel
  | 1, _ => decide +kernel
  | 2, _ => decide +kernel
  | 3, _ => decide +kernel
theorem wC_ex (c : Ex) : exS c = SX.S [wC (.x c)] := by cases c <;> decide +kernel
theorem joinL_nil : ∀ l : List (List Nat), TL.joinL [] l = l.flatten
  | [] => rfl
  | [x] => by simp [TL.joinL]
  | x :: y :: l => by
    show x ++ ([] ++ TL.joinL [] (y :: l)) = _
    rw [joinL_nil (y :: l), List.nil_append]
    rfl
theorem join_flat (l : List (List Nat)) : Txt.join (SX.S []) (l.map SX.S) = SX.S l.flatten := by rw [SX.join_S, joinL_nil]
theorem ca_strW {X : Cx} {v : Way} {m : Nat} (h : ∀ n, v = .h n → n < 4) : CaD X (.type "str") [dW v] (.str (SX.S [wC v])) := by
  cases v with
  | h n =>
    have h4 := h n rfl
    rw [← wC_str h4]
    refine ca_strI ?_
    match n, h4 with
    | 0, _ => decide
    | 1, _ => decide
    | 2, _ => decide
    | 3, _ => decide
  | x c =>
    rw [← wC_ex c]
    exact ca_strS
def lwOf : PyData → List Way
  | .list l => l.map wayOf
  | _ => []
abbrev dLw (ws : List Way) : PyData := .list (ws.map dW)
theorem lwOf_d (ws : List Way) : lwOf (dLw ws) = ws := map_dec wayOf_d ws
theorem sum_ones {α : Type} {f : α → Nat} : ∀ {l : List α} {m : Nat}, (∀ a ∈ l, f a ≤ m) → (l.map f).sum ≤ l.length * m
  | [], _, _ => by simp
  | a :: l, m, h => by
    have h1 := h a List.mem_cons_self
    have h2 := sum_ones (l := l) (m := m) fun b hb => h b (List.mem_cons_of_mem _ hb)
    rw [List.map_cons, List.sum_cons, List.length_cons, Nat.succ_mul]
    omega
theorem S_len (l : List Nat) : (SX.S l).length = l.length := rfl
end TH
namespace TK
open PySem L2 TH PyProof.Rows
section
variable {P : Program} {w : World} {K : PySem.W.Frag} {mg : Str → Option Value} {base : Heap} {f : Addr} {fd : FuncData}
abbrev Rws := List (Addr × List Way)
def RwOk (size : Nat) (rows : Rws) : Prop := ∀ r ∈ rows, 1 ≤ r.2.length ∧ r.2.length ≤ 3 ∧ ∀ n, Way.h n ∈ r.2 → n < size
abbrev gW (rows : Rws) : List (V × Sl) := gRows (rows.map fun r => (r.1, r.2.map dW))
abbrev refs (rows : Rws) : List V := rows.map fun r => .ref r.1
abbrev hsl (sa : Addr) (ss : List Int) (t : Addr) (ds : List PyData) (m size : Nat) (p : Addr) (rows : Rws) (s5 s6 s7 s8 : Sl) : List Sl := [.sc sa ss, .ml t ds, .im (dN m), .im (dN size), .ob p (.lst (refs rows)), s5, s6, s7, s8, .no]
theorem sc__law_house : FnScope ["script", "town", "halls", "size", "found", "k", "row", "way", "letters", "sign"] ["script", "town", "halls"] (defScope s__law_house) := ⟨rfl, rfl, rfl, by decide +kernel, rfl, by decide +kernel, by decide +kernel⟩
abbrev lets (rows : Rws) : List Nat := (rows.map fun r => r.2.map wC).flatten
theorem lets_len {size : Nat} {rows : Rws} (ok : RwOk size rows) (hl : rows.length ≤ 4) : (lets rows).length ≤ 12 := by
  rw [List.length_flatten, List.map_map]
  have := sum_ones (f := List.length ∘ fun r : Addr × List Way => r.2.map wC) (m := 3) (l := rows) fun r hr => by
    show (r.2.map wC).length ≤ 3
    rw [List.length_map]
    exact (ok r hr).2.1
  omega
/-- what letters is -/
theorem ev_letters (T : Bts mg) {cdv : Value} {A : Around} {outer : List Env} {s : Shared} {H : Hp} {E : XK} {e : Expr} {a0 a1 a2 a3 a5 a6 a7 a8 a9 : Option PyData} {rows : Rws} {size : Nat} (ok : RwOk size rows) (h4 : size ≤ 4) (hl : rows.length ≤ 4) {pos py : Pos} {rest : List Stmt}
    (he : (defBody s__law_house).drop 4 = .Assign [.Name "letters" py] e pos :: rest) : EV (CxF P w K mg base ["script", "town", "halls", "size", "found", "k", "row", "way", "letters", "sign"] "_law_house" s__law_house f cdv A outer s H E) e [a0, a1, a2, a3, some (.list (rows.map fun r => .list (r.2.map dW))), a5, a6, a7, a8, a9] (.str (SX.S (lets rows))) := by
  cases he
  refine EV.cast (ev_join (z := SX.S []) (ys := (rows.map fun r => r.2.map wC).map SX.S) ev_str ?_ ?_) (by rw [join_flat])
  · refine EVL.ev (EVL.cast (el_mapT (ns := rows.map (·.2)) (enc := dLw) (dec := lwOf) (own := [("row", 6)]) (u := fun d r => r.set 6 (some d)) (sl := [6]) (f := fun ws => .str (SX.S (ws.map wC))) (fun _ _ => lwOf_d _) rfl sc__law_house.nd (it_list (EV.cast (ev_var (i := 4) rfl (.inl rfl) rfl) (by rw [List.map_map]; rfl))) (blkOk_by (N := ["script", "town", "halls", "size", "found", "k", "row", "way", "letters", "sign"]) (sc := defScope s__law_house) (by decide +kernel)) (fun _ _ _ _ _ => (pg_name (i := 6) sc__law_house.nd rfl (.inl rfl))) (fun d _ => rg_name 6 _) (by decide) (fun ws hws _ _ _ _ _ => ?_) (fun _ _ => rfl) (by rw [List.length_map]; omega)) (by rw [List.map_map, List.map_map, List.map_map]; rfl))
    obtain ⟨r, hr, rfl⟩ := List.mem_map.mp hws
    obtain ⟨o1, o2, o3⟩ := ok r hr
    refine EV.cast (ev_join (z := SX.S []) (ys := (r.2.map fun v => [wC v]).map SX.S) ev_str (EVL.ev (EVL.cast (el_mapT (ns := r.2) (enc := dW) (dec := wayOf) (own := [("way", 7)]) (u := fun d r => r.set 7 (some d)) (sl := [7]) (f := fun v => .str (SX.S [wC v])) (fun _ _ => wayOf_d _) rfl sc__law_house.nd (it_list (ev_var (i := 6) rfl (.inl rfl) rfl)) (blkOk_by (N := ["script", "town", "halls", "size", "found", "k", "row", "way", "letters", "sign"]) (sc := { kind := .function, names := [(".0", .local), ("row", .local)], isGenerator := false, isCoroutine := false }) (by decide +kernel)) (fun _ _ _ _ _ => (pg_name (i := 7) sc__law_house.nd rfl (.inl rfl))) (fun d _ => rg_name 7 _) (by decide) (fun v hv _ _ _ _ _ => ev_callTy (ca_strW (m := 0) fun n e => Nat.lt_of_lt_of_le (o3 n (e ▸ hv)) h4) rfl T.str (by decide +kernel) (es_cons (ev_var (i := 7) rfl (.inl rfl) rfl) es_nil)) (fun _ _ => rfl) (by omega)) (by rw [List.map_map, List.map_map]; rfl))) ?_) ?_
    · have := sum_ones (f := (·.length)) (m := 1) (l := (r.2.map fun v => [wC v]).map SX.S) fun a ha => by
        obtain ⟨b, hb, rfl⟩ := List.mem_map.mp ha
        obtain ⟨v, _, rfl⟩ := List.mem_map.mp hb
        exact Nat.le_refl _
      rw [show (SX.S []).length = 0 from rfl, Nat.mul_zero, Nat.add_zero]
      refine Nat.le_trans this ?_
      rw [List.length_map, List.length_map]
      omega
    · rw [join_flat]
      congr 2
      induction r.2 with
      | nil => rfl
      | cons v l ih => rw [List.map_cons, List.flatten_cons, ih]; rfl
  · have := sum_ones (f := (·.length)) (m := 3) (l := (rows.map fun r => r.2.map wC).map SX.S) fun a ha => by
      obtain ⟨b, hb, rfl⟩ := List.mem_map.mp ha
      obtain ⟨r, hr, rfl⟩ := List.mem_map.mp hb
      rw [S_len, List.length_map]
      exact (ok r hr).2.1
    rw [show (SX.S []).length = 0 from rfl, Nat.mul_zero, Nat.add_zero]
    refine Nat.le_trans this ?_
    rw [List.length_map, List.length_map]
    omega
def isAbc (c : Nat) : Bool := decide (c = 65) || (decide (c = 66) || decide (c = 67))
abbrev dC (c : Nat) : PyData := .str (SX.S [c])
def cOf : PyData → Nat
  | .str z => z.cps.toList.headD 0
  | _ => 0
theorem abc_eq (c : Nat) : ([PyData.str "A", .str "B", .str "C"].any fun y => PyData.eqv y (dC c)) = isAbc c := by
  have h : ∀ (z : Str) (k : Nat), z = SX.S [k] → PyData.eqv (.str z) (dC c) = decide (c = k) := fun z k e => by
    subst e
    rw [eqv_str]
    by_cases q : c = k
    · subst q
      simp
    · rw [decide_eq_false q, decide_eq_false]
      intro e
      have := congrArg (fun z : Str => z.cps.toList) e
      simp [SX.S] at this
      exact q this.symm
  simp only [List.any_cons, List.any_nil, Bool.or_false]
  rw [h "A" 65 (by decide +kernel), h "B" 66 (by decide +kernel), h "C" 67 (by decide +kernel)]
  rfl
theorem strOk_low {c : Nat} (h : c < 128) : PyData.strOk (SX.S [c]) = true := by
  revert c
  decide +kernel
theorem ok_lets {size : Nat} {rows : Rws} (ok : RwOk size rows) (h4 : size ≤ 4) {c : Nat} (h : c ∈ lets rows) : PyData.strOk (SX.S [c]) = true := by
  obtain ⟨l, hl, hc⟩ := List.mem_flatten.mp h
  obtain ⟨r, hr, rfl⟩ := List.mem_map.mp hl
  obtain ⟨v, hv, rfl⟩ := List.mem_map.mp hc
  refine strOk_low ?_
  cases v with
  | h n =>
    have := (ok r hr).2.2 n hv
    show 48 + n < 128
    omega
  | x c => cases c <;> decide
theorem lets_ex {size : Nat} {rows : Rws} (ok : RwOk size rows) (h4 : size ≤ 4) (h : (lets rows).filter isAbc ≠ []) : ∃ r ∈ rows, ∃ c, Way.x c ∈ r.2 := by
  obtain ⟨c, hc⟩ := List.exists_mem_of_ne_nil _ h
  obtain ⟨hc, ha⟩ := List.mem_filter.mp hc
  obtain ⟨l, hl, hc⟩ := List.mem_flatten.mp hc
  obtain ⟨r, hr, rfl⟩ := List.mem_map.mp hl
  obtain ⟨v, hv, rfl⟩ := List.mem_map.mp hc
  refine ⟨r, hr, ?_⟩
  cases v with
  | h n =>
    have := (ok r hr).2.2 n hv
    have e : isAbc (wC (.h n)) = false := by
      show (decide (48 + n = 65) || (decide (48 + n = 66) || decide (48 + n = 67))) = false
      rw [decide_eq_false (by omega), decide_eq_false (by omega), decide_eq_false (by omega)]
      rfl
    rw [e] at ha
    cases ha
  | x c => exact ⟨c, hv⟩
theorem rows_dq {B H : Hp} {σ : L2.St} {ρ : List Sl} {rows : Rws} (A : At K B H σ ρ (gW rows)) : DqAll K H (refs rows) (rows.map fun r => dLw r.2) := by
  have := At.rows (γ := []) (by rw [List.append_nil]; exact A)
  rw [List.map_map, List.map_map] at this
  exact this
/-- the end of _law_house -/
theorem house_tail (T : Bts mg) {cdv : Value} {A : Around} {outer : List Env} {s : Shared} {H0 B H : Hp} {E : XK} {σ : L2.St} {D : Ends} {ss : List Int} {sa t p : Addr} {ds : List PyData} {m size : Nat} {rows : Rws} {s5 s6 s7 s8 : Sl} (hr : Room 2 (A.deeper (envOfC "_law_house" (defScope s__law_house) s.heap.objs.size f cdv)))
    (A0 : At K B H σ (hsl sa ss t ds m size p rows s5 s6 s7 s8) (gW rows)) (ok : RwOk size rows) (hl : rows.length = size) (h1 : 1 ≤ size) (h4 : size ≤ 4) (q : ∀ v H' ws h, GoodH h → h.length = size → Same B H' → H' t = some (.lst ws) → DqAll K H' ws ds → Dq K H' v (dH h) → D.rt v H') :
    GO (CxF P w K mg base ["script", "town", "halls", "size", "found", "k", "row", "way", "letters", "sign"] "_law_house" s__law_house f cdv A outer s H0 E) ((defBody s__law_house).drop 4) D σ H := by
  obtain ⟨o1, o2, o3⟩ := A0.obj (i := 4) rfl
  have E0 := A0.envD.put (j := 4) o1 (.lst o2 (rows_dq A0))
  refine go_cons (ps_set (i := 8) sc__law_house.nd rfl (.inl rfl) pe_any (by rfl)) (EV.use (ev_letters T ok h4 (by omega) rfl) E0 fun v H1 e1 dv => ?_)
  have A1 := (A0.to e1).setI 8 dv rfl
  have fin : ∀ (σ : L2.St) (H : Hp) (rows : Rws) (s5 s6 s7 s8 : Sl), At K B H σ (hsl sa ss t ds m size p rows s5 s6 s7 s8) (gW rows) → RwOk size rows → rows.length = size → (∃ r ∈ rows, ∃ c, Way.x c ∈ r.2) → GO (CxF P w K mg base ["script", "town", "halls", "size", "found", "k", "row", "way", "letters", "sign"] "_law_house" s__law_house f cdv A outer s H0 E) ((defBody s__law_house).drop 6) D σ H := by
    intro σ H rows s5 s6 s7 s8 A0 ok hl hex
    obtain ⟨o1, o2, o3⟩ := A0.obj (i := 4) rfl
    have E0 := A0.envD.put (j := 4) o1 (.lst o2 (rows_dq A0))
    refine go_retE (d := dH (rows.map Prod.snd)) E0 (EV.cast (ev_callTy ca_tupleL rfl T.tuple (by decide +kernel) (es_cons (EVL.ev (el_mapT (ns := rows.map (·.2)) (enc := dLw) (dec := lwOf) (own := [("row", 6)]) (u := fun d r => r.set 6 (some d)) (sl := [6]) (f := dR) (fun _ _ => lwOf_d _) rfl sc__law_house.nd (it_list (EV.cast (ev_var (i := 4) rfl (.inl rfl) rfl) (by rw [List.map_map]; rfl))) (blkOk_by (N := ["script", "town", "halls", "size", "found", "k", "row", "way", "letters", "sign"]) (sc := defScope s__law_house) (by decide +kernel)) (fun _ _ _ _ _ => (pg_name (i := 6) sc__law_house.nd rfl (.inl rfl))) (fun d _ => rg_name 6 _) (by decide) (fun ws hws _ _ _ _ _ => (ev_callTy ca_tupleL rfl T.tuple (by decide +kernel) (es_cons (ev_var (i := 6) rfl (.inl rfl) rfl) es_nil))) (fun _ _ => noL_R _) (by rw [List.length_map]; omega))) es_nil)) rfl) fun v H2 e2 dv => ?_
    obtain ⟨_, ⟨ws, t1, t2⟩, _, _⟩ := (A0.to e2).lst (i := 1) rfl
    refine q v H2 ws (rows.map Prod.snd) ⟨by simp; omega, by simp; omega, fun r hr => ?_, fun r hr n hn => ?_, ?_⟩ (by simp [hl]) (A0.same.trans e2) t1 t2 dv
    · obtain ⟨x, hx, rfl⟩ := List.mem_map.mp hr
      exact ⟨(ok x hx).1, (ok x hx).2.1⟩
    · obtain ⟨x, hx, rfl⟩ := List.mem_map.mp hr
      rw [List.length_map, hl]
      exact (ok x hx).2.2 n hn
    · obtain ⟨r, hr, c, hc⟩ := hex
      exact ⟨r.2, List.mem_map.mpr ⟨r, hr, rfl⟩, c, hc⟩
  refine go_if A1 (et_cmp (EVL.ev (el_lcT (ns := lets rows) (enc := dC) (dec := cOf) (own := [("sign", 9)]) (u := fun d r => r.set 9 (some d)) (sl := [9]) (pt := isAbc) (f := dC) (fun _ _ => by rfl) rfl sc__law_house.nd (ITR.same (it_str (z := SX.S (lets rows)) (ev_var (i := 8) rfl (.inl rfl) rfl))) (blkOk_by (N := ["script", "town", "halls", "size", "found", "k", "row", "way", "letters", "sign"]) (sc := defScope s__law_house) (by decide +kernel)) (fun _ _ _ _ _ => (pg_name (i := 9) sc__law_house.nd rfl (.inl rfl))) (fun d _ => rg_name 9 _) (by decide) (fun d hd _ _ _ _ _ => ets_one (EVT.cast (et_cmp (ev_var (i := 9) rfl (.inl rfl) rfl) (ev_tup (es_cons ev_str (es_cons ev_str (es_cons ev_str es_nil))) (by decide)) (oc_inT hr ?sh1 (by decide +kernel)) (by rfl)) (abc_eq d))) (fun d hd hp _ _ _ _ _ => (ev_var (i := 9) rfl (.inl rfl) rfl)) (fun _ _ _ => rfl) (Nat.le_trans (lets_len ok (by omega)) (by decide)))) (EVL.ev (el_lst es_nil (by decide))) (oc_eq hr ?sh2 (by decide)) (nomark _)) (fun hb H1 A1 => ?_) (fun hb H1 A1 => ?_)
  case sh1 => exact (sh_str (ok_lets ok h4 hd)).shaped (by decide)
  case sh2 => exact (sh_lst (n := 0) fun d hd => by
    obtain ⟨c, hc, rfl⟩ := List.mem_map.mp hd
    exact sh_str (ok_lets ok h4 (List.mem_filter.mp hc).1)).shaped (by decide)
  · -- found[0][0] = 'A'
    obtain ⟨r0, rest, rfl⟩ : ∃ r0 rest, rows = r0 :: rest := by
      cases rows with
      | nil => simp at hl; omega
      | cons a b => exact ⟨a, b, rfl⟩
    obtain ⟨o1, o2, o3⟩ := A1.obj (i := 4) rfl
    have A2 : At K B H1 (σ.set 8 (some v)) (hsl sa ss t ds m size p (r0 :: rest) s5 s6 s7 (.im (.str (SX.S (lets (r0 :: rest)))))) ((.ref r0.1, .ml r0.1 (r0.2.map dW)) :: gW rest) := A1
    obtain ⟨g1, g2, g3, ws, g4, g5⟩ := A2.gh _ List.mem_cons_self
    obtain ⟨k1, k2, k3⟩ := ok r0 List.mem_cons_self
    refine go_cons (ps_asg pe_any (pg_sub (pe_ix ix_list (pe_var (i := 4) rfl (.inl rfl)) pe_any (by intro _ _; rfl)) pe_any set_list (by intro _; rfl)) (by rfl) (by rfl) (by rfl)) ?_
    refine EV.use (X := CxF P w K mg base _ _ s__law_house f cdv A outer s H0 E) ev_str A2.envD fun v1 H2 e2 d2 => ?_
    cases d2
    refine ⟨_, o1, EV.use (X := CxF P w K mg base _ _ s__law_house f cdv A outer s H0 E) ev_int (A2.to e2).envD fun v2 H3 e3 d3 => ?_⟩
    cases d3
    have e4 := e2.trans e3
    refine ⟨p, _, 0, .ref r0.1, rfl, rfl, .of (e4 _ _ o2), atI_nat (j := 0) rfl, EV.use (X := CxF P w K mg base _ _ s__law_house f cdv A outer s H0 E) ev_int (A2.to e4).envD fun v3 H4 e5 d4 => ?_⟩
    cases d4
    have e6 := e4.trans e5
    refine ⟨r0.1, ws, 0, 0, rfl, rfl, e6 _ _ g4, ixN_lt (j := 0) (by rw [g5.length, List.length_map]; omega), go_nil ?_⟩
    have A3 := (A2.to e6).mutH (es := (r0.2.set 0 (.x .A)).map dW) (ws := ws.set 0 (.str "A")) (by rw [List.map_set]; exact (dps_same e6 g5).set (.str _) 0) (noLs_map noL_W _)
    refine fin _ _ ((r0.1, r0.2.set 0 (.x .A)) :: rest) _ _ _ _ A3 (fun r hr => ?_) hl ⟨_, List.mem_cons_self, .A, ?_⟩
    · rcases List.mem_cons.mp hr with rfl | hr
      · refine ⟨by simpa using k1, by simpa using k2, fun n hn => ?_⟩
        rcases List.mem_or_eq_of_mem_set hn with h | h
        · exact k3 n h
        · cases h
      · exact ok r (List.mem_cons_of_mem _ hr)
    · exact List.mem_of_getElem? (List.getElem?_set_self (by omega))
  · refine go_nil (fin _ _ rows _ _ _ _ A1 ok hl (lets_ex ok h4 fun e => ?_))
    rw [e] at hb
    simp [PyData.eqv, PyData.eqvAll] at hb
end
end TK

namespace TK
open PySem L2 TH PyProof.Rows
section
variable {P : Program} {w : World} {K : PySem.W.Frag} {mg : Str → Option Value} {base : Heap} {f : Addr} {fd : FuncData}
def pr_house (d : PyData) : Prop := ∃ m : Nat, 1 ≤ m ∧ m ≤ 4 ∧ d = dN m
def r_house (d z : PyData) : Prop := ∃ (m : Nat) (h : House), d = dN m ∧ GoodH h ∧ h.length ≤ m ∧ z = dH h
theorem dN_inj {a b : Nat} (h : dN a = dN b) : a = b := by
  have := PyData.int.inj h
  omega
/-- a draw of m -/
theorem cr_draw {m : Nat} {z : PyData} (h : CR (IS (dN m)) r_draw z) : ∃ k, k < m ∧ z = dN k := by
  obtain ⟨d, e, m', k, h1, h2, h3⟩ := h
  have : m = m' := dN_inj ((Eq.symm e).trans h1)
  subst this
  exact ⟨k, h2, h3⟩
abbrev dChoices (size : Nat) : List PyData := (rgD size ++ rgD size) ++ [.str "A", .str "B", .str "C"]
theorem choice_way {size : Nat} {z : PyData} (h : z ∈ dChoices size) : ∃ v : Way, z = dW v ∧ ∀ n, v = .h n → n < size := by
  have hr : ∀ z ∈ rgD size, ∃ v : Way, z = dW v ∧ ∀ n, v = .h n → n < size := fun z hz => by
    obtain ⟨i, hi, rfl⟩ := List.mem_map.mp hz
    exact ⟨.h i, rfl, fun n e => by cases e; exact List.mem_range.mp hi⟩
  rcases List.mem_append.mp h with h | h
  · rcases List.mem_append.mp h with h | h
    · exact hr z h
    · exact hr z h
  · have he : ∀ c : Ex, ∃ v : Way, PyData.str (exS c) = dW v ∧ ∀ n, v = .h n → n < size := fun c => ⟨.x c, rfl, fun n e => by cases e⟩
    rcases List.mem_cons.mp h with rfl | h
    · exact he .A
    · rcases List.mem_cons.mp h with rfl | h
      · exact he .B
      · rw [List.mem_singleton] at h
        subst h
        exact he .C
theorem fd__law_house (L : Lnk K mg "_law_house" s__law_house ["script", "town", "halls"]) (T : Bts mg) (F1 : FnD P w K mg base 1 "_law_draw" (spT K 1 pr_draw r_draw)) (F2 : FnD P w K mg base 2 "_law_pick" (spT K 1 pr_pick r_pick)) : FnD P w K mg base 3 "_law_house" (spT K 40 pr_house r_house) := L.fnD fun f fd F => by
  refine Fun.okG F sc__law_house (fun vs H Q E ⟨_, _, _, _, _, _, _, _, _, h, _⟩ => by rw [h]; rfl) ?_
  rintro cdv A outer s H vs Q E hr ⟨n, c, sa, t, v, ss, d, ws, ds, rfl, hc, h63, hs, hsv, hv, ⟨m, hm1, hm4, rfl⟩, ht, hws, tw, q⟩
  have A0 := At.startT (n := 10) (by decide) hsv ht hws tw.noL hv
  have l2 : ∀ {a b c d e f g h i j : Sl}, 1 < [a, b, c, d, e, f, g, h, i, j].length := by intros; show 1 < 10; decide
  -- size = 1 + _law_draw(script, town, halls)
  refine go_setX (n := n) (i := 1) (ρ := [.sc sa ss, .no, .im (dN m), .no, .no, .no, .no, .no, .no, .no]) A0 tw (k := 1) (by omega) 3 sc__law_house.nd rfl (.inl rfl) (ex_bin (R := fun z => ∃ k : Nat, k < m ∧ z = dN (1 + k)) (ex_ev ev_int rfl) (ex_callT (j := 0) F1 (hr.mono (by decide)) rfl l2 rfl hs h63 (by decide) rfl (.inl rfl) rfl (.inl rfl) (ea_ev (d := dN m) (ev_var (i := 2) rfl (.inl rfl) rfl) rfl l2) (fun d hd => ⟨m, by omega, by omega, hd⟩)) (fun d e hd he => ?_)) ?_
  · obtain ⟨k, hk, rfl⟩ := cr_draw he
    cases hd
    exact ⟨_, od_add, rfl, k, hk, by show PyData.int _ = PyData.int _; congr 1⟩
  rintro v3 y ds1 H1 ⟨z, rfl, size0, hsz, rfl⟩ tw1 A1
  obtain ⟨size, hS, hsz1, hsz2⟩ : ∃ size, 1 + size0 = size ∧ 1 ≤ size ∧ size ≤ m := ⟨_, rfl, by omega, by omega⟩
  rw [hS] at A1
  -- found = []
  refine go_cons (ps_set (i := 4) sc__law_house.nd rfl (.inl rfl) pe_any (by rfl)) (EVL.use (X := CxF P w K mg base _ _ s__law_house f cdv A outer s H E) (el_lst es_nil (by decide)) A1.envD fun p vs H2 e0 e1 e2 dv => ?_)
  cases dv
  have A2 : At K (wo H t) H2 _ (hsl sa ss t ds1 m size p [] .no .no .no .no) (gW []) := A1.setO 4 e0 e1 e2 rfl
  have hS4 : size ≤ 4 := by omega
  -- the rest of the def, behind both loops
  have fin : ∀ (σ : L2.St) (H' : Hp) (rows : Rws) (ds : List PyData) (s5 s6 s7 s8 : Sl), Tw n (c + 40) ds → At K (wo H t) H' σ (hsl sa ss t ds m size p rows s5 s6 s7 s8) (gW rows) → RwOk size rows → rows.length = size → GO (CxF P w K mg base ["script", "town", "halls", "size", "found", "k", "row", "way", "letters", "sign"] "_law_house" s__law_house f cdv A outer s H E) ((defBody s__law_house).drop 4) { nx := fun _ H' => Q .non H', rt := Q } σ H' := fun σ H' rows ds s5 s6 s7 s8 tw A ok hl => house_tail T hr A ok hl hsz1 hS4 fun v H2 ws h g hh e1 e2 e3 dv => q v H2 ws ds _ e1 e2 e3 tw dv (noL_H h) ⟨m, h, rfl, g, by omega, rfl⟩
  -- for k in range(size)
  refine go_forRX (W := fun M i σ H' => M = size ∧ ∃ (rows : Rws) (ds : List PyData) (s5 s6 s7 s8 : Sl), Tw n (c + 1 + 4 * i) ds ∧ At K (wo H t) H' σ (hsl sa ss t ds m size p rows s5 s6 s7 s8) (gW rows) ∧ RwOk size rows ∧ rows.length = i) 5 (fun Q q => ?_) PassesOwn.never rfl rfl T.range sc__law_house.nd rfl (.inl rfl) ?_ ?_
  · refine EV.use (X := CxF P w K mg base _ _ s__law_house f cdv A outer s H E) (ev_var (i := 3) rfl (.inl rfl) rfl) A2.envD fun v H3 e3 dv => ?_
    cases dv
    exact q size H3 (by omega) ⟨rfl, [], ds1, .no, .no, .no, .no, tw1, A2.to e3, (fun r hr => nomatch hr), rfl⟩
  · rintro M i σ' H' hi ⟨rfl, rows, ds2, s5, s6, s7, s8, tw2, A3, ok, hl⟩
    have A4 : At K (wo H t) H' _ (hsl sa ss t ds2 m M p rows (.im (dN i)) s6 s7 s8) (gW rows) := A3.setI 5 (d := dN i) (.int _) rfl
    refine go_setL A4 6 sc__law_house.nd rfl (.inl rfl) (el_lst es_nil (by decide)) rfl fun r H5 A5 => ?_
    -- for way in range(1 + _law_draw(script, town, 3))
    refine go_forRX (W := fun M' i' σ H' => 1 ≤ M' ∧ M' ≤ 3 ∧ ∃ (ws : List Way) (ds : List PyData) (s7 : Sl), Tw n (c + 1 + 4 * i + 1 + i') ds ∧ At K (wo H t) H' σ (hsl sa ss t ds m M p rows (.im (dN i)) (.ml r (ws.map dW)) s7 s8) (gW rows) ∧ ws.length = i' ∧ ∀ n, Way.h n ∈ ws → n < M) 7 (fun Q q => ?_) PassesOwn.never rfl rfl T.range sc__law_house.nd rfl (.inl rfl) ?_ ?_
    · refine EX.use (X := CxF P w K mg base ["script", "town", "halls", "size", "found", "k", "row", "way", "letters", "sign"] "_law_house" s__law_house f cdv A outer s H E) (n := n) (i := 1) (k := 1) (ρ := [.sc sa ss, .no, .im (dN m), .im (dN M), .ob p (.lst (refs rows)), .im (dN i), .ml r [], s7, s8, .no]) (ex_bin (R := fun z => ∃ k : Nat, k < 3 ∧ z = dN (1 + k)) (ex_ev ev_int rfl) (ex_callT (j := 0) F1 (hr.mono (by decide)) rfl l2 rfl hs h63 (by decide) rfl (.inl rfl) rfl (.inl rfl) (ea_ev (d := dN 3) ev_int rfl l2) (fun d hd => ⟨3, by omega, by omega, hd⟩)) (fun d e hd he => ?_)) (by omega) tw2 A5 ?_
      · obtain ⟨k, hk, rfl⟩ := cr_draw he
        cases hd
        exact ⟨_, od_add, rfl, k, hk, by show PyData.int _ = PyData.int _; congr 1⟩
      · rintro v6 y6 ds6 H6 ⟨z6, rfl, k6, hk6, rfl⟩ tw6 A6
        have d6 := A6.g0
        cases d6
        exact q _ H6 (by omega) ⟨by omega, by omega, [], ds6, s7, tw6, A6.unG, rfl, fun n hn => nomatch hn⟩
    · rintro M' i' σ6 H6 hi' ⟨hM1, hM3, ws, ds6, s7', tw6, A6, hwl, hwo⟩
      have A7 : At K (wo H t) H6 _ (hsl sa ss t ds6 m M p rows (.im (dN i)) (.ml r (ws.map dW)) (.im (dN i')) s8) (gW rows) := A6.setI 7 (d := dN i') (.int _) rfl
      refine go_appendX (n := n) (i := 1) (ρ := [.sc sa ss, .no, .im (dN m), .im (dN M), .ob p (.lst (refs rows)), .im (dN i), .ml r (ws.map dW), .im (dN i'), s8, .no]) (k := 1) A7 tw6 (by omega) 6 (by decide) rfl rfl (.inl rfl) (ex_callT (j := 0) F2 (hr.mono (by decide)) rfl l2 rfl hs h63 (by decide) rfl (.inl rfl) rfl (.inl rfl) (ea_lst (ex_evL (es := dChoices M) (el_bin (EVL.ev (el_bin (EVL.ev (el_listRg rfl rfl T.list rfl T.range (ev_var (i := 3) rfl (.inl rfl) rfl) (by omega))) (EVL.ev (el_listRg rfl rfl T.list rfl T.range (ev_var (i := 3) rfl (.inl rfl) rfl) (by omega))) (ol_cat (by simp [rgD]; omega)))) (EVL.ev (el_lst (es_cons ev_str (es_cons ev_str (es_cons ev_str es_nil))) (by decide))) (ol_cat (by simp [rgD]; omega))) ?nlc) l2) (fun d hd => ?prc)) ?nlz (by rw [List.length_map]; omega) ?_
      case nlc =>
        refine noLs_iff.mpr fun z hz => ?_
        obtain ⟨v, rfl, _⟩ := choice_way hz
        exact noL_W v
      case prc =>
        obtain ⟨es, rfl, rfl⟩ := hd
        refine ⟨_, rfl, by simp, by simp [rgD]; omega, noLs_iff.mpr fun z hz => ?_⟩
        obtain ⟨v, rfl, _⟩ := choice_way hz
        exact noL_W v
      case nlz =>
        rintro z ⟨d, ⟨es, rfl, rfl⟩, es', he, hz⟩
        cases he
        obtain ⟨v, rfl, _⟩ := choice_way hz
        exact noL_W v
      rintro z ds8 H8 ⟨d, ⟨es, rfl, rfl⟩, es', he, hz⟩ tw8 A8
      cases he
      obtain ⟨v, rfl, hv⟩ := choice_way hz
      refine go_nil ⟨hM1, hM3, ws ++ [v], ds8, _, tw8, by rw [List.map_append]; exact A8, by simp [hwl], fun n hn => ?_⟩
      rcases List.mem_append.mp hn with h | h
      · exact hwo n h
      · rw [List.mem_singleton] at h
        exact hv n h.symm
    · rintro M' σ6 H6 ⟨hM1, hM3, ws, ds6, s7', tw6, A6, hwl, hwo⟩
      -- found.append(row)
      have A7 := A6.give (i := 6) rfl
      obtain ⟨s4, o2, o3⟩ := A7.obj (i := 4) rfl
      obtain ⟨v6, s6', e6⟩ := (A7.ok 6 _ rfl).resolve_left (by intro z; cases z)
      have e6' : v6 = .ref r := e6
      subst e6'
      refine go_cons (ps_expr (pe_bm PySem.F.plainAttrs_list PySem.F.slot_list_append PySem.F.type_list_append mt_append (pe_var (i := 4) rfl (.inl rfl)) (pa_cons (pe_var (i := 6) rfl (.inl rfl)) pa_nil)) (by rfl)) ?_
      refine ⟨_, s4, .inl ⟨rfl, _, .of o2⟩, _, s6', p, _, _, rfl, rfl, o2, ?_, go_nil ⟨rfl, rows ++ [(r, ws)], ds6, .im (dN i), .va (.ref r), s7', s8, tw6.le (by omega), ?_, ?_, by simp [hl]⟩⟩
      · rw [List.length_map]
        exact Nat.lt_of_lt_of_le (show rows.length < 100 by omega) (by decide)
      · have A8 := A7.mutO (i := 4) (o' := .lst (refs rows ++ [.ref r])) rfl rfl
        have A9 := A8.permG (γ' := gW (rows ++ [(r, ws)])) (by
          show ((V.ref r, Sl.ml r (ws.map dW)) :: gW rows).Perm (gRows ((rows ++ [(r, ws)]).map _))
          unfold gRows
          rw [List.map_append, List.map_append]
          exact (List.perm_append_singleton _ _).symm)
        have er : refs (rows ++ [(r, ws)]) = refs rows ++ [.ref r] := by simp [refs]
        unfold hsl
        rw [er]
        exact A9
      · intro x hx
        rcases List.mem_append.mp hx with h | h
        · exact ok x h
        · rw [List.mem_singleton] at h
          subst h
          exact ⟨by show 1 ≤ ws.length; omega, by show ws.length ≤ 3; omega, hwo⟩
  · rintro M σ' H' ⟨rfl, rows, ds2, s5, s6, s7, s8, tw2, A3, ok, hl⟩
    -- if _law_draw(script, town, 6) > 0
    refine go_ifT2 (n := n) (i := 1) (ρ := [.sc sa ss, .no, .im (dN m), .im (dN M), .ob p (.lst (refs rows)), s5, s6, s7, s8, .no]) (k := 1) A3 tw2 (by omega) (etx_cmp (R := fun _ => True) (ex_callT (j := 0) F1 (hr.mono (by decide)) rfl l2 rfl hs h63 (by decide) rfl (.inl rfl) rfl (.inl rfl) (ea_ev (d := dN 6) ev_int rfl l2) (fun d hd => ⟨6, by omega, by omega, hd⟩)) (ex_ev ev_int rfl) (fun d e hd he => ?_) (nomark _)) (fun _ ds3 H3 tw3 A4 => ?_) (fun _ ds3 H3 tw3 A4 => ?_)
    · obtain ⟨k, hk, rfl⟩ := cr_draw hd
      cases he
      exact ⟨_, oc_gt, trivial⟩
    · -- for row in found
      obtain ⟨s4, _, _⟩ := A4.obj (i := 4) rfl
      refine go_forV (W := fun i σ H' => ∃ (rows' : Rws) (ds : List PyData) (s6 : Sl), Tw n (c + 1 + 4 * M + 1 + 3 * i) ds ∧ At K (wo H t) H' σ (hsl sa ss t ds m M p rows' s5 s6 s7 s8) (gW rows') ∧ RwOk M rows' ∧ refs rows' = refs rows) (vs := refs rows) (p := p) (k := 4) 6 s4 rfl (.inl rfl) ⟨rows, ds3, s6, tw3, A4, ok, rfl⟩ ?_ PassesOwn.never rfl sc__law_house.nd rfl (.inl rfl) ?_ ?_
      · rintro i σ' H' ⟨rows', ds, s6, _, A5, _, er⟩
        obtain ⟨_, o2, _⟩ := A5.obj (i := 4) rfl
        rw [o2, er]
      · rintro i v0 σ1 H1 hv0 ⟨rows', ds4, s6', tw4, A5, ok', er⟩
        rw [← er, List.getElem?_map] at hv0
        obtain ⟨r0, hr0, rfl⟩ := Option.map_eq_some_iff.mp hv0
        have hi4 : i < M := by
          have h1 := (List.getElem?_eq_some_iff.mp hr0).1
          have h2 := congrArg List.length er
          rw [List.length_map, List.length_map] at h2
          omega
        obtain ⟨pre, post, erows, hpre⟩ : ∃ pre post, rows' = pre ++ r0 :: post ∧ pre.length = i := by
          obtain ⟨h1, h2⟩ := List.getElem?_eq_some_iff.mp hr0
          exact ⟨rows'.take i, rows'.drop (i + 1), by rw [← h2, ← List.drop_eq_getElem_cons h1, List.take_append_drop], by rw [List.length_take]; omega⟩
        subst erows
        have permR : ∀ x : Addr × List Way, (gW (pre ++ x :: post)).Perm ((.ref x.1, .ml x.1 (x.2.map dW)) :: gW (pre ++ post)) := fun x => by
          show (gRows ((pre ++ x :: post).map _)).Perm (_ :: gRows ((pre ++ post).map _))
          unfold gRows
          rw [List.map_append, List.map_append, List.map_append, List.map_append, List.map_cons, List.map_cons]
          exact List.perm_middle
        have A6 : At K (wo H t) H1 (σ1.set 6 (some (.ref r0.1))) [.sc sa ss, .ml t ds4, .im (dN m), .im (dN M), .ob p (.lst (refs (pre ++ r0 :: post))), s5, .ml r0.1 (r0.2.map dW), s7, s8, .no] (gW (pre ++ post)) := (A5.permG (permR r0)).take 6
        have okr := ok' r0 (by simp)
        have back : ∀ (ws' : List Way) (ds : List PyData) (H' : Hp), Tw n (c + 1 + 4 * M + 1 + 3 * (i + 1)) ds → At K (wo H t) H' (σ1.set 6 (some (.ref r0.1))) [.sc sa ss, .ml t ds, .im (dN m), .im (dN M), .ob p (.lst (refs (pre ++ r0 :: post))), s5, .ml r0.1 (ws'.map dW), s7, s8, .no] (gW (pre ++ post)) → (1 ≤ ws'.length ∧ ws'.length ≤ 3 ∧ ∀ n, Way.h n ∈ ws' → n < M) →
            ∃ (rows' : Rws) (ds : List PyData) (s6 : Sl), Tw n (c + 1 + 4 * M + 1 + 3 * (i + 1)) ds ∧ At K (wo H t) H' (σ1.set 6 (some (.ref r0.1))) (hsl sa ss t ds m M p rows' s5 s6 s7 s8) (gW rows') ∧ RwOk M rows' ∧ refs rows' = refs rows := fun ws' ds H' tw A7 okw => by
          have e0 : refs (pre ++ (r0.1, ws') :: post) = refs (pre ++ r0 :: post) := by simp [refs]
          refine ⟨pre ++ (r0.1, ws') :: post, ds, .va (.ref r0.1), tw, ?_, fun x hx => ?_, e0.trans er⟩
          · have A8 := (A7.give (i := 6) rfl).permG (permR (r0.1, ws')).symm
            unfold hsl
            rw [e0]
            exact A8
          · rcases List.mem_append.mp hx with h | h
            · exact ok' x (List.mem_append.mpr (.inl h))
            · rcases List.mem_cons.mp h with rfl | h
              · exact okw
              · exact ok' x (List.mem_append.mpr (.inr (List.mem_cons_of_mem _ h)))
        refine go_ifT2 (n := n) (i := 1) (ρ := [.sc sa ss, .no, .im (dN m), .im (dN M), .ob p (.lst (refs (pre ++ r0 :: post))), s5, .ml r0.1 (r0.2.map dW), s7, s8, .no]) (k := 1) A6 tw4 (by omega) (etx_cmp (R := fun _ => True) (ex_callT (j := 0) F1 (hr.mono (by decide)) rfl l2 rfl hs h63 (by decide) rfl (.inl rfl) rfl (.inl rfl) (ea_ev (d := dN 2) ev_int rfl l2) (fun d hd => ⟨2, by omega, by omega, hd⟩)) (ex_ev ev_int rfl) (fun d e hd he => ?_) (nomark _)) (fun _ ds5 H5 tw5 A7 => ?_) (fun _ ds5 H5 tw5 A7 => ?_)
        · obtain ⟨k, hk, rfl⟩ := cr_draw hd
          cases he
          exact ⟨_, oc_eqI, trivial⟩
        · refine go_setIxX (n := n) (i := 1) (ρ := [.sc sa ss, .no, .im (dN m), .im (dN M), .ob p (.lst (refs (pre ++ r0 :: post))), s5, .ml r0.1 (r0.2.map dW), s7, s8, .no]) (k := 1) (k' := 1) A7 tw5 (by omega) 6 (by decide) rfl rfl (.inl rfl) (ex_callT (j := 0) F2 (hr.mono (by decide)) rfl l2 rfl hs h63 (by decide) rfl (.inl rfl) rfl (.inl rfl) (ea_lst (ex_evL (es := [.str "A", .str "B"]) (el_lst (es_cons ev_str (es_cons ev_str es_nil)) (by decide)) (by decide)) l2) (fun d hd => ?prc)) ?nlz (ex_callT (j := 0) F1 (hr.mono (by decide)) rfl l2 rfl hs h63 (by decide) rfl (.inl rfl) rfl (.inl rfl) (ea_ev (d := dN r0.2.length) (EV.cast (ev_callB ca_lenL rfl T.len (by decide +kernel) (es_cons (ev_var (i := 6) rfl (.inl rfl) rfl) es_nil)) (by rw [List.length_map])) rfl l2) (fun d hd => ⟨r0.2.length, by omega, by omega, hd⟩)) ?ix ?_
          case prc =>
            obtain ⟨es, rfl, rfl⟩ := hd
            exact ⟨_, rfl, by simp, by simp, by decide⟩
          case nlz =>
            rintro z ⟨d, ⟨es, rfl, rfl⟩, es', he, hz⟩
            cases he
            exact noLs_iff.mp (by decide : noLs [.str "A", .str "B"] = true) z hz
          case ix =>
            intro y hy
            obtain ⟨k, hk, rfl⟩ := cr_draw hy
            exact ⟨k, by rw [List.length_map]; exact hk, rfl⟩
          rintro z k ds8 H8 ⟨d, ⟨es, rfl, rfl⟩, es', he, hz⟩ hk _ tw8 A8
          cases he
          obtain ⟨cx, rfl⟩ : ∃ cx : Ex, z = dW (.x cx) := by
            rcases List.mem_cons.mp hz with rfl | hz
            · exact ⟨.A, rfl⟩
            · rw [List.mem_singleton] at hz
              exact ⟨.B, hz⟩
          refine go_nil (go_nil (back (r0.2.set k (.x cx)) ds8 H8 (tw8.le (by omega)) (by rw [List.map_set]; exact A8) ⟨by simpa using okr.1, by simpa using okr.2.1, fun n hn => ?_⟩))
          rcases List.mem_or_eq_of_mem_set hn with h | h
          · exact okr.2.2 n h
          · cases h
        · exact go_nil (go_nil (back r0.2 ds5 H5 (tw5.le (by omega)) A7 okr))
      · rintro σ1 H1 ⟨rows', ds4, s6', tw4, A5, ok', er⟩
        have e1 : rows'.length = M := by
          have := congrArg List.length er
          rw [List.length_map, List.length_map] at this
          omega
        rw [List.length_map] at tw4
        exact go_nil (fin _ _ rows' ds4 _ _ _ _ (tw4.le (by omega)) A5 ok' e1)
    · exact go_nil (fin _ _ rows ds3 _ _ _ _ (tw3.le (by omega)) A4 ok hl)
end
end TK

namespace TK
open PySem L2 TH PyProof.Rows
section
variable {P : Program} {w : World} {K : PySem.W.Frag} {mg : Str → Option Value} {base : Heap} {f : Addr} {fd : FuncData}
/-! ### the law's own exits, reach, safe -/
theorem row_ex (r : List Way) : (r.filter isX).map dW = (r.filterMap exW).map dX := by
  induction r with
  | nil => rfl
  | cons v r ih =>
    cases v with
    | h n => rw [List.filterMap_cons_none (show exW (.h n) = none from rfl), List.filter_cons_of_neg (by simp [isX]), ih]
    | x c => rw [List.filterMap_cons_some (show exW (.x c) = some c from rfl), List.filter_cons_of_pos (by simp [isX]), List.map_cons, List.map_cons, ih]; rfl
theorem exitWays_take {h : House} {i : Nat} {r : List Way} (hi : h[i]? = some r) : exitWays (h.take (i + 1)) = exitWays (h.take i) ++ r.filterMap exW := by
  unfold exitWays
  rw [take_succ hi, List.flatMap_append]
  simp
/-- of the size of a house -/
structure SmallH (h : House) : Prop where
  four : h.length ≤ 4
  rows : ∀ r ∈ h, r.length ≤ 3
theorem small_of {h : House} (g : GoodH h) : SmallH h := ⟨g.four, fun r hr => (g.rows r hr).2⟩
theorem exitWays_lenS {h : House} (g : SmallH h) : (exitWays h).length ≤ 12 := by
  have key : ∀ l : House, (∀ r ∈ l, r.length ≤ 3) → (exitWays l).length ≤ 3 * l.length := by
    intro l
    induction l with
    | nil => intro _; simp [exitWays]
    | cons r l ih =>
      intro hr
      have h1 := ih fun q hq => hr q (List.mem_cons_of_mem _ hq)
      have h2 := hr r List.mem_cons_self
      have h3 : (r.filterMap exW).length ≤ r.length := List.length_filterMap_le _ _
      unfold exitWays at *
      rw [List.flatMap_cons, List.length_append, List.length_cons]
      omega
  have := key h g.rows
  have := g.four
  omega
theorem exitWays_le {h : House} (g : SmallH h) (i : Nat) : (exitWays (h.take i)).length ≤ 12 := by
  refine Nat.le_trans ?_ (exitWays_lenS g)
  have e : exitWays h = exitWays (h.take i) ++ exitWays (h.drop i) := by
    unfold exitWays
    rw [← List.flatMap_append, List.take_append_drop]
  rw [e, List.length_append]
  omega
theorem noL_X (l : List Ex) : noLs (l.map dX) = true := noLs_map (fun _ => rfl) l
def r_law_exits (ds : List PyData) (z : List PyData) : Prop := ∃ (h : House), SmallH h ∧ ds = [dH h] ∧ z = (exitsOf h).map dX
theorem sc__law_exits : FnScope ["house", "found", "row", "way"] ["house"] (defScope s__law_exits) := ⟨rfl, rfl, rfl, by decide +kernel, rfl, by decide +kernel, by decide +kernel⟩
theorem fd__law_exits (L : Lnk K mg "_law_exits" s__law_exits ["house"]) (T : Bts mg) : FnD P w K mg base 1 "_law_exits" (spL K 1 r_law_exits) := L.fnD fun f fd F => by
  refine Fun.okL F sc__law_exits rfl (by decide) fun cdv A outer s H Q E ds z σ hr rel hl q A0 => ?_
  obtain ⟨h, g, rfl, rfl⟩ := rel
  refine go_setL A0 1 sc__law_exits.nd rfl (.inl rfl) (el_lst es_nil (by decide)) rfl fun p1 H1 A1 => ?_
  refine go_for (ds := h.map dR) (u := fun d ρ => ρ.set 2 (.im d)) (Iv := fun i ρ => ∃ p s2, ρ = [.im (dH h), .ml p ((exitWays (h.take i)).map dX), s2, .no]) A1 PassesOwn.never rfl (ev_var (i := 0) rfl (.inl rfl) rfl) (noLs_map noL_R h) (pg_name (i := 2) sc__law_exits.nd rfl (.inl rfl)) (fun d _ => ra_name 2 d) ⟨p1, .no, rfl⟩ ?_ ?_
  · rintro γ' i d ρ' σ' H' hd ⟨p, s2, rfl⟩ A2
    rw [List.getElem?_map] at hd
    obtain ⟨r, hr', rfl⟩ := Option.map_eq_some_iff.mp hd
    have hrm : r ∈ h := List.mem_of_getElem? hr'
    refine go_setL A2 1 sc__law_exits.nd rfl (.inl rfl) (ds := (exitWays (h.take (i + 1))).map dX) (EVL.cast (el_bin (ev_var (i := 1) rfl (.inl rfl) rfl) (EVL.ev (el_lcT (ns := r) (enc := dW) (dec := wayOf) (own := [("way", 3)]) (u := fun d r => r.set 3 (some d)) (sl := [3]) (pt := isX) (f := dW) (fun _ _ => wayOf_d _) rfl sc__law_exits.nd (it_tupS (ev_var (i := 2) rfl (.inl rfl) rfl)) (blkOk_by (N := ["house", "found", "row", "way"]) (sc := defScope s__law_exits) (by decide +kernel)) (fun _ _ _ _ _ => (pg_name (i := 3) sc__law_exits.nd rfl (.inl rfl))) (fun d _ => rg_name 3 _) (by decide) (fun d hd _ _ _ _ _ => ets_one (EVT.cast (et_val (ev_isStr (ev_var (i := 3) rfl (.inl rfl) rfl) rfl T.isinstance rfl T.str)) (isStr_dW d))) (fun d hd hp _ _ _ _ _ => (ev_var (i := 3) rfl (.inl rfl) rfl)) (fun v _ _ => noL_W v) (by have := (g.rows r hrm); omega))) (ol_cat ?_)) ?_) (noL_X _) fun p2 H2 A3 => go_nil ⟨_, ⟨p2, _, rfl⟩, A3⟩
    · have h1 := exitWays_le g i
      have h2 := g.rows r hrm
      have h3 := List.length_filter_le isX r
      rw [List.length_map, List.length_map]
      omega
    · rw [row_ex, exitWays_take hr', List.map_append]
  · rintro ρ' σ' H' ⟨p, s2, rfl⟩ A2
    rw [List.length_map, List.take_length] at A2
    refine go_retL A2 (ds := (exitsOf h).map dX) (EVL.cast (el_srtS (xs := (exitWays h).map exS) (zs := (exitsOf h).map exS) (EV.cast (ev_var (i := 1) rfl (.inl rfl) rfl) (by rw [map_exS])) ?_ ?_ rfl rfl T.sorted rfl T.set) (map_exS _).symm) ?_
    · rw [List.length_map]
      exact Nat.le_trans (exitWays_lenS g) (by decide)
    · refine srtS_is ?_ (exitsOf_sorted h) fun k => ?_
      · exact List.pairwise_map.mpr ((exitsOf_nodup h).imp fun hne he => hne (exS_inj he))
      · rw [List.mem_map, List.mem_map]
        constructor
        · rintro ⟨c, hc, rfl⟩
          exact ⟨c, mem_exitWays.mpr (mem_exitsOf.mp hc), rfl⟩
        · rintro ⟨c, hc, rfl⟩
          exact ⟨c, mem_exitsOf.mpr (mem_exitWays.mp hc), rfl⟩
    · intro p vs H' h1 h2 h3 h4
      exact q _ _ ⟨p, vs, rfl, h1, h2, h3, h4⟩
def r_law_reach (ds : List PyData) (z : List PyData) : Prop := ∃ (h : House) (x : Nat), GoodH h ∧ x < h.length ∧ ds = [dH h, dN x] ∧ z = (reachL h x).map dN
theorem sc__law_reach : FnScope ["house", "hall", "met", "one", "other", "way"] ["house", "hall"] (defScope s__law_reach) := ⟨rfl, rfl, rfl, by decide +kernel, rfl, by decide +kernel, by decide +kernel⟩
theorem noL_N (l : List Nat) : noLs (l.map dN) = true := noLs_map (fun _ => rfl) l
theorem map_nat (l : List Nat) : l.map dN = (l.map fun (n : Nat) => (n : Int)).map PyData.int := by rw [List.map_map]; rfl
theorem newW_eq (met : List Nat) (v : Way) : (!isStrD (dW v) && !((met.map dN).any fun y => PyData.eqv y (dW v))) = newW met v := by
  cases v with
  | x c => rfl
  | h z =>
    show (!((met.map dN).any fun y => PyData.eqv y (dN z))) = !decide (z ∈ met)
    congr 1
    rw [Bool.eq_iff_iff, List.any_eq_true, decide_eq_true_iff]
    constructor
    · rintro ⟨y, hy, hq⟩
      obtain ⟨m, hm, rfl⟩ := List.mem_map.mp hy
      rw [eqv_nat, decide_eq_true_iff] at hq
      subst hq
      exact hm
    · intro hz
      exact ⟨dN z, List.mem_map.mpr ⟨z, hz, rfl⟩, by rw [eqv_nat]; simp⟩
theorem newOf_map (h : House) (met : List Nat) (o : Nat) : ((row h o).filter (newW met)).map dW = (newOf h met o).map dN := by
  unfold newOf
  rw [List.map_map]
  refine List.map_congr_left fun v hv => ?_
  have := (List.mem_filter.mp hv).2
  cases v with
  | h z => rfl
  | x c => simp [newW] at this
theorem fd__law_reach (L : Lnk K mg "_law_reach" s__law_reach ["house", "hall"]) (T : Bts mg) : FnD P w K mg base 1 "_law_reach" (spL K 2 r_law_reach) := L.fnD fun f fd F => by
  refine Fun.okL F sc__law_reach rfl (by decide) fun cdv A outer s H Q E ds z σ hr rel hl q A0 => ?_
  obtain ⟨h, x, g, hx, rfl, rfl⟩ := rel
  have h4 := g.four
  refine go_setL A0 2 sc__law_reach.nd rfl (.inr rfl) (ds := [x].map dN) (el_lst (es_cons (ev_var (i := 1) rfl (.inl rfl) rfl) es_nil) (by simp)) rfl fun p2 H2 A2 => ?_
  refine go_for (ds := h.map dR) (u := fun d ρ => ρ.set 3 (.im d)) (Iv := fun i ρ => ∃ p s3 s4 met, ρ = [.im (dH h), .im (dN x), .ml p (met.map dN), s3, s4, .no] ∧ RO h x met i) A2 PassesOwn.never rfl (ev_var (i := 0) rfl (.inl rfl) rfl) (noLs_map noL_R h) (pg_name (i := 3) sc__law_reach.nd rfl (.inl rfl)) (fun d _ => ra_name 3 d) ⟨p2, .no, .no, [x], rfl, RO.start h x⟩ ?_ ?_
  · rintro γ' i d ρ' σ' H' hd ⟨p, s3, s4, met, rfl, I⟩ A3
    have hlen : met.length ≤ 12 := I.few.len g fun m hm => (I.rc m hm).lt g hx
    refine go_forL (ds := met.map dN) (u := fun d ρ => ρ.set 4 (.im d)) (Iv := fun j ρ => ∃ p s4 met', ρ = [.im (dH h), .im (dN x), .ml p (met'.map dN), .im d, s4, .no] ∧ RI h x met met' j) A3 PassesOwn.never rfl (el_callTy cl_listL rfl T.list (by decide +kernel) (es_cons (ev_var (i := 2) rfl (.inr (.inl rfl)) rfl) es_nil)) (noL_N _) (pg_name (i := 4) sc__law_reach.nd rfl (.inl rfl)) (fun d _ => ra_name 4 d) ⟨p, s4, met, rfl, I.inner⟩ ?_ ?_
    · rintro γ2 j d2 ρ2 σ2 H3 hd2 ⟨p3, s5, met', rfl, J⟩ A4
      rw [List.getElem?_map] at hd2
      obtain ⟨o, ho, rfl⟩ := Option.map_eq_some_iff.mp hd2
      have hol : o < h.length := (I.rc o (List.mem_of_getElem? ho)).lt g hx
      have hlen' : met'.length ≤ 12 := J.few.len g fun m hm => (J.rc m hm).lt g hx
      refine go_setL A4 2 sc__law_reach.nd rfl (.inr rfl) (ds := (met' ++ newOf h met' o).map dN) (EVL.cast (el_bin (ev_var (i := 2) rfl (.inr (.inl rfl)) rfl) (EVL.ev (el_lcT (ns := row h o) (enc := dW) (dec := wayOf) (own := [("way", 5)]) (u := fun d r => r.set 5 (some d)) (sl := [5]) (pt := newW met') (f := dW) (fun _ _ => wayOf_d _) rfl sc__law_reach.nd (it_tupS (ev_ix (ev_var (i := 0) rfl (.inl rfl) rfl) (ev_var (i := 4) rfl (.inl rfl) rfl) (ix_T (atI_map (f := dR) (row_some hol))))) (blkOk_by (N := ["house", "hall", "met", "one", "other", "way"]) (sc := defScope s__law_reach) (by decide +kernel)) (fun _ _ _ _ _ => (pg_name (i := 5) sc__law_reach.nd rfl (.inl rfl))) (fun d _ => rg_name 5 _) (by decide) (fun d hd _ _ _ _ _ => ets_one (EVT.cast (EVW.t (ew_and (et_not (et_val (ev_isStr (ev_var (i := 5) rfl (.inl rfl) rfl) rfl T.isinstance rfl T.str))) fun _ => (ew_and1 (et_cmp (ev_var (i := 5) rfl (.inl rfl) rfl) (ev_var (i := 2) rfl (.inr (.inl rfl)) rfl) (oc_notInL hr ((sh_W d).shaped (by decide)) (sh_mapL (n := 0) (f := dN) (fun _ => sh_int _) met')) (by rfl))))) (newW_eq met' d))) (fun d hd hp _ _ _ _ _ => (ev_var (i := 5) rfl (.inl rfl) rfl)) (fun v _ _ => noL_W v) (by have := row_len g o; omega))) (ol_cat ?_)) ?_) (noL_N _) fun p4 H4 A5 => go_nil ⟨_, ⟨p4, _, met' ++ newOf h met' o, rfl, J.step g ho⟩, A5⟩
      · have h2 := row_len g o
        have h3 := List.length_filter_le (newW met') (row h o)
        rw [List.length_map, List.length_map]
        omega
      · rw [newOf_map, List.map_append]
    · rintro ρ2 σ2 H3 ⟨p3, s5, met', rfl, J⟩ A4
      rw [List.length_map] at J
      exact go_nil ⟨_, ⟨p3, _, _, met', rfl, I.step J⟩, A4⟩
  · rintro ρ' σ' H' ⟨p, s3, s4, met, rfl, I⟩ A3
    rw [List.length_map] at I
    have hlen : met.length ≤ 12 := I.few.len g fun m hm => (I.rc m hm).lt g hx
    refine go_retL A3 (ds := (reachL h x).map dN) (EVL.cast (el_srtI (xs := met.map fun (n : Nat) => (n : Int)) (zs := (reachL h x).map fun (n : Nat) => (n : Int)) (EV.cast (ev_var (i := 2) rfl (.inr (.inl rfl)) rfl) (by rw [map_nat])) (by rw [List.length_map]; omega) ?_ rfl rfl T.sorted rfl T.set) (map_nat _).symm) fun p vs H' h1 h2 h3 h4 => q _ _ ⟨p, vs, rfl, h1, h2, h3, h4⟩
    refine srtI_is ?_ fun k => ?_
    · rw [List.pairwise_map]
      exact (reachL_pw h x).imp fun h => by omega
    · rw [List.mem_map, List.mem_map]
      constructor
      · rintro ⟨m, hm, rfl⟩
        exact ⟨m, (I.fin g hx m).mpr hm, rfl⟩
      · rintro ⟨m, hm, rfl⟩
        exact ⟨m, (I.fin g hx m).mp hm, rfl⟩
/-- the exits of the rows of some halls -/
def exR (h : House) (l : List Nat) : List Ex := l.flatMap fun y => (row h y).filterMap exW
theorem exR_len {h : House} (g : GoodH h) (l : List Nat) : (exR h l).length ≤ l.length * 3 := by
  unfold exR
  rw [List.length_flatMap]
  refine sum_ones fun y _ => ?_
  exact Nat.le_trans (List.length_filterMap_le _ _) (row_len g y)
theorem exR_nil {h : House} (g : GoodH h) {x : Nat} (hx : x < h.length) : exR h (reachL h x) = [] ↔ ¬ HasEx h x := by
  unfold exR
  rw [List.flatMap_eq_nil_iff]
  constructor
  · rintro q ⟨y, r, c, hc⟩
    have h1 := q y (mem_reachL.mpr ⟨r.lt g hx, r⟩)
    rw [List.filterMap_eq_nil_iff] at h1
    have := h1 _ hc
    cases this
  · intro q y hy
    rw [List.filterMap_eq_nil_iff]
    intro v hv
    cases v with
    | h n => rfl
    | x c => exact absurd ⟨y, (mem_reachL.mp hy).2, c, hv⟩ q
def r_law_safe (ds : List PyData) (z : PyData) : Prop := ∃ (h : House) (x : Nat), GoodH h ∧ x < h.length ∧ ds = [dH h, dN x] ∧ z = .bool (safeB h x)
theorem sc__law_safe : FnScope ["house", "hall", "other", "some", "there", "way"] ["house", "hall"] (defScope s__law_safe) := ⟨rfl, rfl, rfl, by decide +kernel, rfl, by decide +kernel, by decide +kernel⟩
theorem fd__law_safe (L : Lnk K mg "_law_safe" s__law_safe ["house", "hall"]) (T : Bts mg) (F1 : FnD P w K mg base 1 "_law_reach" (spL K 2 r_law_reach)) : FnD P w K mg base 2 "_law_safe" (spR K 2 r_law_safe) := L.fnD fun f fd F => by
  refine Fun.okD F sc__law_safe rfl (by decide) fun cdv A outer s H Q E ds z σ hr rel hl q A0 => ?_
  obtain ⟨h, x, g, hx, rfl, rfl⟩ := rel
  have h4 := g.four
  refine go_forL (ds := (reachL h x).map dN) (u := fun d ρ => ρ.set 2 (.im d)) (Iv := fun i ρ => ∃ s2 s3 s4, ρ = [.im (dH h), .im (dN x), s2, s3, s4, .no] ∧ ∀ y ∈ (reachL h x).take i, HasEx h y) A0 PassesOwn.never rfl (el_call F1 (hr.mono (by decide)) rfl (es_cons (ev_var (i := 0) rfl (.inl rfl) rfl) (es_cons (ev_var (i := 1) rfl (.inl rfl) rfl) es_nil)) rfl ⟨h, x, g, hx, rfl, rfl⟩) (noL_N _) (pg_name (i := 2) sc__law_safe.nd rfl (.inl rfl)) (fun d _ => ra_name 2 d) ⟨.no, .no, .no, rfl, by simp⟩ ?_ ?_
  · rintro γ' i d ρ' σ' H' hd ⟨s2, s3, s4, rfl, I⟩ A2
    rw [List.getElem?_map] at hd
    obtain ⟨y, hy, rfl⟩ := Option.map_eq_some_iff.mp hd
    have hym := List.mem_of_getElem? hy
    have hyl := (mem_reachL.mp hym).1
    refine go_setL A2 3 sc__law_safe.nd rfl (.inl rfl) (el_lst es_nil (by decide)) rfl fun p3 H3 A3 => ?_
    refine go_forL (ds := (reachL h y).map dN) (u := fun d ρ => ρ.set 4 (.im d)) (Iv := fun j ρ => ∃ p s4, ρ = [.im (dH h), .im (dN x), .im (dN y), .ml p ((exR h ((reachL h y).take j)).map dX), s4, .no]) A3 PassesOwn.never rfl (el_call F1 (hr.mono (by decide)) rfl (es_cons (ev_var (i := 0) rfl (.inl rfl) rfl) (es_cons (ev_var (i := 2) rfl (.inl rfl) rfl) es_nil)) rfl ⟨h, y, g, hyl, rfl, rfl⟩) (noL_N _) (pg_name (i := 4) sc__law_safe.nd rfl (.inl rfl)) (fun d _ => ra_name 4 d) ⟨p3, s4, rfl⟩ ?_ ?_
    · rintro γ2 j d2 ρ2 σ2 H4 hd2 ⟨p4, s5, rfl⟩ A4
      rw [List.getElem?_map] at hd2
      obtain ⟨o, ho, rfl⟩ := Option.map_eq_some_iff.mp hd2
      have hol := (mem_reachL.mp (List.mem_of_getElem? ho)).1
      refine go_setL A4 3 sc__law_safe.nd rfl (.inl rfl) (ds := (exR h ((reachL h y).take (j + 1))).map dX) (EVL.cast (el_bin (ev_var (i := 3) rfl (.inl rfl) rfl) (EVL.ev (el_lcT (ns := row h o) (enc := dW) (dec := wayOf) (own := [("way", 5)]) (u := fun d r => r.set 5 (some d)) (sl := [5]) (pt := isX) (f := dW) (fun _ _ => wayOf_d _) rfl sc__law_safe.nd (it_tupS (ev_ix (ev_var (i := 0) rfl (.inl rfl) rfl) (ev_var (i := 4) rfl (.inl rfl) rfl) (ix_T (atI_map (f := dR) (row_some hol))))) (blkOk_by (N := ["house", "hall", "other", "some", "there", "way"]) (sc := defScope s__law_safe) (by decide +kernel)) (fun _ _ _ _ _ => (pg_name (i := 5) sc__law_safe.nd rfl (.inl rfl))) (fun d _ => rg_name 5 _) (by decide) (fun d hd _ _ _ _ _ => ets_one (EVT.cast (et_val (ev_isStr (ev_var (i := 5) rfl (.inl rfl) rfl) rfl T.isinstance rfl T.str)) (isStr_dW d))) (fun d hd hp _ _ _ _ _ => (ev_var (i := 5) rfl (.inl rfl) rfl)) (fun v _ _ => noL_W v) (by have := row_len g o; omega))) (ol_cat ?_)) ?_) (noL_X _) fun p5 H5 A5 => go_nil ⟨_, ⟨p5, _, rfl⟩, A5⟩
      · have h1 := exR_len g ((reachL h y).take j)
        have h2 := row_len g o
        have h3 := List.length_filter_le isX (row h o)
        have h5 := reachL_len h y
        rw [List.length_take] at h1
        rw [List.length_map, List.length_map]
        omega
      · rw [row_ex, take_succ ho]
        unfold exR
        rw [List.flatMap_append, List.map_append]
        simp
    · rintro ρ2 σ2 H4 ⟨p4, s5, rfl⟩ A4
      rw [List.length_map, List.take_length] at A4
      refine go_if A4 (et_cmp (ev_var (i := 3) rfl (.inl rfl) rfl) (EVL.ev (el_lst es_nil (by decide))) (oc_eq hr (sh_mapL (n := 0) (f := dX) (fun c => sh_str (by cases c <;> decide +kernel)) _) (by decide)) (nomark _)) (fun hb H5 A5 => ?_) (fun hb H5 A5 => ?_)
      · rw [show PyData.list [] = .list (([] : List Ex).map dX) from rfl, eqv_mapL eqv_ex, decide_eq_true_iff] at hb
        refine go_ret A5 (EV.cast ev_bl ?_) q
        rw [show safeB h x = false from by
          rw [Bool.eq_false_iff]
          intro sb
          exact (exR_nil g hyl).mp hb (safeB_iff.mp sb y (mem_reachL.mp hym).2)]
      · rw [show PyData.list [] = .list (([] : List Ex).map dX) from rfl, eqv_mapL eqv_ex, decide_eq_false_iff_not] at hb
        refine go_nil (go_nil ⟨_, ⟨_, _, _, rfl, fun y' hy' => ?_⟩, A5⟩)
        rw [take_succ hy] at hy'
        rcases List.mem_append.mp hy' with z | z
        · exact I y' z
        · rw [List.mem_singleton] at z
          subst z
          apply Classical.byContradiction
          intro n
          exact hb ((exR_nil g hyl).mpr n)
  · rintro ρ' σ' H' ⟨s2, s3, s4, rfl, I⟩ A2
    rw [List.length_map, List.take_length] at I
    refine go_ret A2 (EV.cast ev_bl ?_) q
    rw [show safeB h x = true from safeB_iff.mpr fun y r => I y (mem_reachL.mpr ⟨r.lt g hx, r⟩)]
end
end TK

namespace TK
open PySem L2 TH PyProof.Rows
section
variable {P : Program} {w : World} {K : PySem.W.Frag} {mg : Str → Option Value} {base : Heap} {f : Addr} {fd : FuncData}
/-! ### renamed, of an order -/
abbrev zs (o : List Nat) : List Int := o.map fun (n : Nat) => (n : Int)
def sp_renamed (K : PySem.W.Frag) : Sp := fun vs H Q _ => ∃ (v : V) (a : Addr) (h : House) (o : List Nat), vs = [v, .ref a] ∧ Dq K H v (dH h) ∧ GoodH h ∧ IsOrd h.length o ∧ FzI H a (zs o) ∧ ∀ v' H', Same H H' → Dq K H' v' (dH (ren h o)) → Q v' H'
theorem ord_sorted {n : Nat} {o : List Nat} (h : IsOrd n o) : ∀ ys : List Int, ys.Perm (zs o) → ys.Pairwise (· ≤ ·) → ys = zs (List.range n) := fun ys pm pw => by
  refine PySem.W.ksm_same (pm.trans (List.Perm.map _ h)) pw ?_
  rw [List.pairwise_map]
  exact List.pairwise_lt_range.imp fun h => by omega
theorem dN_zs (o : List Nat) : o.map dN = (zs o).map PyData.int := by rw [List.map_map]; rfl
theorem idx_zs {o : List Nat} {z : Nat} : (zs o).idxOf (z : Int) = o.idxOf z := by
  induction o with
  | nil => rfl
  | cons a l ih =>
    show ((a : Int) :: zs l).idxOf (z : Int) = _
    rw [List.idxOf_cons, List.idxOf_cons, ih]
    by_cases e : a = z
    · subst e
      simp
    · have e' : ((a : Int) == (z : Int)) = false := by
        rw [beq_eq_false_iff_ne]
        omega
      have e'' : (a == z) = false := by
        rw [beq_eq_false_iff_ne]
        exact e
      rw [e', e'']
theorem useT {X : Cx} {e : Expr} {r : List (Option PyData)} {b : Bool} {σ : L2.St} {H : Hp} {Q : Bool → Hp → Prop} (h : EVT X e r b) (E : EnvD X.K H σ r) (q : ∀ H', Same H H' → Q b H') : tT X e σ H Q := h.use E q
end
end TK

namespace TH
open PySem L2 PyProof.Rows
theorem cut_hi {ds : List PyData} {k : Nat} (hk : k ≤ ds.length) : cutD ds none (some (k : Int)) = ds.take k := by
  unfold cutD
  rw [HT.sIx_none, HT.sIx_nat, List.drop_zero, Nat.sub_zero, Nat.min_eq_left hk]
theorem cut_lo {ds : List PyData} {k : Nat} (hk : k ≤ ds.length) : cutD ds (some (k : Int)) none = ds.drop k := by
  unfold cutD
  rw [HT.sIx_none, HT.sIx_nat, Nat.min_eq_left hk, List.take_of_length_le]
  rw [List.length_drop]
  exact Nat.le_refl _
theorem set_cut {s : Stg} {x v : Nat} (hx : x < s.length) : s.take x ++ [v] ++ s.drop (x + 1) = s.set x v := by
  rw [List.set_eq_take_append_cons_drop, if_pos hx]
  simp
theorem plc_some {s : Stg} {x : Nat} (hx : x < s.length) : s[x]? = some (plc s x) := by
  unfold plc
  rw [List.getD_eq_getElem?_getD, List.getElem?_eq_getElem hx]
  rfl
theorem way_some {h : House} {s : Stg} (gs : GoodS h s) {x : Nat} (hx : x < h.length) : (row h x)[plc s x]? = some (wayAt h s x) := by
  unfold wayAt
  rw [List.getD_eq_getElem?_getD, List.getElem?_eq_getElem (gs.lt x hx)]
  rfl
end TH
namespace TK
open PySem L2 TH PyProof.Rows
section
variable {P : Program} {w : World} {K : PySem.W.Frag} {mg : Str → Option Value} {base : Heap} {f : Addr} {fd : FuncData}
/-! ### standings, of valid ones -/
def r_is_known_standing (ds : List PyData) (z : PyData) : Prop := ∃ (h : House) (s : Stg), GoodH h ∧ GoodS h s ∧ ds = [dH h, dS s] ∧ z = .bool true
theorem sc_is_known_standing : FnScope ["house", "value", "place", "hall"] ["house", "value"] (defScope s_is_known_standing) := ⟨rfl, rfl, rfl, by decide +kernel, rfl, by decide +kernel, by decide +kernel⟩
def r_check_standing (ds : List PyData) (z : PyData) : Prop := ∃ (h : House) (s : Stg), GoodH h ∧ GoodS h s ∧ ds = [dH h, dS s] ∧ z = .none
theorem sc_check_standing : FnScope ["house", "standing"] ["house", "standing"] (defScope s_check_standing) := ⟨rfl, rfl, rfl, by decide +kernel, rfl, by decide +kernel, by decide +kernel⟩
theorem fd_check_standing (L : Lnk K mg "check_standing" s_check_standing ["house", "standing"]) (T : Bts mg) (F1 : FnD P w K mg base 4 "check_house" (spR K 1 r_check_house)) (F2 : FnD P w K mg base 2 "is_known_standing" (spR K 2 r_is_known_standing)) : FnD P w K mg base 5 "check_standing" (spR K 2 r_check_standing) := L.fnD fun f fd F => by
  refine Fun.okD F sc_check_standing rfl (by decide) fun cdv A outer s H Q E ds z σ hr rel hl q A0 => ?_
  obtain ⟨h, st, g, gs, rfl, rfl⟩ := rel
  refine go_expr A0 (ev_call F1 (hr.mono (by decide)) rfl (es_cons (ev_var (i := 0) rfl (.inl rfl) rfl) es_nil) rfl ⟨h, g, rfl, rfl⟩) fun H1 A1 => ?_
  exact go_ifF A1 (EVT.cast (et_not (et_val (ev_call F2 (hr.mono (by decide)) rfl (es_cons (ev_var (i := 0) rfl (.inl rfl) rfl) (es_cons (ev_var (i := 1) rfl (.inl rfl) rfl) es_nil)) rfl ⟨h, st, g, gs, rfl, rfl⟩))) rfl) fun H2 A2 => go_nil (q .non H2 A2.same .non)
def r_check_safe (ds : List PyData) (z : PyData) : Prop := ∃ (h : House) (x : Nat), GoodH h ∧ x < h.length ∧ Safe h x ∧ ds = [dH h, dN x] ∧ z = .none
theorem sc_check_safe : FnScope ["house", "hall"] ["house", "hall"] (defScope s_check_safe) := ⟨rfl, rfl, rfl, by decide +kernel, rfl, by decide +kernel, by decide +kernel⟩
theorem fd_check_safe (L : Lnk K mg "check_safe" s_check_safe ["house", "hall"]) (T : Bts mg) (F1 : FnD P w K mg base 3 "is_safe" (spR K 2 r_is_safe)) : FnD P w K mg base 4 "check_safe" (spR K 2 r_check_safe) := L.fnD fun f fd F => by
  refine Fun.okD F sc_check_safe rfl (by decide) fun cdv A outer s H Q E ds z σ hr rel hl q A0 => ?_
  obtain ⟨h, x, g, hx, sf, rfl, rfl⟩ := rel
  exact go_ifF A0 (EVT.cast (et_not (et_val (ev_call F1 (hr.mono (by decide)) rfl (es_cons (ev_var (i := 0) rfl (.inl rfl) rfl) (es_cons (ev_var (i := 1) rfl (.inl rfl) rfl) es_nil)) rfl ⟨h, x, g, hx, rfl, rfl⟩))) (by rw [safeB_iff.mpr sf]; rfl)) fun H2 A2 => go_nil (q .non H2 A2.same .non)
def r_moved (ds : List PyData) (z : PyData) : Prop := ∃ (h : House) (s : Stg) (x : Nat), GoodH h ∧ GoodS h s ∧ x < h.length ∧ ds = [dH h, dS s, dN x] ∧ z = dP (stp h (.h x, s))
theorem sc_moved : FnScope ["house", "standing", "hall", "row", "place"] ["house", "standing", "hall"] (defScope s_moved) := ⟨rfl, rfl, rfl, by decide +kernel, rfl, by decide +kernel, by decide +kernel⟩
theorem fd_moved (L : Lnk K mg "moved" s_moved ["house", "standing", "hall"]) (T : Bts mg) : FnD P w K mg base 1 "moved" (spR K 3 r_moved) := L.fnD fun f fd F => by
  refine Fun.okD F sc_moved rfl (by decide) fun cdv A outer s H Q E ds z σ hr rel hl q A0 => ?_
  obtain ⟨h, st, x, g, gs, hx, rfl, rfl⟩ := rel
  have hxs : x < st.length := by rw [gs.len]; exact hx
  have h4 := g.four
  have hr1 := g.rows _ (row_mem hx)
  refine go_par A0 rfl sc_moved.nd (i := 3) (j := 4) rfl rfl (by decide) rfl rfl (d := dR (row h x)) (e := dN (plc st x)) (es_cons (ev_ix (ev_var (i := 0) rfl (.inl rfl) rfl) (ev_var (i := 2) rfl (.inl rfl) rfl) (ix_T (atI_map (f := dR) (row_some hx)))) (es_cons (ev_ix (ev_var (i := 1) rfl (.inl rfl) rfl) (ev_var (i := 2) rfl (.inl rfl) rfl) (ix_T (atI_map (f := dN) (plc_some hxs)))) es_nil)) (noL_R _) rfl (by rfl) fun σ1 H1 A1 => ?_
  have em : (((plc st x : Nat) : Int) + 1) % (((row h x).map dW).length : Int) = (((plc st x + 1) % (row h x).length : Nat) : Int) := by
    rw [List.length_map, Int.natCast_emod]
    rfl
  refine go_ret A1 (EV.cast (ev_tup (es_cons (ev_ix (ev_var (i := 3) rfl (.inl rfl) rfl) (ev_var (i := 4) rfl (.inl rfl) rfl) (ix_T (atI_map (f := dW) (way_some gs hx)))) (es_cons (ev_bin (ev_bin (EV.cast (d' := .tuple ((st.take x).map dN)) (ev_slT (ev_var (i := 1) rfl (.inl rfl) rfl) eo_none (eo_some (ev_var (i := 2) rfl (.inl rfl) rfl))) (by rw [cut_hi (by rw [List.length_map]; omega), List.map_take])) (ev_tup (es_cons (EV.cast (d' := dN ((plc st x + 1) % (row h x).length)) (ev_bin (ev_bin (ev_var (i := 4) rfl (.inl rfl) rfl) ev_int od_add) (ev_callB ca_lenT rfl T.len (by decide +kernel) (es_cons (ev_var (i := 3) rfl (.inl rfl) rfl) es_nil)) (od_mod (by rw [List.length_map]; omega))) (by rw [em])) es_nil) (by simp)) (od_catT ?z1)) (EV.cast (d' := .tuple ((st.drop (x + 1)).map dN)) (ev_slT (l := some ((x + 1 : Nat) : Int)) (ev_var (i := 1) rfl (.inl rfl) rfl) (eo_some (EV.cast (ev_bin (ev_var (i := 2) rfl (.inl rfl) rfl) ev_int od_add) (by show PyData.int _ = PyData.int _; congr 1))) eo_none) (by rw [cut_lo (by rw [List.length_map]; omega), List.map_drop])) (od_catT ?z2)) es_nil)) (by simp)) ?_) q
  case z1 =>
    rw [List.length_map, List.length_take]
    simp
    omega
  case z2 =>
    rw [List.length_append, List.length_map, List.length_map, List.length_take, List.length_drop]
    have := gs.len
    simp
    omega
  · show _ = PyData.tuple [dW (wayAt h st x), .tuple ((turn h st x).map dN)]
    unfold turn
    rw [← set_cut hxs, List.map_append, List.map_append]
    rfl
theorem zS_btw {h : House} {s : Stg} (gs : GoodS h s) {d : PyData} (hd : d ∈ zD (s.map dN) (h.map dR)) : ∃ (p : Nat) (r : List Way), d = .tuple [dN p, dR r] ∧ p < r.length := by
  obtain ⟨i, hi, e⟩ := List.getElem_of_mem hd
  rw [List.getElem_zipWith] at e
  rw [zD_len, List.length_map, List.length_map] at hi
  have h1 : i < h.length := by omega
  have h2 : i < s.length := by omega
  refine ⟨plc s i, row h i, ?_, gs.lt i h1⟩
  rw [← e, List.getElem_map, List.getElem_map]
  have e1 := plc_some h2
  rw [List.getElem?_eq_getElem h2] at e1
  have e2 := row_some h1
  rw [List.getElem?_eq_getElem h1] at e2
  rw [Option.some.inj e1, Option.some.inj e2]
def btwP : PyData → PyData
  | .tuple [a, b] => .bool (isBtw a 0 ((tupOf b).length - 1))
  | _ => .none
def uP (i j : Nat) (d : PyData) (r : List (Option PyData)) : List (Option PyData) := match d with
  | .tuple [x, y] => (r.set i (some x)).set j (some y)
  | _ => r
theorem fd_is_known_standing (L : Lnk K mg "is_known_standing" s_is_known_standing ["house", "value"]) (T : Bts mg) (F1 : FnD P w K mg base 1 "is_between" (spR K 3 r_is_between)) : FnD P w K mg base 2 "is_known_standing" (spR K 2 r_is_known_standing) := L.fnD fun f fd F => by
  refine Fun.okD F sc_is_known_standing rfl (by decide) fun cdv A outer s H Q E ds z σ hr rel hl q A0 => ?_
  obtain ⟨h, st, g, gs, rfl, rfl⟩ := rel
  have h4 := g.four
  have hsl := gs.len
  refine go_ifF A0 (EVT.cast (EVW.t (ew_or (et_not (et_val (ev_isTuple (ev_var (i := 1) rfl (.inl rfl) rfl) rfl T.isinstance rfl T.tuple))) fun _ => (ew_or1 (et_cmp (ev_callB ca_lenT rfl T.len (by decide +kernel) (es_cons (ev_var (i := 1) rfl (.inl rfl) rfl) es_nil)) (ev_callB ca_lenT rfl T.len (by decide +kernel) (es_cons (ev_var (i := 0) rfl (.inl rfl) rfl) es_nil)) oc_neI (nomark _))))) ?_) fun H1 A1 => ?_
  · rw [List.length_map, List.length_map, hsl]
    simp [isTupD, dS]
  refine go_ret A1 (EV.cast (ev_callB (ca_all (bs := (zD (st.map dN) (h.map dR)).map fun _ => true) rfl) rfl T.all (by decide +kernel) (es_cons (EVL.ev (EVL.cast (el_map (own := [("place", 2), ("hall", 3)]) (u := uP 2 3) (sl := [2, 3]) (g := gTup K 2 (gCons (gName 2) (gCons (gName 3) gNil))) (f := btwP) rfl sc_is_known_standing.nd (ITR.same (it_zip (es_cons (ev_var (i := 1) rfl (.inl rfl) rfl) (es_cons (ev_var (i := 0) rfl (.inl rfl) rfl) es_nil)) (noL_N st) (noLs_map noL_R h) rfl T.zip)) (blkOk_by (N := ["house", "value", "place", "hall"]) (sc := defScope s_is_known_standing) (by decide +kernel)) (fun _ _ _ _ _ => (pg_tup rfl (pgs_cons (pg_name (i := 2) sc_is_known_standing.nd rfl (.inl rfl) (.inr rfl)) (pgs_cons (pg_name (i := 3) sc_is_known_standing.nd rfl (.inl rfl) (.inr rfl)) pgs_nil)))) (fun d hd => ?_) (by decide) (fun d hd _ _ _ _ _ => ?_) (fun d hd => ?_) ?_) ?_)) es_nil)) ?_) q
  · obtain ⟨p, r, rfl, _⟩ := zS_btw gs hd
    exact rg_two 2 3 _ _
  · obtain ⟨p, r, rfl, _⟩ := zS_btw gs hd
    exact ev_call F1 (hr.mono (by decide)) rfl (es_cons (ev_var (i := 2) rfl (.inl rfl) rfl) (es_cons ev_int (es_cons (ev_bin (ev_callB ca_lenT rfl T.len (by decide +kernel) (es_cons (ev_var (i := 3) rfl (.inl rfl) rfl) es_nil)) ev_int od_sub) es_nil))) rfl ⟨_, _, _, rfl, rfl⟩
  · obtain ⟨p, r, rfl, _⟩ := zS_btw gs hd
    rfl
  · rw [zD_len, List.length_map, List.length_map]
    omega
  · rw [List.map_map]
    refine List.map_congr_left fun d hd => ?_
    obtain ⟨p, r, rfl, hp⟩ := zS_btw gs hd
    show PyData.bool (decide ((0 : Int) ≤ (p : Int)) && decide ((p : Int) ≤ ((r.map dW).length : Int) - 1)) = .bool true
    rw [List.length_map, decide_eq_true (by omega), decide_eq_true (by omega)]
    rfl
  · congr 1
    rw [List.all_map, List.all_eq_true]
    exact fun _ _ => rfl
def r_check_three (ds : List PyData) (z : PyData) : Prop := ∃ (h : House) (s : Stg) (x : Nat), GoodH h ∧ GoodS h s ∧ x < h.length ∧ ds = [dH h, dS s, dN x] ∧ z = .none
theorem sc_check_three : FnScope ["house", "standing", "hall"] ["house", "standing", "hall"] (defScope s_check_three) := ⟨rfl, rfl, rfl, by decide +kernel, rfl, by decide +kernel, by decide +kernel⟩
theorem fd_check_three (L : Lnk K mg "check_three" s_check_three ["house", "standing", "hall"]) (F1 : FnD P w K mg base 5 "check_standing" (spR K 2 r_check_standing)) (F2 : FnD P w K mg base 2 "check_hall" (spR K 2 r_check_hall)) : FnD P w K mg base 6 "check_three" (spR K 3 r_check_three) := L.fnD fun f fd F => by
  refine Fun.okD F sc_check_three rfl (by decide) fun cdv A outer s H Q E ds z σ hr rel hl q A0 => ?_
  obtain ⟨h, st, x, g, gs, hx, rfl, rfl⟩ := rel
  refine go_expr A0 (ev_call F1 (hr.mono (by decide)) rfl (es_cons (ev_var (i := 0) rfl (.inl rfl) rfl) (es_cons (ev_var (i := 1) rfl (.inl rfl) rfl) es_nil)) rfl ⟨h, st, g, gs, rfl, rfl⟩) fun H1 A1 => ?_
  exact go_expr A1 (ev_call F2 (hr.mono (by decide)) rfl (es_cons (ev_var (i := 0) rfl (.inl rfl) rfl) (es_cons (ev_var (i := 2) rfl (.inl rfl) rfl) es_nil)) rfl ⟨h, x, g, hx, rfl, rfl⟩) fun H2 A2 => go_nil (q .non H2 A2.same .non)
def r_check_walk (ds : List PyData) (z : PyData) : Prop := ∃ (h : House) (s : Stg) (x : Nat), GoodH h ∧ GoodS h s ∧ x < h.length ∧ Safe h x ∧ ds = [dH h, dS s, dN x] ∧ z = .none
theorem sc_check_walk : FnScope ["house", "standing", "hall"] ["house", "standing", "hall"] (defScope s_check_walk) := ⟨rfl, rfl, rfl, by decide +kernel, rfl, by decide +kernel, by decide +kernel⟩
theorem fd_check_walk (L : Lnk K mg "check_walk" s_check_walk ["house", "standing", "hall"]) (F1 : FnD P w K mg base 6 "check_three" (spR K 3 r_check_three)) (F2 : FnD P w K mg base 4 "check_safe" (spR K 2 r_check_safe)) : FnD P w K mg base 7 "check_walk" (spR K 3 r_check_walk) := L.fnD fun f fd F => by
  refine Fun.okD F sc_check_walk rfl (by decide) fun cdv A outer s H Q E ds z σ hr rel hl q A0 => ?_
  obtain ⟨h, st, x, g, gs, hx, sf, rfl, rfl⟩ := rel
  refine go_expr A0 (ev_call F1 (hr.mono (by decide)) rfl (es_cons (ev_var (i := 0) rfl (.inl rfl) rfl) (es_cons (ev_var (i := 1) rfl (.inl rfl) rfl) (es_cons (ev_var (i := 2) rfl (.inl rfl) rfl) es_nil))) rfl ⟨h, st, x, g, gs, hx, rfl, rfl⟩) fun H1 A1 => ?_
  exact go_expr A1 (ev_call F2 (hr.mono (by decide)) rfl (es_cons (ev_var (i := 0) rfl (.inl rfl) rfl) (es_cons (ev_var (i := 2) rfl (.inl rfl) rfl) es_nil)) rfl ⟨h, x, g, hx, sf, rfl, rfl⟩) fun H2 A2 => go_nil (q .non H2 A2.same .non)
end
end TK

namespace TK
open PySem L2 TH WP PyProof.Rows
section
variable {P : Program} {w : World} {K : PySem.W.Frag} {mg : Str → Option Value} {base : Heap} {f : Addr} {fd : FuncData}

def sp_is_between : CW
  | [d, .int lo, .int hi], Q => Q (.bool (isBtw d lo hi))
  | _, _ => False
theorem cv_is_between (F : FnD P w K mg base 1 "is_between" (spR K 3 r_is_between)) : FnD P w K mg base 1 "is_between" (spW K 3 sp_is_between) := FnD.toW F fun ds Q h => by
  unfold sp_is_between at h
  split at h
  · exact ⟨_, ⟨_, _, _, rfl, rfl⟩, rfl, h⟩
  · exact h.elim
def sp_check_house : CW := spH fun h Q => (GoodH h) ∧ Q .none
theorem cv_check_house (F : FnD P w K mg base 4 "check_house" (spR K 1 r_check_house)) : FnD P w K mg base 4 "check_house" (spW K 1 sp_check_house) := FnD.toW F fun ds Q ⟨h, e, g0, q⟩ => ⟨_, ⟨h, g0, e, rfl⟩, rfl, q⟩
def sp_check_hall : CW := spHN fun h x Q => (GoodH h ∧ x < h.length) ∧ Q .none
theorem cv_check_hall (F : FnD P w K mg base 2 "check_hall" (spR K 2 r_check_hall)) : FnD P w K mg base 2 "check_hall" (spW K 2 sp_check_hall) := FnD.toW F fun ds Q ⟨h, x, e, ⟨g0, g1⟩, q⟩ => ⟨_, ⟨h, x, g0, g1, e, rfl⟩, rfl, q⟩
def sp_found_exits : CW := spH fun h Q => (GoodH h) ∧ Q (.list ((exitsOf h).map dX))
theorem cv_found_exits (F : FnD P w K mg base 1 "found_exits" (spL K 1 r_found_exits)) : FnD P w K mg base 1 "found_exits" (spW K 1 sp_found_exits) := FnD.toWL F fun ds Q ⟨h, e, g0, q⟩ => ⟨_, ⟨h, g0, e, rfl⟩, noLs_X _, q⟩
def sp_exits : CW := spH fun h Q => (GoodH h) ∧ Q (.tuple ((exitsOf h).map dX))
theorem cv_exits (F : FnD P w K mg base 5 "exits" (spR K 1 r_exits)) : FnD P w K mg base 5 "exits" (spW K 1 sp_exits) := FnD.toW F fun ds Q ⟨h, e, g0, q⟩ => ⟨_, ⟨h, g0, e, rfl⟩, noLs_X _, q⟩
def sp_met_from : CW := spHN fun h x Q => (GoodH h ∧ x < h.length) ∧ Q (.list ((reachL h x).map dN))
theorem cv_met_from (F : FnD P w K mg base 1 "met_from" (spL K 2 r_met_from)) : FnD P w K mg base 1 "met_from" (spW K 2 sp_met_from) := FnD.toWL F fun ds Q ⟨h, x, e, ⟨g0, g1⟩, q⟩ => ⟨_, ⟨h, x, g0, g1, e, rfl⟩, noLs_N _, q⟩
def sp_reached : CW := spHN fun h x Q => (GoodH h ∧ x < h.length) ∧ Q (.tuple ((reachL h x).map dN))
theorem cv_reached (F : FnD P w K mg base 5 "reached" (spR K 2 r_reached)) : FnD P w K mg base 5 "reached" (spW K 2 sp_reached) := FnD.toW F fun ds Q ⟨h, x, e, ⟨g0, g1⟩, q⟩ => ⟨_, ⟨h, x, g0, g1, e, rfl⟩, noLs_N _, q⟩
def sp_has_exit : CW := spHN fun h x Q => (GoodH h ∧ x < h.length) ∧ Q (.bool (hasExB h x))
theorem cv_has_exit (F : FnD P w K mg base 2 "has_exit" (spR K 2 r_has_exit)) : FnD P w K mg base 2 "has_exit" (spW K 2 sp_has_exit) := FnD.toW F fun ds Q ⟨h, x, e, ⟨g0, g1⟩, q⟩ => ⟨_, ⟨h, x, g0, g1, e, rfl⟩, rfl, q⟩
def sp_is_safe : CW := spHN fun h x Q => (GoodH h ∧ x < h.length) ∧ Q (.bool (safeB h x))
theorem cv_is_safe (F : FnD P w K mg base 3 "is_safe" (spR K 2 r_is_safe)) : FnD P w K mg base 3 "is_safe" (spW K 2 sp_is_safe) := FnD.toW F fun ds Q ⟨h, x, e, ⟨g0, g1⟩, q⟩ => ⟨_, ⟨h, x, g0, g1, e, rfl⟩, rfl, q⟩
def sp_safe_halls : CW := spH fun h Q => (GoodH h) ∧ Q (.tuple ((safeL h).map dN))
theorem cv_safe_halls (F : FnD P w K mg base 5 "safe_halls" (spR K 1 r_safe_halls)) : FnD P w K mg base 5 "safe_halls" (spW K 1 sp_safe_halls) := FnD.toW F fun ds Q ⟨h, e, g0, q⟩ => ⟨_, ⟨h, g0, e, rfl⟩, noLs_N _, q⟩
def sp__law_exits : CW := spH fun h Q => (SmallH h) ∧ Q (.list ((exitsOf h).map dX))
theorem cv__law_exits (F : FnD P w K mg base 1 "_law_exits" (spL K 1 r_law_exits)) : FnD P w K mg base 1 "_law_exits" (spW K 1 sp__law_exits) := FnD.toWL F fun ds Q ⟨h, e, g0, q⟩ => ⟨_, ⟨h, g0, e, rfl⟩, noLs_X _, q⟩
def sp__law_reach : CW := spHN fun h x Q => (GoodH h ∧ x < h.length) ∧ Q (.list ((reachL h x).map dN))
theorem cv__law_reach (F : FnD P w K mg base 1 "_law_reach" (spL K 2 r_law_reach)) : FnD P w K mg base 1 "_law_reach" (spW K 2 sp__law_reach) := FnD.toWL F fun ds Q ⟨h, x, e, ⟨g0, g1⟩, q⟩ => ⟨_, ⟨h, x, g0, g1, e, rfl⟩, noLs_N _, q⟩
def sp__law_safe : CW := spHN fun h x Q => (GoodH h ∧ x < h.length) ∧ Q (.bool (safeB h x))
theorem cv__law_safe (F : FnD P w K mg base 2 "_law_safe" (spR K 2 r_law_safe)) : FnD P w K mg base 2 "_law_safe" (spW K 2 sp__law_safe) := FnD.toW F fun ds Q ⟨h, x, e, ⟨g0, g1⟩, q⟩ => ⟨_, ⟨h, x, g0, g1, e, rfl⟩, rfl, q⟩
def sp_check_standing : CW := spHS fun h s Q => (GoodH h ∧ GoodS h s) ∧ Q .none
theorem cv_check_standing (F : FnD P w K mg base 5 "check_standing" (spR K 2 r_check_standing)) : FnD P w K mg base 5 "check_standing" (spW K 2 sp_check_standing) := FnD.toW F fun ds Q ⟨h, s, e, ⟨g0, g1⟩, q⟩ => ⟨_, ⟨h, s, g0, g1, e, rfl⟩, rfl, q⟩
def sp_check_safe : CW := spHN fun h x Q => (GoodH h ∧ x < h.length ∧ Safe h x) ∧ Q .none
theorem cv_check_safe (F : FnD P w K mg base 4 "check_safe" (spR K 2 r_check_safe)) : FnD P w K mg base 4 "check_safe" (spW K 2 sp_check_safe) := FnD.toW F fun ds Q ⟨h, x, e, ⟨g0, g1, g2⟩, q⟩ => ⟨_, ⟨h, x, g0, g1, g2, e, rfl⟩, rfl, q⟩
def sp_moved : CW := spHSN fun h s x Q => (GoodH h ∧ GoodS h s ∧ x < h.length) ∧ Q (dP (stp h (.h x, s)))
theorem cv_moved (F : FnD P w K mg base 1 "moved" (spR K 3 r_moved)) : FnD P w K mg base 1 "moved" (spW K 3 sp_moved) := FnD.toW F fun ds Q ⟨h, s, x, e, ⟨g0, g1, g2⟩, q⟩ => ⟨_, ⟨h, s, x, g0, g1, g2, e, rfl⟩, noL_P _, q⟩
def sp_move : CW := spHSN fun h s x Q => (GoodH h ∧ GoodS h s ∧ x < h.length) ∧ Q (dP (stp h (.h x, s)))
theorem cv_move (F : FnD P w K mg base 7 "move" (spR K 3 r_moved)) : FnD P w K mg base 7 "move" (spW K 3 sp_move) := FnD.toW F fun ds Q ⟨h, s, x, e, ⟨g0, g1, g2⟩, q⟩ => ⟨_, ⟨h, s, x, g0, g1, g2, e, rfl⟩, noL_P _, q⟩
def sp_check_three : CW := spHSN fun h s x Q => (GoodH h ∧ GoodS h s ∧ x < h.length) ∧ Q .none
theorem cv_check_three (F : FnD P w K mg base 6 "check_three" (spR K 3 r_check_three)) : FnD P w K mg base 6 "check_three" (spW K 3 sp_check_three) := FnD.toW F fun ds Q ⟨h, s, x, e, ⟨g0, g1, g2⟩, q⟩ => ⟨_, ⟨h, s, x, g0, g1, g2, e, rfl⟩, rfl, q⟩
def sp_check_walk : CW := spHSN fun h s x Q => (GoodH h ∧ GoodS h s ∧ x < h.length ∧ Safe h x) ∧ Q .none
theorem cv_check_walk (F : FnD P w K mg base 7 "check_walk" (spR K 3 r_check_walk)) : FnD P w K mg base 7 "check_walk" (spW K 3 sp_check_walk) := FnD.toW F fun ds Q ⟨h, s, x, e, ⟨g0, g1, g2, g3⟩, q⟩ => ⟨_, ⟨h, s, x, g0, g1, g2, g3, e, rfl⟩, rfl, q⟩
theorem cv__law_town (F : FnD P w K mg base 1 "_law_town" (sp_town K)) : FnD P w K mg base 1 "_law_town" (spTown K) := F
/-! ### draws -/
abbrev kd__law_draw : Nat := 1
abbrev pr__law_draw := pr_draw
abbrev rl__law_draw := r_draw
abbrev kd__law_pick : Nat := 1
abbrev pr__law_pick := pr_pick
abbrev rl__law_pick := r_pick
abbrev kd__law_house : Nat := 40
abbrev pr__law_house := pr_house
abbrev rl__law_house := r_house
theorem drw_pr {m : Nat} : pr_draw (.int m) = (0 < m ∧ m < 1073741824) := by
  apply propext
  constructor
  · rintro ⟨k, h1, h2, e⟩
    rw [dN_inj e]; exact ⟨h1, h2⟩
  · exact fun h => ⟨m, h.1, h.2, rfl⟩
theorem drw_all {m : Nat} {Q : PyData → Prop} : (∀ z, r_draw (.int m) z → noL z = true → Q z) = ∀ k, k < m → Q (dN k) := by
  apply propext
  constructor
  · exact fun h k hk => h _ ⟨m, k, rfl, hk, rfl⟩ rfl
  · rintro h z ⟨m', k, e, hk, rfl⟩ _
    exact h k (by rw [dN_inj e]; exact hk)
theorem pick_pr {es : List PyData} : pr_pick (.list es) = (es ≠ [] ∧ es.length ≤ 100000 ∧ noLs es = true) := by
  apply propext
  constructor
  · rintro ⟨k, e, h⟩
    cases e; exact h
  · exact fun h => ⟨es, rfl, h⟩
theorem pick_all {es : List PyData} {Q : PyData → Prop} : (∀ z, r_pick (.list es) z → noL z = true → Q z) = ∀ z ∈ es, noL z = true → Q z := by
  apply propext
  constructor
  · exact fun h z hz hn => h z ⟨es, rfl, hz⟩ hn
  · rintro h z ⟨es', e, hz⟩ hn
    cases e; exact h z hz hn
theorem house_pr {m : Nat} : pr_house (.int m) = (1 ≤ m ∧ m ≤ 4) := by
  apply propext
  constructor
  · rintro ⟨k, h1, h2, e⟩
    rw [dN_inj e]; exact ⟨h1, h2⟩
  · exact fun h => ⟨m, h.1, h.2, rfl⟩
theorem house_all {m : Nat} {Q : PyData → Prop} : (∀ z, r_house (.int m) z → noL z = true → Q z) = ∀ h, GoodH h → h.length ≤ m → Q (dH h) := by
  apply propext
  constructor
  · exact fun q h g hl => q _ ⟨m, h, rfl, g, hl, rfl⟩ (noL_H h)
  · rintro q z ⟨m', h, e, g, hl, rfl⟩ _
    exact q h g (by rw [dN_inj e]; exact hl)
end
end TK

namespace WP
open PySem TH
/-! ### keys of persons -/
def kyP (p : Pn) : NestedKey := nk (.tuple [dW p.1, dS p.2])
theorem nks_N (s : Stg) : nks (s.map fun (n : Nat) => PyData.int (n : Int)) = s.map fun (n : Nat) => NestedKey.num (n : Int) := by
  induction s with
  | nil => rfl
  | cons n s ih => rw [List.map_cons, List.map_cons, ← ih]; rfl
theorem okNs_N (s : Stg) : okNs (s.map fun (n : Nat) => PyData.int (n : Int)) = true := by
  induction s with
  | nil => rfl
  | cons n s ih => rw [List.map_cons]; simp [okNs, okN, ih]
theorem okN_W (w : Way) : okN (dW w) = true := by cases w <;> rfl
theorem okP (p : Pn) : okNs [dW p.1, dS p.2] = true := by
  simp only [okNs, okN_W, Bool.true_and, Bool.and_true]
  show okNs _ = true
  exact okNs_N _
theorem depth_N (s : Stg) : NestedKey.depthAll (s.map fun (n : Nat) => NestedKey.num (n : Int)) = 0 := by
  induction s with
  | nil => rfl
  | cons n s ih => rw [List.map_cons]; simp [NestedKey.depthAll, NestedKey.depth, ih]
theorem depth_P (p : Pn) : (kyP p).depth ≤ 8 := by
  have e : kyP p = .tup [nk (dW p.1), .tup (p.2.map fun (n : Nat) => NestedKey.num (n : Int))] := by
    rw [← nks_N]; rfl
  rw [e]
  have hw : (nk (dW p.1)).depth = 0 := by cases p.1 <;> rfl
  simp [NestedKey.depth, NestedKey.depthAll, hw, depth_N]
theorem num_inj {s t : Stg} (h : (s.map fun (n : Nat) => NestedKey.num (n : Int)) = t.map fun (n : Nat) => NestedKey.num (n : Int)) : s = t := by
  induction s generalizing t with
  | nil => cases t with
    | nil => rfl
    | cons => cases h
  | cons n s ih => cases t with
    | nil => cases h
    | cons m t =>
      simp only [List.map_cons, List.cons.injEq, NestedKey.num.injEq] at h
      rw [Int.ofNat.inj h.1, ih h.2]
theorem exS_inj' {a b : Ex} (h : exS a = exS b) : a = b := exS_inj h
theorem nkW_inj {a b : Way} (h : nk (dW a) = nk (dW b)) : a = b := by
  cases a with
  | h x => cases b with
    | h y =>
      have : NestedKey.num (x : Int) = NestedKey.num (y : Int) := h
      rw [Int.ofNat.inj (NestedKey.num.inj this)]
    | x d => cases h
  | x c => cases b with
    | h y => cases h
    | x d =>
      have : NestedKey.text (exS c) = NestedKey.text (exS d) := h
      rw [exS_inj (NestedKey.text.inj this)]
theorem kyP_inj {p q : Pn} (h : kyP p = kyP q) : p = q := by
  have e : ∀ p : Pn, kyP p = .tup [nk (dW p.1), .tup (p.2.map fun (n : Nat) => NestedKey.num (n : Int))] := fun p => by rw [← nks_N]; rfl
  rw [e, e] at h
  simp only [NestedKey.tup.injEq, List.cons.injEq, and_true] at h
  obtain ⟨a, b⟩ := p
  obtain ⟨c, d⟩ := q
  have h1 : a = c := nkW_inj h.1
  have h2 : b = d := num_inj h.2
  rw [h1, h2]
end WP
namespace TK
open PySem L2 TH WP PyProof.Rows
section
variable {P : Program} {w : World} {K : PySem.W.Frag} {mg : Str → Option Value} {base : Heap} {f : Addr} {fd : FuncData}
def sp_walked : CW := spHSN fun h s x Q => (GoodH h ∧ GoodS h s ∧ x < h.length) ∧ Q (dWalk (walkR h s x))
abbrev N_walked : List Str := ["house", "standing", "hall", "met", "moves"]
theorem sc_walked : FnScope N_walked ["house", "standing", "hall"] (defScope s_walked) := ⟨rfl, rfl, rfl, by decide +kernel, rfl, by decide +kernel, by decide +kernel⟩
/-- those who were met, as a dict's keys -/
abbrev kxs (L : List (Addr × Pn)) : List (NestedKey × Addr) := L.map fun e => (kyP e.2, e.1)
abbrev kgs (L : List (Addr × Pn)) : List (V × PyData) := L.map fun e => (V.ref e.1, dP e.2)
def phiM (P : Program) (w : World) (L : List (Addr × Pn)) : Addr → HO → Prop := fun p o => o = rawN P w p (kxs L)
theorem kxs_any {L : List (Addr × Pn)} {p : Pn} : ((kxs L).any fun x => decide (x.1 = kyP p)) = decide (p ∈ L.map (·.2)) := by
  apply Bool.eq_iff_iff.mpr
  rw [List.any_eq_true, decide_eq_true_eq]
  constructor
  · rintro ⟨x, hx, e⟩
    obtain ⟨y, hy, rfl⟩ := List.mem_map.mp hx
    exact List.mem_map.mpr ⟨y, hy, kyP_inj (of_decide_eq_true e)⟩
  · intro h
    obtain ⟨y, hy, e⟩ := List.mem_map.mp h
    exact ⟨_, List.mem_map.mpr ⟨y, hy, rfl⟩, by rw [e]; simp⟩
theorem keys_ok {X : Cx} {B H : Hp} {σ : L2.St} {ρ : List SV} {α : Nat → Addr} {L : List (Addr × Pn)} (A : Ax X.K B H σ ρ α [] (kgs L)) : KeysOk X.K H (kxs L) := fun x hx => by
  obtain ⟨e, he, rfl⟩ := List.mem_map.mp hx
  exact ⟨dP e.2, dp_same fz_le (A.gh _ (List.mem_map.mpr ⟨e, he, rfl⟩)), okP e.2, rfl, depth_P e.2⟩
theorem fd_walked (Lk : Lnk K mg "walked" s_walked ["house", "standing", "hall"]) (T : Bts mg) (F_moved : FnD P w K mg base 1 "moved" (spW K 3 sp_moved)) : FnD P w K mg base 2 "walked" (spW K 3 sp_walked) := Lk.fnD fun f fd F => by
  refine Fun.okG F sc_walked (fun vs H Q E ⟨ds, Qz, h1, h2, _⟩ => by rw [h2.length, h1]; rfl) fun cdv A outer s0 H0 vs Q E hr ⟨ds, Qz, h1, h2, h3, h4⟩ => ?_
  obtain ⟨h, s, x, rfl, ⟨g, gst, hx⟩, hQ⟩ := h3
  have A0 : Ax K H0 H0 (L2.start N_walked vs) [.im (dH h), .im (dS s), .im (dN x), .no, .no] (fun _ => 0) [] [] := by
    have := Ax.startS (K := K) (α := fun _ => 0) (N := N_walked) h2 (by rw [h2.length]; exact Nat.le_of_ble_eq_true rfl)
    rw [show ([dH h, dS s, dN x].map argS ++ List.replicate (N_walked.length - [dH h, dS s, dN x].length) SV.no) = [argS (dH h), argS (dS s), argS (dN x), .no, .no] from rfl, argS_H, argS_S, argS_N] at this
    exact this
  refine go_cons (ps_par (i := 3) (j := 4) rfl sc_walked.nd rfl rfl (by decide) rfl rfl (pa_cons pe_dnewN (pa_cons pe_int pa_nil)) (by rfl)) ?_
  intro p hp
  refine ⟨_, _, rfl, ?_⟩
  have A1 := A0.setN (x := .ob (phiM P w [])) 3 (by show 3 < 5; decide) hp (same_new (o := rawN P w p []) hp) upd_same rfl rfl ⟨rfl, _, upd_same, rfl⟩
  have A2 := A1.setI (v := .int 0) (d := dN 0) 4 (.int 0)
  generalize alSet (fun _ => 0) 3 p = α0 at A2
  generalize ((L2.start N_walked vs).set 3 (some (.ref p))).set 4 (some (.int 0)) = σ0 at A2 ⊢
  have gp : GoodP h (.h x, s) := ⟨fun y e => by cases e; exact hx, gst⟩
  let pk : Nat → Pn := fun k => it h k (.h x, s)
  refine go_cons (ps_while PassesOwn.never pt_any pss_any) ⟨fun m σ H => ∃ (α : Nat → Addr) (L : List (Addr × Pn)) (k : Nat), m = 325 - k ∧ Ax K H0 H σ [.im (dH h), .im (dS (pk k).2), .im (dW (pk k).1), .ob (phiM P w L), .im (dN k)] α [] (kgs L) ∧ L.map (·.2) = (List.range k).map pk ∧ (∀ j, j < k → ¬ outP (pk j)) ∧ (L.map (·.2)).Nodup, ⟨325, α0, [], 0, rfl, A2, rfl, fun j hj => by omega, List.nodup_nil⟩, ?_⟩
  rintro m σ H ⟨α, L, k, rfl, A3, hL, hno, hnd⟩
  have gk : GoodP h (pk k) := it_good g gp k
  have hk : k ≤ 324 := by
    have hlen : (L.map (·.2)).length = k := by rw [hL]; simp
    rw [← hlen]
    refine Nat.le_trans (sub_len hnd fun q hq => ?_) (hallP_len g)
    rw [hL] at hq
    obtain ⟨j, hj, rfl⟩ := List.mem_map.mp hq
    exact mem_hallP (it_good g gp j) (hno j (List.mem_range.mp hj))
  -- not isinstance(hall, str)
  refine SndT.run (pu := true) (w := WP.tNot (tVal (wIsi isStrD (wV 2)))) ?hs1 H0 α [] (kgs L) σ H _ (fun b ρ' => b = !isStrD (dW (pk k).1) ∧ ρ' = [.im (dH h), .im (dS (pk k).2), .im (dW (pk k).1), .ob (phiM P w L), .im (dN k)]) _ A3 ⟨rfl, rfl⟩ fun b H2 ρ2 hb A4 _ => ?_
  case hs1 => exact st_not (st_val (sn_isi kb_str (sn_var (i := 2) rfl (vis_of rfl)) rfl T.isinstance rfl T.str (by decide +kernel)))
  obtain ⟨rfl, rfl⟩ := hb
  generalize hpk : pk k = pc at *
  obtain ⟨v, t⟩ := pc
  cases v with
  | x c =>
    -- return (hall, moves, standing)
    refine iteF ?_
    have hw : walkR h s x = some (c, k, t) := walkR_of g gp hpk hno
    refine SndS.run (w := wSeq (wRet (wTup (waCons true (wV 2) (waCons true (wV 4) (waCons true (wV 1) waNil))))) wNil) ?hs2 H0 α [] (kgs L) σ H2 _ { nx := fun _ => False, rt := fun z _ => z = dWalk (walkR h s x) } _ A4 ?_ ⟨fun _ _ _ _ q _ => q.elim, fun v' σ' H' ρ' α' d q A' hd => ?_, fun _ _ _ _ q _ => q.elim, fun _ _ _ _ q _ => q.elim⟩
    case hs2 => exact ss_cons (s1_ret (sn_tup (sa_cons (sn_var (i := 2) rfl (vis_of rfl)) (sa_cons (sn_var (i := 4) rfl (vis_of rfl)) (sa_cons (sn_var (i := 1) rfl (vis_of rfl)) sa_nil))))) ss_nil
    · simp only [WP.shp, WP.wSeq, WP.wNil, WP.wExpr, WP.wCall, WP.arW, WP.waCons, WP.waNil, WP.wV, WP.wC, WP.wIfS, WP.tNot, WP.tVal, WP.wSet, WP.pLst, WP.pIm, WP.pList, WP.pLrg, WP.tAnd, WP.tOr, WP.tCmp, WP.tChain, WP.wChain, WP.wCmp, WP.wBin, WP.wIsi, WP.wIx, WP.wNeg, WP.wNot, WP.wAnd, WP.wOr, WP.wIf, WP.wAsg, WP.twN, WP.puts, WP.wApp, WP.wRet, WP.wRetN, WP.wAbs, WP.wPass, WP.wBrk, WP.wCnt, WP.wTup, WP.wLst, WP.wSl, WP.woN, WP.woS, WP.wLrg, WP.wDrw, WP.wFor, WP.wFz, WP.wPar, WP.wPar3, WP.wSetIx, WP.wiV, WP.wiE, WP.wiR, WP.wiZ, WP.gs, WP.wIdx, WP.wCount, WP.wLc, WP.tYesW, WP.okF, WP.wipeS, WP.getK.eq_1, WP.getK.eq_2, WP.getK.eq_3, WP.asL.eq_1, WP.binW.eq_1, WP.binW.eq_2, WP.binW.eq_3, WP.binW.eq_4, WP.binW.eq_5, WP.binW.eq_6, WP.binW.eq_7, WP.binW.eq_8, WP.binW.eq_9, WP.binW.eq_10, WP.twT.eq_1, WP.fzK.eq_1, WP.fzK.eq_2, WP.fzK.eq_3, WP.itK.eq_1, WP.itK.eq_2, WP.zipW.eq_1, WP.seqW.eq_1, WP.seqW.eq_2, WP.cutW.eq_1, WP.cutW.eq_2, WP.asML.eq_1, WP.asI.eq_1, WP.asB.eq_1, WP.asN.eq_1, WP.cmpB.eq_1, WP.cmpB.eq_2, WP.cmpB.eq_3, WP.cmpB.eq_4, WP.cmpB.eq_5, WP.cmpB.eq_6, WP.cmpB.eq_7, WP.cmpB.eq_8, WP.cmpB.eq_9, WP.cmpB.eq_10, WP.cmpB.eq_11, WP.cmpB.eq_12, WP.cmpB.eq_13, WP.cmpB.eq_14, WP.ixW.eq_1, WP.ixW.eq_2, WP.idxW.eq_1, WP.isLD.eq_1, WP.lenW.eq_1, WP.lenW.eq_2, WP.tupleW.eq_1, WP.listW.eq_1, WP.listW.eq_2, WP.intW.eq_1, WP.intW.eq_2, WP.absW.eq_1, WP.allW.eq_1, WP.anyW.eq_1, WP.sumW.eq_1, WP.twW.eq_1, WP.cntW.eq_1, WP.itemsN.eq_1, WP.itemsN.eq_2, TH.noL, TH.noLs, true_or, or_true, true_and, and_true, Bool.true_or, Bool.or_true, Bool.false_or, Bool.or_false, Bool.true_and, Bool.and_true, Bool.false_and, Bool.and_false, Bool.not_true, Bool.not_false, reduceIte, List.set_cons_zero, List.set_cons_succ, List.length_cons, List.length_nil, Nat.zero_add, Bool.false_eq_true, Nat.reduceAdd, Nat.reduceLT, Nat.reduceLeDiff, Nat.reduceEqDiff, Int.reduceNeg, decide_true, decide_false, WP.isStr_dX, WP.isStr_int, TH.noL_H, TH.noL_R, TH.noL_S, TH.noL_W, WP.noLs_W, WP.noLs_S, WP.noLs_N, WP.noLs_I, WP.noLs_X, WP.noLs_app, L2.atI_last, WP.atI_0, WP.atI_1, WP.atI_2, WP.atI_3, Option.some.injEq, exists_eq_left', WP.lenW_H, WP.lenW_R, WP.lenW_S, WP.seqW_H, WP.seqW_R, WP.seqW_S, WP.spH_eq, WP.spHN_eq, WP.spHS_eq, WP.spHSN_eq, WP.spHSNN_eq, WP.spHSS_eq, WP.spHSSS_eq, WP.argS_H, WP.argS_S, WP.argS_N, WP.argS_I, TH.eqv_int, TH.eqv_nat, TH.eqv_str, TH.eqv_ex, TH.eqv_W, TH.eqv_R, TH.eqv_H, TH.eqv_S, WP.shp_W, WP.shp_R, WP.shp_H, WP.shp_S, WP.shp_int, WP.shp_bool, WP.shp_none, List.map_cons, List.map_nil, List.append_assoc, List.cons_append, List.nil_append, hw, dWalk, dW_x]
    · subst q
      exact h4 _ hQ _ _ A'.same (dp_same (fz_mono (fun _ _ _ h => h.elim) fun _ _ _ h => h) hd)
  | h y =>
    refine iteT ⟨fun σ' H' => ∃ (α : Nat → Addr) (L : List (Addr × Pn)), Ax K H0 H' σ' [.im (dH h), .im (dS (pk (k + 1)).2), .im (dW (pk (k + 1)).1), .ob (phiM P w L), .im (dN (k + 1))] α [] (kgs L) ∧ L.map (·.2) = (List.range (k + 1)).map pk ∧ (∀ j, j < k + 1 → ¬ outP (pk j)) ∧ (L.map (·.2)).Nodup, fun σ' H' ⟨α', L', q1, q3, q4, q5⟩ => ⟨325 - (k + 1), by omega, α', L', k + 1, rfl, q1, q3, q4, q5⟩, ?_⟩
    have hout : ¬ outP (pk k) := by rw [hpk]; exact fun q => q
    have hy : y < h.length := gk.hall y rfl
    -- if (hall, standing) in met: return None
    refine go_cons (ps_if (pt_cmpR (op_inN hr) pe_any (pe_var (i := 3) rfl (vis_of rfl)) (by rfl)) pss_any pss_any) ?_
    refine Snd.run (pu := true) (w := wTup (waCons true (wV 2) (waCons true (wV 1) waNil))) ?hs3 H0 α [] (kgs L) σ H2 _ (fun d fr ρ' => fr = true ∧ d = dP (.h y, t) ∧ ρ' = [.im (dH h), .im (dS t), .im (dW (.h y)), .ob (phiM P w L), .im (dN k)]) _ A4 ?_ fun kv H3 ρ3 d fr hd A5 hv _ => ?_
    case hs3 => exact sn_tup (sa_cons (sn_var (i := 2) rfl (vis_of rfl)) (sa_cons (sn_var (i := 1) rfl (vis_of rfl)) sa_nil))
    · simp only [WP.shp, WP.wSeq, WP.wNil, WP.wExpr, WP.wCall, WP.arW, WP.waCons, WP.waNil, WP.wV, WP.wC, WP.wIfS, WP.tNot, WP.tVal, WP.wSet, WP.pLst, WP.pIm, WP.pList, WP.pLrg, WP.tAnd, WP.tOr, WP.tCmp, WP.tChain, WP.wChain, WP.wCmp, WP.wBin, WP.wIsi, WP.wIx, WP.wNeg, WP.wNot, WP.wAnd, WP.wOr, WP.wIf, WP.wAsg, WP.twN, WP.puts, WP.wApp, WP.wRet, WP.wRetN, WP.wAbs, WP.wPass, WP.wBrk, WP.wCnt, WP.wTup, WP.wLst, WP.wSl, WP.woN, WP.woS, WP.wLrg, WP.wDrw, WP.wFor, WP.wFz, WP.wPar, WP.wPar3, WP.wSetIx, WP.wiV, WP.wiE, WP.wiR, WP.wiZ, WP.gs, WP.wIdx, WP.wCount, WP.wLc, WP.tYesW, WP.okF, WP.wipeS, WP.getK.eq_1, WP.getK.eq_2, WP.getK.eq_3, WP.asL.eq_1, WP.binW.eq_1, WP.binW.eq_2, WP.binW.eq_3, WP.binW.eq_4, WP.binW.eq_5, WP.binW.eq_6, WP.binW.eq_7, WP.binW.eq_8, WP.binW.eq_9, WP.binW.eq_10, WP.twT.eq_1, WP.fzK.eq_1, WP.fzK.eq_2, WP.fzK.eq_3, WP.itK.eq_1, WP.itK.eq_2, WP.zipW.eq_1, WP.seqW.eq_1, WP.seqW.eq_2, WP.cutW.eq_1, WP.cutW.eq_2, WP.asML.eq_1, WP.asI.eq_1, WP.asB.eq_1, WP.asN.eq_1, WP.cmpB.eq_1, WP.cmpB.eq_2, WP.cmpB.eq_3, WP.cmpB.eq_4, WP.cmpB.eq_5, WP.cmpB.eq_6, WP.cmpB.eq_7, WP.cmpB.eq_8, WP.cmpB.eq_9, WP.cmpB.eq_10, WP.cmpB.eq_11, WP.cmpB.eq_12, WP.cmpB.eq_13, WP.cmpB.eq_14, WP.ixW.eq_1, WP.ixW.eq_2, WP.idxW.eq_1, WP.isLD.eq_1, WP.lenW.eq_1, WP.lenW.eq_2, WP.tupleW.eq_1, WP.listW.eq_1, WP.listW.eq_2, WP.intW.eq_1, WP.intW.eq_2, WP.absW.eq_1, WP.allW.eq_1, WP.anyW.eq_1, WP.sumW.eq_1, WP.twW.eq_1, WP.cntW.eq_1, WP.itemsN.eq_1, WP.itemsN.eq_2, TH.noL, TH.noLs, true_or, or_true, true_and, and_true, Bool.true_or, Bool.or_true, Bool.false_or, Bool.or_false, Bool.true_and, Bool.and_true, Bool.false_and, Bool.and_false, Bool.not_true, Bool.not_false, reduceIte, List.set_cons_zero, List.set_cons_succ, List.length_cons, List.length_nil, Nat.zero_add, Bool.false_eq_true, Nat.reduceAdd, Nat.reduceLT, Nat.reduceLeDiff, Nat.reduceEqDiff, Int.reduceNeg, decide_true, decide_false, WP.isStr_dX, WP.isStr_int, TH.noL_H, TH.noL_R, TH.noL_S, TH.noL_W, WP.noLs_W, WP.noLs_S, WP.noLs_N, WP.noLs_I, WP.noLs_X, WP.noLs_app, L2.atI_last, WP.atI_0, WP.atI_1, WP.atI_2, WP.atI_3, Option.some.injEq, exists_eq_left', WP.lenW_H, WP.lenW_R, WP.lenW_S, WP.seqW_H, WP.seqW_R, WP.seqW_S, WP.spH_eq, WP.spHN_eq, WP.spHS_eq, WP.spHSN_eq, WP.spHSNN_eq, WP.spHSS_eq, WP.spHSSS_eq, WP.argS_H, WP.argS_S, WP.argS_N, WP.argS_I, TH.eqv_int, TH.eqv_nat, TH.eqv_str, TH.eqv_ex, TH.eqv_W, TH.eqv_R, TH.eqv_H, TH.eqv_S, WP.shp_W, WP.shp_R, WP.shp_H, WP.shp_S, WP.shp_int, WP.shp_bool, WP.shp_none, List.map_cons, List.map_nil, List.append_assoc, List.cons_append, List.nil_append]
    obtain ⟨rfl, rfl, rfl⟩ := hd
    have hv5 : Dq K H3 kv (dP (.h y, t)) := hv.h
    obtain ⟨b, rfl⟩ : ∃ b, kv = .ref b := by
      cases hv5 with
      | tup _ _ => exact ⟨_, rfl⟩
    have val3 := A5.val (i := 3) rfl
    obtain ⟨v3, w3, w4⟩ := A5.ok 3 (by intro z; cases z)
    obtain ⟨_, o3, w5, w6⟩ := w4
    have w5' : H3 (α 3) = some (rawN P w (α 3) (kxs L)) := by rw [w5, w6]
    refine ⟨_, val3, α 3, kxs L, b, [dW (.h y), dS t], rfl, rfl, w5', keys_ok A5, hv5, okP (.h y, t), depth_P (.h y, t), ?_⟩
    refine ⟨_, rfl, ?_⟩
    rw [show nk (.tuple [dW (.h y), dS t]) = kyP (.h y, t) from rfl, kxs_any]
    by_cases hin : ((Way.h y, t) : Pn) ∈ L.map (·.2)
    · rw [decide_eq_true hin]
      refine iteT ?_
      have hw : walkR h s x = none := by
        rw [walkR_none g gp]
        rw [hL] at hin
        obtain ⟨j, hj, e⟩ := List.mem_map.mp hin
        rw [List.mem_range] at hj
        exact again_never hj (e.trans hpk.symm) hout
      rw [hw] at hQ
      exact go_cons (ps_ret pe_non) (h4 _ hQ _ _ A5.same .non)
    · rw [decide_eq_false hin]
      refine iteF (go_nil ?_)
      -- met[(hall, standing)] = True
      refine go_cons (ps_asg pe_bl (pg_sub (pe_var (i := 3) rfl (vis_of rfl)) pe_any (set_dN hr) (by intro _; rfl))) ?_
      refine ⟨_, val3, Snd.run (pu := true) (w := wTup (waCons true (wV 2) (waCons true (wV 1) waNil))) ?hs4 H0 α [] (kgs L) σ H3 _ (fun d fr ρ' => fr = true ∧ d = dP (.h y, t) ∧ ρ' = [.im (dH h), .im (dS t), .im (dW (.h y)), .ob (phiM P w L), .im (dN k)]) _ A5 ?_ fun kv H4 ρ4 d fr hd A6 hv6 _ => ?_⟩
      case hs4 => exact sn_tup (sa_cons (sn_var (i := 2) rfl (vis_of rfl)) (sa_cons (sn_var (i := 1) rfl (vis_of rfl)) sa_nil))
      · simp only [WP.shp, WP.wSeq, WP.wNil, WP.wExpr, WP.wCall, WP.arW, WP.waCons, WP.waNil, WP.wV, WP.wC, WP.wIfS, WP.tNot, WP.tVal, WP.wSet, WP.pLst, WP.pIm, WP.pList, WP.pLrg, WP.tAnd, WP.tOr, WP.tCmp, WP.tChain, WP.wChain, WP.wCmp, WP.wBin, WP.wIsi, WP.wIx, WP.wNeg, WP.wNot, WP.wAnd, WP.wOr, WP.wIf, WP.wAsg, WP.twN, WP.puts, WP.wApp, WP.wRet, WP.wRetN, WP.wAbs, WP.wPass, WP.wBrk, WP.wCnt, WP.wTup, WP.wLst, WP.wSl, WP.woN, WP.woS, WP.wLrg, WP.wDrw, WP.wFor, WP.wFz, WP.wPar, WP.wPar3, WP.wSetIx, WP.wiV, WP.wiE, WP.wiR, WP.wiZ, WP.gs, WP.wIdx, WP.wCount, WP.wLc, WP.tYesW, WP.okF, WP.wipeS, WP.getK.eq_1, WP.getK.eq_2, WP.getK.eq_3, WP.asL.eq_1, WP.binW.eq_1, WP.binW.eq_2, WP.binW.eq_3, WP.binW.eq_4, WP.binW.eq_5, WP.binW.eq_6, WP.binW.eq_7, WP.binW.eq_8, WP.binW.eq_9, WP.binW.eq_10, WP.twT.eq_1, WP.fzK.eq_1, WP.fzK.eq_2, WP.fzK.eq_3, WP.itK.eq_1, WP.itK.eq_2, WP.zipW.eq_1, WP.seqW.eq_1, WP.seqW.eq_2, WP.cutW.eq_1, WP.cutW.eq_2, WP.asML.eq_1, WP.asI.eq_1, WP.asB.eq_1, WP.asN.eq_1, WP.cmpB.eq_1, WP.cmpB.eq_2, WP.cmpB.eq_3, WP.cmpB.eq_4, WP.cmpB.eq_5, WP.cmpB.eq_6, WP.cmpB.eq_7, WP.cmpB.eq_8, WP.cmpB.eq_9, WP.cmpB.eq_10, WP.cmpB.eq_11, WP.cmpB.eq_12, WP.cmpB.eq_13, WP.cmpB.eq_14, WP.ixW.eq_1, WP.ixW.eq_2, WP.idxW.eq_1, WP.isLD.eq_1, WP.lenW.eq_1, WP.lenW.eq_2, WP.tupleW.eq_1, WP.listW.eq_1, WP.listW.eq_2, WP.intW.eq_1, WP.intW.eq_2, WP.absW.eq_1, WP.allW.eq_1, WP.anyW.eq_1, WP.sumW.eq_1, WP.twW.eq_1, WP.cntW.eq_1, WP.itemsN.eq_1, WP.itemsN.eq_2, TH.noL, TH.noLs, true_or, or_true, true_and, and_true, Bool.true_or, Bool.or_true, Bool.false_or, Bool.or_false, Bool.true_and, Bool.and_true, Bool.false_and, Bool.and_false, Bool.not_true, Bool.not_false, reduceIte, List.set_cons_zero, List.set_cons_succ, List.length_cons, List.length_nil, Nat.zero_add, Bool.false_eq_true, Nat.reduceAdd, Nat.reduceLT, Nat.reduceLeDiff, Nat.reduceEqDiff, Int.reduceNeg, decide_true, decide_false, WP.isStr_dX, WP.isStr_int, TH.noL_H, TH.noL_R, TH.noL_S, TH.noL_W, WP.noLs_W, WP.noLs_S, WP.noLs_N, WP.noLs_I, WP.noLs_X, WP.noLs_app, L2.atI_last, WP.atI_0, WP.atI_1, WP.atI_2, WP.atI_3, Option.some.injEq, exists_eq_left', WP.lenW_H, WP.lenW_R, WP.lenW_S, WP.seqW_H, WP.seqW_R, WP.seqW_S, WP.spH_eq, WP.spHN_eq, WP.spHS_eq, WP.spHSN_eq, WP.spHSNN_eq, WP.spHSS_eq, WP.spHSSS_eq, WP.argS_H, WP.argS_S, WP.argS_N, WP.argS_I, TH.eqv_int, TH.eqv_nat, TH.eqv_str, TH.eqv_ex, TH.eqv_W, TH.eqv_R, TH.eqv_H, TH.eqv_S, WP.shp_W, WP.shp_R, WP.shp_H, WP.shp_S, WP.shp_int, WP.shp_bool, WP.shp_none, List.map_cons, List.map_nil, List.append_assoc, List.cons_append, List.nil_append]
      obtain ⟨rfl, rfl, rfl⟩ := hd
      have hv7 : Dq K H4 kv (dP (.h y, t)) := hv6.h
      obtain ⟨b2, rfl⟩ : ∃ b, kv = .ref b := by
        cases hv7 with
        | tup _ _ => exact ⟨_, rfl⟩
      obtain ⟨v3', w3', w4'⟩ := A6.ok 3 (by intro z; cases z)
      obtain ⟨_, o3', w5'', w6'⟩ := w4'
      have w7 : H4 (α 3) = some (rawN P w (α 3) (kxs L)) := by rw [w5'', w6']
      have hLl : L.length = k := by
        have := congrArg List.length hL
        simpa using this
      refine ⟨α 3, kxs L, b2, [dW (.h y), dS t], rfl, rfl, rfl, w7, keys_ok A6, hv7, okP (.h y, t), depth_P (.h y, t), ?_, ?_, ?_⟩
      · rw [show nk (.tuple [dW (.h y), dS t]) = kyP (.h y, t) from rfl, kxs_any, decide_eq_false hin]
      · rw [List.length_map, hLl]
        exact Nat.lt_of_le_of_lt hk (by decide)
      have ex : kxs L ++ [(nk (.tuple [dW (.h y), dS t]), b2)] = kxs (L ++ [(b2, (.h y, t))]) := by simp [kxs, kyP]
      have A7 := (A6.addG hv6).mut (i := 3) (y := .ob (phiM P w (L ++ [(b2, (Way.h y, t))]))) (o' := rawN P w (α 3) (kxs (L ++ [(b2, (Way.h y, t))]))) rfl rfl rfl ⟨rfl, _, upd_same, rfl⟩
      rw [ex]
      show GO (CxF P w K mg base N_walked "walked" s_walked f cdv A outer s0 H0 E) _ _ σ (upd H4 (α 3) (rawN P w (α 3) (kxs (L ++ [(b2, (Way.h y, t))]))))
      generalize upd H4 (α 3) (rawN P w (α 3) (kxs (L ++ [(b2, (Way.h y, t))]))) = H5 at A7 ⊢
      have A8 : Ax K H0 H5 σ [.im (dH h), .im (dS t), .im (dW (.h y)), .ob (phiM P w (L ++ [(b2, (.h y, t))])), .im (dN k)] α [] (kgs (L ++ [(b2, (.h y, t))])) := by
        refine ⟨A7.same, A7.len, A7.ok, A7.fresh, A7.inj, A7.hid, A7.nd, fun gg hg => A7.gh gg ?_⟩
        simp only [kgs, List.map_append, List.map_cons, List.map_nil, List.mem_append, List.mem_singleton] at hg
        rcases hg with hg | rfl
        · exact List.mem_cons_of_mem _ hg
        · exact List.mem_cons_self
      -- hall, standing = moved(..); moves = moves + 1
      refine SndS.run (X := CxF P w K mg base N_walked "walked" s_walked f cdv A outer s0 H0 E) (w := wSeq (wAsg (twT [2, 1]) (wCall (arW 3 sp_moved) (waCons true (wV 0) (waCons true (wV 1) (waCons true (wV 2) waNil))))) (wSeq (wSet 4 (pIm (wBin .Add true (wV 4) (wC (.int 1))))) wNil)) ?hs5 H0 α [] _ σ H5 _ { nx := fun ρ' => ρ' = [.im (dH h), .im (dS (pk (k + 1)).2), .im (dW (pk (k + 1)).1), .ob (phiM P w (L ++ [(b2, (.h y, t))])), .im (dN (k + 1))], rt := fun _ _ => False } _ A8 ?_ ⟨fun σ' H' ρ' α' q A' => ?_, fun _ _ _ _ _ _ q _ _ => q.elim, fun _ _ _ _ q _ => q.elim, fun _ _ _ _ q _ => q.elim⟩
      case hs5 => exact ss_cons (s1_asg (pg_tup rfl (pgs_cons (pg_name (i := 2) sc_walked.nd rfl (loc_of rfl)) (pgs_cons (pg_name (i := 1) sc_walked.nd rfl (loc_of rfl)) pgs_nil))) (rx_tup [2, 1]) (sn_call F_moved (hr.mono (by decide)) rfl (sa_cons (sn_var (i := 0) rfl (vis_of rfl)) (sa_cons (sn_var (i := 1) rfl (vis_of rfl)) (sa_cons (sn_var (i := 2) rfl (vis_of rfl)) sa_nil))))) (ss_cons (s1_set (i := 4) sc_walked.nd rfl (loc_of rfl) (sp_im (sn_bin (sn_var (i := 4) rfl (vis_of rfl)) sn_int))) ss_nil)
      · have e1 : pk (k + 1) = stp h (.h y, t) := by
          show it h (k + 1) _ = _
          rw [it_succ]
          exact congrArg (stp h) hpk
        simp only [WP.shp, WP.wSeq, WP.wNil, WP.wExpr, WP.wCall, WP.arW, WP.waCons, WP.waNil, WP.wV, WP.wC, WP.wIfS, WP.tNot, WP.tVal, WP.wSet, WP.pLst, WP.pIm, WP.pList, WP.pLrg, WP.tAnd, WP.tOr, WP.tCmp, WP.tChain, WP.wChain, WP.wCmp, WP.wBin, WP.wIsi, WP.wIx, WP.wNeg, WP.wNot, WP.wAnd, WP.wOr, WP.wIf, WP.wAsg, WP.twN, WP.puts, WP.wApp, WP.wRet, WP.wRetN, WP.wAbs, WP.wPass, WP.wBrk, WP.wCnt, WP.wTup, WP.wLst, WP.wSl, WP.woN, WP.woS, WP.wLrg, WP.wDrw, WP.wFor, WP.wFz, WP.wPar, WP.wPar3, WP.wSetIx, WP.wiV, WP.wiE, WP.wiR, WP.wiZ, WP.gs, WP.wIdx, WP.wCount, WP.wLc, WP.tYesW, WP.okF, WP.wipeS, WP.getK.eq_1, WP.getK.eq_2, WP.getK.eq_3, WP.asL.eq_1, WP.binW.eq_1, WP.binW.eq_2, WP.binW.eq_3, WP.binW.eq_4, WP.binW.eq_5, WP.binW.eq_6, WP.binW.eq_7, WP.binW.eq_8, WP.binW.eq_9, WP.binW.eq_10, WP.twT.eq_1, WP.fzK.eq_1, WP.fzK.eq_2, WP.fzK.eq_3, WP.itK.eq_1, WP.itK.eq_2, WP.zipW.eq_1, WP.seqW.eq_1, WP.seqW.eq_2, WP.cutW.eq_1, WP.cutW.eq_2, WP.asML.eq_1, WP.asI.eq_1, WP.asB.eq_1, WP.asN.eq_1, WP.cmpB.eq_1, WP.cmpB.eq_2, WP.cmpB.eq_3, WP.cmpB.eq_4, WP.cmpB.eq_5, WP.cmpB.eq_6, WP.cmpB.eq_7, WP.cmpB.eq_8, WP.cmpB.eq_9, WP.cmpB.eq_10, WP.cmpB.eq_11, WP.cmpB.eq_12, WP.cmpB.eq_13, WP.cmpB.eq_14, WP.ixW.eq_1, WP.ixW.eq_2, WP.idxW.eq_1, WP.isLD.eq_1, WP.lenW.eq_1, WP.lenW.eq_2, WP.tupleW.eq_1, WP.listW.eq_1, WP.listW.eq_2, WP.intW.eq_1, WP.intW.eq_2, WP.absW.eq_1, WP.allW.eq_1, WP.anyW.eq_1, WP.sumW.eq_1, WP.twW.eq_1, WP.cntW.eq_1, WP.itemsN.eq_1, WP.itemsN.eq_2, TH.noL, TH.noLs, true_or, or_true, true_and, and_true, Bool.true_or, Bool.or_true, Bool.false_or, Bool.or_false, Bool.true_and, Bool.and_true, Bool.false_and, Bool.and_false, Bool.not_true, Bool.not_false, reduceIte, List.set_cons_zero, List.set_cons_succ, List.length_cons, List.length_nil, Nat.zero_add, Bool.false_eq_true, Nat.reduceAdd, Nat.reduceLT, Nat.reduceLeDiff, Nat.reduceEqDiff, Int.reduceNeg, decide_true, decide_false, WP.isStr_dX, WP.isStr_int, TH.noL_H, TH.noL_R, TH.noL_S, TH.noL_W, WP.noLs_W, WP.noLs_S, WP.noLs_N, WP.noLs_I, WP.noLs_X, WP.noLs_app, L2.atI_last, WP.atI_0, WP.atI_1, WP.atI_2, WP.atI_3, Option.some.injEq, exists_eq_left', WP.lenW_H, WP.lenW_R, WP.lenW_S, WP.seqW_H, WP.seqW_R, WP.seqW_S, WP.spH_eq, WP.spHN_eq, WP.spHS_eq, WP.spHSN_eq, WP.spHSNN_eq, WP.spHSS_eq, WP.spHSSS_eq, WP.argS_H, WP.argS_S, WP.argS_N, WP.argS_I, TH.eqv_int, TH.eqv_nat, TH.eqv_str, TH.eqv_ex, TH.eqv_W, TH.eqv_R, TH.eqv_H, TH.eqv_S, WP.shp_W, WP.shp_R, WP.shp_H, WP.shp_S, WP.shp_int, WP.shp_bool, WP.shp_none, List.map_cons, List.map_nil, List.append_assoc, List.cons_append, List.nil_append, sp_moved, dW_h, g, gk.stg, hy, e1]
        rfl
      · subst q
        refine ⟨α', _, A', ?_, fun j hj => ?_, ?_⟩
        · rw [List.map_append, hL, List.range_succ, List.map_append]
          show _ ++ [((Way.h y, t) : Pn)] = _ ++ [pk k]
          rw [hpk]
        · by_cases e : j = k
          · rw [e]; exact hout
          · exact hno j (by omega)
        · rw [List.map_append, List.nodup_append]
          refine ⟨hnd, by simp, fun a ha b hb e => hin ?_⟩
          simp only [List.map_cons, List.map_nil, List.mem_singleton] at hb
          rw [← hb, ← e]
          exact ha
end
end TK

namespace TK
open PySem L2 TH WP PyProof.Rows
section
variable {P : Program} {w : World} {K : PySem.W.Frag} {mg : Str → Option Value} {base : Heap} {f : Addr} {fd : FuncData}
theorem isNon_walk (o : Option (Ex × Nat × Stg)) : isNon (dWalk o) = o.isNone := by cases o <;> rfl
theorem noL_walk (o : Option (Ex × Nat × Stg)) : noL (dWalk o) = true := by
  cases o with
  | none => rfl
  | some p =>
    obtain ⟨c, k, t⟩ := p
    show (true && (true && (noL (dS t) && true))) = true
    rw [noL_S]
    rfl
def sp_trail : CW := spHSNN fun h s x n Q => (GoodH h ∧ GoodS h s ∧ x < h.length ∧ n ≤ 200) ∧ Q (.tuple ((trl h n (.h x, s)).map dW))
def sp_is_held : CW := spHSN fun h s x Q => (GoodH h ∧ GoodS h s ∧ x < h.length) ∧ Q (.bool (walkR h s x).isNone)
def sp_walk : CW := spHSN fun h s x Q => (GoodH h ∧ GoodS h s ∧ x < h.length ∧ Safe h x) ∧ Q (dWalk (walkR h s x))
abbrev kd__law_standing : Nat := 4
def pr__law_standing (d : PyData) : Prop := ∃ h, GoodH h ∧ d = dH h
def rl__law_standing (d z : PyData) : Prop := ∃ h s, d = dH h ∧ GoodS h s ∧ z = dS s
def sp__law_walk : CW := spHSN fun h s x Q => (GoodH h ∧ GoodS h s ∧ x < h.length) ∧ Q (dWalk (walkR h s x))
def sp__law_all : CW := spH fun h Q => GoodH h ∧ Q (.list ((allS h).map dS))
theorem stand_pr {h : House} : pr__law_standing (dH h) = GoodH h := by
  apply propext
  constructor
  · rintro ⟨h', g, e⟩
    rw [dH_inj e]; exact g
  · exact fun g => ⟨h, g, rfl⟩
theorem stand_all {h : House} {Q : PyData → Prop} : (∀ z, rl__law_standing (dH h) z → noL z = true → Q z) = ∀ s, GoodS h s → Q (dS s) := by
  apply propext
  constructor
  · exact fun q s g => q _ ⟨h, s, rfl, g, rfl⟩ (noL_S s)
  · rintro q z ⟨h', s, e, g, rfl⟩ _
    exact q s (by rw [dH_inj e]; exact g)
/-! ### _law_standing: slots 0 script 1 town 2 house 3 row -/
abbrev N__law_standing : List Str := ["script", "town", "house", "row"]
theorem sc__law_standing : FnScope N__law_standing ["script", "town", "house"] (defScope s__law_standing) := ⟨rfl, rfl, rfl, by decide +kernel, rfl, by decide +kernel, by decide +kernel⟩
def W__law_standing : WS := (wSeq (wRet (wCall tupleW (waCons true (wLc false (wiV 2) (twN 3) tYesW (wDrw 1 0 kd__law_draw pr__law_draw rl__law_draw (wCall lenW (waCons true (wV 3) waNil))) [3]) waNil))) wNil)
theorem c__law_standing (T : Bts mg) (F__law_draw : FnD P w K mg base 1 "_law_draw" (spT K kd__law_draw pr__law_draw rl__law_draw)) : ∀ (cdv : Value) (A : Around) (outer : List Env) (s : Shared) (H : Hp) (E : XK), Room 1 (A.deeper (envOfC "_law_standing" (defScope s__law_standing) s.heap.objs.size f cdv)) → SndS (CxF P w K mg base N__law_standing "_law_standing" s__law_standing f cdv A outer s H E) (defBody s__law_standing) W__law_standing := fun cdv A outer s H E hr =>
  (ss_cons (s1_ret (sn_callTy ok_tuple (by rfl) T.tuple (by decide +kernel) (sa_cons (sn_lc (own := [("row", 3)]) rfl sc__law_standing.nd (si_var (i := 2) rfl (vis_of rfl)) (blkOk_by (N := N__law_standing) (sc := defScope s__law_standing) (by decide +kernel)) (fun _ _ _ _ _ => (pg_name (i := 3) sc__law_standing.nd rfl (loc_of rfl) (.inr rfl))) (rx_name 3) (by decide) (keep_name (by decide)) (fun _ _ _ _ _ => sts_nil) (fun _ _ _ _ _ => (sn_draw F__law_draw (hr.mono (by decide)) (by rfl) (i := 1) (j := 0) rfl (vis_of rfl) rfl (vis_of rfl) (sn_callB ok_len (by rfl) T.len (by decide +kernel) (sa_cons (sn_var (i := 3) rfl (vis_of rfl)) sa_nil))))) sa_nil))) ss_nil)
theorem stand_lc {ss : List Int} {t : Addr} {n : Nat} {h : House} (hn : ss.length = n ∧ n ≤ 63) : ∀ (rows : List (List Way)) (c : Nat) (acc : List PyData) (k : List PyData → List SV → Prop), (∀ r ∈ rows, 1 ≤ r.length ∧ r.length ≤ 3) → c + rows.length ≤ 2 ^ 60 →
    (∀ s : Stg, s.length = rows.length → (∀ i, i < rows.length → plc s i < (rows.getD i []).length) → k (acc ++ s.map dN) [.sc ss, .tw t n (c + rows.length), .im (dH h), .no]) →
    lcW (twN 3) tYesW (wDrw 1 0 kd__law_draw pr__law_draw rl__law_draw (wCall lenW (waCons true (wV 3) waNil))) [3] (rows.map dR) [.sc ss, .tw t n c, .im (dH h), .no] acc k := by
  intro rows
  induction rows with
  | nil => intro c acc k _ _ hk; have := hk [] rfl (fun i hi => absurd hi (by simp)); simpa [lcW] using this
  | cons r rows ih =>
    intro c acc k hr hc hk
    have h1 := hr r List.mem_cons_self
    simp only [List.length_cons] at hc
    simp only [lcW, WP.shp, WP.wSeq, WP.wNil, WP.wExpr, WP.wCall, WP.arW, WP.waCons, WP.waNil, WP.wV, WP.wC, WP.wIfS, WP.tNot, WP.tVal, WP.wSet, WP.pLst, WP.pIm, WP.pList, WP.pLrg, WP.tAnd, WP.tOr, WP.tCmp, WP.tChain, WP.wChain, WP.wCmp, WP.wBin, WP.wIsi, WP.wIx, WP.wNeg, WP.wNot, WP.wAnd, WP.wOr, WP.wIf, WP.wAsg, WP.twN, WP.puts, WP.wApp, WP.wRet, WP.wRetN, WP.wAbs, WP.wPass, WP.wBrk, WP.wCnt, WP.wTup, WP.wLst, WP.wSl, WP.woN, WP.woS, WP.wLrg, WP.wDrw, WP.wFor, WP.wFz, WP.wPar, WP.wPar3, WP.wSetIx, WP.wiV, WP.wiE, WP.wiR, WP.wiZ, WP.gs, WP.wIdx, WP.wCount, WP.wLc, WP.tYesW, WP.okF, WP.wipeS, WP.getK.eq_1, WP.getK.eq_2, WP.getK.eq_3, WP.asL.eq_1, WP.binW.eq_1, WP.binW.eq_2, WP.binW.eq_3, WP.binW.eq_4, WP.binW.eq_5, WP.binW.eq_6, WP.binW.eq_7, WP.binW.eq_8, WP.binW.eq_9, WP.binW.eq_10, WP.twT.eq_1, WP.fzK.eq_1, WP.fzK.eq_2, WP.fzK.eq_3, WP.itK.eq_1, WP.itK.eq_2, WP.zipW.eq_1, WP.seqW.eq_1, WP.seqW.eq_2, WP.cutW.eq_1, WP.cutW.eq_2, WP.asML.eq_1, WP.asI.eq_1, WP.asB.eq_1, WP.asN.eq_1, WP.cmpB.eq_1, WP.cmpB.eq_2, WP.cmpB.eq_3, WP.cmpB.eq_4, WP.cmpB.eq_5, WP.cmpB.eq_6, WP.cmpB.eq_7, WP.cmpB.eq_8, WP.cmpB.eq_9, WP.cmpB.eq_10, WP.cmpB.eq_11, WP.cmpB.eq_12, WP.cmpB.eq_13, WP.cmpB.eq_14, WP.ixW.eq_1, WP.ixW.eq_2, WP.idxW.eq_1, WP.isLD.eq_1, WP.lenW.eq_1, WP.lenW.eq_2, WP.tupleW.eq_1, WP.listW.eq_1, WP.listW.eq_2, WP.intW.eq_1, WP.intW.eq_2, WP.absW.eq_1, WP.allW.eq_1, WP.anyW.eq_1, WP.sumW.eq_1, WP.twW.eq_1, WP.cntW.eq_1, WP.itemsN.eq_1, WP.itemsN.eq_2, TH.noL, TH.noLs, true_or, or_true, true_and, and_true, Bool.true_or, Bool.or_true, Bool.false_or, Bool.or_false, Bool.true_and, Bool.and_true, Bool.false_and, Bool.and_false, Bool.not_true, Bool.not_false, reduceIte, List.set_cons_zero, List.set_cons_succ, List.length_cons, List.length_nil, Nat.zero_add, Bool.false_eq_true, Nat.reduceAdd, Nat.reduceLT, Nat.reduceLeDiff, Nat.reduceEqDiff, Int.reduceNeg, decide_true, decide_false, WP.isStr_dX, WP.isStr_int, TH.noL_H, TH.noL_R, TH.noL_S, TH.noL_W, WP.noLs_W, WP.noLs_S, WP.noLs_N, WP.noLs_I, WP.noLs_X, WP.noLs_app, L2.atI_last, WP.atI_0, WP.atI_1, WP.atI_2, WP.atI_3, Option.some.injEq, exists_eq_left', WP.lenW_H, WP.lenW_R, WP.lenW_S, WP.seqW_H, WP.seqW_R, WP.seqW_S, WP.spH_eq, WP.spHN_eq, WP.spHS_eq, WP.spHSN_eq, WP.spHSNN_eq, WP.spHSS_eq, WP.spHSSS_eq, WP.argS_H, WP.argS_S, WP.argS_N, WP.argS_I, TH.eqv_int, TH.eqv_nat, TH.eqv_str, TH.eqv_ex, TH.eqv_W, TH.eqv_R, TH.eqv_H, TH.eqv_S, WP.shp_W, WP.shp_R, WP.shp_H, WP.shp_S, WP.shp_int, WP.shp_bool, WP.shp_none, List.map_cons, List.map_nil, List.append_assoc, List.cons_append, List.nil_append, hn.1, hn.2, drw_pr, drw_all, kd__law_draw]
    refine ⟨by omega, by omega, fun j hj => ?_⟩
    refine ih (c + 1) _ k (fun q hq => hr q (List.mem_cons_of_mem _ hq)) (by omega) fun s hs hp => ?_
    have := hk (j :: s) (by simp [hs]) fun i hi => ?_
    · rw [List.map_cons] at this
      simp only [List.append_assoc, List.cons_append, List.nil_append]
      rw [show c + 1 + rows.length = c + (r :: rows).length by simp; omega]
      exact this
    · cases i with
      | zero => exact hj
      | succ i => exact hp i (by simpa using hi)
theorem l__law_standing (t : Addr) (n c : Nat) (ss : List Int) (d : PyData) (h1 : ss.length = n) (h2 : n ≤ 63) (hc : c + kd__law_standing ≤ 2 ^ 60) (hp : pr__law_standing d) : W__law_standing (endT t n (c + kd__law_standing) (rl__law_standing d)) ([.sc ss, .tw t n c, argS d] ++ List.replicate (N__law_standing.length - 3) .no) := by
  obtain ⟨h, g, rfl⟩ := hp
  show W__law_standing _ [.sc ss, .tw t n c, argS (dH h), .no]
  have h4 := g.four
  simp only [kd__law_standing] at hc
  simp only [W__law_standing, WP.shp, WP.wSeq, WP.wNil, WP.wExpr, WP.wCall, WP.arW, WP.waCons, WP.waNil, WP.wV, WP.wC, WP.wIfS, WP.tNot, WP.tVal, WP.wSet, WP.pLst, WP.pIm, WP.pList, WP.pLrg, WP.tAnd, WP.tOr, WP.tCmp, WP.tChain, WP.wChain, WP.wCmp, WP.wBin, WP.wIsi, WP.wIx, WP.wNeg, WP.wNot, WP.wAnd, WP.wOr, WP.wIf, WP.wAsg, WP.twN, WP.puts, WP.wApp, WP.wRet, WP.wRetN, WP.wAbs, WP.wPass, WP.wBrk, WP.wCnt, WP.wTup, WP.wLst, WP.wSl, WP.woN, WP.woS, WP.wLrg, WP.wDrw, WP.wFor, WP.wFz, WP.wPar, WP.wPar3, WP.wSetIx, WP.wiV, WP.wiE, WP.wiR, WP.wiZ, WP.gs, WP.wIdx, WP.wCount, WP.wLc, WP.tYesW, WP.okF, WP.wipeS, WP.getK.eq_1, WP.getK.eq_2, WP.getK.eq_3, WP.asL.eq_1, WP.binW.eq_1, WP.binW.eq_2, WP.binW.eq_3, WP.binW.eq_4, WP.binW.eq_5, WP.binW.eq_6, WP.binW.eq_7, WP.binW.eq_8, WP.binW.eq_9, WP.binW.eq_10, WP.twT.eq_1, WP.fzK.eq_1, WP.fzK.eq_2, WP.fzK.eq_3, WP.itK.eq_1, WP.itK.eq_2, WP.zipW.eq_1, WP.seqW.eq_1, WP.seqW.eq_2, WP.cutW.eq_1, WP.cutW.eq_2, WP.asML.eq_1, WP.asI.eq_1, WP.asB.eq_1, WP.asN.eq_1, WP.cmpB.eq_1, WP.cmpB.eq_2, WP.cmpB.eq_3, WP.cmpB.eq_4, WP.cmpB.eq_5, WP.cmpB.eq_6, WP.cmpB.eq_7, WP.cmpB.eq_8, WP.cmpB.eq_9, WP.cmpB.eq_10, WP.cmpB.eq_11, WP.cmpB.eq_12, WP.cmpB.eq_13, WP.cmpB.eq_14, WP.ixW.eq_1, WP.ixW.eq_2, WP.idxW.eq_1, WP.isLD.eq_1, WP.lenW.eq_1, WP.lenW.eq_2, WP.tupleW.eq_1, WP.listW.eq_1, WP.listW.eq_2, WP.intW.eq_1, WP.intW.eq_2, WP.absW.eq_1, WP.allW.eq_1, WP.anyW.eq_1, WP.sumW.eq_1, WP.twW.eq_1, WP.cntW.eq_1, WP.itemsN.eq_1, WP.itemsN.eq_2, TH.noL, TH.noLs, true_or, or_true, true_and, and_true, Bool.true_or, Bool.or_true, Bool.false_or, Bool.or_false, Bool.true_and, Bool.and_true, Bool.false_and, Bool.and_false, Bool.not_true, Bool.not_false, reduceIte, List.set_cons_zero, List.set_cons_succ, List.length_cons, List.length_nil, Nat.zero_add, Bool.false_eq_true, Nat.reduceAdd, Nat.reduceLT, Nat.reduceLeDiff, Nat.reduceEqDiff, Int.reduceNeg, decide_true, decide_false, WP.isStr_dX, WP.isStr_int, TH.noL_H, TH.noL_R, TH.noL_S, TH.noL_W, WP.noLs_W, WP.noLs_S, WP.noLs_N, WP.noLs_I, WP.noLs_X, WP.noLs_app, L2.atI_last, WP.atI_0, WP.atI_1, WP.atI_2, WP.atI_3, Option.some.injEq, exists_eq_left', WP.lenW_H, WP.lenW_R, WP.lenW_S, WP.seqW_H, WP.seqW_R, WP.seqW_S, WP.spH_eq, WP.spHN_eq, WP.spHS_eq, WP.spHSN_eq, WP.spHSNN_eq, WP.spHSS_eq, WP.spHSSS_eq, WP.argS_H, WP.argS_S, WP.argS_N, WP.argS_I, TH.eqv_int, TH.eqv_nat, TH.eqv_str, TH.eqv_ex, TH.eqv_W, TH.eqv_R, TH.eqv_H, TH.eqv_S, WP.shp_W, WP.shp_R, WP.shp_H, WP.shp_S, WP.shp_int, WP.shp_bool, WP.shp_none, List.map_cons, List.map_nil, List.append_assoc, List.cons_append, List.nil_append]
  refine ⟨⟨by rw [List.length_map]; omega, rfl⟩, stand_lc ⟨h1, h2⟩ h c [] _ g.rows (by omega) fun s hs hp => ?_⟩
  have gs' : GoodS h s := ⟨hs, hp⟩
  simp only [WP.shp, WP.wSeq, WP.wNil, WP.wExpr, WP.wCall, WP.arW, WP.waCons, WP.waNil, WP.wV, WP.wC, WP.wIfS, WP.tNot, WP.tVal, WP.wSet, WP.pLst, WP.pIm, WP.pList, WP.pLrg, WP.tAnd, WP.tOr, WP.tCmp, WP.tChain, WP.wChain, WP.wCmp, WP.wBin, WP.wIsi, WP.wIx, WP.wNeg, WP.wNot, WP.wAnd, WP.wOr, WP.wIf, WP.wAsg, WP.twN, WP.puts, WP.wApp, WP.wRet, WP.wRetN, WP.wAbs, WP.wPass, WP.wBrk, WP.wCnt, WP.wTup, WP.wLst, WP.wSl, WP.woN, WP.woS, WP.wLrg, WP.wDrw, WP.wFor, WP.wFz, WP.wPar, WP.wPar3, WP.wSetIx, WP.wiV, WP.wiE, WP.wiR, WP.wiZ, WP.gs, WP.wIdx, WP.wCount, WP.wLc, WP.tYesW, WP.okF, WP.wipeS, WP.getK.eq_1, WP.getK.eq_2, WP.getK.eq_3, WP.asL.eq_1, WP.binW.eq_1, WP.binW.eq_2, WP.binW.eq_3, WP.binW.eq_4, WP.binW.eq_5, WP.binW.eq_6, WP.binW.eq_7, WP.binW.eq_8, WP.binW.eq_9, WP.binW.eq_10, WP.twT.eq_1, WP.fzK.eq_1, WP.fzK.eq_2, WP.fzK.eq_3, WP.itK.eq_1, WP.itK.eq_2, WP.zipW.eq_1, WP.seqW.eq_1, WP.seqW.eq_2, WP.cutW.eq_1, WP.cutW.eq_2, WP.asML.eq_1, WP.asI.eq_1, WP.asB.eq_1, WP.asN.eq_1, WP.cmpB.eq_1, WP.cmpB.eq_2, WP.cmpB.eq_3, WP.cmpB.eq_4, WP.cmpB.eq_5, WP.cmpB.eq_6, WP.cmpB.eq_7, WP.cmpB.eq_8, WP.cmpB.eq_9, WP.cmpB.eq_10, WP.cmpB.eq_11, WP.cmpB.eq_12, WP.cmpB.eq_13, WP.cmpB.eq_14, WP.ixW.eq_1, WP.ixW.eq_2, WP.idxW.eq_1, WP.isLD.eq_1, WP.lenW.eq_1, WP.lenW.eq_2, WP.tupleW.eq_1, WP.listW.eq_1, WP.listW.eq_2, WP.intW.eq_1, WP.intW.eq_2, WP.absW.eq_1, WP.allW.eq_1, WP.anyW.eq_1, WP.sumW.eq_1, WP.twW.eq_1, WP.cntW.eq_1, WP.itemsN.eq_1, WP.itemsN.eq_2, TH.noL, TH.noLs, true_or, or_true, true_and, and_true, Bool.true_or, Bool.or_true, Bool.false_or, Bool.or_false, Bool.true_and, Bool.and_true, Bool.false_and, Bool.and_false, Bool.not_true, Bool.not_false, reduceIte, List.set_cons_zero, List.set_cons_succ, List.length_cons, List.length_nil, Nat.zero_add, Bool.false_eq_true, Nat.reduceAdd, Nat.reduceLT, Nat.reduceLeDiff, Nat.reduceEqDiff, Int.reduceNeg, decide_true, decide_false, WP.isStr_dX, WP.isStr_int, TH.noL_H, TH.noL_R, TH.noL_S, TH.noL_W, WP.noLs_W, WP.noLs_S, WP.noLs_N, WP.noLs_I, WP.noLs_X, WP.noLs_app, L2.atI_last, WP.atI_0, WP.atI_1, WP.atI_2, WP.atI_3, Option.some.injEq, exists_eq_left', WP.lenW_H, WP.lenW_R, WP.lenW_S, WP.seqW_H, WP.seqW_R, WP.seqW_S, WP.spH_eq, WP.spHN_eq, WP.spHS_eq, WP.spHSN_eq, WP.spHSNN_eq, WP.spHSS_eq, WP.spHSSS_eq, WP.argS_H, WP.argS_S, WP.argS_N, WP.argS_I, TH.eqv_int, TH.eqv_nat, TH.eqv_str, TH.eqv_ex, TH.eqv_W, TH.eqv_R, TH.eqv_H, TH.eqv_S, WP.shp_W, WP.shp_R, WP.shp_H, WP.shp_S, WP.shp_int, WP.shp_bool, WP.shp_none, List.map_cons, List.map_nil, List.append_assoc, List.cons_append, List.nil_append]
  exact ⟨⟨h, s, rfl, gs', rfl⟩, c + h.length, by simp only [kd__law_standing]; omega, rfl⟩
theorem fd__law_standing (L : Lnk K mg "_law_standing" s__law_standing ["script", "town", "house"]) (T : Bts mg) (F__law_draw : FnD P w K mg base 1 "_law_draw" (spT K kd__law_draw pr__law_draw rl__law_draw)) : FnD P w K mg base 2 "_law_standing" (spT K kd__law_standing pr__law_standing rl__law_standing) := L.fnD fun f fd F => Fun.okT F sc__law_standing (by decide) (c__law_standing T F__law_draw) l__law_standing
end
end TK

namespace TK
open PySem L2 TH WP PyProof.Rows
section
variable {P : Program} {w : World} {K : PySem.W.Frag} {mg : Str → Option Value} {base : Heap} {f : Addr} {fd : FuncData}
/-! ### _law_walk: slots 0 house 1 standing 2 hall 3 places 4 moves 5 row 6 here -/
abbrev N__law_walk : List Str := ["house", "standing", "hall", "places", "moves", "row", "here"]
theorem sc__law_walk : FnScope N__law_walk ["house", "standing", "hall"] (defScope s__law_walk) := ⟨rfl, rfl, rfl, by decide +kernel, rfl, by decide +kernel, by decide +kernel⟩
def W__law_walk : WS := (wSeq (wPar 3 4 (pList (waCons true (wV 1) waNil)) (pIm (wC (.int 0)))) (wSeq (wWhile (tNot (tVal (wIsi isStrD (wV 2)))) (wSeq (wSet 5 (pIm (wIx true (wV 0) (wV 2)))) (wSeq (wSet 6 (pIm (wV 2))) (wSeq (wSet 2 (pIm (wIx true (wV 5) (wIx true (wV 3) (wV 6))))) (wSeq (wSetIx 3 (wBin .Mod true (wBin .Add true (wIx true (wV 3) (wV 6)) (wC (.int 1))) (wCall lenW (waCons true (wV 5) waNil))) (wV 6)) (wSeq (wSet 4 (pIm (wBin .Add true (wV 4) (wC (.int 1))))) (wSeq (wIfS (tCmp .Gt true (wV 4) (wC (.int 500))) (wSeq (wRet (wC .none)) wNil) wNil) wNil))))))) (wSeq (wRet (wTup (waCons true (wV 2) (waCons true (wV 4) (waCons true (wCall tupleW (waCons true (wV 3) waNil)) waNil))))) wNil)))
theorem c__law_walk (T : Bts mg) : ∀ (cdv : Value) (A : Around) (outer : List Env) (s : Shared) (H : Hp) (E : XK), Room 0 (A.deeper (envOfC "_law_walk" (defScope s__law_walk) s.heap.objs.size f cdv)) → SndS (CxF P w K mg base N__law_walk "_law_walk" s__law_walk f cdv A outer s H E) (defBody s__law_walk) W__law_walk := fun cdv A outer s H E hr =>
  (ss_cons (s1_par (i := 3) (j := 4) rfl sc__law_walk.nd rfl rfl (by decide) rfl rfl (sp_list (by rfl) T.list (sa_cons (sn_var (i := 1) rfl (vis_of rfl)) sa_nil)) (sp_im sn_int) (by rfl)) (ss_cons (s1_while PassesOwn.never (st_not (st_val (sn_isi kb_str (sn_var (i := 2) rfl (vis_of rfl)) (by rfl) T.isinstance (by rfl) T.str (by decide +kernel)))) (ss_cons (s1_set (i := 5) sc__law_walk.nd rfl (loc_of rfl) (sp_im (sn_ix (sn_var (i := 0) rfl (vis_of rfl)) (sn_var (i := 2) rfl (vis_of rfl))))) (ss_cons (s1_set (i := 6) sc__law_walk.nd rfl (loc_of rfl) (sp_im (sn_var (i := 2) rfl (vis_of rfl)))) (ss_cons (s1_set (i := 2) sc__law_walk.nd rfl (loc_of rfl) (sp_im (sn_ix (sn_var (i := 5) rfl (vis_of rfl)) (sn_ix (sn_var (i := 3) rfl (vis_of rfl)) (sn_var (i := 6) rfl (vis_of rfl)))))) (ss_cons (s1_setIx (i := 3) rfl (vis_of rfl) (sn_bin (sn_bin (sn_ix (sn_var (i := 3) rfl (vis_of rfl)) (sn_var (i := 6) rfl (vis_of rfl))) sn_int) (sn_callB ok_len (by rfl) T.len (by decide +kernel) (sa_cons (sn_var (i := 5) rfl (vis_of rfl)) sa_nil))) (sn_var (i := 6) rfl (vis_of rfl))) (ss_cons (s1_set (i := 4) sc__law_walk.nd rfl (loc_of rfl) (sp_im (sn_bin (sn_var (i := 4) rfl (vis_of rfl)) sn_int))) (ss_cons (s1_if (st_cmp hr (sn_var (i := 4) rfl (vis_of rfl)) sn_int (nomark _)) (ss_cons (s1_ret sn_non) ss_nil) ss_nil) ss_nil))))))) (ss_cons (s1_ret (sn_tup (sa_cons (sn_var (i := 2) rfl (vis_of rfl)) (sa_cons (sn_var (i := 4) rfl (vis_of rfl)) (sa_cons (sn_callTy ok_tuple (by rfl) T.tuple (by decide +kernel) (sa_cons (sn_var (i := 3) rfl (vis_of rfl)) sa_nil)) sa_nil))))) ss_nil)))
theorem l__law_walk (ds : List PyData) (Q : PyData → Prop) (hl : ds.length = 3) (hs : sp__law_walk ds Q) : W__law_walk { nx := fun _ => Q .none, rt := fun z _ => Q z } (ds.map argS ++ List.replicate (N__law_walk.length - ds.length) SV.no) := by
  obtain ⟨h, s, x, rfl, ⟨g, gst, hx⟩, hQ⟩ := hs
  show W__law_walk _ [argS (dH h), argS (dS s), argS (dN x), .no, .no, .no, .no]
  have gp : GoodP h (.h x, s) := ⟨fun y e => by cases e; exact hx, gst⟩
  simp only [W__law_walk, WP.shp, WP.wSeq, WP.wNil, WP.wExpr, WP.wCall, WP.arW, WP.waCons, WP.waNil, WP.wV, WP.wC, WP.wIfS, WP.tNot, WP.tVal, WP.wSet, WP.pLst, WP.pIm, WP.pList, WP.pLrg, WP.tAnd, WP.tOr, WP.tCmp, WP.tChain, WP.wChain, WP.wCmp, WP.wBin, WP.wIsi, WP.wIx, WP.wNeg, WP.wNot, WP.wAnd, WP.wOr, WP.wIf, WP.wAsg, WP.twN, WP.puts, WP.wApp, WP.wRet, WP.wRetN, WP.wAbs, WP.wPass, WP.wBrk, WP.wCnt, WP.wTup, WP.wLst, WP.wSl, WP.woN, WP.woS, WP.wLrg, WP.wDrw, WP.wFor, WP.wFz, WP.wPar, WP.wPar3, WP.wSetIx, WP.wiV, WP.wiE, WP.wiR, WP.wiZ, WP.gs, WP.wIdx, WP.wCount, WP.wLc, WP.tYesW, WP.okF, WP.wipeS, WP.getK.eq_1, WP.getK.eq_2, WP.getK.eq_3, WP.asL.eq_1, WP.binW.eq_1, WP.binW.eq_2, WP.binW.eq_3, WP.binW.eq_4, WP.binW.eq_5, WP.binW.eq_6, WP.binW.eq_7, WP.binW.eq_8, WP.binW.eq_9, WP.binW.eq_10, WP.twT.eq_1, WP.fzK.eq_1, WP.fzK.eq_2, WP.fzK.eq_3, WP.itK.eq_1, WP.itK.eq_2, WP.zipW.eq_1, WP.seqW.eq_1, WP.seqW.eq_2, WP.cutW.eq_1, WP.cutW.eq_2, WP.asML.eq_1, WP.asI.eq_1, WP.asB.eq_1, WP.asN.eq_1, WP.cmpB.eq_1, WP.cmpB.eq_2, WP.cmpB.eq_3, WP.cmpB.eq_4, WP.cmpB.eq_5, WP.cmpB.eq_6, WP.cmpB.eq_7, WP.cmpB.eq_8, WP.cmpB.eq_9, WP.cmpB.eq_10, WP.cmpB.eq_11, WP.cmpB.eq_12, WP.cmpB.eq_13, WP.cmpB.eq_14, WP.ixW.eq_1, WP.ixW.eq_2, WP.idxW.eq_1, WP.isLD.eq_1, WP.lenW.eq_1, WP.lenW.eq_2, WP.tupleW.eq_1, WP.listW.eq_1, WP.listW.eq_2, WP.intW.eq_1, WP.intW.eq_2, WP.absW.eq_1, WP.allW.eq_1, WP.anyW.eq_1, WP.sumW.eq_1, WP.twW.eq_1, WP.cntW.eq_1, WP.itemsN.eq_1, WP.itemsN.eq_2, TH.noL, TH.noLs, true_or, or_true, true_and, and_true, Bool.true_or, Bool.or_true, Bool.false_or, Bool.or_false, Bool.true_and, Bool.and_true, Bool.false_and, Bool.and_false, Bool.not_true, Bool.not_false, reduceIte, List.set_cons_zero, List.set_cons_succ, List.length_cons, List.length_nil, Nat.zero_add, Bool.false_eq_true, Nat.reduceAdd, Nat.reduceLT, Nat.reduceLeDiff, Nat.reduceEqDiff, Int.reduceNeg, decide_true, decide_false, WP.isStr_dX, WP.isStr_int, TH.noL_H, TH.noL_R, TH.noL_S, TH.noL_W, WP.noLs_W, WP.noLs_S, WP.noLs_N, WP.noLs_I, WP.noLs_X, WP.noLs_app, L2.atI_last, WP.atI_0, WP.atI_1, WP.atI_2, WP.atI_3, Option.some.injEq, exists_eq_left', WP.lenW_H, WP.lenW_R, WP.lenW_S, WP.seqW_H, WP.seqW_R, WP.seqW_S, WP.spH_eq, WP.spHN_eq, WP.spHS_eq, WP.spHSN_eq, WP.spHSNN_eq, WP.spHSS_eq, WP.spHSSS_eq, WP.argS_H, WP.argS_S, WP.argS_N, WP.argS_I, TH.eqv_int, TH.eqv_nat, TH.eqv_str, TH.eqv_ex, TH.eqv_W, TH.eqv_R, TH.eqv_H, TH.eqv_S, WP.shp_W, WP.shp_R, WP.shp_H, WP.shp_S, WP.shp_int, WP.shp_bool, WP.shp_none, List.map_cons, List.map_nil, List.append_assoc, List.cons_append, List.nil_append, listW_S]
  refine while_ind (fun m ρ => ∃ (k : Nat) (y5 y6 : SV), m = 501 - k ∧ k ≤ 500 ∧ (∀ j, j < k → ¬ outP (it h j (.h x, s))) ∧ ρ = [.im (dH h), .im (dS s), .im (dW (it h k (.h x, s)).1), .ml ((it h k (.h x, s)).2.map dN), .im (dN k), y5, y6]) ?_ (n := 501) ⟨0, .no, .no, rfl, by omega, fun j hj => by omega, rfl⟩
  rintro m ρ ⟨k, y5, y6, rfl, hk, hno, rfl⟩ N hN
  have gk := it_good g gp k
  have e1 : it h (k + 1) (.h x, s) = stp h (it h k (.h x, s)) := it_succ h k _
  generalize hpk : it h k (.h x, s) = pc at *
  obtain ⟨v, t⟩ := pc
  cases v with
  | x c =>
    have hw : walkR h s x = some (c, k, t) := walkR_of g gp hpk hno
    rw [hw] at hQ
    simp only [WP.shp, WP.wSeq, WP.wNil, WP.wExpr, WP.wCall, WP.arW, WP.waCons, WP.waNil, WP.wV, WP.wC, WP.wIfS, WP.tNot, WP.tVal, WP.wSet, WP.pLst, WP.pIm, WP.pList, WP.pLrg, WP.tAnd, WP.tOr, WP.tCmp, WP.tChain, WP.wChain, WP.wCmp, WP.wBin, WP.wIsi, WP.wIx, WP.wNeg, WP.wNot, WP.wAnd, WP.wOr, WP.wIf, WP.wAsg, WP.twN, WP.puts, WP.wApp, WP.wRet, WP.wRetN, WP.wAbs, WP.wPass, WP.wBrk, WP.wCnt, WP.wTup, WP.wLst, WP.wSl, WP.woN, WP.woS, WP.wLrg, WP.wDrw, WP.wFor, WP.wFz, WP.wPar, WP.wPar3, WP.wSetIx, WP.wiV, WP.wiE, WP.wiR, WP.wiZ, WP.gs, WP.wIdx, WP.wCount, WP.wLc, WP.tYesW, WP.okF, WP.wipeS, WP.getK.eq_1, WP.getK.eq_2, WP.getK.eq_3, WP.asL.eq_1, WP.binW.eq_1, WP.binW.eq_2, WP.binW.eq_3, WP.binW.eq_4, WP.binW.eq_5, WP.binW.eq_6, WP.binW.eq_7, WP.binW.eq_8, WP.binW.eq_9, WP.binW.eq_10, WP.twT.eq_1, WP.fzK.eq_1, WP.fzK.eq_2, WP.fzK.eq_3, WP.itK.eq_1, WP.itK.eq_2, WP.zipW.eq_1, WP.seqW.eq_1, WP.seqW.eq_2, WP.cutW.eq_1, WP.cutW.eq_2, WP.asML.eq_1, WP.asI.eq_1, WP.asB.eq_1, WP.asN.eq_1, WP.cmpB.eq_1, WP.cmpB.eq_2, WP.cmpB.eq_3, WP.cmpB.eq_4, WP.cmpB.eq_5, WP.cmpB.eq_6, WP.cmpB.eq_7, WP.cmpB.eq_8, WP.cmpB.eq_9, WP.cmpB.eq_10, WP.cmpB.eq_11, WP.cmpB.eq_12, WP.cmpB.eq_13, WP.cmpB.eq_14, WP.ixW.eq_1, WP.ixW.eq_2, WP.idxW.eq_1, WP.isLD.eq_1, WP.lenW.eq_1, WP.lenW.eq_2, WP.tupleW.eq_1, WP.listW.eq_1, WP.listW.eq_2, WP.intW.eq_1, WP.intW.eq_2, WP.absW.eq_1, WP.allW.eq_1, WP.anyW.eq_1, WP.sumW.eq_1, WP.twW.eq_1, WP.cntW.eq_1, WP.itemsN.eq_1, WP.itemsN.eq_2, TH.noL, TH.noLs, true_or, or_true, true_and, and_true, Bool.true_or, Bool.or_true, Bool.false_or, Bool.or_false, Bool.true_and, Bool.and_true, Bool.false_and, Bool.and_false, Bool.not_true, Bool.not_false, reduceIte, List.set_cons_zero, List.set_cons_succ, List.length_cons, List.length_nil, Nat.zero_add, Bool.false_eq_true, Nat.reduceAdd, Nat.reduceLT, Nat.reduceLeDiff, Nat.reduceEqDiff, Int.reduceNeg, decide_true, decide_false, WP.isStr_dX, WP.isStr_int, TH.noL_H, TH.noL_R, TH.noL_S, TH.noL_W, WP.noLs_W, WP.noLs_S, WP.noLs_N, WP.noLs_I, WP.noLs_X, WP.noLs_app, L2.atI_last, WP.atI_0, WP.atI_1, WP.atI_2, WP.atI_3, Option.some.injEq, exists_eq_left', WP.lenW_H, WP.lenW_R, WP.lenW_S, WP.seqW_H, WP.seqW_R, WP.seqW_S, WP.spH_eq, WP.spHN_eq, WP.spHS_eq, WP.spHSN_eq, WP.spHSNN_eq, WP.spHSS_eq, WP.spHSSS_eq, WP.argS_H, WP.argS_S, WP.argS_N, WP.argS_I, TH.eqv_int, TH.eqv_nat, TH.eqv_str, TH.eqv_ex, TH.eqv_W, TH.eqv_R, TH.eqv_H, TH.eqv_S, WP.shp_W, WP.shp_R, WP.shp_H, WP.shp_S, WP.shp_int, WP.shp_bool, WP.shp_none, List.map_cons, List.map_nil, List.append_assoc, List.cons_append, List.nil_append, isStr_W, dW_x]
    exact hQ
  | h y =>
    have hy : y < h.length := gk.hall y rfl
    have gt : GoodS h t := gk.stg
    have hyt : y < t.length := by rw [gt.len]; exact hy
    have hp : plc t y < (row h y).length := gt.lt y hy
    have hr1 := g.rows _ (row_mem hy)
    have hmod : 0 < ((row h y).length : Int) := by omega
    have hout : ¬ outP (it h k (.h x, s)) := by rw [hpk]; exact fun q => q
    simp only [WP.shp, WP.wSeq, WP.wNil, WP.wExpr, WP.wCall, WP.arW, WP.waCons, WP.waNil, WP.wV, WP.wC, WP.wIfS, WP.tNot, WP.tVal, WP.wSet, WP.pLst, WP.pIm, WP.pList, WP.pLrg, WP.tAnd, WP.tOr, WP.tCmp, WP.tChain, WP.wChain, WP.wCmp, WP.wBin, WP.wIsi, WP.wIx, WP.wNeg, WP.wNot, WP.wAnd, WP.wOr, WP.wIf, WP.wAsg, WP.twN, WP.puts, WP.wApp, WP.wRet, WP.wRetN, WP.wAbs, WP.wPass, WP.wBrk, WP.wCnt, WP.wTup, WP.wLst, WP.wSl, WP.woN, WP.woS, WP.wLrg, WP.wDrw, WP.wFor, WP.wFz, WP.wPar, WP.wPar3, WP.wSetIx, WP.wiV, WP.wiE, WP.wiR, WP.wiZ, WP.gs, WP.wIdx, WP.wCount, WP.wLc, WP.tYesW, WP.okF, WP.wipeS, WP.getK.eq_1, WP.getK.eq_2, WP.getK.eq_3, WP.asL.eq_1, WP.binW.eq_1, WP.binW.eq_2, WP.binW.eq_3, WP.binW.eq_4, WP.binW.eq_5, WP.binW.eq_6, WP.binW.eq_7, WP.binW.eq_8, WP.binW.eq_9, WP.binW.eq_10, WP.twT.eq_1, WP.fzK.eq_1, WP.fzK.eq_2, WP.fzK.eq_3, WP.itK.eq_1, WP.itK.eq_2, WP.zipW.eq_1, WP.seqW.eq_1, WP.seqW.eq_2, WP.cutW.eq_1, WP.cutW.eq_2, WP.asML.eq_1, WP.asI.eq_1, WP.asB.eq_1, WP.asN.eq_1, WP.cmpB.eq_1, WP.cmpB.eq_2, WP.cmpB.eq_3, WP.cmpB.eq_4, WP.cmpB.eq_5, WP.cmpB.eq_6, WP.cmpB.eq_7, WP.cmpB.eq_8, WP.cmpB.eq_9, WP.cmpB.eq_10, WP.cmpB.eq_11, WP.cmpB.eq_12, WP.cmpB.eq_13, WP.cmpB.eq_14, WP.ixW.eq_1, WP.ixW.eq_2, WP.idxW.eq_1, WP.isLD.eq_1, WP.lenW.eq_1, WP.lenW.eq_2, WP.tupleW.eq_1, WP.listW.eq_1, WP.listW.eq_2, WP.intW.eq_1, WP.intW.eq_2, WP.absW.eq_1, WP.allW.eq_1, WP.anyW.eq_1, WP.sumW.eq_1, WP.twW.eq_1, WP.cntW.eq_1, WP.itemsN.eq_1, WP.itemsN.eq_2, TH.noL, TH.noLs, true_or, or_true, true_and, and_true, Bool.true_or, Bool.or_true, Bool.false_or, Bool.or_false, Bool.true_and, Bool.and_true, Bool.false_and, Bool.and_false, Bool.not_true, Bool.not_false, reduceIte, List.set_cons_zero, List.set_cons_succ, List.length_cons, List.length_nil, Nat.zero_add, Bool.false_eq_true, Nat.reduceAdd, Nat.reduceLT, Nat.reduceLeDiff, Nat.reduceEqDiff, Int.reduceNeg, decide_true, decide_false, WP.isStr_dX, WP.isStr_int, TH.noL_H, TH.noL_R, TH.noL_S, TH.noL_W, WP.noLs_W, WP.noLs_S, WP.noLs_N, WP.noLs_I, WP.noLs_X, WP.noLs_app, L2.atI_last, WP.atI_0, WP.atI_1, WP.atI_2, WP.atI_3, Option.some.injEq, exists_eq_left', WP.lenW_H, WP.lenW_R, WP.lenW_S, WP.seqW_H, WP.seqW_R, WP.seqW_S, WP.spH_eq, WP.spHN_eq, WP.spHS_eq, WP.spHSN_eq, WP.spHSNN_eq, WP.spHSS_eq, WP.spHSSS_eq, WP.argS_H, WP.argS_S, WP.argS_N, WP.argS_I, TH.eqv_int, TH.eqv_nat, TH.eqv_str, TH.eqv_ex, TH.eqv_W, TH.eqv_R, TH.eqv_H, TH.eqv_S, WP.shp_W, WP.shp_R, WP.shp_H, WP.shp_S, WP.shp_int, WP.shp_bool, WP.shp_none, List.map_cons, List.map_nil, List.append_assoc, List.cons_append, List.nil_append, isStr_W, dW_h, ixW_H hy, ixW_LN hyt, ixW_R hp, hmod, List.length_map, ixN_nat hyt, emod_nat, map_setN]
    have estp : stp h (.h y, t) = (wyD (row h y) (plc t y), t.set y ((plc t y + 1) % (row h y).length)) := rfl
    by_cases h5 : (500 : Int) < (k : Int) + 1
    · have hk5 : k = 500 := by omega
      simp only [h5, WP.shp, WP.wSeq, WP.wNil, WP.wExpr, WP.wCall, WP.arW, WP.waCons, WP.waNil, WP.wV, WP.wC, WP.wIfS, WP.tNot, WP.tVal, WP.wSet, WP.pLst, WP.pIm, WP.pList, WP.pLrg, WP.tAnd, WP.tOr, WP.tCmp, WP.tChain, WP.wChain, WP.wCmp, WP.wBin, WP.wIsi, WP.wIx, WP.wNeg, WP.wNot, WP.wAnd, WP.wOr, WP.wIf, WP.wAsg, WP.twN, WP.puts, WP.wApp, WP.wRet, WP.wRetN, WP.wAbs, WP.wPass, WP.wBrk, WP.wCnt, WP.wTup, WP.wLst, WP.wSl, WP.woN, WP.woS, WP.wLrg, WP.wDrw, WP.wFor, WP.wFz, WP.wPar, WP.wPar3, WP.wSetIx, WP.wiV, WP.wiE, WP.wiR, WP.wiZ, WP.gs, WP.wIdx, WP.wCount, WP.wLc, WP.tYesW, WP.okF, WP.wipeS, WP.getK.eq_1, WP.getK.eq_2, WP.getK.eq_3, WP.asL.eq_1, WP.binW.eq_1, WP.binW.eq_2, WP.binW.eq_3, WP.binW.eq_4, WP.binW.eq_5, WP.binW.eq_6, WP.binW.eq_7, WP.binW.eq_8, WP.binW.eq_9, WP.binW.eq_10, WP.twT.eq_1, WP.fzK.eq_1, WP.fzK.eq_2, WP.fzK.eq_3, WP.itK.eq_1, WP.itK.eq_2, WP.zipW.eq_1, WP.seqW.eq_1, WP.seqW.eq_2, WP.cutW.eq_1, WP.cutW.eq_2, WP.asML.eq_1, WP.asI.eq_1, WP.asB.eq_1, WP.asN.eq_1, WP.cmpB.eq_1, WP.cmpB.eq_2, WP.cmpB.eq_3, WP.cmpB.eq_4, WP.cmpB.eq_5, WP.cmpB.eq_6, WP.cmpB.eq_7, WP.cmpB.eq_8, WP.cmpB.eq_9, WP.cmpB.eq_10, WP.cmpB.eq_11, WP.cmpB.eq_12, WP.cmpB.eq_13, WP.cmpB.eq_14, WP.ixW.eq_1, WP.ixW.eq_2, WP.idxW.eq_1, WP.isLD.eq_1, WP.lenW.eq_1, WP.lenW.eq_2, WP.tupleW.eq_1, WP.listW.eq_1, WP.listW.eq_2, WP.intW.eq_1, WP.intW.eq_2, WP.absW.eq_1, WP.allW.eq_1, WP.anyW.eq_1, WP.sumW.eq_1, WP.twW.eq_1, WP.cntW.eq_1, WP.itemsN.eq_1, WP.itemsN.eq_2, TH.noL, TH.noLs, true_or, or_true, true_and, and_true, Bool.true_or, Bool.or_true, Bool.false_or, Bool.or_false, Bool.true_and, Bool.and_true, Bool.false_and, Bool.and_false, Bool.not_true, Bool.not_false, reduceIte, List.set_cons_zero, List.set_cons_succ, List.length_cons, List.length_nil, Nat.zero_add, Bool.false_eq_true, Nat.reduceAdd, Nat.reduceLT, Nat.reduceLeDiff, Nat.reduceEqDiff, Int.reduceNeg, decide_true, decide_false, WP.isStr_dX, WP.isStr_int, TH.noL_H, TH.noL_R, TH.noL_S, TH.noL_W, WP.noLs_W, WP.noLs_S, WP.noLs_N, WP.noLs_I, WP.noLs_X, WP.noLs_app, L2.atI_last, WP.atI_0, WP.atI_1, WP.atI_2, WP.atI_3, Option.some.injEq, exists_eq_left', WP.lenW_H, WP.lenW_R, WP.lenW_S, WP.seqW_H, WP.seqW_R, WP.seqW_S, WP.spH_eq, WP.spHN_eq, WP.spHS_eq, WP.spHSN_eq, WP.spHSNN_eq, WP.spHSS_eq, WP.spHSSS_eq, WP.argS_H, WP.argS_S, WP.argS_N, WP.argS_I, TH.eqv_int, TH.eqv_nat, TH.eqv_str, TH.eqv_ex, TH.eqv_W, TH.eqv_R, TH.eqv_H, TH.eqv_S, WP.shp_W, WP.shp_R, WP.shp_H, WP.shp_S, WP.shp_int, WP.shp_bool, WP.shp_none, List.map_cons, List.map_nil, List.append_assoc, List.cons_append, List.nil_append]
      have hw : walkR h s x = none := by
        rw [walkR_none g gp]
        rcases out_or g gp with ⟨j, hj, o⟩ | hn
        · refine absurd ?_ hout
          rw [hk5, outP_mono (show j ≤ 500 by omega) o]
          exact o
        · exact hn
      rw [hw] at hQ
      exact hQ
    · simp only [h5, WP.shp, WP.wSeq, WP.wNil, WP.wExpr, WP.wCall, WP.arW, WP.waCons, WP.waNil, WP.wV, WP.wC, WP.wIfS, WP.tNot, WP.tVal, WP.wSet, WP.pLst, WP.pIm, WP.pList, WP.pLrg, WP.tAnd, WP.tOr, WP.tCmp, WP.tChain, WP.wChain, WP.wCmp, WP.wBin, WP.wIsi, WP.wIx, WP.wNeg, WP.wNot, WP.wAnd, WP.wOr, WP.wIf, WP.wAsg, WP.twN, WP.puts, WP.wApp, WP.wRet, WP.wRetN, WP.wAbs, WP.wPass, WP.wBrk, WP.wCnt, WP.wTup, WP.wLst, WP.wSl, WP.woN, WP.woS, WP.wLrg, WP.wDrw, WP.wFor, WP.wFz, WP.wPar, WP.wPar3, WP.wSetIx, WP.wiV, WP.wiE, WP.wiR, WP.wiZ, WP.gs, WP.wIdx, WP.wCount, WP.wLc, WP.tYesW, WP.okF, WP.wipeS, WP.getK.eq_1, WP.getK.eq_2, WP.getK.eq_3, WP.asL.eq_1, WP.binW.eq_1, WP.binW.eq_2, WP.binW.eq_3, WP.binW.eq_4, WP.binW.eq_5, WP.binW.eq_6, WP.binW.eq_7, WP.binW.eq_8, WP.binW.eq_9, WP.binW.eq_10, WP.twT.eq_1, WP.fzK.eq_1, WP.fzK.eq_2, WP.fzK.eq_3, WP.itK.eq_1, WP.itK.eq_2, WP.zipW.eq_1, WP.seqW.eq_1, WP.seqW.eq_2, WP.cutW.eq_1, WP.cutW.eq_2, WP.asML.eq_1, WP.asI.eq_1, WP.asB.eq_1, WP.asN.eq_1, WP.cmpB.eq_1, WP.cmpB.eq_2, WP.cmpB.eq_3, WP.cmpB.eq_4, WP.cmpB.eq_5, WP.cmpB.eq_6, WP.cmpB.eq_7, WP.cmpB.eq_8, WP.cmpB.eq_9, WP.cmpB.eq_10, WP.cmpB.eq_11, WP.cmpB.eq_12, WP.cmpB.eq_13, WP.cmpB.eq_14, WP.ixW.eq_1, WP.ixW.eq_2, WP.idxW.eq_1, WP.isLD.eq_1, WP.lenW.eq_1, WP.lenW.eq_2, WP.tupleW.eq_1, WP.listW.eq_1, WP.listW.eq_2, WP.intW.eq_1, WP.intW.eq_2, WP.absW.eq_1, WP.allW.eq_1, WP.anyW.eq_1, WP.sumW.eq_1, WP.twW.eq_1, WP.cntW.eq_1, WP.itemsN.eq_1, WP.itemsN.eq_2, TH.noL, TH.noLs, true_or, or_true, true_and, and_true, Bool.true_or, Bool.or_true, Bool.false_or, Bool.or_false, Bool.true_and, Bool.and_true, Bool.false_and, Bool.and_false, Bool.not_true, Bool.not_false, reduceIte, List.set_cons_zero, List.set_cons_succ, List.length_cons, List.length_nil, Nat.zero_add, Bool.false_eq_true, Nat.reduceAdd, Nat.reduceLT, Nat.reduceLeDiff, Nat.reduceEqDiff, Int.reduceNeg, decide_true, decide_false, WP.isStr_dX, WP.isStr_int, TH.noL_H, TH.noL_R, TH.noL_S, TH.noL_W, WP.noLs_W, WP.noLs_S, WP.noLs_N, WP.noLs_I, WP.noLs_X, WP.noLs_app, L2.atI_last, WP.atI_0, WP.atI_1, WP.atI_2, WP.atI_3, Option.some.injEq, exists_eq_left', WP.lenW_H, WP.lenW_R, WP.lenW_S, WP.seqW_H, WP.seqW_R, WP.seqW_S, WP.spH_eq, WP.spHN_eq, WP.spHS_eq, WP.spHSN_eq, WP.spHSNN_eq, WP.spHSS_eq, WP.spHSSS_eq, WP.argS_H, WP.argS_S, WP.argS_N, WP.argS_I, TH.eqv_int, TH.eqv_nat, TH.eqv_str, TH.eqv_ex, TH.eqv_W, TH.eqv_R, TH.eqv_H, TH.eqv_S, WP.shp_W, WP.shp_R, WP.shp_H, WP.shp_S, WP.shp_int, WP.shp_bool, WP.shp_none, List.map_cons, List.map_nil, List.append_assoc, List.cons_append, List.nil_append]
      refine hN (501 - (k + 1)) _ (by omega) ⟨k + 1, .im (dR (row h y)), .im (dN y), rfl, by omega, fun j hj => ?_, ?_⟩
      · by_cases e : j = k
        · rw [e]; exact hout
        · exact hno j (by omega)
      · rw [e1, estp]
        rfl
theorem fd__law_walk (L : Lnk K mg "_law_walk" s__law_walk ["house", "standing", "hall"]) (T : Bts mg) : FnD P w K mg base 1 "_law_walk" (spW K 3 sp__law_walk) := L.fnD fun f fd F => Fun.okW F sc__law_walk rfl (by decide) (c__law_walk T) l__law_walk
end
end TK

namespace TK
open PySem L2 TH WP PyProof.Rows
section
variable {P : Program} {w : World} {K : PySem.W.Frag} {mg : Str → Option Value} {base : Heap} {f : Addr} {fd : FuncData}
/-! ### many people -/
def sp_check_people : CW
  | [.int i], Q => (0 ≤ i ∧ i ≤ 1000000000) ∧ Q .none
  | _, _ => False
noncomputable def dCourse (h : House) (s : Stg) (x : Nat) : PyData := .tuple [.list ((stL h x s (crN h s x)).map dS), .list ((exL h x s (crN h s x)).map dX), dN (crP h s x)]
def sp_course : CW := spHSN fun h s x Q => OkS h s x ∧ Q (dCourse h s x)
def cntL (h : House) (x : Nat) (s : Stg) (m : Nat) : List Nat := (exitsOf h).map fun e => cnt h x s m e
def dSent (h : House) (x : Nat) (s : Stg) (m : Nat) : PyData := .tuple [.tuple ((cntL h x s m).map dN), dS (nit h x m s)]
def sp_sent : CW := spHSNN fun h s x m Q => (OkS h s x ∧ m ≤ 1000000000) ∧ Q (dSent h x s m)
def sp_send : CW := spHSNN fun h s x m Q => (OkS h s x ∧ m ≤ 1000000000) ∧ Q (dSent h x s m)
def sp_returns : CW := spHSN fun h s x Q => OkS h s x ∧ Q (.tuple [dN (crP h s x), dN (crN h s x - crP h s x)])
theorem noL_sent (h : House) (x : Nat) (s : Stg) (m : Nat) : noL (dSent h x s m) = true := by
  show (noLs ((cntL h x s m).map dN) && (noL (dS _) && true)) = true
  rw [noLs_N, noL_S]
  rfl
/-! ### check_people: slots 0 people -/
abbrev N_check_people : List Str := ["people"]
theorem sc_check_people : FnScope N_check_people ["people"] (defScope s_check_people) := ⟨rfl, rfl, rfl, by decide +kernel, rfl, by decide +kernel, by decide +kernel⟩
def W_check_people : WS := (wSeq (wIfS (tNot (tVal (wCall (arW 3 sp_is_between) (waCons true (wV 0) (waCons true (wC (.int 0)) (waCons true (wC (.int 1000000000)) waNil)))))) (wSeq wAbs wNil) wNil) wNil)
theorem c_check_people (T : Bts mg) (F_is_between : FnD P w K mg base 1 "is_between" (spW K 3 sp_is_between)) : ∀ (cdv : Value) (A : Around) (outer : List Env) (s : Shared) (H : Hp) (E : XK), Room 1 (A.deeper (envOfC "check_people" (defScope s_check_people) s.heap.objs.size f cdv)) → SndS (CxF P w K mg base N_check_people "check_people" s_check_people f cdv A outer s H E) (defBody s_check_people) W_check_people := fun cdv A outer s H E hr =>
  (ss_cons (s1_if (st_not (st_val (sn_call F_is_between (hr.mono (by decide)) (by rfl) (sa_cons (sn_var (i := 0) rfl (vis_of rfl)) (sa_cons sn_int (sa_cons sn_int sa_nil)))))) (ss_cons s1_abs ss_nil) ss_nil) ss_nil)
theorem l_check_people (ds : List PyData) (Q : PyData → Prop) (hl : ds.length = 1) (hs : sp_check_people ds Q) : W_check_people { nx := fun _ => Q .none, rt := fun z _ => Q z } (ds.map argS ++ List.replicate (N_check_people.length - ds.length) SV.no) := by
  unfold sp_check_people at hs
  split at hs
  · next _ i =>
    obtain ⟨⟨h1, h2⟩, hQ⟩ := hs
    show W_check_people _ [argS (.int i)]
    have hb : isBtw (.int i) 0 1000000000 = true := by simp [isBtw]; omega
    simp only [W_check_people, WP.shp, WP.wSeq, WP.wNil, WP.wExpr, WP.wCall, WP.arW, WP.waCons, WP.waNil, WP.wV, WP.wC, WP.wIfS, WP.tNot, WP.tVal, WP.wSet, WP.pLst, WP.pIm, WP.pList, WP.pLrg, WP.tAnd, WP.tOr, WP.tCmp, WP.tChain, WP.wChain, WP.wCmp, WP.wBin, WP.wIsi, WP.wIx, WP.wNeg, WP.wNot, WP.wAnd, WP.wOr, WP.wIf, WP.wAsg, WP.twN, WP.puts, WP.wApp, WP.wRet, WP.wRetN, WP.wAbs, WP.wPass, WP.wBrk, WP.wCnt, WP.wTup, WP.wLst, WP.wSl, WP.woN, WP.woS, WP.wLrg, WP.wDrw, WP.wFor, WP.wFz, WP.wPar, WP.wPar3, WP.wSetIx, WP.wiV, WP.wiE, WP.wiR, WP.wiZ, WP.gs, WP.wIdx, WP.wCount, WP.wLc, WP.tYesW, WP.okF, WP.wipeS, WP.getK.eq_1, WP.getK.eq_2, WP.getK.eq_3, WP.asL.eq_1, WP.binW.eq_1, WP.binW.eq_2, WP.binW.eq_3, WP.binW.eq_4, WP.binW.eq_5, WP.binW.eq_6, WP.binW.eq_7, WP.binW.eq_8, WP.binW.eq_9, WP.binW.eq_10, WP.twT.eq_1, WP.fzK.eq_1, WP.fzK.eq_2, WP.fzK.eq_3, WP.itK.eq_1, WP.itK.eq_2, WP.zipW.eq_1, WP.seqW.eq_1, WP.seqW.eq_2, WP.cutW.eq_1, WP.cutW.eq_2, WP.asML.eq_1, WP.asI.eq_1, WP.asB.eq_1, WP.asN.eq_1, WP.cmpB.eq_1, WP.cmpB.eq_2, WP.cmpB.eq_3, WP.cmpB.eq_4, WP.cmpB.eq_5, WP.cmpB.eq_6, WP.cmpB.eq_7, WP.cmpB.eq_8, WP.cmpB.eq_9, WP.cmpB.eq_10, WP.cmpB.eq_11, WP.cmpB.eq_12, WP.cmpB.eq_13, WP.cmpB.eq_14, WP.ixW.eq_1, WP.ixW.eq_2, WP.idxW.eq_1, WP.isLD.eq_1, WP.lenW.eq_1, WP.lenW.eq_2, WP.tupleW.eq_1, WP.listW.eq_1, WP.listW.eq_2, WP.intW.eq_1, WP.intW.eq_2, WP.absW.eq_1, WP.allW.eq_1, WP.anyW.eq_1, WP.sumW.eq_1, WP.twW.eq_1, WP.cntW.eq_1, WP.itemsN.eq_1, WP.itemsN.eq_2, TH.noL, TH.noLs, true_or, or_true, true_and, and_true, Bool.true_or, Bool.or_true, Bool.false_or, Bool.or_false, Bool.true_and, Bool.and_true, Bool.false_and, Bool.and_false, Bool.not_true, Bool.not_false, reduceIte, List.set_cons_zero, List.set_cons_succ, List.length_cons, List.length_nil, Nat.zero_add, Bool.false_eq_true, Nat.reduceAdd, Nat.reduceLT, Nat.reduceLeDiff, Nat.reduceEqDiff, Int.reduceNeg, decide_true, decide_false, WP.isStr_dX, WP.isStr_int, TH.noL_H, TH.noL_R, TH.noL_S, TH.noL_W, WP.noLs_W, WP.noLs_S, WP.noLs_N, WP.noLs_I, WP.noLs_X, WP.noLs_app, L2.atI_last, WP.atI_0, WP.atI_1, WP.atI_2, WP.atI_3, Option.some.injEq, exists_eq_left', WP.lenW_H, WP.lenW_R, WP.lenW_S, WP.seqW_H, WP.seqW_R, WP.seqW_S, WP.spH_eq, WP.spHN_eq, WP.spHS_eq, WP.spHSN_eq, WP.spHSNN_eq, WP.spHSS_eq, WP.spHSSS_eq, WP.argS_H, WP.argS_S, WP.argS_N, WP.argS_I, TH.eqv_int, TH.eqv_nat, TH.eqv_str, TH.eqv_ex, TH.eqv_W, TH.eqv_R, TH.eqv_H, TH.eqv_S, WP.shp_W, WP.shp_R, WP.shp_H, WP.shp_S, WP.shp_int, WP.shp_bool, WP.shp_none, List.map_cons, List.map_nil, List.append_assoc, List.cons_append, List.nil_append, sp_is_between.eq_1, hb]
    exact hQ
  · exact hs.elim
theorem fd_check_people (L : Lnk K mg "check_people" s_check_people ["people"]) (T : Bts mg) (F_is_between : FnD P w K mg base 1 "is_between" (spW K 3 sp_is_between)) : FnD P w K mg base 2 "check_people" (spW K 1 sp_check_people) := L.fnD fun f fd F => Fun.okW F sc_check_people rfl (by decide) (c_check_people T F_is_between) l_check_people
/-! ### course: slots 0 house 1 standing 2 hall 3 states 4 gone 5 way 6 moves 7 later -/
abbrev N_course : List Str := ["house", "standing", "hall", "states", "gone", "way", "moves", "later"]
theorem sc_course : FnScope N_course ["house", "standing", "hall"] (defScope s_course) := ⟨rfl, rfl, rfl, by decide +kernel, rfl, by decide +kernel, by decide +kernel⟩
def W_course : WS := (wSeq (wPar 3 4 (pLst (waCons true (wV 1) waNil)) (pLst waNil)) (wSeq (wWhile (tVal (wC (.bool true))) (wSeq (wAsg (twT [5, 6, 7]) (wCall (arW 3 sp_walked) (waCons true (wV 0) (waCons true (wIx true (wV 3) (wNeg (wC (.int 1)))) (waCons true (wV 2) waNil))))) (wSeq (wApp 4 (wV 5)) (wSeq (wIfS (tCmp .In true (wV 7) (wV 3)) (wSeq (wRet (wTup (waCons false (wFz 3) (waCons true (wFz 4) (waCons true (wIdx true (wV 3) (wV 7)) waNil))))) wNil) wNil) (wSeq (wApp 3 (wV 7)) wNil))))) wNil))
theorem c_course (T : Bts mg) (F_walked : FnD P w K mg base 2 "walked" (spW K 3 sp_walked)) : ∀ (cdv : Value) (A : Around) (outer : List Env) (s : Shared) (H : Hp) (E : XK), Room 2 (A.deeper (envOfC "course" (defScope s_course) s.heap.objs.size f cdv)) → SndS (CxF P w K mg base N_course "course" s_course f cdv A outer s H E) (defBody s_course) W_course := fun cdv A outer s H E hr =>
  (ss_cons (s1_par (i := 3) (j := 4) rfl sc_course.nd rfl rfl (by decide) rfl rfl (sp_lst (sa_cons (sn_var (i := 1) rfl (vis_of rfl)) sa_nil)) (sp_lst sa_nil) (by rfl)) (ss_cons (s1_while PassesOwn.never (st_val sn_bl) (ss_cons (s1_asg (pg_tup rfl (pgs_cons (pg_name (i := 5) sc_course.nd rfl (loc_of rfl)) (pgs_cons (pg_name (i := 6) sc_course.nd rfl (loc_of rfl)) (pgs_cons (pg_name (i := 7) sc_course.nd rfl (loc_of rfl)) pgs_nil)))) (rx_tup [5, 6, 7]) (sn_call F_walked (hr.mono (by decide)) (by rfl) (sa_cons (sn_var (i := 0) rfl (vis_of rfl)) (sa_cons (sn_ix (sn_var (i := 3) rfl (vis_of rfl)) (sn_neg sn_int)) (sa_cons (sn_var (i := 2) rfl (vis_of rfl)) sa_nil))))) (ss_cons (s1_append (i := 4) rfl (vis_of rfl) (sn_var (i := 5) rfl (vis_of rfl))) (ss_cons (s1_if (st_cmp hr (sn_var (i := 7) rfl (vis_of rfl)) (sn_var (i := 3) rfl (vis_of rfl)) (by rfl)) (ss_cons (s1_ret (sn_tup (sa_cons (sn_frz (i := 3) rfl (vis_of rfl)) (sa_cons (sn_frz (i := 4) rfl (vis_of rfl)) (sa_cons (sn_index hr (sn_var (i := 3) rfl (vis_of rfl)) (sn_var (i := 7) rfl (vis_of rfl))) sa_nil))))) ss_nil) ss_nil) (ss_cons (s1_append (i := 3) rfl (vis_of rfl) (sn_var (i := 7) rfl (vis_of rfl))) ss_nil))))) ss_nil))
theorem l_course (ds : List PyData) (Q : PyData → Prop) (hl : ds.length = 3) (hs : sp_course ds Q) : W_course { nx := fun _ => Q .none, rt := fun z _ => Q z } (ds.map argS ++ List.replicate (N_course.length - ds.length) SV.no) := by
  obtain ⟨h, s, x, rfl, o, hQ⟩ := hs
  show W_course _ [argS (dH h), argS (dS s), argS (dN x), .no, .no, .no, .no, .no]
  have c := crs o
  have hn81 := c.le o
  unfold dCourse at hQ
  generalize crN h s x = n at *
  generalize crP h s x = p at *
  have g := o.g
  have hx := o.hx
  simp only [W_course, WP.shp, WP.wSeq, WP.wNil, WP.wExpr, WP.wCall, WP.arW, WP.waCons, WP.waNil, WP.wV, WP.wC, WP.wIfS, WP.tNot, WP.tVal, WP.wSet, WP.pLst, WP.pIm, WP.pList, WP.pLrg, WP.tAnd, WP.tOr, WP.tCmp, WP.tChain, WP.wChain, WP.wCmp, WP.wBin, WP.wIsi, WP.wIx, WP.wNeg, WP.wNot, WP.wAnd, WP.wOr, WP.wIf, WP.wAsg, WP.twN, WP.puts, WP.wApp, WP.wRet, WP.wRetN, WP.wAbs, WP.wPass, WP.wBrk, WP.wCnt, WP.wTup, WP.wLst, WP.wSl, WP.woN, WP.woS, WP.wLrg, WP.wDrw, WP.wFor, WP.wFz, WP.wPar, WP.wPar3, WP.wSetIx, WP.wiV, WP.wiE, WP.wiR, WP.wiZ, WP.gs, WP.wIdx, WP.wCount, WP.wLc, WP.tYesW, WP.okF, WP.wipeS, WP.getK.eq_1, WP.getK.eq_2, WP.getK.eq_3, WP.asL.eq_1, WP.binW.eq_1, WP.binW.eq_2, WP.binW.eq_3, WP.binW.eq_4, WP.binW.eq_5, WP.binW.eq_6, WP.binW.eq_7, WP.binW.eq_8, WP.binW.eq_9, WP.binW.eq_10, WP.twT.eq_1, WP.fzK.eq_1, WP.fzK.eq_2, WP.fzK.eq_3, WP.itK.eq_1, WP.itK.eq_2, WP.zipW.eq_1, WP.seqW.eq_1, WP.seqW.eq_2, WP.cutW.eq_1, WP.cutW.eq_2, WP.asML.eq_1, WP.asI.eq_1, WP.asB.eq_1, WP.asN.eq_1, WP.cmpB.eq_1, WP.cmpB.eq_2, WP.cmpB.eq_3, WP.cmpB.eq_4, WP.cmpB.eq_5, WP.cmpB.eq_6, WP.cmpB.eq_7, WP.cmpB.eq_8, WP.cmpB.eq_9, WP.cmpB.eq_10, WP.cmpB.eq_11, WP.cmpB.eq_12, WP.cmpB.eq_13, WP.cmpB.eq_14, WP.ixW.eq_1, WP.ixW.eq_2, WP.idxW.eq_1, WP.isLD.eq_1, WP.lenW.eq_1, WP.lenW.eq_2, WP.tupleW.eq_1, WP.listW.eq_1, WP.listW.eq_2, WP.intW.eq_1, WP.intW.eq_2, WP.absW.eq_1, WP.allW.eq_1, WP.anyW.eq_1, WP.sumW.eq_1, WP.twW.eq_1, WP.cntW.eq_1, WP.itemsN.eq_1, WP.itemsN.eq_2, TH.noL, TH.noLs, true_or, or_true, true_and, and_true, Bool.true_or, Bool.or_true, Bool.false_or, Bool.or_false, Bool.true_and, Bool.and_true, Bool.false_and, Bool.and_false, Bool.not_true, Bool.not_false, reduceIte, List.set_cons_zero, List.set_cons_succ, List.length_cons, List.length_nil, Nat.zero_add, Bool.false_eq_true, Nat.reduceAdd, Nat.reduceLT, Nat.reduceLeDiff, Nat.reduceEqDiff, Int.reduceNeg, decide_true, decide_false, WP.isStr_dX, WP.isStr_int, TH.noL_H, TH.noL_R, TH.noL_S, TH.noL_W, WP.noLs_W, WP.noLs_S, WP.noLs_N, WP.noLs_I, WP.noLs_X, WP.noLs_app, L2.atI_last, WP.atI_0, WP.atI_1, WP.atI_2, WP.atI_3, Option.some.injEq, exists_eq_left', WP.lenW_H, WP.lenW_R, WP.lenW_S, WP.seqW_H, WP.seqW_R, WP.seqW_S, WP.spH_eq, WP.spHN_eq, WP.spHS_eq, WP.spHSN_eq, WP.spHSNN_eq, WP.spHSS_eq, WP.spHSSS_eq, WP.argS_H, WP.argS_S, WP.argS_N, WP.argS_I, TH.eqv_int, TH.eqv_nat, TH.eqv_str, TH.eqv_ex, TH.eqv_W, TH.eqv_R, TH.eqv_H, TH.eqv_S, WP.shp_W, WP.shp_R, WP.shp_H, WP.shp_S, WP.shp_int, WP.shp_bool, WP.shp_none, List.map_cons, List.map_nil, List.append_assoc, List.cons_append, List.nil_append]
  refine while_ind (fun m ρ => ∃ (k : Nat) (y5 y6 y7 : SV), m = n - k ∧ k < n ∧ ρ = [.im (dH h), .im (dS s), .im (dN x), .ml ((stL h x s (k + 1)).map dS), .ml ((exL h x s k).map dX), y5, y6, y7]) ?_ (n := n) ⟨0, .no, .no, .no, rfl, by have := c.lt; omega, rfl⟩
  rintro m ρ ⟨k, y5, y6, y7, rfl, hk, rfl⟩ N hN
  have ok := OkS.nit o k
  have e1 : (stL h x s (k + 1)).map dS = (stL h x s k).map dS ++ [dS (nit h x k s)] := by rw [stL_succ, List.map_append]; rfl
  have hl1 : (exL h x s k).length < 100000 := by rw [exL_len]; omega
  have e2 : (exL h x s k).map dX ++ [dX (ex1 h x (nit h x k s))] = (exL h x s (k + 1)).map dX := by rw [exL_succ, List.map_append]; rfl
  have e3 : nx h x (nit h x k s) = nit h x (k + 1) s := (nit_succ h x k s).symm
  simp only [WP.shp, WP.wSeq, WP.wNil, WP.wExpr, WP.wCall, WP.arW, WP.waCons, WP.waNil, WP.wV, WP.wC, WP.wIfS, WP.tNot, WP.tVal, WP.wSet, WP.pLst, WP.pIm, WP.pList, WP.pLrg, WP.tAnd, WP.tOr, WP.tCmp, WP.tChain, WP.wChain, WP.wCmp, WP.wBin, WP.wIsi, WP.wIx, WP.wNeg, WP.wNot, WP.wAnd, WP.wOr, WP.wIf, WP.wAsg, WP.twN, WP.puts, WP.wApp, WP.wRet, WP.wRetN, WP.wAbs, WP.wPass, WP.wBrk, WP.wCnt, WP.wTup, WP.wLst, WP.wSl, WP.woN, WP.woS, WP.wLrg, WP.wDrw, WP.wFor, WP.wFz, WP.wPar, WP.wPar3, WP.wSetIx, WP.wiV, WP.wiE, WP.wiR, WP.wiZ, WP.gs, WP.wIdx, WP.wCount, WP.wLc, WP.tYesW, WP.okF, WP.wipeS, WP.getK.eq_1, WP.getK.eq_2, WP.getK.eq_3, WP.asL.eq_1, WP.binW.eq_1, WP.binW.eq_2, WP.binW.eq_3, WP.binW.eq_4, WP.binW.eq_5, WP.binW.eq_6, WP.binW.eq_7, WP.binW.eq_8, WP.binW.eq_9, WP.binW.eq_10, WP.twT.eq_1, WP.fzK.eq_1, WP.fzK.eq_2, WP.fzK.eq_3, WP.itK.eq_1, WP.itK.eq_2, WP.zipW.eq_1, WP.seqW.eq_1, WP.seqW.eq_2, WP.cutW.eq_1, WP.cutW.eq_2, WP.asML.eq_1, WP.asI.eq_1, WP.asB.eq_1, WP.asN.eq_1, WP.cmpB.eq_1, WP.cmpB.eq_2, WP.cmpB.eq_3, WP.cmpB.eq_4, WP.cmpB.eq_5, WP.cmpB.eq_6, WP.cmpB.eq_7, WP.cmpB.eq_8, WP.cmpB.eq_9, WP.cmpB.eq_10, WP.cmpB.eq_11, WP.cmpB.eq_12, WP.cmpB.eq_13, WP.cmpB.eq_14, WP.ixW.eq_1, WP.ixW.eq_2, WP.idxW.eq_1, WP.isLD.eq_1, WP.lenW.eq_1, WP.lenW.eq_2, WP.tupleW.eq_1, WP.listW.eq_1, WP.listW.eq_2, WP.intW.eq_1, WP.intW.eq_2, WP.absW.eq_1, WP.allW.eq_1, WP.anyW.eq_1, WP.sumW.eq_1, WP.twW.eq_1, WP.cntW.eq_1, WP.itemsN.eq_1, WP.itemsN.eq_2, TH.noL, TH.noLs, true_or, or_true, true_and, and_true, Bool.true_or, Bool.or_true, Bool.false_or, Bool.or_false, Bool.true_and, Bool.and_true, Bool.false_and, Bool.and_false, Bool.not_true, Bool.not_false, reduceIte, List.set_cons_zero, List.set_cons_succ, List.length_cons, List.length_nil, Nat.zero_add, Bool.false_eq_true, Nat.reduceAdd, Nat.reduceLT, Nat.reduceLeDiff, Nat.reduceEqDiff, Int.reduceNeg, decide_true, decide_false, WP.isStr_dX, WP.isStr_int, TH.noL_H, TH.noL_R, TH.noL_S, TH.noL_W, WP.noLs_W, WP.noLs_S, WP.noLs_N, WP.noLs_I, WP.noLs_X, WP.noLs_app, L2.atI_last, WP.atI_0, WP.atI_1, WP.atI_2, WP.atI_3, Option.some.injEq, exists_eq_left', WP.lenW_H, WP.lenW_R, WP.lenW_S, WP.seqW_H, WP.seqW_R, WP.seqW_S, WP.spH_eq, WP.spHN_eq, WP.spHS_eq, WP.spHSN_eq, WP.spHSNN_eq, WP.spHSS_eq, WP.spHSSS_eq, WP.argS_H, WP.argS_S, WP.argS_N, WP.argS_I, TH.eqv_int, TH.eqv_nat, TH.eqv_str, TH.eqv_ex, TH.eqv_W, TH.eqv_R, TH.eqv_H, TH.eqv_S, WP.shp_W, WP.shp_R, WP.shp_H, WP.shp_S, WP.shp_int, WP.shp_bool, WP.shp_none, List.map_cons, List.map_nil, List.append_assoc, List.cons_append, List.nil_append, e1, sp_walked, g, ok.gs, hx, ok.walk, dWalk, List.length_map, hl1, e2, e3]
  rw [← e1]
  simp only [WP.shp, WP.wSeq, WP.wNil, WP.wExpr, WP.wCall, WP.arW, WP.waCons, WP.waNil, WP.wV, WP.wC, WP.wIfS, WP.tNot, WP.tVal, WP.wSet, WP.pLst, WP.pIm, WP.pList, WP.pLrg, WP.tAnd, WP.tOr, WP.tCmp, WP.tChain, WP.wChain, WP.wCmp, WP.wBin, WP.wIsi, WP.wIx, WP.wNeg, WP.wNot, WP.wAnd, WP.wOr, WP.wIf, WP.wAsg, WP.twN, WP.puts, WP.wApp, WP.wRet, WP.wRetN, WP.wAbs, WP.wPass, WP.wBrk, WP.wCnt, WP.wTup, WP.wLst, WP.wSl, WP.woN, WP.woS, WP.wLrg, WP.wDrw, WP.wFor, WP.wFz, WP.wPar, WP.wPar3, WP.wSetIx, WP.wiV, WP.wiE, WP.wiR, WP.wiZ, WP.gs, WP.wIdx, WP.wCount, WP.wLc, WP.tYesW, WP.okF, WP.wipeS, WP.getK.eq_1, WP.getK.eq_2, WP.getK.eq_3, WP.asL.eq_1, WP.binW.eq_1, WP.binW.eq_2, WP.binW.eq_3, WP.binW.eq_4, WP.binW.eq_5, WP.binW.eq_6, WP.binW.eq_7, WP.binW.eq_8, WP.binW.eq_9, WP.binW.eq_10, WP.twT.eq_1, WP.fzK.eq_1, WP.fzK.eq_2, WP.fzK.eq_3, WP.itK.eq_1, WP.itK.eq_2, WP.zipW.eq_1, WP.seqW.eq_1, WP.seqW.eq_2, WP.cutW.eq_1, WP.cutW.eq_2, WP.asML.eq_1, WP.asI.eq_1, WP.asB.eq_1, WP.asN.eq_1, WP.cmpB.eq_1, WP.cmpB.eq_2, WP.cmpB.eq_3, WP.cmpB.eq_4, WP.cmpB.eq_5, WP.cmpB.eq_6, WP.cmpB.eq_7, WP.cmpB.eq_8, WP.cmpB.eq_9, WP.cmpB.eq_10, WP.cmpB.eq_11, WP.cmpB.eq_12, WP.cmpB.eq_13, WP.cmpB.eq_14, WP.ixW.eq_1, WP.ixW.eq_2, WP.idxW.eq_1, WP.isLD.eq_1, WP.lenW.eq_1, WP.lenW.eq_2, WP.tupleW.eq_1, WP.listW.eq_1, WP.listW.eq_2, WP.intW.eq_1, WP.intW.eq_2, WP.absW.eq_1, WP.allW.eq_1, WP.anyW.eq_1, WP.sumW.eq_1, WP.twW.eq_1, WP.cntW.eq_1, WP.itemsN.eq_1, WP.itemsN.eq_2, TH.noL, TH.noLs, true_or, or_true, true_and, and_true, Bool.true_or, Bool.or_true, Bool.false_or, Bool.or_false, Bool.true_and, Bool.and_true, Bool.false_and, Bool.and_false, Bool.not_true, Bool.not_false, reduceIte, List.set_cons_zero, List.set_cons_succ, List.length_cons, List.length_nil, Nat.zero_add, Bool.false_eq_true, Nat.reduceAdd, Nat.reduceLT, Nat.reduceLeDiff, Nat.reduceEqDiff, Int.reduceNeg, decide_true, decide_false, WP.isStr_dX, WP.isStr_int, TH.noL_H, TH.noL_R, TH.noL_S, TH.noL_W, WP.noLs_W, WP.noLs_S, WP.noLs_N, WP.noLs_I, WP.noLs_X, WP.noLs_app, L2.atI_last, WP.atI_0, WP.atI_1, WP.atI_2, WP.atI_3, Option.some.injEq, exists_eq_left', WP.lenW_H, WP.lenW_R, WP.lenW_S, WP.seqW_H, WP.seqW_R, WP.seqW_S, WP.spH_eq, WP.spHN_eq, WP.spHS_eq, WP.spHSN_eq, WP.spHSNN_eq, WP.spHSS_eq, WP.spHSSS_eq, WP.argS_H, WP.argS_S, WP.argS_N, WP.argS_I, TH.eqv_int, TH.eqv_nat, TH.eqv_str, TH.eqv_ex, TH.eqv_W, TH.eqv_R, TH.eqv_H, TH.eqv_S, WP.shp_W, WP.shp_R, WP.shp_H, WP.shp_S, WP.shp_int, WP.shp_bool, WP.shp_none, List.map_cons, List.map_nil, List.append_assoc, List.cons_append, List.nil_append, shp_lS, any_S]
  by_cases hin : nit h x (k + 1) s ∈ stL h x s (k + 1)
  · obtain ⟨j, hj, ej⟩ := List.mem_map.mp hin
    rw [List.mem_range] at hj
    have hkn : k + 1 = n := by
      by_cases hlt : k + 1 < n
      · exact absurd ej (c.inj j (k + 1) hj hlt)
      · omega
    have hjp : j = p := by
      have h1 : nit h x p s = nit h x j s := by rw [ej, hkn, c.eq]
      rcases Nat.lt_trichotomy j p with hlt | he | hgt
      · exact absurd h1.symm (c.inj j p hlt c.lt)
      · exact he
      · exact absurd h1 (c.inj p j hgt (by omega))
    simp only [hin, WP.shp, WP.wSeq, WP.wNil, WP.wExpr, WP.wCall, WP.arW, WP.waCons, WP.waNil, WP.wV, WP.wC, WP.wIfS, WP.tNot, WP.tVal, WP.wSet, WP.pLst, WP.pIm, WP.pList, WP.pLrg, WP.tAnd, WP.tOr, WP.tCmp, WP.tChain, WP.wChain, WP.wCmp, WP.wBin, WP.wIsi, WP.wIx, WP.wNeg, WP.wNot, WP.wAnd, WP.wOr, WP.wIf, WP.wAsg, WP.twN, WP.puts, WP.wApp, WP.wRet, WP.wRetN, WP.wAbs, WP.wPass, WP.wBrk, WP.wCnt, WP.wTup, WP.wLst, WP.wSl, WP.woN, WP.woS, WP.wLrg, WP.wDrw, WP.wFor, WP.wFz, WP.wPar, WP.wPar3, WP.wSetIx, WP.wiV, WP.wiE, WP.wiR, WP.wiZ, WP.gs, WP.wIdx, WP.wCount, WP.wLc, WP.tYesW, WP.okF, WP.wipeS, WP.getK.eq_1, WP.getK.eq_2, WP.getK.eq_3, WP.asL.eq_1, WP.binW.eq_1, WP.binW.eq_2, WP.binW.eq_3, WP.binW.eq_4, WP.binW.eq_5, WP.binW.eq_6, WP.binW.eq_7, WP.binW.eq_8, WP.binW.eq_9, WP.binW.eq_10, WP.twT.eq_1, WP.fzK.eq_1, WP.fzK.eq_2, WP.fzK.eq_3, WP.itK.eq_1, WP.itK.eq_2, WP.zipW.eq_1, WP.seqW.eq_1, WP.seqW.eq_2, WP.cutW.eq_1, WP.cutW.eq_2, WP.asML.eq_1, WP.asI.eq_1, WP.asB.eq_1, WP.asN.eq_1, WP.cmpB.eq_1, WP.cmpB.eq_2, WP.cmpB.eq_3, WP.cmpB.eq_4, WP.cmpB.eq_5, WP.cmpB.eq_6, WP.cmpB.eq_7, WP.cmpB.eq_8, WP.cmpB.eq_9, WP.cmpB.eq_10, WP.cmpB.eq_11, WP.cmpB.eq_12, WP.cmpB.eq_13, WP.cmpB.eq_14, WP.ixW.eq_1, WP.ixW.eq_2, WP.idxW.eq_1, WP.isLD.eq_1, WP.lenW.eq_1, WP.lenW.eq_2, WP.tupleW.eq_1, WP.listW.eq_1, WP.listW.eq_2, WP.intW.eq_1, WP.intW.eq_2, WP.absW.eq_1, WP.allW.eq_1, WP.anyW.eq_1, WP.sumW.eq_1, WP.twW.eq_1, WP.cntW.eq_1, WP.itemsN.eq_1, WP.itemsN.eq_2, TH.noL, TH.noLs, true_or, or_true, true_and, and_true, Bool.true_or, Bool.or_true, Bool.false_or, Bool.or_false, Bool.true_and, Bool.and_true, Bool.false_and, Bool.and_false, Bool.not_true, Bool.not_false, reduceIte, List.set_cons_zero, List.set_cons_succ, List.length_cons, List.length_nil, Nat.zero_add, Bool.false_eq_true, Nat.reduceAdd, Nat.reduceLT, Nat.reduceLeDiff, Nat.reduceEqDiff, Int.reduceNeg, decide_true, decide_false, WP.isStr_dX, WP.isStr_int, TH.noL_H, TH.noL_R, TH.noL_S, TH.noL_W, WP.noLs_W, WP.noLs_S, WP.noLs_N, WP.noLs_I, WP.noLs_X, WP.noLs_app, L2.atI_last, WP.atI_0, WP.atI_1, WP.atI_2, WP.atI_3, Option.some.injEq, exists_eq_left', WP.lenW_H, WP.lenW_R, WP.lenW_S, WP.seqW_H, WP.seqW_R, WP.seqW_S, WP.spH_eq, WP.spHN_eq, WP.spHS_eq, WP.spHSN_eq, WP.spHSNN_eq, WP.spHSS_eq, WP.spHSSS_eq, WP.argS_H, WP.argS_S, WP.argS_N, WP.argS_I, TH.eqv_int, TH.eqv_nat, TH.eqv_str, TH.eqv_ex, TH.eqv_W, TH.eqv_R, TH.eqv_H, TH.eqv_S, WP.shp_W, WP.shp_R, WP.shp_H, WP.shp_S, WP.shp_int, WP.shp_bool, WP.shp_none, List.map_cons, List.map_nil, List.append_assoc, List.cons_append, List.nil_append, shp_lS]
    refine ⟨p, ⟨dS (nit h x p s), ?_, ?_⟩, fun m y hm hy => ?_, ?_⟩
    · rw [List.getElem?_map]
      unfold stL
      rw [List.getElem?_map, List.getElem?_range (by omega)]
      rfl
    · rw [eqv_S, ← hjp, ej, decide_eq_true rfl]
    · rw [List.getElem?_map] at hy
      unfold stL at hy
      rw [List.getElem?_map, List.getElem?_range (by omega)] at hy
      cases hy
      rw [eqv_S]
      refine decide_eq_false fun e => ?_
      rw [← ej, hjp] at e
      exact c.inj m p hm c.lt e
    · rw [hkn]
      exact hQ
  · have hlt : k + 1 < n := by
      by_cases hlt : k + 1 < n
      · exact hlt
      · have hkn : k + 1 = n := by omega
        refine absurd (List.mem_map.mpr ⟨p, List.mem_range.mpr ?_, ?_⟩) hin
        · have := c.lt; omega
        · rw [hkn, c.eq]
    have hl2 : (stL h x s (k + 1)).length < 100000 := by rw [stL_len]; omega
    have e4 : (stL h x s (k + 1)).map dS ++ [dS (nit h x (k + 1) s)] = (stL h x s (k + 1 + 1)).map dS := by rw [stL_succ h x s (k + 1), List.map_append]; rfl
    simp only [hin, WP.shp, WP.wSeq, WP.wNil, WP.wExpr, WP.wCall, WP.arW, WP.waCons, WP.waNil, WP.wV, WP.wC, WP.wIfS, WP.tNot, WP.tVal, WP.wSet, WP.pLst, WP.pIm, WP.pList, WP.pLrg, WP.tAnd, WP.tOr, WP.tCmp, WP.tChain, WP.wChain, WP.wCmp, WP.wBin, WP.wIsi, WP.wIx, WP.wNeg, WP.wNot, WP.wAnd, WP.wOr, WP.wIf, WP.wAsg, WP.twN, WP.puts, WP.wApp, WP.wRet, WP.wRetN, WP.wAbs, WP.wPass, WP.wBrk, WP.wCnt, WP.wTup, WP.wLst, WP.wSl, WP.woN, WP.woS, WP.wLrg, WP.wDrw, WP.wFor, WP.wFz, WP.wPar, WP.wPar3, WP.wSetIx, WP.wiV, WP.wiE, WP.wiR, WP.wiZ, WP.gs, WP.wIdx, WP.wCount, WP.wLc, WP.tYesW, WP.okF, WP.wipeS, WP.getK.eq_1, WP.getK.eq_2, WP.getK.eq_3, WP.asL.eq_1, WP.binW.eq_1, WP.binW.eq_2, WP.binW.eq_3, WP.binW.eq_4, WP.binW.eq_5, WP.binW.eq_6, WP.binW.eq_7, WP.binW.eq_8, WP.binW.eq_9, WP.binW.eq_10, WP.twT.eq_1, WP.fzK.eq_1, WP.fzK.eq_2, WP.fzK.eq_3, WP.itK.eq_1, WP.itK.eq_2, WP.zipW.eq_1, WP.seqW.eq_1, WP.seqW.eq_2, WP.cutW.eq_1, WP.cutW.eq_2, WP.asML.eq_1, WP.asI.eq_1, WP.asB.eq_1, WP.asN.eq_1, WP.cmpB.eq_1, WP.cmpB.eq_2, WP.cmpB.eq_3, WP.cmpB.eq_4, WP.cmpB.eq_5, WP.cmpB.eq_6, WP.cmpB.eq_7, WP.cmpB.eq_8, WP.cmpB.eq_9, WP.cmpB.eq_10, WP.cmpB.eq_11, WP.cmpB.eq_12, WP.cmpB.eq_13, WP.cmpB.eq_14, WP.ixW.eq_1, WP.ixW.eq_2, WP.idxW.eq_1, WP.isLD.eq_1, WP.lenW.eq_1, WP.lenW.eq_2, WP.tupleW.eq_1, WP.listW.eq_1, WP.listW.eq_2, WP.intW.eq_1, WP.intW.eq_2, WP.absW.eq_1, WP.allW.eq_1, WP.anyW.eq_1, WP.sumW.eq_1, WP.twW.eq_1, WP.cntW.eq_1, WP.itemsN.eq_1, WP.itemsN.eq_2, TH.noL, TH.noLs, true_or, or_true, true_and, and_true, Bool.true_or, Bool.or_true, Bool.false_or, Bool.or_false, Bool.true_and, Bool.and_true, Bool.false_and, Bool.and_false, Bool.not_true, Bool.not_false, reduceIte, List.set_cons_zero, List.set_cons_succ, List.length_cons, List.length_nil, Nat.zero_add, Bool.false_eq_true, Nat.reduceAdd, Nat.reduceLT, Nat.reduceLeDiff, Nat.reduceEqDiff, Int.reduceNeg, decide_true, decide_false, WP.isStr_dX, WP.isStr_int, TH.noL_H, TH.noL_R, TH.noL_S, TH.noL_W, WP.noLs_W, WP.noLs_S, WP.noLs_N, WP.noLs_I, WP.noLs_X, WP.noLs_app, L2.atI_last, WP.atI_0, WP.atI_1, WP.atI_2, WP.atI_3, Option.some.injEq, exists_eq_left', WP.lenW_H, WP.lenW_R, WP.lenW_S, WP.seqW_H, WP.seqW_R, WP.seqW_S, WP.spH_eq, WP.spHN_eq, WP.spHS_eq, WP.spHSN_eq, WP.spHSNN_eq, WP.spHSS_eq, WP.spHSSS_eq, WP.argS_H, WP.argS_S, WP.argS_N, WP.argS_I, TH.eqv_int, TH.eqv_nat, TH.eqv_str, TH.eqv_ex, TH.eqv_W, TH.eqv_R, TH.eqv_H, TH.eqv_S, WP.shp_W, WP.shp_R, WP.shp_H, WP.shp_S, WP.shp_int, WP.shp_bool, WP.shp_none, List.map_cons, List.map_nil, List.append_assoc, List.cons_append, List.nil_append, List.length_map, hl2, e4]
    refine hN (n - (k + 1)) _ (by omega) ⟨k + 1, .im (dX (ex1 h x (nit h x k s))), .im (dN (mv1 h x (nit h x k s))), .im (dS (nit h x (k + 1) s)), rfl, hlt, ?_⟩
    rw [stL_succ h x s (k + 1), stL_succ h x s k]
    simp
theorem fd_course (L : Lnk K mg "course" s_course ["house", "standing", "hall"]) (T : Bts mg) (F_walked : FnD P w K mg base 2 "walked" (spW K 3 sp_walked)) : FnD P w K mg base 3 "course" (spW K 3 sp_course) := L.fnD fun f fd F => Fun.okW F sc_course rfl (by decide) (c_course T F_walked) l_course
/-! ### sent: slots 0 house 1 standing 2 hall 3 people 4 states 5 gone 6 place 7 length 8 lead 9 rounds 10 rest 11 counts 12 way 13 many -/
abbrev N_sent : List Str := ["house", "standing", "hall", "people", "states", "gone", "place", "length", "lead", "rounds", "rest", "counts", "way", "many"]
theorem sc_sent : FnScope N_sent ["house", "standing", "hall", "people"] (defScope s_sent) := ⟨rfl, rfl, rfl, by decide +kernel, rfl, by decide +kernel, by decide +kernel⟩
def W_sent_1 : WS := (wSeq (wRet (wTup (waCons true (wCall tupleW (waCons true (wV 11) waNil)) (waCons true (wIx true (wV 4) (wBin .Add true (wV 8) (wV 10))) waNil)))) wNil)
def W_sent_2 : WS := (wSeq (wSet 11 (pLst waNil)) (wSeq (wFor (wiE (wCall (arW 1 sp_found_exits) (waCons true (wV 0) waNil))) (twN 12) (wSeq (wSet 13 (pIm (wBin .Add true (wBin .Add true (wCount true (wSl true (wV 5) woN (woS (wV 8))) (wV 12)) (wBin .Mult true (wV 9) (wCount true (wSl true (wV 5) (woS (wV 6)) woN) (wV 12)))) (wCount true (wSl true (wV 5) (woS (wV 6)) (woS (wBin .Add true (wV 6) (wV 10)))) (wV 12))))) (wSeq (wApp 11 (wV 13)) wNil))) W_sent_1))
def W_sent : WS := (wSeq (wAsg (twT [4, 5, 6]) (wCall (arW 3 sp_course) (waCons true (wV 0) (waCons true (wV 1) (waCons true (wV 2) waNil))))) (wSeq (wSet 7 (pIm (wBin .Sub true (wCall lenW (waCons true (wV 5) waNil)) (wV 6)))) (wSeq (wPar3 8 9 10 (pIm (wV 3)) (pIm (wC (.int 0))) (pIm (wC (.int 0)))) (wSeq (wIfS (tCmp .Gt true (wV 3) (wV 6)) (wSeq (wPar3 8 9 10 (pIm (wV 6)) (pIm (wBin .FloorDiv true (wBin .Sub true (wV 3) (wV 6)) (wV 7))) (pIm (wBin .Mod true (wBin .Sub true (wV 3) (wV 6)) (wV 7)))) wNil) wNil) W_sent_2))))
theorem c_sent (T : Bts mg) (F_course : FnD P w K mg base 3 "course" (spW K 3 sp_course)) (F_found_exits : FnD P w K mg base 1 "found_exits" (spW K 1 sp_found_exits)) : ∀ (cdv : Value) (A : Around) (outer : List Env) (s : Shared) (H : Hp) (E : XK), Room 3 (A.deeper (envOfC "sent" (defScope s_sent) s.heap.objs.size f cdv)) → SndS (CxF P w K mg base N_sent "sent" s_sent f cdv A outer s H E) (defBody s_sent) W_sent := fun cdv A outer s H E hr =>
  (ss_cons (s1_asg (pg_tup rfl (pgs_cons (pg_name (i := 4) sc_sent.nd rfl (loc_of rfl)) (pgs_cons (pg_name (i := 5) sc_sent.nd rfl (loc_of rfl)) (pgs_cons (pg_name (i := 6) sc_sent.nd rfl (loc_of rfl)) pgs_nil)))) (rx_tup [4, 5, 6]) (sn_call F_course (hr.mono (by decide)) (by rfl) (sa_cons (sn_var (i := 0) rfl (vis_of rfl)) (sa_cons (sn_var (i := 1) rfl (vis_of rfl)) (sa_cons (sn_var (i := 2) rfl (vis_of rfl)) sa_nil))))) (ss_cons (s1_set (i := 7) sc_sent.nd rfl (loc_of rfl) (sp_im (sn_bin (sn_callB ok_len (by rfl) T.len (by decide +kernel) (sa_cons (sn_var (i := 5) rfl (vis_of rfl)) sa_nil)) (sn_var (i := 6) rfl (vis_of rfl))))) (ss_cons (s1_par3 (i := 8) (j := 9) (l := 10) rfl sc_sent.nd rfl rfl rfl (by decide) (by decide) (by decide) rfl rfl rfl (sp_im (sn_var (i := 3) rfl (vis_of rfl))) (sp_im sn_int) (sp_im sn_int) (by rfl)) (ss_cons (s1_if (st_cmp hr (sn_var (i := 3) rfl (vis_of rfl)) (sn_var (i := 6) rfl (vis_of rfl)) (nomark _)) (ss_cons (s1_par3 (i := 8) (j := 9) (l := 10) rfl sc_sent.nd rfl rfl rfl (by decide) (by decide) (by decide) rfl rfl rfl (sp_im (sn_var (i := 6) rfl (vis_of rfl))) (sp_im (sn_bin (sn_bin (sn_var (i := 3) rfl (vis_of rfl)) (sn_var (i := 6) rfl (vis_of rfl))) (sn_var (i := 7) rfl (vis_of rfl)))) (sp_im (sn_bin (sn_bin (sn_var (i := 3) rfl (vis_of rfl)) (sn_var (i := 6) rfl (vis_of rfl))) (sn_var (i := 7) rfl (vis_of rfl)))) (by rfl)) ss_nil) ss_nil) (ss_cons (s1_set (i := 11) sc_sent.nd rfl (loc_of rfl) (sp_lst sa_nil)) (ss_cons (s1_for PassesOwn.never rfl (si_exp (sn_call F_found_exits (hr.mono (by decide)) (by rfl) (sa_cons (sn_var (i := 0) rfl (vis_of rfl)) sa_nil))) (pg_name (i := 12) sc_sent.nd rfl (loc_of rfl)) (rx_name 12) (ss_cons (s1_set (i := 13) sc_sent.nd rfl (loc_of rfl) (sp_im (sn_bin (sn_bin (sn_count hr (sn_sl (sn_var (i := 5) rfl (vis_of rfl)) so_none (so_some (sn_var (i := 8) rfl (vis_of rfl)))) (sn_var (i := 12) rfl (vis_of rfl))) (sn_bin (sn_var (i := 9) rfl (vis_of rfl)) (sn_count hr (sn_sl (sn_var (i := 5) rfl (vis_of rfl)) (so_some (sn_var (i := 6) rfl (vis_of rfl))) so_none) (sn_var (i := 12) rfl (vis_of rfl))))) (sn_count hr (sn_sl (sn_var (i := 5) rfl (vis_of rfl)) (so_some (sn_var (i := 6) rfl (vis_of rfl))) (so_some (sn_bin (sn_var (i := 6) rfl (vis_of rfl)) (sn_var (i := 10) rfl (vis_of rfl))))) (sn_var (i := 12) rfl (vis_of rfl)))))) (ss_cons (s1_append (i := 11) rfl (vis_of rfl) (sn_var (i := 13) rfl (vis_of rfl))) ss_nil))) (ss_cons (s1_ret (sn_tup (sa_cons (sn_callTy ok_tuple (by rfl) T.tuple (by decide +kernel) (sa_cons (sn_var (i := 11) rfl (vis_of rfl)) sa_nil)) (sa_cons (sn_ix (sn_var (i := 4) rfl (vis_of rfl)) (sn_bin (sn_var (i := 8) rfl (vis_of rfl)) (sn_var (i := 10) rfl (vis_of rfl)))) sa_nil)))) ss_nil)))))))
theorem l_sent (ds : List PyData) (Q : PyData → Prop) (hl : ds.length = 4) (hs : sp_sent ds Q) : W_sent { nx := fun _ => Q .none, rt := fun z _ => Q z } (ds.map argS ++ List.replicate (N_sent.length - ds.length) SV.no) := by
  obtain ⟨h, s, x, m, rfl, ⟨o, hm⟩, hQ⟩ := hs
  show W_sent _ [argS (dH h), argS (dS s), argS (dN x), argS (dN m), .no, .no, .no, .no, .no, .no, .no, .no, .no, .no]
  have c := crs o
  have hn81 := c.le o
  have g := o.g
  simp only [W_sent, WP.shp, WP.wSeq, WP.wNil, WP.wExpr, WP.wCall, WP.arW, WP.waCons, WP.waNil, WP.wV, WP.wC, WP.wIfS, WP.tNot, WP.tVal, WP.wSet, WP.pLst, WP.pIm, WP.pList, WP.pLrg, WP.tAnd, WP.tOr, WP.tCmp, WP.tChain, WP.wChain, WP.wCmp, WP.wBin, WP.wIsi, WP.wIx, WP.wNeg, WP.wNot, WP.wAnd, WP.wOr, WP.wIf, WP.wAsg, WP.twN, WP.puts, WP.wApp, WP.wRet, WP.wRetN, WP.wAbs, WP.wPass, WP.wBrk, WP.wCnt, WP.wTup, WP.wLst, WP.wSl, WP.woN, WP.woS, WP.wLrg, WP.wDrw, WP.wFor, WP.wFz, WP.wPar, WP.wPar3, WP.wSetIx, WP.wiV, WP.wiE, WP.wiR, WP.wiZ, WP.gs, WP.wIdx, WP.wCount, WP.wLc, WP.tYesW, WP.okF, WP.wipeS, WP.getK.eq_1, WP.getK.eq_2, WP.getK.eq_3, WP.asL.eq_1, WP.binW.eq_1, WP.binW.eq_2, WP.binW.eq_3, WP.binW.eq_4, WP.binW.eq_5, WP.binW.eq_6, WP.binW.eq_7, WP.binW.eq_8, WP.binW.eq_9, WP.binW.eq_10, WP.twT.eq_1, WP.fzK.eq_1, WP.fzK.eq_2, WP.fzK.eq_3, WP.itK.eq_1, WP.itK.eq_2, WP.zipW.eq_1, WP.seqW.eq_1, WP.seqW.eq_2, WP.cutW.eq_1, WP.cutW.eq_2, WP.asML.eq_1, WP.asI.eq_1, WP.asB.eq_1, WP.asN.eq_1, WP.cmpB.eq_1, WP.cmpB.eq_2, WP.cmpB.eq_3, WP.cmpB.eq_4, WP.cmpB.eq_5, WP.cmpB.eq_6, WP.cmpB.eq_7, WP.cmpB.eq_8, WP.cmpB.eq_9, WP.cmpB.eq_10, WP.cmpB.eq_11, WP.cmpB.eq_12, WP.cmpB.eq_13, WP.cmpB.eq_14, WP.ixW.eq_1, WP.ixW.eq_2, WP.idxW.eq_1, WP.isLD.eq_1, WP.lenW.eq_1, WP.lenW.eq_2, WP.tupleW.eq_1, WP.listW.eq_1, WP.listW.eq_2, WP.intW.eq_1, WP.intW.eq_2, WP.absW.eq_1, WP.allW.eq_1, WP.anyW.eq_1, WP.sumW.eq_1, WP.twW.eq_1, WP.cntW.eq_1, WP.itemsN.eq_1, WP.itemsN.eq_2, TH.noL, TH.noLs, true_or, or_true, true_and, and_true, Bool.true_or, Bool.or_true, Bool.false_or, Bool.or_false, Bool.true_and, Bool.and_true, Bool.false_and, Bool.and_false, Bool.not_true, Bool.not_false, reduceIte, List.set_cons_zero, List.set_cons_succ, List.length_cons, List.length_nil, Nat.zero_add, Bool.false_eq_true, Nat.reduceAdd, Nat.reduceLT, Nat.reduceLeDiff, Nat.reduceEqDiff, Int.reduceNeg, decide_true, decide_false, WP.isStr_dX, WP.isStr_int, TH.noL_H, TH.noL_R, TH.noL_S, TH.noL_W, WP.noLs_W, WP.noLs_S, WP.noLs_N, WP.noLs_I, WP.noLs_X, WP.noLs_app, L2.atI_last, WP.atI_0, WP.atI_1, WP.atI_2, WP.atI_3, Option.some.injEq, exists_eq_left', WP.lenW_H, WP.lenW_R, WP.lenW_S, WP.seqW_H, WP.seqW_R, WP.seqW_S, WP.spH_eq, WP.spHN_eq, WP.spHS_eq, WP.spHSN_eq, WP.spHSNN_eq, WP.spHSS_eq, WP.spHSSS_eq, WP.argS_H, WP.argS_S, WP.argS_N, WP.argS_I, TH.eqv_int, TH.eqv_nat, TH.eqv_str, TH.eqv_ex, TH.eqv_W, TH.eqv_R, TH.eqv_H, TH.eqv_S, WP.shp_W, WP.shp_R, WP.shp_H, WP.shp_S, WP.shp_int, WP.shp_bool, WP.shp_none, List.map_cons, List.map_nil, List.append_assoc, List.cons_append, List.nil_append, sp_course, o, dCourse]
  generalize crN h s x = n at *
  generalize crP h s x = p at *
  have hpn := c.lt
  have el : ((exL h x s n).length : Int) - (p : Int) = ((n - p : Nat) : Int) := by rw [exL_len]; omega
  have fin : ∀ lead q rest : Nat, lead ≤ n → p + rest ≤ n → lead + rest < n → q ≤ 1000000000 → nit h x (lead + rest) s = nit h x m s → (∀ e, cnt h x s m e = cnt h x s lead e + q * cnt h x (nit h x p s) (n - p) e + cnt h x (nit h x p s) rest e) →
      W_sent_2 { nx := fun _ => Q .none, rt := fun z _ => Q z }
      [.im (dH h), .im (dS s), .im (dN x), .im (dN m), .im (.list ((stL h x s n).map dS)), .im (.list ((exL h x s n).map dX)), .im (dN p), .im (dN (n - p)), .im (dN lead), .im (dN q), .im (dN rest), .no, .no, .no] := by
    intro lead q rest h1 h2 h3 h4 hnit hcnt
    simp only [W_sent_2, WP.shp, WP.wSeq, WP.wNil, WP.wExpr, WP.wCall, WP.arW, WP.waCons, WP.waNil, WP.wV, WP.wC, WP.wIfS, WP.tNot, WP.tVal, WP.wSet, WP.pLst, WP.pIm, WP.pList, WP.pLrg, WP.tAnd, WP.tOr, WP.tCmp, WP.tChain, WP.wChain, WP.wCmp, WP.wBin, WP.wIsi, WP.wIx, WP.wNeg, WP.wNot, WP.wAnd, WP.wOr, WP.wIf, WP.wAsg, WP.twN, WP.puts, WP.wApp, WP.wRet, WP.wRetN, WP.wAbs, WP.wPass, WP.wBrk, WP.wCnt, WP.wTup, WP.wLst, WP.wSl, WP.woN, WP.woS, WP.wLrg, WP.wDrw, WP.wFor, WP.wFz, WP.wPar, WP.wPar3, WP.wSetIx, WP.wiV, WP.wiE, WP.wiR, WP.wiZ, WP.gs, WP.wIdx, WP.wCount, WP.wLc, WP.tYesW, WP.okF, WP.wipeS, WP.getK.eq_1, WP.getK.eq_2, WP.getK.eq_3, WP.asL.eq_1, WP.binW.eq_1, WP.binW.eq_2, WP.binW.eq_3, WP.binW.eq_4, WP.binW.eq_5, WP.binW.eq_6, WP.binW.eq_7, WP.binW.eq_8, WP.binW.eq_9, WP.binW.eq_10, WP.twT.eq_1, WP.fzK.eq_1, WP.fzK.eq_2, WP.fzK.eq_3, WP.itK.eq_1, WP.itK.eq_2, WP.zipW.eq_1, WP.seqW.eq_1, WP.seqW.eq_2, WP.cutW.eq_1, WP.cutW.eq_2, WP.asML.eq_1, WP.asI.eq_1, WP.asB.eq_1, WP.asN.eq_1, WP.cmpB.eq_1, WP.cmpB.eq_2, WP.cmpB.eq_3, WP.cmpB.eq_4, WP.cmpB.eq_5, WP.cmpB.eq_6, WP.cmpB.eq_7, WP.cmpB.eq_8, WP.cmpB.eq_9, WP.cmpB.eq_10, WP.cmpB.eq_11, WP.cmpB.eq_12, WP.cmpB.eq_13, WP.cmpB.eq_14, WP.ixW.eq_1, WP.ixW.eq_2, WP.idxW.eq_1, WP.isLD.eq_1, WP.lenW.eq_1, WP.lenW.eq_2, WP.tupleW.eq_1, WP.listW.eq_1, WP.listW.eq_2, WP.intW.eq_1, WP.intW.eq_2, WP.absW.eq_1, WP.allW.eq_1, WP.anyW.eq_1, WP.sumW.eq_1, WP.twW.eq_1, WP.cntW.eq_1, WP.itemsN.eq_1, WP.itemsN.eq_2, TH.noL, TH.noLs, true_or, or_true, true_and, and_true, Bool.true_or, Bool.or_true, Bool.false_or, Bool.or_false, Bool.true_and, Bool.and_true, Bool.false_and, Bool.and_false, Bool.not_true, Bool.not_false, reduceIte, List.set_cons_zero, List.set_cons_succ, List.length_cons, List.length_nil, Nat.zero_add, Bool.false_eq_true, Nat.reduceAdd, Nat.reduceLT, Nat.reduceLeDiff, Nat.reduceEqDiff, Int.reduceNeg, decide_true, decide_false, WP.isStr_dX, WP.isStr_int, TH.noL_H, TH.noL_R, TH.noL_S, TH.noL_W, WP.noLs_W, WP.noLs_S, WP.noLs_N, WP.noLs_I, WP.noLs_X, WP.noLs_app, L2.atI_last, WP.atI_0, WP.atI_1, WP.atI_2, WP.atI_3, Option.some.injEq, exists_eq_left', WP.lenW_H, WP.lenW_R, WP.lenW_S, WP.seqW_H, WP.seqW_R, WP.seqW_S, WP.spH_eq, WP.spHN_eq, WP.spHS_eq, WP.spHSN_eq, WP.spHSNN_eq, WP.spHSS_eq, WP.spHSSS_eq, WP.argS_H, WP.argS_S, WP.argS_N, WP.argS_I, TH.eqv_int, TH.eqv_nat, TH.eqv_str, TH.eqv_ex, TH.eqv_W, TH.eqv_R, TH.eqv_H, TH.eqv_S, WP.shp_W, WP.shp_R, WP.shp_H, WP.shp_S, WP.shp_int, WP.shp_bool, WP.shp_none, List.map_cons, List.map_nil, List.append_assoc, List.cons_append, List.nil_append, sp_found_exits, g]
    refine loop_ind (fun i ρ => ∃ y12 y13, ρ = [.im (dH h), .im (dS s), .im (dN x), .im (dN m), .im (.list ((stL h x s n).map dS)), .im (.list ((exL h x s n).map dX)), .im (dN p), .im (dN (n - p)), .im (dN lead), .im (dN q), .im (dN rest), .ml ((((exitsOf h).take i).map fun e => cnt h x s m e).map dN), y12, y13]) ?_ ?_ ⟨_, _, rfl⟩
    · rintro i d ρ hd ⟨y12, y13, rfl⟩ N hN
      rw [List.getElem?_map] at hd
      obtain ⟨e, he, rfl⟩ := Option.map_eq_some_iff.mp hd
      have hex3 := exitsOf_len h
      have hcm : CMul (q : Int) (((exL h x (nit h x p s) (n - p)).count e : Nat) : Int) := .inl ⟨by omega, by omega⟩
      have hlc : (((exitsOf h).take i).map fun e => cnt h x s m e).length < 100000 := by rw [List.length_map, List.length_take]; omega
      simp only [WP.shp, WP.wSeq, WP.wNil, WP.wExpr, WP.wCall, WP.arW, WP.waCons, WP.waNil, WP.wV, WP.wC, WP.wIfS, WP.tNot, WP.tVal, WP.wSet, WP.pLst, WP.pIm, WP.pList, WP.pLrg, WP.tAnd, WP.tOr, WP.tCmp, WP.tChain, WP.wChain, WP.wCmp, WP.wBin, WP.wIsi, WP.wIx, WP.wNeg, WP.wNot, WP.wAnd, WP.wOr, WP.wIf, WP.wAsg, WP.twN, WP.puts, WP.wApp, WP.wRet, WP.wRetN, WP.wAbs, WP.wPass, WP.wBrk, WP.wCnt, WP.wTup, WP.wLst, WP.wSl, WP.woN, WP.woS, WP.wLrg, WP.wDrw, WP.wFor, WP.wFz, WP.wPar, WP.wPar3, WP.wSetIx, WP.wiV, WP.wiE, WP.wiR, WP.wiZ, WP.gs, WP.wIdx, WP.wCount, WP.wLc, WP.tYesW, WP.okF, WP.wipeS, WP.getK.eq_1, WP.getK.eq_2, WP.getK.eq_3, WP.asL.eq_1, WP.binW.eq_1, WP.binW.eq_2, WP.binW.eq_3, WP.binW.eq_4, WP.binW.eq_5, WP.binW.eq_6, WP.binW.eq_7, WP.binW.eq_8, WP.binW.eq_9, WP.binW.eq_10, WP.twT.eq_1, WP.fzK.eq_1, WP.fzK.eq_2, WP.fzK.eq_3, WP.itK.eq_1, WP.itK.eq_2, WP.zipW.eq_1, WP.seqW.eq_1, WP.seqW.eq_2, WP.cutW.eq_1, WP.cutW.eq_2, WP.asML.eq_1, WP.asI.eq_1, WP.asB.eq_1, WP.asN.eq_1, WP.cmpB.eq_1, WP.cmpB.eq_2, WP.cmpB.eq_3, WP.cmpB.eq_4, WP.cmpB.eq_5, WP.cmpB.eq_6, WP.cmpB.eq_7, WP.cmpB.eq_8, WP.cmpB.eq_9, WP.cmpB.eq_10, WP.cmpB.eq_11, WP.cmpB.eq_12, WP.cmpB.eq_13, WP.cmpB.eq_14, WP.ixW.eq_1, WP.ixW.eq_2, WP.idxW.eq_1, WP.isLD.eq_1, WP.lenW.eq_1, WP.lenW.eq_2, WP.tupleW.eq_1, WP.listW.eq_1, WP.listW.eq_2, WP.intW.eq_1, WP.intW.eq_2, WP.absW.eq_1, WP.allW.eq_1, WP.anyW.eq_1, WP.sumW.eq_1, WP.twW.eq_1, WP.cntW.eq_1, WP.itemsN.eq_1, WP.itemsN.eq_2, TH.noL, TH.noLs, true_or, or_true, true_and, and_true, Bool.true_or, Bool.or_true, Bool.false_or, Bool.or_false, Bool.true_and, Bool.and_true, Bool.false_and, Bool.and_false, Bool.not_true, Bool.not_false, reduceIte, List.set_cons_zero, List.set_cons_succ, List.length_cons, List.length_nil, Nat.zero_add, Bool.false_eq_true, Nat.reduceAdd, Nat.reduceLT, Nat.reduceLeDiff, Nat.reduceEqDiff, Int.reduceNeg, decide_true, decide_false, WP.isStr_dX, WP.isStr_int, TH.noL_H, TH.noL_R, TH.noL_S, TH.noL_W, WP.noLs_W, WP.noLs_S, WP.noLs_N, WP.noLs_I, WP.noLs_X, WP.noLs_app, L2.atI_last, WP.atI_0, WP.atI_1, WP.atI_2, WP.atI_3, Option.some.injEq, exists_eq_left', WP.lenW_H, WP.lenW_R, WP.lenW_S, WP.seqW_H, WP.seqW_R, WP.seqW_S, WP.spH_eq, WP.spHN_eq, WP.spHS_eq, WP.spHSN_eq, WP.spHSNN_eq, WP.spHSS_eq, WP.spHSSS_eq, WP.argS_H, WP.argS_S, WP.argS_N, WP.argS_I, TH.eqv_int, TH.eqv_nat, TH.eqv_str, TH.eqv_ex, TH.eqv_W, TH.eqv_R, TH.eqv_H, TH.eqv_S, WP.shp_W, WP.shp_R, WP.shp_H, WP.shp_S, WP.shp_int, WP.shp_bool, WP.shp_none, List.map_cons, List.map_nil, List.append_assoc, List.cons_append, List.nil_append, cutW_L_hi (l := exL h x s n) (x := lead) (by rw [exL_len]; exact h1), cutW_L_lo (l := exL h x s n) (x := p) (by rw [exL_len]; omega), cutW_L_mid (l := exL h x s n) (x := p) (y := rest) (by rw [exL_len]; exact h2), exL_take h1, exL_drop (Nat.le_of_lt hpn), exL_take (show rest ≤ n - p by omega), shp_lX, sh_shp (sh_X e), count_X, hcm, List.length_map, hlc]
      refine ⟨by rw [List.length_take]; omega, hN _ ⟨.im (dX e), .im (dN (cnt h x s m e)), ?_⟩⟩
      have ev : (((exL h x s lead).count e : Nat) : Int) + (q : Int) * (((exL h x (nit h x p s) (n - p)).count e : Nat) : Int) + (((exL h x (nit h x p s) rest).count e : Nat) : Int) = ((cnt h x s m e : Nat) : Int) := by
        rw [hcnt e]
        unfold TH.cnt
        rw [Int.natCast_add, Int.natCast_add, Int.natCast_mul]
      rw [ev, take_succ he]
      simp
    · rintro ρ ⟨y12, y13, rfl⟩
      have hg : (stL h x s n)[lead + rest]? = some (nit h x m s) := by
        unfold stL
        rw [List.getElem?_map, List.getElem?_range h3, ← hnit]
        rfl
      rw [List.length_map, List.take_length]
      simp only [W_sent_1, WP.shp, WP.wSeq, WP.wNil, WP.wExpr, WP.wCall, WP.arW, WP.waCons, WP.waNil, WP.wV, WP.wC, WP.wIfS, WP.tNot, WP.tVal, WP.wSet, WP.pLst, WP.pIm, WP.pList, WP.pLrg, WP.tAnd, WP.tOr, WP.tCmp, WP.tChain, WP.wChain, WP.wCmp, WP.wBin, WP.wIsi, WP.wIx, WP.wNeg, WP.wNot, WP.wAnd, WP.wOr, WP.wIf, WP.wAsg, WP.twN, WP.puts, WP.wApp, WP.wRet, WP.wRetN, WP.wAbs, WP.wPass, WP.wBrk, WP.wCnt, WP.wTup, WP.wLst, WP.wSl, WP.woN, WP.woS, WP.wLrg, WP.wDrw, WP.wFor, WP.wFz, WP.wPar, WP.wPar3, WP.wSetIx, WP.wiV, WP.wiE, WP.wiR, WP.wiZ, WP.gs, WP.wIdx, WP.wCount, WP.wLc, WP.tYesW, WP.okF, WP.wipeS, WP.getK.eq_1, WP.getK.eq_2, WP.getK.eq_3, WP.asL.eq_1, WP.binW.eq_1, WP.binW.eq_2, WP.binW.eq_3, WP.binW.eq_4, WP.binW.eq_5, WP.binW.eq_6, WP.binW.eq_7, WP.binW.eq_8, WP.binW.eq_9, WP.binW.eq_10, WP.twT.eq_1, WP.fzK.eq_1, WP.fzK.eq_2, WP.fzK.eq_3, WP.itK.eq_1, WP.itK.eq_2, WP.zipW.eq_1, WP.seqW.eq_1, WP.seqW.eq_2, WP.cutW.eq_1, WP.cutW.eq_2, WP.asML.eq_1, WP.asI.eq_1, WP.asB.eq_1, WP.asN.eq_1, WP.cmpB.eq_1, WP.cmpB.eq_2, WP.cmpB.eq_3, WP.cmpB.eq_4, WP.cmpB.eq_5, WP.cmpB.eq_6, WP.cmpB.eq_7, WP.cmpB.eq_8, WP.cmpB.eq_9, WP.cmpB.eq_10, WP.cmpB.eq_11, WP.cmpB.eq_12, WP.cmpB.eq_13, WP.cmpB.eq_14, WP.ixW.eq_1, WP.ixW.eq_2, WP.idxW.eq_1, WP.isLD.eq_1, WP.lenW.eq_1, WP.lenW.eq_2, WP.tupleW.eq_1, WP.listW.eq_1, WP.listW.eq_2, WP.intW.eq_1, WP.intW.eq_2, WP.absW.eq_1, WP.allW.eq_1, WP.anyW.eq_1, WP.sumW.eq_1, WP.twW.eq_1, WP.cntW.eq_1, WP.itemsN.eq_1, WP.itemsN.eq_2, TH.noL, TH.noLs, true_or, or_true, true_and, and_true, Bool.true_or, Bool.or_true, Bool.false_or, Bool.or_false, Bool.true_and, Bool.and_true, Bool.false_and, Bool.and_false, Bool.not_true, Bool.not_false, reduceIte, List.set_cons_zero, List.set_cons_succ, List.length_cons, List.length_nil, Nat.zero_add, Bool.false_eq_true, Nat.reduceAdd, Nat.reduceLT, Nat.reduceLeDiff, Nat.reduceEqDiff, Int.reduceNeg, decide_true, decide_false, WP.isStr_dX, WP.isStr_int, TH.noL_H, TH.noL_R, TH.noL_S, TH.noL_W, WP.noLs_W, WP.noLs_S, WP.noLs_N, WP.noLs_I, WP.noLs_X, WP.noLs_app, L2.atI_last, WP.atI_0, WP.atI_1, WP.atI_2, WP.atI_3, Option.some.injEq, exists_eq_left', WP.lenW_H, WP.lenW_R, WP.lenW_S, WP.seqW_H, WP.seqW_R, WP.seqW_S, WP.spH_eq, WP.spHN_eq, WP.spHS_eq, WP.spHSN_eq, WP.spHSNN_eq, WP.spHSS_eq, WP.spHSSS_eq, WP.argS_H, WP.argS_S, WP.argS_N, WP.argS_I, TH.eqv_int, TH.eqv_nat, TH.eqv_str, TH.eqv_ex, TH.eqv_W, TH.eqv_R, TH.eqv_H, TH.eqv_S, WP.shp_W, WP.shp_R, WP.shp_H, WP.shp_S, WP.shp_int, WP.shp_bool, WP.shp_none, List.map_cons, List.map_nil, List.append_assoc, List.cons_append, List.nil_append, ixW_LM2 hg]
      exact hQ
  simp only [WP.shp, WP.wSeq, WP.wNil, WP.wExpr, WP.wCall, WP.arW, WP.waCons, WP.waNil, WP.wV, WP.wC, WP.wIfS, WP.tNot, WP.tVal, WP.wSet, WP.pLst, WP.pIm, WP.pList, WP.pLrg, WP.tAnd, WP.tOr, WP.tCmp, WP.tChain, WP.wChain, WP.wCmp, WP.wBin, WP.wIsi, WP.wIx, WP.wNeg, WP.wNot, WP.wAnd, WP.wOr, WP.wIf, WP.wAsg, WP.twN, WP.puts, WP.wApp, WP.wRet, WP.wRetN, WP.wAbs, WP.wPass, WP.wBrk, WP.wCnt, WP.wTup, WP.wLst, WP.wSl, WP.woN, WP.woS, WP.wLrg, WP.wDrw, WP.wFor, WP.wFz, WP.wPar, WP.wPar3, WP.wSetIx, WP.wiV, WP.wiE, WP.wiR, WP.wiZ, WP.gs, WP.wIdx, WP.wCount, WP.wLc, WP.tYesW, WP.okF, WP.wipeS, WP.getK.eq_1, WP.getK.eq_2, WP.getK.eq_3, WP.asL.eq_1, WP.binW.eq_1, WP.binW.eq_2, WP.binW.eq_3, WP.binW.eq_4, WP.binW.eq_5, WP.binW.eq_6, WP.binW.eq_7, WP.binW.eq_8, WP.binW.eq_9, WP.binW.eq_10, WP.twT.eq_1, WP.fzK.eq_1, WP.fzK.eq_2, WP.fzK.eq_3, WP.itK.eq_1, WP.itK.eq_2, WP.zipW.eq_1, WP.seqW.eq_1, WP.seqW.eq_2, WP.cutW.eq_1, WP.cutW.eq_2, WP.asML.eq_1, WP.asI.eq_1, WP.asB.eq_1, WP.asN.eq_1, WP.cmpB.eq_1, WP.cmpB.eq_2, WP.cmpB.eq_3, WP.cmpB.eq_4, WP.cmpB.eq_5, WP.cmpB.eq_6, WP.cmpB.eq_7, WP.cmpB.eq_8, WP.cmpB.eq_9, WP.cmpB.eq_10, WP.cmpB.eq_11, WP.cmpB.eq_12, WP.cmpB.eq_13, WP.cmpB.eq_14, WP.ixW.eq_1, WP.ixW.eq_2, WP.idxW.eq_1, WP.isLD.eq_1, WP.lenW.eq_1, WP.lenW.eq_2, WP.tupleW.eq_1, WP.listW.eq_1, WP.listW.eq_2, WP.intW.eq_1, WP.intW.eq_2, WP.absW.eq_1, WP.allW.eq_1, WP.anyW.eq_1, WP.sumW.eq_1, WP.twW.eq_1, WP.cntW.eq_1, WP.itemsN.eq_1, WP.itemsN.eq_2, TH.noL, TH.noLs, true_or, or_true, true_and, and_true, Bool.true_or, Bool.or_true, Bool.false_or, Bool.or_false, Bool.true_and, Bool.and_true, Bool.false_and, Bool.and_false, Bool.not_true, Bool.not_false, reduceIte, List.set_cons_zero, List.set_cons_succ, List.length_cons, List.length_nil, Nat.zero_add, Bool.false_eq_true, Nat.reduceAdd, Nat.reduceLT, Nat.reduceLeDiff, Nat.reduceEqDiff, Int.reduceNeg, decide_true, decide_false, WP.isStr_dX, WP.isStr_int, TH.noL_H, TH.noL_R, TH.noL_S, TH.noL_W, WP.noLs_W, WP.noLs_S, WP.noLs_N, WP.noLs_I, WP.noLs_X, WP.noLs_app, L2.atI_last, WP.atI_0, WP.atI_1, WP.atI_2, WP.atI_3, Option.some.injEq, exists_eq_left', WP.lenW_H, WP.lenW_R, WP.lenW_S, WP.seqW_H, WP.seqW_R, WP.seqW_S, WP.spH_eq, WP.spHN_eq, WP.spHS_eq, WP.spHSN_eq, WP.spHSNN_eq, WP.spHSS_eq, WP.spHSSS_eq, WP.argS_H, WP.argS_S, WP.argS_N, WP.argS_I, TH.eqv_int, TH.eqv_nat, TH.eqv_str, TH.eqv_ex, TH.eqv_W, TH.eqv_R, TH.eqv_H, TH.eqv_S, WP.shp_W, WP.shp_R, WP.shp_H, WP.shp_S, WP.shp_int, WP.shp_bool, WP.shp_none, List.map_cons, List.map_nil, List.append_assoc, List.cons_append, List.nil_append, List.length_map, el]
  by_cases hmp : (p : Int) < (m : Int)
  · have hmp' : p ≤ m := by omega
    have hL : 0 < n - p := by omega
    have hcd : CDiv ((m : Int) - (p : Int)) (((n - p : Nat)) : Int) := ⟨by omega, by omega⟩
    have hmod : 0 < (((n - p : Nat)) : Int) := by omega
    have e5 : (m : Int) - (p : Int) = ((m - p : Nat) : Int) := by omega
    simp only [hmp, WP.shp, WP.wSeq, WP.wNil, WP.wExpr, WP.wCall, WP.arW, WP.waCons, WP.waNil, WP.wV, WP.wC, WP.wIfS, WP.tNot, WP.tVal, WP.wSet, WP.pLst, WP.pIm, WP.pList, WP.pLrg, WP.tAnd, WP.tOr, WP.tCmp, WP.tChain, WP.wChain, WP.wCmp, WP.wBin, WP.wIsi, WP.wIx, WP.wNeg, WP.wNot, WP.wAnd, WP.wOr, WP.wIf, WP.wAsg, WP.twN, WP.puts, WP.wApp, WP.wRet, WP.wRetN, WP.wAbs, WP.wPass, WP.wBrk, WP.wCnt, WP.wTup, WP.wLst, WP.wSl, WP.woN, WP.woS, WP.wLrg, WP.wDrw, WP.wFor, WP.wFz, WP.wPar, WP.wPar3, WP.wSetIx, WP.wiV, WP.wiE, WP.wiR, WP.wiZ, WP.gs, WP.wIdx, WP.wCount, WP.wLc, WP.tYesW, WP.okF, WP.wipeS, WP.getK.eq_1, WP.getK.eq_2, WP.getK.eq_3, WP.asL.eq_1, WP.binW.eq_1, WP.binW.eq_2, WP.binW.eq_3, WP.binW.eq_4, WP.binW.eq_5, WP.binW.eq_6, WP.binW.eq_7, WP.binW.eq_8, WP.binW.eq_9, WP.binW.eq_10, WP.twT.eq_1, WP.fzK.eq_1, WP.fzK.eq_2, WP.fzK.eq_3, WP.itK.eq_1, WP.itK.eq_2, WP.zipW.eq_1, WP.seqW.eq_1, WP.seqW.eq_2, WP.cutW.eq_1, WP.cutW.eq_2, WP.asML.eq_1, WP.asI.eq_1, WP.asB.eq_1, WP.asN.eq_1, WP.cmpB.eq_1, WP.cmpB.eq_2, WP.cmpB.eq_3, WP.cmpB.eq_4, WP.cmpB.eq_5, WP.cmpB.eq_6, WP.cmpB.eq_7, WP.cmpB.eq_8, WP.cmpB.eq_9, WP.cmpB.eq_10, WP.cmpB.eq_11, WP.cmpB.eq_12, WP.cmpB.eq_13, WP.cmpB.eq_14, WP.ixW.eq_1, WP.ixW.eq_2, WP.idxW.eq_1, WP.isLD.eq_1, WP.lenW.eq_1, WP.lenW.eq_2, WP.tupleW.eq_1, WP.listW.eq_1, WP.listW.eq_2, WP.intW.eq_1, WP.intW.eq_2, WP.absW.eq_1, WP.allW.eq_1, WP.anyW.eq_1, WP.sumW.eq_1, WP.twW.eq_1, WP.cntW.eq_1, WP.itemsN.eq_1, WP.itemsN.eq_2, TH.noL, TH.noLs, true_or, or_true, true_and, and_true, Bool.true_or, Bool.or_true, Bool.false_or, Bool.or_false, Bool.true_and, Bool.and_true, Bool.false_and, Bool.and_false, Bool.not_true, Bool.not_false, reduceIte, List.set_cons_zero, List.set_cons_succ, List.length_cons, List.length_nil, Nat.zero_add, Bool.false_eq_true, Nat.reduceAdd, Nat.reduceLT, Nat.reduceLeDiff, Nat.reduceEqDiff, Int.reduceNeg, decide_true, decide_false, WP.isStr_dX, WP.isStr_int, TH.noL_H, TH.noL_R, TH.noL_S, TH.noL_W, WP.noLs_W, WP.noLs_S, WP.noLs_N, WP.noLs_I, WP.noLs_X, WP.noLs_app, L2.atI_last, WP.atI_0, WP.atI_1, WP.atI_2, WP.atI_3, Option.some.injEq, exists_eq_left', WP.lenW_H, WP.lenW_R, WP.lenW_S, WP.seqW_H, WP.seqW_R, WP.seqW_S, WP.spH_eq, WP.spHN_eq, WP.spHS_eq, WP.spHSN_eq, WP.spHSNN_eq, WP.spHSS_eq, WP.spHSSS_eq, WP.argS_H, WP.argS_S, WP.argS_N, WP.argS_I, TH.eqv_int, TH.eqv_nat, TH.eqv_str, TH.eqv_ex, TH.eqv_W, TH.eqv_R, TH.eqv_H, TH.eqv_S, WP.shp_W, WP.shp_R, WP.shp_H, WP.shp_S, WP.shp_int, WP.shp_bool, WP.shp_none, List.map_cons, List.map_nil, List.append_assoc, List.cons_append, List.nil_append, hcd, hmod]
    rw [e5, ← Int.natCast_ediv, ← Int.natCast_emod]
    have hr := Nat.mod_lt (m - p) hL
    refine fin p ((m - p) / (n - p)) ((m - p) % (n - p)) (by omega) (by omega) (by omega) ?_ (c.nit_many hmp').symm fun e => c.cnt_many hmp'
    exact Nat.le_trans (Nat.div_le_self _ _) (by omega)
  · simp only [hmp, WP.shp, WP.wSeq, WP.wNil, WP.wExpr, WP.wCall, WP.arW, WP.waCons, WP.waNil, WP.wV, WP.wC, WP.wIfS, WP.tNot, WP.tVal, WP.wSet, WP.pLst, WP.pIm, WP.pList, WP.pLrg, WP.tAnd, WP.tOr, WP.tCmp, WP.tChain, WP.wChain, WP.wCmp, WP.wBin, WP.wIsi, WP.wIx, WP.wNeg, WP.wNot, WP.wAnd, WP.wOr, WP.wIf, WP.wAsg, WP.twN, WP.puts, WP.wApp, WP.wRet, WP.wRetN, WP.wAbs, WP.wPass, WP.wBrk, WP.wCnt, WP.wTup, WP.wLst, WP.wSl, WP.woN, WP.woS, WP.wLrg, WP.wDrw, WP.wFor, WP.wFz, WP.wPar, WP.wPar3, WP.wSetIx, WP.wiV, WP.wiE, WP.wiR, WP.wiZ, WP.gs, WP.wIdx, WP.wCount, WP.wLc, WP.tYesW, WP.okF, WP.wipeS, WP.getK.eq_1, WP.getK.eq_2, WP.getK.eq_3, WP.asL.eq_1, WP.binW.eq_1, WP.binW.eq_2, WP.binW.eq_3, WP.binW.eq_4, WP.binW.eq_5, WP.binW.eq_6, WP.binW.eq_7, WP.binW.eq_8, WP.binW.eq_9, WP.binW.eq_10, WP.twT.eq_1, WP.fzK.eq_1, WP.fzK.eq_2, WP.fzK.eq_3, WP.itK.eq_1, WP.itK.eq_2, WP.zipW.eq_1, WP.seqW.eq_1, WP.seqW.eq_2, WP.cutW.eq_1, WP.cutW.eq_2, WP.asML.eq_1, WP.asI.eq_1, WP.asB.eq_1, WP.asN.eq_1, WP.cmpB.eq_1, WP.cmpB.eq_2, WP.cmpB.eq_3, WP.cmpB.eq_4, WP.cmpB.eq_5, WP.cmpB.eq_6, WP.cmpB.eq_7, WP.cmpB.eq_8, WP.cmpB.eq_9, WP.cmpB.eq_10, WP.cmpB.eq_11, WP.cmpB.eq_12, WP.cmpB.eq_13, WP.cmpB.eq_14, WP.ixW.eq_1, WP.ixW.eq_2, WP.idxW.eq_1, WP.isLD.eq_1, WP.lenW.eq_1, WP.lenW.eq_2, WP.tupleW.eq_1, WP.listW.eq_1, WP.listW.eq_2, WP.intW.eq_1, WP.intW.eq_2, WP.absW.eq_1, WP.allW.eq_1, WP.anyW.eq_1, WP.sumW.eq_1, WP.twW.eq_1, WP.cntW.eq_1, WP.itemsN.eq_1, WP.itemsN.eq_2, TH.noL, TH.noLs, true_or, or_true, true_and, and_true, Bool.true_or, Bool.or_true, Bool.false_or, Bool.or_false, Bool.true_and, Bool.and_true, Bool.false_and, Bool.and_false, Bool.not_true, Bool.not_false, reduceIte, List.set_cons_zero, List.set_cons_succ, List.length_cons, List.length_nil, Nat.zero_add, Bool.false_eq_true, Nat.reduceAdd, Nat.reduceLT, Nat.reduceLeDiff, Nat.reduceEqDiff, Int.reduceNeg, decide_true, decide_false, WP.isStr_dX, WP.isStr_int, TH.noL_H, TH.noL_R, TH.noL_S, TH.noL_W, WP.noLs_W, WP.noLs_S, WP.noLs_N, WP.noLs_I, WP.noLs_X, WP.noLs_app, L2.atI_last, WP.atI_0, WP.atI_1, WP.atI_2, WP.atI_3, Option.some.injEq, exists_eq_left', WP.lenW_H, WP.lenW_R, WP.lenW_S, WP.seqW_H, WP.seqW_R, WP.seqW_S, WP.spH_eq, WP.spHN_eq, WP.spHS_eq, WP.spHSN_eq, WP.spHSNN_eq, WP.spHSS_eq, WP.spHSSS_eq, WP.argS_H, WP.argS_S, WP.argS_N, WP.argS_I, TH.eqv_int, TH.eqv_nat, TH.eqv_str, TH.eqv_ex, TH.eqv_W, TH.eqv_R, TH.eqv_H, TH.eqv_S, WP.shp_W, WP.shp_R, WP.shp_H, WP.shp_S, WP.shp_int, WP.shp_bool, WP.shp_none, List.map_cons, List.map_nil, List.append_assoc, List.cons_append, List.nil_append]
    refine fin m 0 0 (by omega) (by omega) (by omega) (by omega) rfl fun e => ?_
    show _ = _ + 0 * _ + TH.cnt h x _ 0 e
    rw [Nat.zero_mul]
    rfl
theorem fd_sent (L : Lnk K mg "sent" s_sent ["house", "standing", "hall", "people"]) (T : Bts mg) (F_course : FnD P w K mg base 3 "course" (spW K 3 sp_course)) (F_found_exits : FnD P w K mg base 1 "found_exits" (spW K 1 sp_found_exits)) : FnD P w K mg base 4 "sent" (spW K 4 sp_sent) := L.fnD fun f fd F => Fun.okW F sc_sent rfl (by decide) (c_sent T F_course F_found_exits) l_sent
/-! ### send: slots 0 house 1 standing 2 hall 3 people -/
abbrev N_send : List Str := ["house", "standing", "hall", "people"]
theorem sc_send : FnScope N_send ["house", "standing", "hall", "people"] (defScope s_send) := ⟨rfl, rfl, rfl, by decide +kernel, rfl, by decide +kernel, by decide +kernel⟩
def W_send : WS := (wSeq (wExpr (wCall (arW 3 sp_check_three) (waCons true (wV 0) (waCons true (wV 1) (waCons true (wV 2) waNil))))) (wSeq (wExpr (wCall (arW 1 sp_check_people) (waCons true (wV 3) waNil))) (wSeq (wExpr (wCall (arW 2 sp_check_safe) (waCons true (wV 0) (waCons true (wV 2) waNil)))) (wSeq (wRet (wCall (arW 4 sp_sent) (waCons true (wV 0) (waCons true (wV 1) (waCons true (wV 2) (waCons true (wV 3) waNil)))))) wNil))))
theorem c_send (T : Bts mg) (F_check_three : FnD P w K mg base 6 "check_three" (spW K 3 sp_check_three)) (F_check_people : FnD P w K mg base 2 "check_people" (spW K 1 sp_check_people)) (F_check_safe : FnD P w K mg base 4 "check_safe" (spW K 2 sp_check_safe)) (F_sent : FnD P w K mg base 4 "sent" (spW K 4 sp_sent)) : ∀ (cdv : Value) (A : Around) (outer : List Env) (s : Shared) (H : Hp) (E : XK), Room 6 (A.deeper (envOfC "send" (defScope s_send) s.heap.objs.size f cdv)) → SndS (CxF P w K mg base N_send "send" s_send f cdv A outer s H E) (defBody s_send) W_send := fun cdv A outer s H E hr =>
  (ss_cons (s1_expr (sn_call F_check_three (hr.mono (by decide)) (by rfl) (sa_cons (sn_var (i := 0) rfl (vis_of rfl)) (sa_cons (sn_var (i := 1) rfl (vis_of rfl)) (sa_cons (sn_var (i := 2) rfl (vis_of rfl)) sa_nil))))) (ss_cons (s1_expr (sn_call F_check_people (hr.mono (by decide)) (by rfl) (sa_cons (sn_var (i := 3) rfl (vis_of rfl)) sa_nil))) (ss_cons (s1_expr (sn_call F_check_safe (hr.mono (by decide)) (by rfl) (sa_cons (sn_var (i := 0) rfl (vis_of rfl)) (sa_cons (sn_var (i := 2) rfl (vis_of rfl)) sa_nil)))) (ss_cons (s1_ret (sn_call F_sent (hr.mono (by decide)) (by rfl) (sa_cons (sn_var (i := 0) rfl (vis_of rfl)) (sa_cons (sn_var (i := 1) rfl (vis_of rfl)) (sa_cons (sn_var (i := 2) rfl (vis_of rfl)) (sa_cons (sn_var (i := 3) rfl (vis_of rfl)) sa_nil)))))) ss_nil))))
theorem l_send (ds : List PyData) (Q : PyData → Prop) (hl : ds.length = 4) (hs : sp_send ds Q) : W_send { nx := fun _ => Q .none, rt := fun z _ => Q z } (ds.map argS ++ List.replicate (N_send.length - ds.length) SV.no) := by
  obtain ⟨h, s, x, m, rfl, ⟨o, hm⟩, hQ⟩ := hs
  show W_send _ [argS (dH h), argS (dS s), argS (dN x), argS (dN m)]
  have h0 : (0 : Int) ≤ (m : Int) := by omega
  have h1 : (m : Int) ≤ 1000000000 := by omega
  simp only [W_send, WP.shp, WP.wSeq, WP.wNil, WP.wExpr, WP.wCall, WP.arW, WP.waCons, WP.waNil, WP.wV, WP.wC, WP.wIfS, WP.tNot, WP.tVal, WP.wSet, WP.pLst, WP.pIm, WP.pList, WP.pLrg, WP.tAnd, WP.tOr, WP.tCmp, WP.tChain, WP.wChain, WP.wCmp, WP.wBin, WP.wIsi, WP.wIx, WP.wNeg, WP.wNot, WP.wAnd, WP.wOr, WP.wIf, WP.wAsg, WP.twN, WP.puts, WP.wApp, WP.wRet, WP.wRetN, WP.wAbs, WP.wPass, WP.wBrk, WP.wCnt, WP.wTup, WP.wLst, WP.wSl, WP.woN, WP.woS, WP.wLrg, WP.wDrw, WP.wFor, WP.wFz, WP.wPar, WP.wPar3, WP.wSetIx, WP.wiV, WP.wiE, WP.wiR, WP.wiZ, WP.gs, WP.wIdx, WP.wCount, WP.wLc, WP.tYesW, WP.okF, WP.wipeS, WP.getK.eq_1, WP.getK.eq_2, WP.getK.eq_3, WP.asL.eq_1, WP.binW.eq_1, WP.binW.eq_2, WP.binW.eq_3, WP.binW.eq_4, WP.binW.eq_5, WP.binW.eq_6, WP.binW.eq_7, WP.binW.eq_8, WP.binW.eq_9, WP.binW.eq_10, WP.twT.eq_1, WP.fzK.eq_1, WP.fzK.eq_2, WP.fzK.eq_3, WP.itK.eq_1, WP.itK.eq_2, WP.zipW.eq_1, WP.seqW.eq_1, WP.seqW.eq_2, WP.cutW.eq_1, WP.cutW.eq_2, WP.asML.eq_1, WP.asI.eq_1, WP.asB.eq_1, WP.asN.eq_1, WP.cmpB.eq_1, WP.cmpB.eq_2, WP.cmpB.eq_3, WP.cmpB.eq_4, WP.cmpB.eq_5, WP.cmpB.eq_6, WP.cmpB.eq_7, WP.cmpB.eq_8, WP.cmpB.eq_9, WP.cmpB.eq_10, WP.cmpB.eq_11, WP.cmpB.eq_12, WP.cmpB.eq_13, WP.cmpB.eq_14, WP.ixW.eq_1, WP.ixW.eq_2, WP.idxW.eq_1, WP.isLD.eq_1, WP.lenW.eq_1, WP.lenW.eq_2, WP.tupleW.eq_1, WP.listW.eq_1, WP.listW.eq_2, WP.intW.eq_1, WP.intW.eq_2, WP.absW.eq_1, WP.allW.eq_1, WP.anyW.eq_1, WP.sumW.eq_1, WP.twW.eq_1, WP.cntW.eq_1, WP.itemsN.eq_1, WP.itemsN.eq_2, TH.noL, TH.noLs, true_or, or_true, true_and, and_true, Bool.true_or, Bool.or_true, Bool.false_or, Bool.or_false, Bool.true_and, Bool.and_true, Bool.false_and, Bool.and_false, Bool.not_true, Bool.not_false, reduceIte, List.set_cons_zero, List.set_cons_succ, List.length_cons, List.length_nil, Nat.zero_add, Bool.false_eq_true, Nat.reduceAdd, Nat.reduceLT, Nat.reduceLeDiff, Nat.reduceEqDiff, Int.reduceNeg, decide_true, decide_false, WP.isStr_dX, WP.isStr_int, TH.noL_H, TH.noL_R, TH.noL_S, TH.noL_W, WP.noLs_W, WP.noLs_S, WP.noLs_N, WP.noLs_I, WP.noLs_X, WP.noLs_app, L2.atI_last, WP.atI_0, WP.atI_1, WP.atI_2, WP.atI_3, Option.some.injEq, exists_eq_left', WP.lenW_H, WP.lenW_R, WP.lenW_S, WP.seqW_H, WP.seqW_R, WP.seqW_S, WP.spH_eq, WP.spHN_eq, WP.spHS_eq, WP.spHSN_eq, WP.spHSNN_eq, WP.spHSS_eq, WP.spHSSS_eq, WP.argS_H, WP.argS_S, WP.argS_N, WP.argS_I, TH.eqv_int, TH.eqv_nat, TH.eqv_str, TH.eqv_ex, TH.eqv_W, TH.eqv_R, TH.eqv_H, TH.eqv_S, WP.shp_W, WP.shp_R, WP.shp_H, WP.shp_S, WP.shp_int, WP.shp_bool, WP.shp_none, List.map_cons, List.map_nil, List.append_assoc, List.cons_append, List.nil_append, sp_check_three, sp_check_people.eq_1, sp_check_safe, sp_sent, o, o.g, o.gs, o.hx, o.sf, hm, h0, h1, noL_sent]
  exact hQ
theorem fd_send (L : Lnk K mg "send" s_send ["house", "standing", "hall", "people"]) (T : Bts mg) (F_check_three : FnD P w K mg base 6 "check_three" (spW K 3 sp_check_three)) (F_check_people : FnD P w K mg base 2 "check_people" (spW K 1 sp_check_people)) (F_check_safe : FnD P w K mg base 4 "check_safe" (spW K 2 sp_check_safe)) (F_sent : FnD P w K mg base 4 "sent" (spW K 4 sp_sent)) : FnD P w K mg base 7 "send" (spW K 4 sp_send) := L.fnD fun f fd F => Fun.okW F sc_send rfl (by decide) (c_send T F_check_three F_check_people F_check_safe F_sent) l_send
/-! ### returns: slots 0 house 1 standing 2 hall 3 states 4 gone 5 place -/
abbrev N_returns : List Str := ["house", "standing", "hall", "states", "gone", "place"]
theorem sc_returns : FnScope N_returns ["house", "standing", "hall"] (defScope s_returns) := ⟨rfl, rfl, rfl, by decide +kernel, rfl, by decide +kernel, by decide +kernel⟩
def W_returns : WS := (wSeq (wExpr (wCall (arW 3 sp_check_walk) (waCons true (wV 0) (waCons true (wV 1) (waCons true (wV 2) waNil))))) (wSeq (wAsg (twT [3, 4, 5]) (wCall (arW 3 sp_course) (waCons true (wV 0) (waCons true (wV 1) (waCons true (wV 2) waNil))))) (wSeq (wRet (wTup (waCons true (wV 5) (waCons true (wBin .Sub true (wCall lenW (waCons true (wV 4) waNil)) (wV 5)) waNil)))) wNil)))
theorem c_returns (T : Bts mg) (F_check_walk : FnD P w K mg base 7 "check_walk" (spW K 3 sp_check_walk)) (F_course : FnD P w K mg base 3 "course" (spW K 3 sp_course)) : ∀ (cdv : Value) (A : Around) (outer : List Env) (s : Shared) (H : Hp) (E : XK), Room 7 (A.deeper (envOfC "returns" (defScope s_returns) s.heap.objs.size f cdv)) → SndS (CxF P w K mg base N_returns "returns" s_returns f cdv A outer s H E) (defBody s_returns) W_returns := fun cdv A outer s H E hr =>
  (ss_cons (s1_expr (sn_call F_check_walk (hr.mono (by decide)) (by rfl) (sa_cons (sn_var (i := 0) rfl (vis_of rfl)) (sa_cons (sn_var (i := 1) rfl (vis_of rfl)) (sa_cons (sn_var (i := 2) rfl (vis_of rfl)) sa_nil))))) (ss_cons (s1_asg (pg_tup rfl (pgs_cons (pg_name (i := 3) sc_returns.nd rfl (loc_of rfl)) (pgs_cons (pg_name (i := 4) sc_returns.nd rfl (loc_of rfl)) (pgs_cons (pg_name (i := 5) sc_returns.nd rfl (loc_of rfl)) pgs_nil)))) (rx_tup [3, 4, 5]) (sn_call F_course (hr.mono (by decide)) (by rfl) (sa_cons (sn_var (i := 0) rfl (vis_of rfl)) (sa_cons (sn_var (i := 1) rfl (vis_of rfl)) (sa_cons (sn_var (i := 2) rfl (vis_of rfl)) sa_nil))))) (ss_cons (s1_ret (sn_tup (sa_cons (sn_var (i := 5) rfl (vis_of rfl)) (sa_cons (sn_bin (sn_callB ok_len (by rfl) T.len (by decide +kernel) (sa_cons (sn_var (i := 4) rfl (vis_of rfl)) sa_nil)) (sn_var (i := 5) rfl (vis_of rfl))) sa_nil)))) ss_nil)))
theorem l_returns (ds : List PyData) (Q : PyData → Prop) (hl : ds.length = 3) (hs : sp_returns ds Q) : W_returns { nx := fun _ => Q .none, rt := fun z _ => Q z } (ds.map argS ++ List.replicate (N_returns.length - ds.length) SV.no) := by
  obtain ⟨h, s, x, rfl, o, hQ⟩ := hs
  show W_returns _ [argS (dH h), argS (dS s), argS (dN x), .no, .no, .no]
  have c := crs o
  have hpn := c.lt
  simp only [W_returns, WP.shp, WP.wSeq, WP.wNil, WP.wExpr, WP.wCall, WP.arW, WP.waCons, WP.waNil, WP.wV, WP.wC, WP.wIfS, WP.tNot, WP.tVal, WP.wSet, WP.pLst, WP.pIm, WP.pList, WP.pLrg, WP.tAnd, WP.tOr, WP.tCmp, WP.tChain, WP.wChain, WP.wCmp, WP.wBin, WP.wIsi, WP.wIx, WP.wNeg, WP.wNot, WP.wAnd, WP.wOr, WP.wIf, WP.wAsg, WP.twN, WP.puts, WP.wApp, WP.wRet, WP.wRetN, WP.wAbs, WP.wPass, WP.wBrk, WP.wCnt, WP.wTup, WP.wLst, WP.wSl, WP.woN, WP.woS, WP.wLrg, WP.wDrw, WP.wFor, WP.wFz, WP.wPar, WP.wPar3, WP.wSetIx, WP.wiV, WP.wiE, WP.wiR, WP.wiZ, WP.gs, WP.wIdx, WP.wCount, WP.wLc, WP.tYesW, WP.okF, WP.wipeS, WP.getK.eq_1, WP.getK.eq_2, WP.getK.eq_3, WP.asL.eq_1, WP.binW.eq_1, WP.binW.eq_2, WP.binW.eq_3, WP.binW.eq_4, WP.binW.eq_5, WP.binW.eq_6, WP.binW.eq_7, WP.binW.eq_8, WP.binW.eq_9, WP.binW.eq_10, WP.twT.eq_1, WP.fzK.eq_1, WP.fzK.eq_2, WP.fzK.eq_3, WP.itK.eq_1, WP.itK.eq_2, WP.zipW.eq_1, WP.seqW.eq_1, WP.seqW.eq_2, WP.cutW.eq_1, WP.cutW.eq_2, WP.asML.eq_1, WP.asI.eq_1, WP.asB.eq_1, WP.asN.eq_1, WP.cmpB.eq_1, WP.cmpB.eq_2, WP.cmpB.eq_3, WP.cmpB.eq_4, WP.cmpB.eq_5, WP.cmpB.eq_6, WP.cmpB.eq_7, WP.cmpB.eq_8, WP.cmpB.eq_9, WP.cmpB.eq_10, WP.cmpB.eq_11, WP.cmpB.eq_12, WP.cmpB.eq_13, WP.cmpB.eq_14, WP.ixW.eq_1, WP.ixW.eq_2, WP.idxW.eq_1, WP.isLD.eq_1, WP.lenW.eq_1, WP.lenW.eq_2, WP.tupleW.eq_1, WP.listW.eq_1, WP.listW.eq_2, WP.intW.eq_1, WP.intW.eq_2, WP.absW.eq_1, WP.allW.eq_1, WP.anyW.eq_1, WP.sumW.eq_1, WP.twW.eq_1, WP.cntW.eq_1, WP.itemsN.eq_1, WP.itemsN.eq_2, TH.noL, TH.noLs, true_or, or_true, true_and, and_true, Bool.true_or, Bool.or_true, Bool.false_or, Bool.or_false, Bool.true_and, Bool.and_true, Bool.false_and, Bool.and_false, Bool.not_true, Bool.not_false, reduceIte, List.set_cons_zero, List.set_cons_succ, List.length_cons, List.length_nil, Nat.zero_add, Bool.false_eq_true, Nat.reduceAdd, Nat.reduceLT, Nat.reduceLeDiff, Nat.reduceEqDiff, Int.reduceNeg, decide_true, decide_false, WP.isStr_dX, WP.isStr_int, TH.noL_H, TH.noL_R, TH.noL_S, TH.noL_W, WP.noLs_W, WP.noLs_S, WP.noLs_N, WP.noLs_I, WP.noLs_X, WP.noLs_app, L2.atI_last, WP.atI_0, WP.atI_1, WP.atI_2, WP.atI_3, Option.some.injEq, exists_eq_left', WP.lenW_H, WP.lenW_R, WP.lenW_S, WP.seqW_H, WP.seqW_R, WP.seqW_S, WP.spH_eq, WP.spHN_eq, WP.spHS_eq, WP.spHSN_eq, WP.spHSNN_eq, WP.spHSS_eq, WP.spHSSS_eq, WP.argS_H, WP.argS_S, WP.argS_N, WP.argS_I, TH.eqv_int, TH.eqv_nat, TH.eqv_str, TH.eqv_ex, TH.eqv_W, TH.eqv_R, TH.eqv_H, TH.eqv_S, WP.shp_W, WP.shp_R, WP.shp_H, WP.shp_S, WP.shp_int, WP.shp_bool, WP.shp_none, List.map_cons, List.map_nil, List.append_assoc, List.cons_append, List.nil_append, sp_check_walk, sp_course, o, o.g, o.gs, o.hx, o.sf, dCourse, List.length_map, exL_len]
  have e : (crN h s x : Int) - (crP h s x : Int) = ((crN h s x - crP h s x : Nat) : Int) := by omega
  rw [e]
  exact hQ
theorem fd_returns (L : Lnk K mg "returns" s_returns ["house", "standing", "hall"]) (T : Bts mg) (F_check_walk : FnD P w K mg base 7 "check_walk" (spW K 3 sp_check_walk)) (F_course : FnD P w K mg base 3 "course" (spW K 3 sp_course)) : FnD P w K mg base 8 "returns" (spW K 3 sp_returns) := L.fnD fun f fd F => Fun.okW F sc_returns rfl (by decide) (c_returns T F_check_walk F_course) l_returns
end
end TK

namespace TK
open PySem L2 TH WP PyProof.Rows
section
variable {P : Program} {w : World} {K : PySem.W.Frag} {mg : Str → Option Value} {base : Heap} {f : Addr} {fd : FuncData}
/-! ### a house with a safe hall -/
abbrev kd__law_open_house : Nat := 41
def pr__law_open_house (d : PyData) : Prop := ∃ m : Nat, 1 ≤ m ∧ m ≤ 4 ∧ d = dN m
def rl__law_open_house (d z : PyData) : Prop := ∃ (m : Nat) (h : House) (x : Nat), d = dN m ∧ GoodH h ∧ h.length ≤ m ∧ x < h.length ∧ Safe h x ∧ z = .tuple [dH h, dN x]
/-- the last row begins with A -/
def lastA (h : House) : House := h.dropLast ++ [Way.x .A :: (row h (h.length - 1)).drop 1]
def allB (h : House) : House := h.map fun r => Way.x .B :: r.drop 1
theorem lastA_len {h : House} (g : GoodH h) : (lastA h).length = h.length := by
  have := g.one
  unfold lastA
  simp
  omega
theorem lastA_good {h : House} (g : GoodH h) : GoodH (lastA h) := by
  have h1 := g.one
  have hr := row_mem (h := h) (i := h.length - 1) (by omega)
  have key : ∀ r ∈ lastA h, r ∈ h ∨ r = Way.x .A :: (row h (h.length - 1)).drop 1 := fun r hr => by
    unfold lastA at hr
    simp only [List.mem_append, List.mem_singleton] at hr
    exact hr.imp (fun q => (List.dropLast_sublist h).subset q) id
  refine ⟨by rw [lastA_len g]; exact h1, by rw [lastA_len g]; exact g.four, fun r hr' => ?_, fun r hr' n hn => ?_, ?_⟩
  · rcases key r hr' with hm | rfl
    · exact g.rows r hm
    · have := g.rows _ hr
      simp
      omega
  · rw [lastA_len g]
    rcases key r hr' with hm | rfl
    · exact g.ways r hm n hn
    · simp only [List.mem_cons] at hn
      rcases hn with hn | hn
      · cases hn
      · exact g.ways _ hr n (List.mem_of_mem_drop hn)
  · exact ⟨Way.x .A :: (row h (h.length - 1)).drop 1, by unfold lastA; simp, .A, by simp⟩
theorem allB_len (h : House) : (allB h).length = h.length := by simp [allB]
theorem allB_good {h : House} (g : GoodH h) : GoodH (allB h) := by
  have h1 := g.one
  refine ⟨by rw [allB_len]; exact h1, by rw [allB_len]; exact g.four, fun r hr => ?_, fun r hr n hn => ?_, ?_⟩
  · obtain ⟨q, hq, rfl⟩ := List.mem_map.mp hr
    have := g.rows q hq
    simp
    omega
  · rw [allB_len]
    obtain ⟨q, hq, rfl⟩ := List.mem_map.mp hr
    simp only [List.mem_cons] at hn
    rcases hn with hn | hn
    · cases hn
    · exact g.ways q hq n (List.mem_of_mem_drop hn)
  · exact ⟨_, List.mem_map.mpr ⟨row h 0, row_mem (by omega), rfl⟩, .B, by simp⟩
theorem allB_safe {h : House} (g : GoodH h) {x : Nat} (hx : x < h.length) : Safe (allB h) x := by
  intro y hy
  have hyl : y < (allB h).length := hy.lt (allB_good g) (by rw [allB_len]; exact hx)
  refine ⟨y, .refl y, .B, ?_⟩
  have hm := row_mem hyl
  obtain ⟨q, _, e⟩ := List.mem_map.mp hm
  rw [← e]
  simp
theorem safeL_lt {h : House} {x : Nat} (hx : x ∈ safeL h) : x < h.length ∧ Safe h x := by
  unfold safeL at hx
  rw [List.mem_filter, List.mem_range] at hx
  exact ⟨hx.1, safeB_iff.mp hx.2⟩
theorem safeL_len (h : House) : (safeL h).length ≤ h.length := by
  unfold safeL
  have := List.length_filter_le (safeB h) (List.range h.length)
  rw [List.length_range] at this
  exact this
/-! ### _law_open_house: slots 0 script 1 town 2 halls 3 house 4 some 5 hall 6 row -/
abbrev N__law_open_house : List Str := ["script", "town", "halls", "house", "some", "hall", "row"]
theorem sc__law_open_house : FnScope N__law_open_house ["script", "town", "halls"] (defScope s__law_open_house) := ⟨rfl, rfl, rfl, by decide +kernel, rfl, by decide +kernel, by decide +kernel⟩
def W__law_open_house_1 : WS := (wSeq (wRet (wTup (waCons false (wV 3) (waCons true (wDrw 1 0 kd__law_pick pr__law_pick rl__law_pick (wV 4)) waNil)))) wNil)
def W__law_open_house_2 : WS := (wSeq (wIfS (tCmp .Eq true (wV 4) (wLst waNil)) (wSeq (wSet 3 (pIm (wCall tupleW (waCons true (wLc true (wiV 3) (twN 6) tYesW (wBin .Add true (wTup (waCons true (wC (.str "B")) waNil)) (wSl true (wV 6) (woS (wC (.int 1))) woN)) [6]) waNil)))) (wSeq (wSet 4 (pIm (wLrg (wCall lenW (waCons true (wV 3) waNil))))) wNil)) wNil) W__law_open_house_1)
def W__law_open_house : WS := (wSeq (wSet 3 (pIm (wDrw 1 0 kd__law_house pr__law_house rl__law_house (wV 2)))) (wSeq (wSet 4 (pIm (wLc true (wiR (wCall lenW (waCons true (wV 3) waNil))) (twN 5) (tVal (wCall (arW 2 sp__law_safe) (waCons true (wV 3) (waCons true (wV 5) waNil)))) (wV 5) [5]))) (wSeq (wIfS (tCmp .Eq true (wV 4) (wLst waNil)) (wSeq (wAsg (twT [3, 4]) (wTup (waCons true (wBin .Add true (wSl true (wV 3) woN (woS (wNeg (wC (.int 1))))) (wTup (waCons true (wBin .Add true (wTup (waCons true (wC (.str "A")) waNil)) (wSl true (wIx true (wV 3) (wNeg (wC (.int 1)))) (woS (wC (.int 1))) woN)) waNil))) (waCons true (wLst waNil) waNil)))) (wSeq (wSet 4 (pIm (wLc true (wiR (wCall lenW (waCons true (wV 3) waNil))) (twN 5) (tVal (wCall (arW 2 sp__law_safe) (waCons true (wV 3) (waCons true (wV 5) waNil)))) (wV 5) [5]))) wNil)) wNil) W__law_open_house_2)))
theorem c__law_open_house (T : Bts mg) (F__law_house : FnD P w K mg base 3 "_law_house" (spT K kd__law_house pr__law_house rl__law_house)) (F__law_safe : FnD P w K mg base 2 "_law_safe" (spW K 2 sp__law_safe)) (F__law_pick : FnD P w K mg base 2 "_law_pick" (spT K kd__law_pick pr__law_pick rl__law_pick)) : ∀ (cdv : Value) (A : Around) (outer : List Env) (s : Shared) (H : Hp) (E : XK), Room 3 (A.deeper (envOfC "_law_open_house" (defScope s__law_open_house) s.heap.objs.size f cdv)) → SndS (CxF P w K mg base N__law_open_house "_law_open_house" s__law_open_house f cdv A outer s H E) (defBody s__law_open_house) W__law_open_house := fun cdv A outer s H E hr =>
  (ss_cons (s1_set (i := 3) sc__law_open_house.nd rfl (loc_of rfl) (sp_im (sn_draw F__law_house (hr.mono (by decide)) (by rfl) (i := 1) (j := 0) rfl (vis_of rfl) rfl (vis_of rfl) (sn_var (i := 2) rfl (vis_of rfl))))) (ss_cons (s1_setLc (i := 4) (own := [("hall", 5)]) rfl sc__law_open_house.nd rfl rfl rfl (si_range (sn_callB ok_len (by rfl) T.len (by decide +kernel) (sa_cons (sn_var (i := 3) rfl (vis_of rfl)) sa_nil)) (by rfl) T.range) (blkOk_by (N := N__law_open_house) (sc := defScope s__law_open_house) (by decide +kernel)) (fun _ _ _ _ _ => (pg_name (i := 5) sc__law_open_house.nd rfl (loc_of rfl) (.inr rfl))) (rx_name 5) (by decide) (keep_name (by decide)) (fun _ _ _ _ _ => (sts_one (st_val (sn_call F__law_safe (hr.mono (by decide)) (by rfl) (sa_cons (sn_var (i := 3) rfl (vis_of rfl)) (sa_cons (sn_var (i := 5) rfl (vis_of rfl)) sa_nil)))))) (fun _ _ _ _ _ => (sn_var (i := 5) rfl (vis_of rfl)))) (ss_cons (s1_if (st_cmp hr (sn_var (i := 4) rfl (vis_of rfl)) (sn_lst sa_nil) (nomark _)) (ss_cons (s1_asg (pg_tup rfl (pgs_cons (pg_name (i := 3) sc__law_open_house.nd rfl (loc_of rfl)) (pgs_cons (pg_name (i := 4) sc__law_open_house.nd rfl (loc_of rfl)) pgs_nil))) (rx_tup [3, 4]) (sn_tup (sa_cons (sn_bin (sn_sl (sn_var (i := 3) rfl (vis_of rfl)) so_none (so_some (sn_neg sn_int))) (sn_tup (sa_cons (sn_bin (sn_tup (sa_cons sn_str sa_nil)) (sn_sl (sn_ix (sn_var (i := 3) rfl (vis_of rfl)) (sn_neg sn_int)) (so_some sn_int) so_none)) sa_nil))) (sa_cons (sn_lst sa_nil) sa_nil)))) (ss_cons (s1_setLc (i := 4) (own := [("hall", 5)]) rfl sc__law_open_house.nd rfl rfl rfl (si_range (sn_callB ok_len (by rfl) T.len (by decide +kernel) (sa_cons (sn_var (i := 3) rfl (vis_of rfl)) sa_nil)) (by rfl) T.range) (blkOk_by (N := N__law_open_house) (sc := defScope s__law_open_house) (by decide +kernel)) (fun _ _ _ _ _ => (pg_name (i := 5) sc__law_open_house.nd rfl (loc_of rfl) (.inr rfl))) (rx_name 5) (by decide) (keep_name (by decide)) (fun _ _ _ _ _ => (sts_one (st_val (sn_call F__law_safe (hr.mono (by decide)) (by rfl) (sa_cons (sn_var (i := 3) rfl (vis_of rfl)) (sa_cons (sn_var (i := 5) rfl (vis_of rfl)) sa_nil)))))) (fun _ _ _ _ _ => (sn_var (i := 5) rfl (vis_of rfl)))) ss_nil)) ss_nil) (ss_cons (s1_if (st_cmp hr (sn_var (i := 4) rfl (vis_of rfl)) (sn_lst sa_nil) (nomark _)) (ss_cons (s1_set (i := 3) sc__law_open_house.nd rfl (loc_of rfl) (sp_im (sn_callTy ok_tuple (by rfl) T.tuple (by decide +kernel) (sa_cons (sn_lc (own := [("row", 6)]) rfl sc__law_open_house.nd (si_var (i := 3) rfl (vis_of rfl)) (blkOk_by (N := N__law_open_house) (sc := defScope s__law_open_house) (by decide +kernel)) (fun _ _ _ _ _ => (pg_name (i := 6) sc__law_open_house.nd rfl (loc_of rfl) (.inr rfl))) (rx_name 6) (by decide) (keep_name (by decide)) (fun _ _ _ _ _ => sts_nil) (fun _ _ _ _ _ => (sn_bin (sn_tup (sa_cons sn_str sa_nil)) (sn_sl (sn_var (i := 6) rfl (vis_of rfl)) (so_some sn_int) so_none)))) sa_nil)))) (ss_cons (s1_set (i := 4) sc__law_open_house.nd rfl (loc_of rfl) (sp_im (sn_listRg rfl (by rfl) T.list (by rfl) T.range (sn_callB ok_len (by rfl) T.len (by decide +kernel) (sa_cons (sn_var (i := 3) rfl (vis_of rfl)) sa_nil))))) ss_nil)) ss_nil) (ss_cons (s1_ret (sn_tup (sa_cons (sn_var (i := 3) rfl (vis_of rfl)) (sa_cons (sn_draw F__law_pick (hr.mono (by decide)) (by rfl) (i := 1) (j := 0) rfl (vis_of rfl) rfl (vis_of rfl) (sn_var (i := 4) rfl (vis_of rfl))) sa_nil)))) ss_nil)))))
theorem safe_lc {h : House} (g : GoodH h) {ss : List Int} {t : Addr} {n c m : Nat} {y4 : SV} {k : List PyData → List SV → Prop} (hk : k ((safeL h).map dN) [.sc ss, .tw t n c, .im (dN m), .im (dH h), y4, .no, .no]) :
    lcW (twN 5) (tVal (wCall (arW 2 sp__law_safe) (waCons true (wV 3) (waCons true (wV 5) waNil)))) (wV 5) [5] (rgD h.length) [.sc ss, .tw t n c, .im (dN m), .im (dH h), y4, .no, .no] [] k := by
  refine lc_fil (fun d => safeB h (natOf d)) (fun d => d) (fun d hd M hM => ?_) ?_
  · obtain ⟨p, hp, rfl⟩ := mem_rgD hd
    simp only [WP.shp, WP.wSeq, WP.wNil, WP.wExpr, WP.wCall, WP.arW, WP.waCons, WP.waNil, WP.wV, WP.wC, WP.wIfS, WP.tNot, WP.tVal, WP.wSet, WP.pLst, WP.pIm, WP.pList, WP.pLrg, WP.tAnd, WP.tOr, WP.tCmp, WP.tChain, WP.wChain, WP.wCmp, WP.wBin, WP.wIsi, WP.wIx, WP.wNeg, WP.wNot, WP.wAnd, WP.wOr, WP.wIf, WP.wAsg, WP.twN, WP.puts, WP.wApp, WP.wRet, WP.wRetN, WP.wAbs, WP.wPass, WP.wBrk, WP.wCnt, WP.wTup, WP.wLst, WP.wSl, WP.woN, WP.woS, WP.wLrg, WP.wDrw, WP.wFor, WP.wFz, WP.wPar, WP.wPar3, WP.wSetIx, WP.wiV, WP.wiE, WP.wiR, WP.wiZ, WP.gs, WP.wIdx, WP.wCount, WP.wLc, WP.tYesW, WP.okF, WP.wipeS, WP.getK.eq_1, WP.getK.eq_2, WP.getK.eq_3, WP.asL.eq_1, WP.binW.eq_1, WP.binW.eq_2, WP.binW.eq_3, WP.binW.eq_4, WP.binW.eq_5, WP.binW.eq_6, WP.binW.eq_7, WP.binW.eq_8, WP.binW.eq_9, WP.binW.eq_10, WP.twT.eq_1, WP.fzK.eq_1, WP.fzK.eq_2, WP.fzK.eq_3, WP.itK.eq_1, WP.itK.eq_2, WP.zipW.eq_1, WP.seqW.eq_1, WP.seqW.eq_2, WP.cutW.eq_1, WP.cutW.eq_2, WP.asML.eq_1, WP.asI.eq_1, WP.asB.eq_1, WP.asN.eq_1, WP.cmpB.eq_1, WP.cmpB.eq_2, WP.cmpB.eq_3, WP.cmpB.eq_4, WP.cmpB.eq_5, WP.cmpB.eq_6, WP.cmpB.eq_7, WP.cmpB.eq_8, WP.cmpB.eq_9, WP.cmpB.eq_10, WP.cmpB.eq_11, WP.cmpB.eq_12, WP.cmpB.eq_13, WP.cmpB.eq_14, WP.ixW.eq_1, WP.ixW.eq_2, WP.idxW.eq_1, WP.isLD.eq_1, WP.lenW.eq_1, WP.lenW.eq_2, WP.tupleW.eq_1, WP.listW.eq_1, WP.listW.eq_2, WP.intW.eq_1, WP.intW.eq_2, WP.absW.eq_1, WP.allW.eq_1, WP.anyW.eq_1, WP.sumW.eq_1, WP.twW.eq_1, WP.cntW.eq_1, WP.itemsN.eq_1, WP.itemsN.eq_2, TH.noL, TH.noLs, true_or, or_true, true_and, and_true, Bool.true_or, Bool.or_true, Bool.false_or, Bool.or_false, Bool.true_and, Bool.and_true, Bool.false_and, Bool.and_false, Bool.not_true, Bool.not_false, reduceIte, List.set_cons_zero, List.set_cons_succ, List.length_cons, List.length_nil, Nat.zero_add, Bool.false_eq_true, Nat.reduceAdd, Nat.reduceLT, Nat.reduceLeDiff, Nat.reduceEqDiff, Int.reduceNeg, decide_true, decide_false, WP.isStr_dX, WP.isStr_int, TH.noL_H, TH.noL_R, TH.noL_S, TH.noL_W, WP.noLs_W, WP.noLs_S, WP.noLs_N, WP.noLs_I, WP.noLs_X, WP.noLs_app, L2.atI_last, WP.atI_0, WP.atI_1, WP.atI_2, WP.atI_3, Option.some.injEq, exists_eq_left', WP.lenW_H, WP.lenW_R, WP.lenW_S, WP.seqW_H, WP.seqW_R, WP.seqW_S, WP.spH_eq, WP.spHN_eq, WP.spHS_eq, WP.spHSN_eq, WP.spHSNN_eq, WP.spHSS_eq, WP.spHSSS_eq, WP.argS_H, WP.argS_S, WP.argS_N, WP.argS_I, TH.eqv_int, TH.eqv_nat, TH.eqv_str, TH.eqv_ex, TH.eqv_W, TH.eqv_R, TH.eqv_H, TH.eqv_S, WP.shp_W, WP.shp_R, WP.shp_H, WP.shp_S, WP.shp_int, WP.shp_bool, WP.shp_none, List.map_cons, List.map_nil, List.append_assoc, List.cons_append, List.nil_append, sp__law_safe, g, hp]
    rw [natOf_d] at hM
    cases hb : safeB h p with
    | true => rw [hb] at hM; exact hM
    | false => rw [hb] at hM; exact hM
  · have e : ((rgD h.length).filter fun d => safeB h (natOf d)).map (fun d => d) = (safeL h).map dN := by
      rw [List.map_id', rgD_eq, List.filter_map]
      unfold safeL
      congr 1
    rw [List.nil_append, e]
    exact hk
theorem oh1 {h : House} (g : GoodH h) {ss : List Int} {t : Addr} {n c m : Nat} {l : List Nat} (hn : ss.length = n ∧ n ≤ 63) (hc : c + 1 ≤ 2 ^ 60) (hm : h.length ≤ m) (hl : l ≠ []) (hl4 : l.length ≤ 4) (hs : ∀ x ∈ l, x < h.length ∧ Safe h x) : W__law_open_house_1 (endT t n (c + 1) (rl__law_open_house (dN m))) [.sc ss, .tw t n c, .im (dN m), .im (dH h), .im (.list (l.map dN)), .no, .no] := by
  simp only [W__law_open_house_1, WP.shp, WP.wSeq, WP.wNil, WP.wExpr, WP.wCall, WP.arW, WP.waCons, WP.waNil, WP.wV, WP.wC, WP.wIfS, WP.tNot, WP.tVal, WP.wSet, WP.pLst, WP.pIm, WP.pList, WP.pLrg, WP.tAnd, WP.tOr, WP.tCmp, WP.tChain, WP.wChain, WP.wCmp, WP.wBin, WP.wIsi, WP.wIx, WP.wNeg, WP.wNot, WP.wAnd, WP.wOr, WP.wIf, WP.wAsg, WP.twN, WP.puts, WP.wApp, WP.wRet, WP.wRetN, WP.wAbs, WP.wPass, WP.wBrk, WP.wCnt, WP.wTup, WP.wLst, WP.wSl, WP.woN, WP.woS, WP.wLrg, WP.wDrw, WP.wFor, WP.wFz, WP.wPar, WP.wPar3, WP.wSetIx, WP.wiV, WP.wiE, WP.wiR, WP.wiZ, WP.gs, WP.wIdx, WP.wCount, WP.wLc, WP.tYesW, WP.okF, WP.wipeS, WP.getK.eq_1, WP.getK.eq_2, WP.getK.eq_3, WP.asL.eq_1, WP.binW.eq_1, WP.binW.eq_2, WP.binW.eq_3, WP.binW.eq_4, WP.binW.eq_5, WP.binW.eq_6, WP.binW.eq_7, WP.binW.eq_8, WP.binW.eq_9, WP.binW.eq_10, WP.twT.eq_1, WP.fzK.eq_1, WP.fzK.eq_2, WP.fzK.eq_3, WP.itK.eq_1, WP.itK.eq_2, WP.zipW.eq_1, WP.seqW.eq_1, WP.seqW.eq_2, WP.cutW.eq_1, WP.cutW.eq_2, WP.asML.eq_1, WP.asI.eq_1, WP.asB.eq_1, WP.asN.eq_1, WP.cmpB.eq_1, WP.cmpB.eq_2, WP.cmpB.eq_3, WP.cmpB.eq_4, WP.cmpB.eq_5, WP.cmpB.eq_6, WP.cmpB.eq_7, WP.cmpB.eq_8, WP.cmpB.eq_9, WP.cmpB.eq_10, WP.cmpB.eq_11, WP.cmpB.eq_12, WP.cmpB.eq_13, WP.cmpB.eq_14, WP.ixW.eq_1, WP.ixW.eq_2, WP.idxW.eq_1, WP.isLD.eq_1, WP.lenW.eq_1, WP.lenW.eq_2, WP.tupleW.eq_1, WP.listW.eq_1, WP.listW.eq_2, WP.intW.eq_1, WP.intW.eq_2, WP.absW.eq_1, WP.allW.eq_1, WP.anyW.eq_1, WP.sumW.eq_1, WP.twW.eq_1, WP.cntW.eq_1, WP.itemsN.eq_1, WP.itemsN.eq_2, TH.noL, TH.noLs, true_or, or_true, true_and, and_true, Bool.true_or, Bool.or_true, Bool.false_or, Bool.or_false, Bool.true_and, Bool.and_true, Bool.false_and, Bool.and_false, Bool.not_true, Bool.not_false, reduceIte, List.set_cons_zero, List.set_cons_succ, List.length_cons, List.length_nil, Nat.zero_add, Bool.false_eq_true, Nat.reduceAdd, Nat.reduceLT, Nat.reduceLeDiff, Nat.reduceEqDiff, Int.reduceNeg, decide_true, decide_false, WP.isStr_dX, WP.isStr_int, TH.noL_H, TH.noL_R, TH.noL_S, TH.noL_W, WP.noLs_W, WP.noLs_S, WP.noLs_N, WP.noLs_I, WP.noLs_X, WP.noLs_app, L2.atI_last, WP.atI_0, WP.atI_1, WP.atI_2, WP.atI_3, Option.some.injEq, exists_eq_left', WP.lenW_H, WP.lenW_R, WP.lenW_S, WP.seqW_H, WP.seqW_R, WP.seqW_S, WP.spH_eq, WP.spHN_eq, WP.spHS_eq, WP.spHSN_eq, WP.spHSNN_eq, WP.spHSS_eq, WP.spHSSS_eq, WP.argS_H, WP.argS_S, WP.argS_N, WP.argS_I, TH.eqv_int, TH.eqv_nat, TH.eqv_str, TH.eqv_ex, TH.eqv_W, TH.eqv_R, TH.eqv_H, TH.eqv_S, WP.shp_W, WP.shp_R, WP.shp_H, WP.shp_S, WP.shp_int, WP.shp_bool, WP.shp_none, List.map_cons, List.map_nil, List.append_assoc, List.cons_append, List.nil_append, hn.1, hn.2, kd__law_pick, hc, pick_pr, pick_all, List.length_map]
  refine ⟨⟨by simpa using hl, by omega⟩, fun z hz _ => ?_⟩
  obtain ⟨x, hx, rfl⟩ := List.mem_map.mp hz
  obtain ⟨h1, h2⟩ := hs x hx
  exact ⟨rfl, ⟨m, h, x, rfl, g, hm, h1, h2, rfl⟩, c + 1, Nat.le_refl _, rfl⟩
theorem oh2 {h : House} (g : GoodH h) {ss : List Int} {t : Addr} {n c m : Nat} (hn : ss.length = n ∧ n ≤ 63) (hc : c + 1 ≤ 2 ^ 60) (hm : h.length ≤ m) : W__law_open_house_2 (endT t n (c + 1) (rl__law_open_house (dN m))) [.sc ss, .tw t n c, .im (dN m), .im (dH h), .im (.list ((safeL h).map dN)), .no, .no] := by
  have h4 := g.four
  simp only [W__law_open_house_2, WP.shp, WP.wSeq, WP.wNil, WP.wExpr, WP.wCall, WP.arW, WP.waCons, WP.waNil, WP.wV, WP.wC, WP.wIfS, WP.tNot, WP.tVal, WP.wSet, WP.pLst, WP.pIm, WP.pList, WP.pLrg, WP.tAnd, WP.tOr, WP.tCmp, WP.tChain, WP.wChain, WP.wCmp, WP.wBin, WP.wIsi, WP.wIx, WP.wNeg, WP.wNot, WP.wAnd, WP.wOr, WP.wIf, WP.wAsg, WP.twN, WP.puts, WP.wApp, WP.wRet, WP.wRetN, WP.wAbs, WP.wPass, WP.wBrk, WP.wCnt, WP.wTup, WP.wLst, WP.wSl, WP.woN, WP.woS, WP.wLrg, WP.wDrw, WP.wFor, WP.wFz, WP.wPar, WP.wPar3, WP.wSetIx, WP.wiV, WP.wiE, WP.wiR, WP.wiZ, WP.gs, WP.wIdx, WP.wCount, WP.wLc, WP.tYesW, WP.okF, WP.wipeS, WP.getK.eq_1, WP.getK.eq_2, WP.getK.eq_3, WP.asL.eq_1, WP.binW.eq_1, WP.binW.eq_2, WP.binW.eq_3, WP.binW.eq_4, WP.binW.eq_5, WP.binW.eq_6, WP.binW.eq_7, WP.binW.eq_8, WP.binW.eq_9, WP.binW.eq_10, WP.twT.eq_1, WP.fzK.eq_1, WP.fzK.eq_2, WP.fzK.eq_3, WP.itK.eq_1, WP.itK.eq_2, WP.zipW.eq_1, WP.seqW.eq_1, WP.seqW.eq_2, WP.cutW.eq_1, WP.cutW.eq_2, WP.asML.eq_1, WP.asI.eq_1, WP.asB.eq_1, WP.asN.eq_1, WP.cmpB.eq_1, WP.cmpB.eq_2, WP.cmpB.eq_3, WP.cmpB.eq_4, WP.cmpB.eq_5, WP.cmpB.eq_6, WP.cmpB.eq_7, WP.cmpB.eq_8, WP.cmpB.eq_9, WP.cmpB.eq_10, WP.cmpB.eq_11, WP.cmpB.eq_12, WP.cmpB.eq_13, WP.cmpB.eq_14, WP.ixW.eq_1, WP.ixW.eq_2, WP.idxW.eq_1, WP.isLD.eq_1, WP.lenW.eq_1, WP.lenW.eq_2, WP.tupleW.eq_1, WP.listW.eq_1, WP.listW.eq_2, WP.intW.eq_1, WP.intW.eq_2, WP.absW.eq_1, WP.allW.eq_1, WP.anyW.eq_1, WP.sumW.eq_1, WP.twW.eq_1, WP.cntW.eq_1, WP.itemsN.eq_1, WP.itemsN.eq_2, TH.noL, TH.noLs, true_or, or_true, true_and, and_true, Bool.true_or, Bool.or_true, Bool.false_or, Bool.or_false, Bool.true_and, Bool.and_true, Bool.false_and, Bool.and_false, Bool.not_true, Bool.not_false, reduceIte, List.set_cons_zero, List.set_cons_succ, List.length_cons, List.length_nil, Nat.zero_add, Bool.false_eq_true, Nat.reduceAdd, Nat.reduceLT, Nat.reduceLeDiff, Nat.reduceEqDiff, Int.reduceNeg, decide_true, decide_false, WP.isStr_dX, WP.isStr_int, TH.noL_H, TH.noL_R, TH.noL_S, TH.noL_W, WP.noLs_W, WP.noLs_S, WP.noLs_N, WP.noLs_I, WP.noLs_X, WP.noLs_app, L2.atI_last, WP.atI_0, WP.atI_1, WP.atI_2, WP.atI_3, Option.some.injEq, exists_eq_left', WP.lenW_H, WP.lenW_R, WP.lenW_S, WP.seqW_H, WP.seqW_R, WP.seqW_S, WP.spH_eq, WP.spHN_eq, WP.spHS_eq, WP.spHSN_eq, WP.spHSNN_eq, WP.spHSS_eq, WP.spHSSS_eq, WP.argS_H, WP.argS_S, WP.argS_N, WP.argS_I, TH.eqv_int, TH.eqv_nat, TH.eqv_str, TH.eqv_ex, TH.eqv_W, TH.eqv_R, TH.eqv_H, TH.eqv_S, WP.shp_W, WP.shp_R, WP.shp_H, WP.shp_S, WP.shp_int, WP.shp_bool, WP.shp_none, List.map_cons, List.map_nil, List.append_assoc, List.cons_append, List.nil_append, shp_lN, shp_nilL, eqv_nilL]
  cases he : (safeL h).isEmpty with
  | false =>
    simp only [WP.shp, WP.wSeq, WP.wNil, WP.wExpr, WP.wCall, WP.arW, WP.waCons, WP.waNil, WP.wV, WP.wC, WP.wIfS, WP.tNot, WP.tVal, WP.wSet, WP.pLst, WP.pIm, WP.pList, WP.pLrg, WP.tAnd, WP.tOr, WP.tCmp, WP.tChain, WP.wChain, WP.wCmp, WP.wBin, WP.wIsi, WP.wIx, WP.wNeg, WP.wNot, WP.wAnd, WP.wOr, WP.wIf, WP.wAsg, WP.twN, WP.puts, WP.wApp, WP.wRet, WP.wRetN, WP.wAbs, WP.wPass, WP.wBrk, WP.wCnt, WP.wTup, WP.wLst, WP.wSl, WP.woN, WP.woS, WP.wLrg, WP.wDrw, WP.wFor, WP.wFz, WP.wPar, WP.wPar3, WP.wSetIx, WP.wiV, WP.wiE, WP.wiR, WP.wiZ, WP.gs, WP.wIdx, WP.wCount, WP.wLc, WP.tYesW, WP.okF, WP.wipeS, WP.getK.eq_1, WP.getK.eq_2, WP.getK.eq_3, WP.asL.eq_1, WP.binW.eq_1, WP.binW.eq_2, WP.binW.eq_3, WP.binW.eq_4, WP.binW.eq_5, WP.binW.eq_6, WP.binW.eq_7, WP.binW.eq_8, WP.binW.eq_9, WP.binW.eq_10, WP.twT.eq_1, WP.fzK.eq_1, WP.fzK.eq_2, WP.fzK.eq_3, WP.itK.eq_1, WP.itK.eq_2, WP.zipW.eq_1, WP.seqW.eq_1, WP.seqW.eq_2, WP.cutW.eq_1, WP.cutW.eq_2, WP.asML.eq_1, WP.asI.eq_1, WP.asB.eq_1, WP.asN.eq_1, WP.cmpB.eq_1, WP.cmpB.eq_2, WP.cmpB.eq_3, WP.cmpB.eq_4, WP.cmpB.eq_5, WP.cmpB.eq_6, WP.cmpB.eq_7, WP.cmpB.eq_8, WP.cmpB.eq_9, WP.cmpB.eq_10, WP.cmpB.eq_11, WP.cmpB.eq_12, WP.cmpB.eq_13, WP.cmpB.eq_14, WP.ixW.eq_1, WP.ixW.eq_2, WP.idxW.eq_1, WP.isLD.eq_1, WP.lenW.eq_1, WP.lenW.eq_2, WP.tupleW.eq_1, WP.listW.eq_1, WP.listW.eq_2, WP.intW.eq_1, WP.intW.eq_2, WP.absW.eq_1, WP.allW.eq_1, WP.anyW.eq_1, WP.sumW.eq_1, WP.twW.eq_1, WP.cntW.eq_1, WP.itemsN.eq_1, WP.itemsN.eq_2, TH.noL, TH.noLs, true_or, or_true, true_and, and_true, Bool.true_or, Bool.or_true, Bool.false_or, Bool.or_false, Bool.true_and, Bool.and_true, Bool.false_and, Bool.and_false, Bool.not_true, Bool.not_false, reduceIte, List.set_cons_zero, List.set_cons_succ, List.length_cons, List.length_nil, Nat.zero_add, Bool.false_eq_true, Nat.reduceAdd, Nat.reduceLT, Nat.reduceLeDiff, Nat.reduceEqDiff, Int.reduceNeg, decide_true, decide_false, WP.isStr_dX, WP.isStr_int, TH.noL_H, TH.noL_R, TH.noL_S, TH.noL_W, WP.noLs_W, WP.noLs_S, WP.noLs_N, WP.noLs_I, WP.noLs_X, WP.noLs_app, L2.atI_last, WP.atI_0, WP.atI_1, WP.atI_2, WP.atI_3, Option.some.injEq, exists_eq_left', WP.lenW_H, WP.lenW_R, WP.lenW_S, WP.seqW_H, WP.seqW_R, WP.seqW_S, WP.spH_eq, WP.spHN_eq, WP.spHS_eq, WP.spHSN_eq, WP.spHSNN_eq, WP.spHSS_eq, WP.spHSSS_eq, WP.argS_H, WP.argS_S, WP.argS_N, WP.argS_I, TH.eqv_int, TH.eqv_nat, TH.eqv_str, TH.eqv_ex, TH.eqv_W, TH.eqv_R, TH.eqv_H, TH.eqv_S, WP.shp_W, WP.shp_R, WP.shp_H, WP.shp_S, WP.shp_int, WP.shp_bool, WP.shp_none, List.map_cons, List.map_nil, List.append_assoc, List.cons_append, List.nil_append]
    refine oh1 g hn hc hm (fun e => by rw [e] at he; cases he) (by have := safeL_len h; omega) fun x hx => safeL_lt hx
  | true =>
    simp only [WP.shp, WP.wSeq, WP.wNil, WP.wExpr, WP.wCall, WP.arW, WP.waCons, WP.waNil, WP.wV, WP.wC, WP.wIfS, WP.tNot, WP.tVal, WP.wSet, WP.pLst, WP.pIm, WP.pList, WP.pLrg, WP.tAnd, WP.tOr, WP.tCmp, WP.tChain, WP.wChain, WP.wCmp, WP.wBin, WP.wIsi, WP.wIx, WP.wNeg, WP.wNot, WP.wAnd, WP.wOr, WP.wIf, WP.wAsg, WP.twN, WP.puts, WP.wApp, WP.wRet, WP.wRetN, WP.wAbs, WP.wPass, WP.wBrk, WP.wCnt, WP.wTup, WP.wLst, WP.wSl, WP.woN, WP.woS, WP.wLrg, WP.wDrw, WP.wFor, WP.wFz, WP.wPar, WP.wPar3, WP.wSetIx, WP.wiV, WP.wiE, WP.wiR, WP.wiZ, WP.gs, WP.wIdx, WP.wCount, WP.wLc, WP.tYesW, WP.okF, WP.wipeS, WP.getK.eq_1, WP.getK.eq_2, WP.getK.eq_3, WP.asL.eq_1, WP.binW.eq_1, WP.binW.eq_2, WP.binW.eq_3, WP.binW.eq_4, WP.binW.eq_5, WP.binW.eq_6, WP.binW.eq_7, WP.binW.eq_8, WP.binW.eq_9, WP.binW.eq_10, WP.twT.eq_1, WP.fzK.eq_1, WP.fzK.eq_2, WP.fzK.eq_3, WP.itK.eq_1, WP.itK.eq_2, WP.zipW.eq_1, WP.seqW.eq_1, WP.seqW.eq_2, WP.cutW.eq_1, WP.cutW.eq_2, WP.asML.eq_1, WP.asI.eq_1, WP.asB.eq_1, WP.asN.eq_1, WP.cmpB.eq_1, WP.cmpB.eq_2, WP.cmpB.eq_3, WP.cmpB.eq_4, WP.cmpB.eq_5, WP.cmpB.eq_6, WP.cmpB.eq_7, WP.cmpB.eq_8, WP.cmpB.eq_9, WP.cmpB.eq_10, WP.cmpB.eq_11, WP.cmpB.eq_12, WP.cmpB.eq_13, WP.cmpB.eq_14, WP.ixW.eq_1, WP.ixW.eq_2, WP.idxW.eq_1, WP.isLD.eq_1, WP.lenW.eq_1, WP.lenW.eq_2, WP.tupleW.eq_1, WP.listW.eq_1, WP.listW.eq_2, WP.intW.eq_1, WP.intW.eq_2, WP.absW.eq_1, WP.allW.eq_1, WP.anyW.eq_1, WP.sumW.eq_1, WP.twW.eq_1, WP.cntW.eq_1, WP.itemsN.eq_1, WP.itemsN.eq_2, TH.noL, TH.noLs, true_or, or_true, true_and, and_true, Bool.true_or, Bool.or_true, Bool.false_or, Bool.or_false, Bool.true_and, Bool.and_true, Bool.false_and, Bool.and_false, Bool.not_true, Bool.not_false, reduceIte, List.set_cons_zero, List.set_cons_succ, List.length_cons, List.length_nil, Nat.zero_add, Bool.false_eq_true, Nat.reduceAdd, Nat.reduceLT, Nat.reduceLeDiff, Nat.reduceEqDiff, Int.reduceNeg, decide_true, decide_false, WP.isStr_dX, WP.isStr_int, TH.noL_H, TH.noL_R, TH.noL_S, TH.noL_W, WP.noLs_W, WP.noLs_S, WP.noLs_N, WP.noLs_I, WP.noLs_X, WP.noLs_app, L2.atI_last, WP.atI_0, WP.atI_1, WP.atI_2, WP.atI_3, Option.some.injEq, exists_eq_left', WP.lenW_H, WP.lenW_R, WP.lenW_S, WP.seqW_H, WP.seqW_R, WP.seqW_S, WP.spH_eq, WP.spHN_eq, WP.spHS_eq, WP.spHSN_eq, WP.spHSNN_eq, WP.spHSS_eq, WP.spHSSS_eq, WP.argS_H, WP.argS_S, WP.argS_N, WP.argS_I, TH.eqv_int, TH.eqv_nat, TH.eqv_str, TH.eqv_ex, TH.eqv_W, TH.eqv_R, TH.eqv_H, TH.eqv_S, WP.shp_W, WP.shp_R, WP.shp_H, WP.shp_S, WP.shp_int, WP.shp_bool, WP.shp_none, List.map_cons, List.map_nil, List.append_assoc, List.cons_append, List.nil_append, Int.toNat_natCast]
    refine ⟨⟨by rw [List.length_map]; omega, rfl⟩, ?_⟩
    refine lc_map (fun d => dR (.x .B :: (rwOf d).drop 1)) (fun d hd M hM => ?_) ?_
    · obtain ⟨r, hr, rfl⟩ := List.mem_map.mp hd
      have hr3 := (g.rows r hr).2
      have hz : ([Way.x .B] : List Way).length + (r.drop 1).length ≤ 100000 := by simp; omega
      simp only [WP.shp, WP.wSeq, WP.wNil, WP.wExpr, WP.wCall, WP.arW, WP.waCons, WP.waNil, WP.wV, WP.wC, WP.wIfS, WP.tNot, WP.tVal, WP.wSet, WP.pLst, WP.pIm, WP.pList, WP.pLrg, WP.tAnd, WP.tOr, WP.tCmp, WP.tChain, WP.wChain, WP.wCmp, WP.wBin, WP.wIsi, WP.wIx, WP.wNeg, WP.wNot, WP.wAnd, WP.wOr, WP.wIf, WP.wAsg, WP.twN, WP.puts, WP.wApp, WP.wRet, WP.wRetN, WP.wAbs, WP.wPass, WP.wBrk, WP.wCnt, WP.wTup, WP.wLst, WP.wSl, WP.woN, WP.woS, WP.wLrg, WP.wDrw, WP.wFor, WP.wFz, WP.wPar, WP.wPar3, WP.wSetIx, WP.wiV, WP.wiE, WP.wiR, WP.wiZ, WP.gs, WP.wIdx, WP.wCount, WP.wLc, WP.tYesW, WP.okF, WP.wipeS, WP.getK.eq_1, WP.getK.eq_2, WP.getK.eq_3, WP.asL.eq_1, WP.binW.eq_1, WP.binW.eq_2, WP.binW.eq_3, WP.binW.eq_4, WP.binW.eq_5, WP.binW.eq_6, WP.binW.eq_7, WP.binW.eq_8, WP.binW.eq_9, WP.binW.eq_10, WP.twT.eq_1, WP.fzK.eq_1, WP.fzK.eq_2, WP.fzK.eq_3, WP.itK.eq_1, WP.itK.eq_2, WP.zipW.eq_1, WP.seqW.eq_1, WP.seqW.eq_2, WP.cutW.eq_1, WP.cutW.eq_2, WP.asML.eq_1, WP.asI.eq_1, WP.asB.eq_1, WP.asN.eq_1, WP.cmpB.eq_1, WP.cmpB.eq_2, WP.cmpB.eq_3, WP.cmpB.eq_4, WP.cmpB.eq_5, WP.cmpB.eq_6, WP.cmpB.eq_7, WP.cmpB.eq_8, WP.cmpB.eq_9, WP.cmpB.eq_10, WP.cmpB.eq_11, WP.cmpB.eq_12, WP.cmpB.eq_13, WP.cmpB.eq_14, WP.ixW.eq_1, WP.ixW.eq_2, WP.idxW.eq_1, WP.isLD.eq_1, WP.lenW.eq_1, WP.lenW.eq_2, WP.tupleW.eq_1, WP.listW.eq_1, WP.listW.eq_2, WP.intW.eq_1, WP.intW.eq_2, WP.absW.eq_1, WP.allW.eq_1, WP.anyW.eq_1, WP.sumW.eq_1, WP.twW.eq_1, WP.cntW.eq_1, WP.itemsN.eq_1, WP.itemsN.eq_2, TH.noL, TH.noLs, true_or, or_true, true_and, and_true, Bool.true_or, Bool.or_true, Bool.false_or, Bool.or_false, Bool.true_and, Bool.and_true, Bool.false_and, Bool.and_false, Bool.not_true, Bool.not_false, reduceIte, List.set_cons_zero, List.set_cons_succ, List.length_cons, List.length_nil, Nat.zero_add, Bool.false_eq_true, Nat.reduceAdd, Nat.reduceLT, Nat.reduceLeDiff, Nat.reduceEqDiff, Int.reduceNeg, decide_true, decide_false, WP.isStr_dX, WP.isStr_int, TH.noL_H, TH.noL_R, TH.noL_S, TH.noL_W, WP.noLs_W, WP.noLs_S, WP.noLs_N, WP.noLs_I, WP.noLs_X, WP.noLs_app, L2.atI_last, WP.atI_0, WP.atI_1, WP.atI_2, WP.atI_3, Option.some.injEq, exists_eq_left', WP.lenW_H, WP.lenW_R, WP.lenW_S, WP.seqW_H, WP.seqW_R, WP.seqW_S, WP.spH_eq, WP.spHN_eq, WP.spHS_eq, WP.spHSN_eq, WP.spHSNN_eq, WP.spHSS_eq, WP.spHSSS_eq, WP.argS_H, WP.argS_S, WP.argS_N, WP.argS_I, TH.eqv_int, TH.eqv_nat, TH.eqv_str, TH.eqv_ex, TH.eqv_W, TH.eqv_R, TH.eqv_H, TH.eqv_S, WP.shp_W, WP.shp_R, WP.shp_H, WP.shp_S, WP.shp_int, WP.shp_bool, WP.shp_none, List.map_cons, List.map_nil, List.append_assoc, List.cons_append, List.nil_append, cutW_R_lo1, dR_B, binW_R, hz]
      rw [rwOf_d] at hM
      refine ⟨by simp; omega, ?_⟩
      exact hM
    · have e : (h.map dR).map (fun d => dR (.x .B :: (rwOf d).drop 1)) = (allB h).map dR := by
        unfold allB
        rw [List.map_map, List.map_map]
        exact List.map_congr_left fun r _ => by simp [rwOf_d]
      rw [List.nil_append, e]
      have et : PyData.tuple ((allB h).map dR) = dH (allB h) := rfl
      simp only [WP.shp, WP.wSeq, WP.wNil, WP.wExpr, WP.wCall, WP.arW, WP.waCons, WP.waNil, WP.wV, WP.wC, WP.wIfS, WP.tNot, WP.tVal, WP.wSet, WP.pLst, WP.pIm, WP.pList, WP.pLrg, WP.tAnd, WP.tOr, WP.tCmp, WP.tChain, WP.wChain, WP.wCmp, WP.wBin, WP.wIsi, WP.wIx, WP.wNeg, WP.wNot, WP.wAnd, WP.wOr, WP.wIf, WP.wAsg, WP.twN, WP.puts, WP.wApp, WP.wRet, WP.wRetN, WP.wAbs, WP.wPass, WP.wBrk, WP.wCnt, WP.wTup, WP.wLst, WP.wSl, WP.woN, WP.woS, WP.wLrg, WP.wDrw, WP.wFor, WP.wFz, WP.wPar, WP.wPar3, WP.wSetIx, WP.wiV, WP.wiE, WP.wiR, WP.wiZ, WP.gs, WP.wIdx, WP.wCount, WP.wLc, WP.tYesW, WP.okF, WP.wipeS, WP.getK.eq_1, WP.getK.eq_2, WP.getK.eq_3, WP.asL.eq_1, WP.binW.eq_1, WP.binW.eq_2, WP.binW.eq_3, WP.binW.eq_4, WP.binW.eq_5, WP.binW.eq_6, WP.binW.eq_7, WP.binW.eq_8, WP.binW.eq_9, WP.binW.eq_10, WP.twT.eq_1, WP.fzK.eq_1, WP.fzK.eq_2, WP.fzK.eq_3, WP.itK.eq_1, WP.itK.eq_2, WP.zipW.eq_1, WP.seqW.eq_1, WP.seqW.eq_2, WP.cutW.eq_1, WP.cutW.eq_2, WP.asML.eq_1, WP.asI.eq_1, WP.asB.eq_1, WP.asN.eq_1, WP.cmpB.eq_1, WP.cmpB.eq_2, WP.cmpB.eq_3, WP.cmpB.eq_4, WP.cmpB.eq_5, WP.cmpB.eq_6, WP.cmpB.eq_7, WP.cmpB.eq_8, WP.cmpB.eq_9, WP.cmpB.eq_10, WP.cmpB.eq_11, WP.cmpB.eq_12, WP.cmpB.eq_13, WP.cmpB.eq_14, WP.ixW.eq_1, WP.ixW.eq_2, WP.idxW.eq_1, WP.isLD.eq_1, WP.lenW.eq_1, WP.lenW.eq_2, WP.tupleW.eq_1, WP.listW.eq_1, WP.listW.eq_2, WP.intW.eq_1, WP.intW.eq_2, WP.absW.eq_1, WP.allW.eq_1, WP.anyW.eq_1, WP.sumW.eq_1, WP.twW.eq_1, WP.cntW.eq_1, WP.itemsN.eq_1, WP.itemsN.eq_2, TH.noL, TH.noLs, true_or, or_true, true_and, and_true, Bool.true_or, Bool.or_true, Bool.false_or, Bool.or_false, Bool.true_and, Bool.and_true, Bool.false_and, Bool.and_false, Bool.not_true, Bool.not_false, reduceIte, List.set_cons_zero, List.set_cons_succ, List.length_cons, List.length_nil, Nat.zero_add, Bool.false_eq_true, Nat.reduceAdd, Nat.reduceLT, Nat.reduceLeDiff, Nat.reduceEqDiff, Int.reduceNeg, decide_true, decide_false, WP.isStr_dX, WP.isStr_int, TH.noL_H, TH.noL_R, TH.noL_S, TH.noL_W, WP.noLs_W, WP.noLs_S, WP.noLs_N, WP.noLs_I, WP.noLs_X, WP.noLs_app, L2.atI_last, WP.atI_0, WP.atI_1, WP.atI_2, WP.atI_3, Option.some.injEq, exists_eq_left', WP.lenW_H, WP.lenW_R, WP.lenW_S, WP.seqW_H, WP.seqW_R, WP.seqW_S, WP.spH_eq, WP.spHN_eq, WP.spHS_eq, WP.spHSN_eq, WP.spHSNN_eq, WP.spHSS_eq, WP.spHSSS_eq, WP.argS_H, WP.argS_S, WP.argS_N, WP.argS_I, TH.eqv_int, TH.eqv_nat, TH.eqv_str, TH.eqv_ex, TH.eqv_W, TH.eqv_R, TH.eqv_H, TH.eqv_S, WP.shp_W, WP.shp_R, WP.shp_H, WP.shp_S, WP.shp_int, WP.shp_bool, WP.shp_none, List.map_cons, List.map_nil, List.append_assoc, List.cons_append, List.nil_append, noLs_R, et, List.length_map, allB_len, Int.toNat_natCast, rgD_eq]
      have hlr : (List.range h.length).length ≤ 4 := by rw [List.length_range]; exact h4
      refine ⟨by omega, by omega, ?_⟩
      refine oh1 (allB_good g) hn hc (by rw [allB_len]; exact hm) ?_ hlr fun x hx => ?_
      · have := g.one
        intro e
        have e2 := congrArg List.length e
        rw [List.length_range, List.length_nil] at e2
        omega
      · rw [List.mem_range] at hx
        exact ⟨by rw [allB_len]; exact hx, allB_safe g hx⟩
theorem l__law_open_house (t : Addr) (n c : Nat) (ss : List Int) (d : PyData) (h1 : ss.length = n) (h2 : n ≤ 63) (hc : c + kd__law_open_house ≤ 2 ^ 60) (hp : pr__law_open_house d) : W__law_open_house (endT t n (c + kd__law_open_house) (rl__law_open_house d)) ([.sc ss, .tw t n c, argS d] ++ List.replicate (N__law_open_house.length - 3) .no) := by
  obtain ⟨m, hm1, hm4, rfl⟩ := hp
  show W__law_open_house _ [.sc ss, .tw t n c, argS (dN m), .no, .no, .no, .no]
  simp only [kd__law_open_house] at hc
  simp only [W__law_open_house, WP.shp, WP.wSeq, WP.wNil, WP.wExpr, WP.wCall, WP.arW, WP.waCons, WP.waNil, WP.wV, WP.wC, WP.wIfS, WP.tNot, WP.tVal, WP.wSet, WP.pLst, WP.pIm, WP.pList, WP.pLrg, WP.tAnd, WP.tOr, WP.tCmp, WP.tChain, WP.wChain, WP.wCmp, WP.wBin, WP.wIsi, WP.wIx, WP.wNeg, WP.wNot, WP.wAnd, WP.wOr, WP.wIf, WP.wAsg, WP.twN, WP.puts, WP.wApp, WP.wRet, WP.wRetN, WP.wAbs, WP.wPass, WP.wBrk, WP.wCnt, WP.wTup, WP.wLst, WP.wSl, WP.woN, WP.woS, WP.wLrg, WP.wDrw, WP.wFor, WP.wFz, WP.wPar, WP.wPar3, WP.wSetIx, WP.wiV, WP.wiE, WP.wiR, WP.wiZ, WP.gs, WP.wIdx, WP.wCount, WP.wLc, WP.tYesW, WP.okF, WP.wipeS, WP.getK.eq_1, WP.getK.eq_2, WP.getK.eq_3, WP.asL.eq_1, WP.binW.eq_1, WP.binW.eq_2, WP.binW.eq_3, WP.binW.eq_4, WP.binW.eq_5, WP.binW.eq_6, WP.binW.eq_7, WP.binW.eq_8, WP.binW.eq_9, WP.binW.eq_10, WP.twT.eq_1, WP.fzK.eq_1, WP.fzK.eq_2, WP.fzK.eq_3, WP.itK.eq_1, WP.itK.eq_2, WP.zipW.eq_1, WP.seqW.eq_1, WP.seqW.eq_2, WP.cutW.eq_1, WP.cutW.eq_2, WP.asML.eq_1, WP.asI.eq_1, WP.asB.eq_1, WP.asN.eq_1, WP.cmpB.eq_1, WP.cmpB.eq_2, WP.cmpB.eq_3, WP.cmpB.eq_4, WP.cmpB.eq_5, WP.cmpB.eq_6, WP.cmpB.eq_7, WP.cmpB.eq_8, WP.cmpB.eq_9, WP.cmpB.eq_10, WP.cmpB.eq_11, WP.cmpB.eq_12, WP.cmpB.eq_13, WP.cmpB.eq_14, WP.ixW.eq_1, WP.ixW.eq_2, WP.idxW.eq_1, WP.isLD.eq_1, WP.lenW.eq_1, WP.lenW.eq_2, WP.tupleW.eq_1, WP.listW.eq_1, WP.listW.eq_2, WP.intW.eq_1, WP.intW.eq_2, WP.absW.eq_1, WP.allW.eq_1, WP.anyW.eq_1, WP.sumW.eq_1, WP.twW.eq_1, WP.cntW.eq_1, WP.itemsN.eq_1, WP.itemsN.eq_2, TH.noL, TH.noLs, true_or, or_true, true_and, and_true, Bool.true_or, Bool.or_true, Bool.false_or, Bool.or_false, Bool.true_and, Bool.and_true, Bool.false_and, Bool.and_false, Bool.not_true, Bool.not_false, reduceIte, List.set_cons_zero, List.set_cons_succ, List.length_cons, List.length_nil, Nat.zero_add, Bool.false_eq_true, Nat.reduceAdd, Nat.reduceLT, Nat.reduceLeDiff, Nat.reduceEqDiff, Int.reduceNeg, decide_true, decide_false, WP.isStr_dX, WP.isStr_int, TH.noL_H, TH.noL_R, TH.noL_S, TH.noL_W, WP.noLs_W, WP.noLs_S, WP.noLs_N, WP.noLs_I, WP.noLs_X, WP.noLs_app, L2.atI_last, WP.atI_0, WP.atI_1, WP.atI_2, WP.atI_3, Option.some.injEq, exists_eq_left', WP.lenW_H, WP.lenW_R, WP.lenW_S, WP.seqW_H, WP.seqW_R, WP.seqW_S, WP.spH_eq, WP.spHN_eq, WP.spHS_eq, WP.spHSN_eq, WP.spHSNN_eq, WP.spHSS_eq, WP.spHSSS_eq, WP.argS_H, WP.argS_S, WP.argS_N, WP.argS_I, TH.eqv_int, TH.eqv_nat, TH.eqv_str, TH.eqv_ex, TH.eqv_W, TH.eqv_R, TH.eqv_H, TH.eqv_S, WP.shp_W, WP.shp_R, WP.shp_H, WP.shp_S, WP.shp_int, WP.shp_bool, WP.shp_none, List.map_cons, List.map_nil, List.append_assoc, List.cons_append, List.nil_append, h1, h2, kd__law_house, house_pr, house_all, hm1, hm4]
  refine ⟨by omega, fun h g hm => ?_⟩
  have h4 := g.four
  have hl1 := g.one
  have ec : c + kd__law_open_house = (c + 40) + 1 := rfl
  rw [ec]
  simp only [WP.shp, WP.wSeq, WP.wNil, WP.wExpr, WP.wCall, WP.arW, WP.waCons, WP.waNil, WP.wV, WP.wC, WP.wIfS, WP.tNot, WP.tVal, WP.wSet, WP.pLst, WP.pIm, WP.pList, WP.pLrg, WP.tAnd, WP.tOr, WP.tCmp, WP.tChain, WP.wChain, WP.wCmp, WP.wBin, WP.wIsi, WP.wIx, WP.wNeg, WP.wNot, WP.wAnd, WP.wOr, WP.wIf, WP.wAsg, WP.twN, WP.puts, WP.wApp, WP.wRet, WP.wRetN, WP.wAbs, WP.wPass, WP.wBrk, WP.wCnt, WP.wTup, WP.wLst, WP.wSl, WP.woN, WP.woS, WP.wLrg, WP.wDrw, WP.wFor, WP.wFz, WP.wPar, WP.wPar3, WP.wSetIx, WP.wiV, WP.wiE, WP.wiR, WP.wiZ, WP.gs, WP.wIdx, WP.wCount, WP.wLc, WP.tYesW, WP.okF, WP.wipeS, WP.getK.eq_1, WP.getK.eq_2, WP.getK.eq_3, WP.asL.eq_1, WP.binW.eq_1, WP.binW.eq_2, WP.binW.eq_3, WP.binW.eq_4, WP.binW.eq_5, WP.binW.eq_6, WP.binW.eq_7, WP.binW.eq_8, WP.binW.eq_9, WP.binW.eq_10, WP.twT.eq_1, WP.fzK.eq_1, WP.fzK.eq_2, WP.fzK.eq_3, WP.itK.eq_1, WP.itK.eq_2, WP.zipW.eq_1, WP.seqW.eq_1, WP.seqW.eq_2, WP.cutW.eq_1, WP.cutW.eq_2, WP.asML.eq_1, WP.asI.eq_1, WP.asB.eq_1, WP.asN.eq_1, WP.cmpB.eq_1, WP.cmpB.eq_2, WP.cmpB.eq_3, WP.cmpB.eq_4, WP.cmpB.eq_5, WP.cmpB.eq_6, WP.cmpB.eq_7, WP.cmpB.eq_8, WP.cmpB.eq_9, WP.cmpB.eq_10, WP.cmpB.eq_11, WP.cmpB.eq_12, WP.cmpB.eq_13, WP.cmpB.eq_14, WP.ixW.eq_1, WP.ixW.eq_2, WP.idxW.eq_1, WP.isLD.eq_1, WP.lenW.eq_1, WP.lenW.eq_2, WP.tupleW.eq_1, WP.listW.eq_1, WP.listW.eq_2, WP.intW.eq_1, WP.intW.eq_2, WP.absW.eq_1, WP.allW.eq_1, WP.anyW.eq_1, WP.sumW.eq_1, WP.twW.eq_1, WP.cntW.eq_1, WP.itemsN.eq_1, WP.itemsN.eq_2, TH.noL, TH.noLs, true_or, or_true, true_and, and_true, Bool.true_or, Bool.or_true, Bool.false_or, Bool.or_false, Bool.true_and, Bool.and_true, Bool.false_and, Bool.and_false, Bool.not_true, Bool.not_false, reduceIte, List.set_cons_zero, List.set_cons_succ, List.length_cons, List.length_nil, Nat.zero_add, Bool.false_eq_true, Nat.reduceAdd, Nat.reduceLT, Nat.reduceLeDiff, Nat.reduceEqDiff, Int.reduceNeg, decide_true, decide_false, WP.isStr_dX, WP.isStr_int, TH.noL_H, TH.noL_R, TH.noL_S, TH.noL_W, WP.noLs_W, WP.noLs_S, WP.noLs_N, WP.noLs_I, WP.noLs_X, WP.noLs_app, L2.atI_last, WP.atI_0, WP.atI_1, WP.atI_2, WP.atI_3, Option.some.injEq, exists_eq_left', WP.lenW_H, WP.lenW_R, WP.lenW_S, WP.seqW_H, WP.seqW_R, WP.seqW_S, WP.spH_eq, WP.spHN_eq, WP.spHS_eq, WP.spHSN_eq, WP.spHSNN_eq, WP.spHSS_eq, WP.spHSSS_eq, WP.argS_H, WP.argS_S, WP.argS_N, WP.argS_I, TH.eqv_int, TH.eqv_nat, TH.eqv_str, TH.eqv_ex, TH.eqv_W, TH.eqv_R, TH.eqv_H, TH.eqv_S, WP.shp_W, WP.shp_R, WP.shp_H, WP.shp_S, WP.shp_int, WP.shp_bool, WP.shp_none, List.map_cons, List.map_nil, List.append_assoc, List.cons_append, List.nil_append, Int.toNat_natCast, rgD_len]
  refine ⟨by omega, by omega, ⟨by omega, rfl⟩, safe_lc g ?_⟩
  simp only [WP.shp, WP.wSeq, WP.wNil, WP.wExpr, WP.wCall, WP.arW, WP.waCons, WP.waNil, WP.wV, WP.wC, WP.wIfS, WP.tNot, WP.tVal, WP.wSet, WP.pLst, WP.pIm, WP.pList, WP.pLrg, WP.tAnd, WP.tOr, WP.tCmp, WP.tChain, WP.wChain, WP.wCmp, WP.wBin, WP.wIsi, WP.wIx, WP.wNeg, WP.wNot, WP.wAnd, WP.wOr, WP.wIf, WP.wAsg, WP.twN, WP.puts, WP.wApp, WP.wRet, WP.wRetN, WP.wAbs, WP.wPass, WP.wBrk, WP.wCnt, WP.wTup, WP.wLst, WP.wSl, WP.woN, WP.woS, WP.wLrg, WP.wDrw, WP.wFor, WP.wFz, WP.wPar, WP.wPar3, WP.wSetIx, WP.wiV, WP.wiE, WP.wiR, WP.wiZ, WP.gs, WP.wIdx, WP.wCount, WP.wLc, WP.tYesW, WP.okF, WP.wipeS, WP.getK.eq_1, WP.getK.eq_2, WP.getK.eq_3, WP.asL.eq_1, WP.binW.eq_1, WP.binW.eq_2, WP.binW.eq_3, WP.binW.eq_4, WP.binW.eq_5, WP.binW.eq_6, WP.binW.eq_7, WP.binW.eq_8, WP.binW.eq_9, WP.binW.eq_10, WP.twT.eq_1, WP.fzK.eq_1, WP.fzK.eq_2, WP.fzK.eq_3, WP.itK.eq_1, WP.itK.eq_2, WP.zipW.eq_1, WP.seqW.eq_1, WP.seqW.eq_2, WP.cutW.eq_1, WP.cutW.eq_2, WP.asML.eq_1, WP.asI.eq_1, WP.asB.eq_1, WP.asN.eq_1, WP.cmpB.eq_1, WP.cmpB.eq_2, WP.cmpB.eq_3, WP.cmpB.eq_4, WP.cmpB.eq_5, WP.cmpB.eq_6, WP.cmpB.eq_7, WP.cmpB.eq_8, WP.cmpB.eq_9, WP.cmpB.eq_10, WP.cmpB.eq_11, WP.cmpB.eq_12, WP.cmpB.eq_13, WP.cmpB.eq_14, WP.ixW.eq_1, WP.ixW.eq_2, WP.idxW.eq_1, WP.isLD.eq_1, WP.lenW.eq_1, WP.lenW.eq_2, WP.tupleW.eq_1, WP.listW.eq_1, WP.listW.eq_2, WP.intW.eq_1, WP.intW.eq_2, WP.absW.eq_1, WP.allW.eq_1, WP.anyW.eq_1, WP.sumW.eq_1, WP.twW.eq_1, WP.cntW.eq_1, WP.itemsN.eq_1, WP.itemsN.eq_2, TH.noL, TH.noLs, true_or, or_true, true_and, and_true, Bool.true_or, Bool.or_true, Bool.false_or, Bool.or_false, Bool.true_and, Bool.and_true, Bool.false_and, Bool.and_false, Bool.not_true, Bool.not_false, reduceIte, List.set_cons_zero, List.set_cons_succ, List.length_cons, List.length_nil, Nat.zero_add, Bool.false_eq_true, Nat.reduceAdd, Nat.reduceLT, Nat.reduceLeDiff, Nat.reduceEqDiff, Int.reduceNeg, decide_true, decide_false, WP.isStr_dX, WP.isStr_int, TH.noL_H, TH.noL_R, TH.noL_S, TH.noL_W, WP.noLs_W, WP.noLs_S, WP.noLs_N, WP.noLs_I, WP.noLs_X, WP.noLs_app, L2.atI_last, WP.atI_0, WP.atI_1, WP.atI_2, WP.atI_3, Option.some.injEq, exists_eq_left', WP.lenW_H, WP.lenW_R, WP.lenW_S, WP.seqW_H, WP.seqW_R, WP.seqW_S, WP.spH_eq, WP.spHN_eq, WP.spHS_eq, WP.spHSN_eq, WP.spHSNN_eq, WP.spHSS_eq, WP.spHSSS_eq, WP.argS_H, WP.argS_S, WP.argS_N, WP.argS_I, TH.eqv_int, TH.eqv_nat, TH.eqv_str, TH.eqv_ex, TH.eqv_W, TH.eqv_R, TH.eqv_H, TH.eqv_S, WP.shp_W, WP.shp_R, WP.shp_H, WP.shp_S, WP.shp_int, WP.shp_bool, WP.shp_none, List.map_cons, List.map_nil, List.append_assoc, List.cons_append, List.nil_append, shp_lN, shp_nilL, eqv_nilL]
  cases he : (safeL h).isEmpty with
  | false =>
    simp only [WP.shp, WP.wSeq, WP.wNil, WP.wExpr, WP.wCall, WP.arW, WP.waCons, WP.waNil, WP.wV, WP.wC, WP.wIfS, WP.tNot, WP.tVal, WP.wSet, WP.pLst, WP.pIm, WP.pList, WP.pLrg, WP.tAnd, WP.tOr, WP.tCmp, WP.tChain, WP.wChain, WP.wCmp, WP.wBin, WP.wIsi, WP.wIx, WP.wNeg, WP.wNot, WP.wAnd, WP.wOr, WP.wIf, WP.wAsg, WP.twN, WP.puts, WP.wApp, WP.wRet, WP.wRetN, WP.wAbs, WP.wPass, WP.wBrk, WP.wCnt, WP.wTup, WP.wLst, WP.wSl, WP.woN, WP.woS, WP.wLrg, WP.wDrw, WP.wFor, WP.wFz, WP.wPar, WP.wPar3, WP.wSetIx, WP.wiV, WP.wiE, WP.wiR, WP.wiZ, WP.gs, WP.wIdx, WP.wCount, WP.wLc, WP.tYesW, WP.okF, WP.wipeS, WP.getK.eq_1, WP.getK.eq_2, WP.getK.eq_3, WP.asL.eq_1, WP.binW.eq_1, WP.binW.eq_2, WP.binW.eq_3, WP.binW.eq_4, WP.binW.eq_5, WP.binW.eq_6, WP.binW.eq_7, WP.binW.eq_8, WP.binW.eq_9, WP.binW.eq_10, WP.twT.eq_1, WP.fzK.eq_1, WP.fzK.eq_2, WP.fzK.eq_3, WP.itK.eq_1, WP.itK.eq_2, WP.zipW.eq_1, WP.seqW.eq_1, WP.seqW.eq_2, WP.cutW.eq_1, WP.cutW.eq_2, WP.asML.eq_1, WP.asI.eq_1, WP.asB.eq_1, WP.asN.eq_1, WP.cmpB.eq_1, WP.cmpB.eq_2, WP.cmpB.eq_3, WP.cmpB.eq_4, WP.cmpB.eq_5, WP.cmpB.eq_6, WP.cmpB.eq_7, WP.cmpB.eq_8, WP.cmpB.eq_9, WP.cmpB.eq_10, WP.cmpB.eq_11, WP.cmpB.eq_12, WP.cmpB.eq_13, WP.cmpB.eq_14, WP.ixW.eq_1, WP.ixW.eq_2, WP.idxW.eq_1, WP.isLD.eq_1, WP.lenW.eq_1, WP.lenW.eq_2, WP.tupleW.eq_1, WP.listW.eq_1, WP.listW.eq_2, WP.intW.eq_1, WP.intW.eq_2, WP.absW.eq_1, WP.allW.eq_1, WP.anyW.eq_1, WP.sumW.eq_1, WP.twW.eq_1, WP.cntW.eq_1, WP.itemsN.eq_1, WP.itemsN.eq_2, TH.noL, TH.noLs, true_or, or_true, true_and, and_true, Bool.true_or, Bool.or_true, Bool.false_or, Bool.or_false, Bool.true_and, Bool.and_true, Bool.false_and, Bool.and_false, Bool.not_true, Bool.not_false, reduceIte, List.set_cons_zero, List.set_cons_succ, List.length_cons, List.length_nil, Nat.zero_add, Bool.false_eq_true, Nat.reduceAdd, Nat.reduceLT, Nat.reduceLeDiff, Nat.reduceEqDiff, Int.reduceNeg, decide_true, decide_false, WP.isStr_dX, WP.isStr_int, TH.noL_H, TH.noL_R, TH.noL_S, TH.noL_W, WP.noLs_W, WP.noLs_S, WP.noLs_N, WP.noLs_I, WP.noLs_X, WP.noLs_app, L2.atI_last, WP.atI_0, WP.atI_1, WP.atI_2, WP.atI_3, Option.some.injEq, exists_eq_left', WP.lenW_H, WP.lenW_R, WP.lenW_S, WP.seqW_H, WP.seqW_R, WP.seqW_S, WP.spH_eq, WP.spHN_eq, WP.spHS_eq, WP.spHSN_eq, WP.spHSNN_eq, WP.spHSS_eq, WP.spHSSS_eq, WP.argS_H, WP.argS_S, WP.argS_N, WP.argS_I, TH.eqv_int, TH.eqv_nat, TH.eqv_str, TH.eqv_ex, TH.eqv_W, TH.eqv_R, TH.eqv_H, TH.eqv_S, WP.shp_W, WP.shp_R, WP.shp_H, WP.shp_S, WP.shp_int, WP.shp_bool, WP.shp_none, List.map_cons, List.map_nil, List.append_assoc, List.cons_append, List.nil_append]
    exact oh2 g ⟨h1, h2⟩ (by omega) hm
  | true =>
    have hz : ([Way.x .A] : List Way).length + ((row h (h.length - 1)).drop 1).length ≤ 100000 := by
      have := (g.rows _ (row_mem (h := h) (i := h.length - 1) (by omega))).2
      simp; omega
    have hz2 : h.dropLast.length + ([Way.x .A :: (row h (h.length - 1)).drop 1] : House).length ≤ 100000 := by simp; omega
    have el : h.dropLast ++ [Way.x .A :: (row h (h.length - 1)).drop 1] = lastA h := rfl
    simp only [WP.shp, WP.wSeq, WP.wNil, WP.wExpr, WP.wCall, WP.arW, WP.waCons, WP.waNil, WP.wV, WP.wC, WP.wIfS, WP.tNot, WP.tVal, WP.wSet, WP.pLst, WP.pIm, WP.pList, WP.pLrg, WP.tAnd, WP.tOr, WP.tCmp, WP.tChain, WP.wChain, WP.wCmp, WP.wBin, WP.wIsi, WP.wIx, WP.wNeg, WP.wNot, WP.wAnd, WP.wOr, WP.wIf, WP.wAsg, WP.twN, WP.puts, WP.wApp, WP.wRet, WP.wRetN, WP.wAbs, WP.wPass, WP.wBrk, WP.wCnt, WP.wTup, WP.wLst, WP.wSl, WP.woN, WP.woS, WP.wLrg, WP.wDrw, WP.wFor, WP.wFz, WP.wPar, WP.wPar3, WP.wSetIx, WP.wiV, WP.wiE, WP.wiR, WP.wiZ, WP.gs, WP.wIdx, WP.wCount, WP.wLc, WP.tYesW, WP.okF, WP.wipeS, WP.getK.eq_1, WP.getK.eq_2, WP.getK.eq_3, WP.asL.eq_1, WP.binW.eq_1, WP.binW.eq_2, WP.binW.eq_3, WP.binW.eq_4, WP.binW.eq_5, WP.binW.eq_6, WP.binW.eq_7, WP.binW.eq_8, WP.binW.eq_9, WP.binW.eq_10, WP.twT.eq_1, WP.fzK.eq_1, WP.fzK.eq_2, WP.fzK.eq_3, WP.itK.eq_1, WP.itK.eq_2, WP.zipW.eq_1, WP.seqW.eq_1, WP.seqW.eq_2, WP.cutW.eq_1, WP.cutW.eq_2, WP.asML.eq_1, WP.asI.eq_1, WP.asB.eq_1, WP.asN.eq_1, WP.cmpB.eq_1, WP.cmpB.eq_2, WP.cmpB.eq_3, WP.cmpB.eq_4, WP.cmpB.eq_5, WP.cmpB.eq_6, WP.cmpB.eq_7, WP.cmpB.eq_8, WP.cmpB.eq_9, WP.cmpB.eq_10, WP.cmpB.eq_11, WP.cmpB.eq_12, WP.cmpB.eq_13, WP.cmpB.eq_14, WP.ixW.eq_1, WP.ixW.eq_2, WP.idxW.eq_1, WP.isLD.eq_1, WP.lenW.eq_1, WP.lenW.eq_2, WP.tupleW.eq_1, WP.listW.eq_1, WP.listW.eq_2, WP.intW.eq_1, WP.intW.eq_2, WP.absW.eq_1, WP.allW.eq_1, WP.anyW.eq_1, WP.sumW.eq_1, WP.twW.eq_1, WP.cntW.eq_1, WP.itemsN.eq_1, WP.itemsN.eq_2, TH.noL, TH.noLs, true_or, or_true, true_and, and_true, Bool.true_or, Bool.or_true, Bool.false_or, Bool.or_false, Bool.true_and, Bool.and_true, Bool.false_and, Bool.and_false, Bool.not_true, Bool.not_false, reduceIte, List.set_cons_zero, List.set_cons_succ, List.length_cons, List.length_nil, Nat.zero_add, Bool.false_eq_true, Nat.reduceAdd, Nat.reduceLT, Nat.reduceLeDiff, Nat.reduceEqDiff, Int.reduceNeg, decide_true, decide_false, WP.isStr_dX, WP.isStr_int, TH.noL_H, TH.noL_R, TH.noL_S, TH.noL_W, WP.noLs_W, WP.noLs_S, WP.noLs_N, WP.noLs_I, WP.noLs_X, WP.noLs_app, L2.atI_last, WP.atI_0, WP.atI_1, WP.atI_2, WP.atI_3, Option.some.injEq, exists_eq_left', WP.lenW_H, WP.lenW_R, WP.lenW_S, WP.seqW_H, WP.seqW_R, WP.seqW_S, WP.spH_eq, WP.spHN_eq, WP.spHS_eq, WP.spHSN_eq, WP.spHSNN_eq, WP.spHSS_eq, WP.spHSSS_eq, WP.argS_H, WP.argS_S, WP.argS_N, WP.argS_I, TH.eqv_int, TH.eqv_nat, TH.eqv_str, TH.eqv_ex, TH.eqv_W, TH.eqv_R, TH.eqv_H, TH.eqv_S, WP.shp_W, WP.shp_R, WP.shp_H, WP.shp_S, WP.shp_int, WP.shp_bool, WP.shp_none, List.map_cons, List.map_nil, List.append_assoc, List.cons_append, List.nil_append, cutW_H_m1 hl1, ixW_H_m1 hl1, cutW_R_lo1, dR_A, binW_R, hz, dH_one, binW_H, hz2, el, lastA_len g, Int.toNat_natCast, rgD_len]
    refine ⟨by have := (g.rows _ (row_mem (h := h) (i := h.length - 1) (by omega))).2; rw [List.length_drop]; omega, by rw [List.length_dropLast]; omega, by omega, by omega, ⟨by omega, rfl⟩, ?_⟩
    have gA := lastA_good g
    have q := safe_lc gA (ss := ss) (t := t) (n := n) (c := c + 40) (m := m) (y4 := .im (.list [])) (k := fun zs _ => W__law_open_house_2 (endT t n (c + 40 + 1) (rl__law_open_house (dN m))) [.sc ss, .tw t n (c + 40), .im (dN m), .im (dH (lastA h)), .im (.list zs), .no, .no]) (oh2 gA ⟨h1, h2⟩ (by omega) (by rw [lastA_len g]; exact hm))
    rw [lastA_len g] at q
    exact q
theorem fd__law_open_house (L : Lnk K mg "_law_open_house" s__law_open_house ["script", "town", "halls"]) (T : Bts mg) (F__law_house : FnD P w K mg base 3 "_law_house" (spT K kd__law_house pr__law_house rl__law_house)) (F__law_safe : FnD P w K mg base 2 "_law_safe" (spW K 2 sp__law_safe)) (F__law_pick : FnD P w K mg base 2 "_law_pick" (spT K kd__law_pick pr__law_pick rl__law_pick)) : FnD P w K mg base 4 "_law_open_house" (spT K kd__law_open_house pr__law_open_house rl__law_open_house) := L.fnD fun f fd F => Fun.okT F sc__law_open_house (by decide) (c__law_open_house T F__law_house F__law_safe F__law_pick) l__law_open_house
end
end TK

namespace TK
open PySem L2 TH WP PyProof.Rows
section
variable {P : Program} {w : World} {K : PySem.W.Frag} {mg : Str → Option Value} {base : Heap} {f : Addr} {fd : FuncData}
/-! ### law: slots 0 script 1 town 2 house 3 hall 4 standing 5 names 6 states 7 gone 8 come 9 way 10 moves 11 later 12 length 13 people 14 many 15 whole 16 rest 17 due 18 name 19 some 20 one 21 first 22 second 23 both 24 x 25 y -/
abbrev N_law : List Str := ["script", "town", "house", "hall", "standing", "names", "states", "gone", "come", "way", "moves", "later", "length", "people", "many", "whole", "rest", "due", "name", "some", "one", "first", "second", "both", "x", "y"]
theorem sc_law : FnScope N_law ["script"] (defScope s_law) := ⟨rfl, rfl, rfl, by decide +kernel, rfl, by decide +kernel, by decide +kernel⟩
def W_law_1 : WS := (wSeq (wApp 6 (wV 11)) wNil)
def W_law_2 : WS := (wSeq (wIfS (tCmp .NotEq true (wCall sum2W (waCons true (wIx true (wCall (arW 4 sp_send) (waCons true (wV 2) (waCons true (wV 4) (waCons true (wV 3) (waCons true (wV 14) waNil))))) (wC (.int 0))) waNil)) (wV 14)) (wSeq (wRet (wC (.bool false))) wNil) wNil) wNil)
def W_law_3 : WS := (wSeq (wIfS (tCmp .NotEq true (wCall (arW 4 sp_send) (waCons true (wV 2) (waCons true (wV 4) (waCons true (wV 3) (waCons true (wV 14) waNil))))) (wTup (waCons true (wCall tupleW (waCons true (wV 17) waNil)) (waCons true (wIx true (wV 6) (wV 16)) waNil)))) (wSeq (wRet (wC (.bool false))) wNil) wNil) W_law_2)
def W_law_4 : WS := (wSeq (wSet 17 (pLst waNil)) (wSeq (wFor (wiV 5) (twN 18) (wSeq (wSet 19 (pIm (wCall lenW (waCons true (wLc true (wiE (wSl true (wV 7) (woS (wV 8)) woN)) (twN 20) (tCmp .Eq true (wV 20) (wV 18)) (wV 20) [20]) waNil)))) (wSeq (wApp 17 (wBin .Add true (wBin .Mult true (wV 15) (wV 19)) (wCall lenW (waCons true (wLc true (wiE (wSl true (wV 7) woN (woS (wV 16)))) (twN 20) (tCmp .Eq true (wV 20) (wV 18)) (wV 20) [20]) waNil)))) wNil))) W_law_3))
def W_law_5 : WS := (wSeq (wSet 21 (pIm (wCall (arW 4 sp_send) (waCons true (wV 2) (waCons true (wV 4) (waCons true (wV 3) (waCons true (wC (.int 3)) waNil))))))) (wSeq (wSet 22 (pIm (wCall (arW 4 sp_send) (waCons true (wV 2) (waCons true (wIx true (wV 21) (wC (.int 1))) (waCons true (wV 3) (waCons true (wC (.int 4)) waNil))))))) (wSeq (wSet 23 (pIm (wCall (arW 4 sp_send) (waCons true (wV 2) (waCons true (wV 4) (waCons true (wV 3) (waCons true (wC (.int 7)) waNil))))))) (wSeq (wRet (wCmp .Eq true (wV 23) (wTup (waCons true (wCall tupleW (waCons true (wLc true (wiZ true (wIx true (wV 21) (wC (.int 0))) (wIx true (wV 22) (wC (.int 0)))) (twT [24, 25]) tYesW (wBin .Add true (wV 24) (wV 25)) [24, 25]) waNil)) (waCons true (wIx true (wV 22) (wC (.int 1))) waNil))))) wNil))))
def W_law_6 : WS := (wSeq (wSet 13 (pIm (wDrw 1 0 kd__law_draw pr__law_draw rl__law_draw (wC (.int 1000000001))))) (wSeq (wFor (wiE (wTup (waCons false (wC (.int 0)) (waCons false (wC (.int 1)) (waCons false (wV 8) (waCons false (wBin .Add true (wV 8) (wV 12)) (waCons true (wDrw 1 0 kd__law_draw pr__law_draw rl__law_draw (wC (.int 60))) (waCons true (wV 13) (waCons true (wC (.int 1000000000)) waNil))))))))) (twN 14) (wSeq (wPar 15 16 (pIm (wC (.int 0))) (pIm (wV 14))) (wSeq (wIfS (tCmp .Gt true (wV 14) (wV 8)) (wSeq (wSet 15 (pIm (wBin .FloorDiv true (wBin .Sub true (wV 14) (wV 8)) (wV 12)))) (wSeq (wSet 16 (pIm (wBin .Add true (wV 8) (wBin .Mod true (wBin .Sub true (wV 14) (wV 8)) (wV 12))))) wNil)) wNil) W_law_4))) W_law_5))
def W_law_7 : WS := (wSeq (wSet 12 (pIm (wBin .Sub true (wCall lenW (waCons true (wV 7) waNil)) (wV 8)))) (wSeq (wIfS (tCmp .NotEq true (wCall (arW 3 sp_returns) (waCons true (wV 2) (waCons true (wV 4) (waCons true (wV 3) waNil)))) (wTup (waCons true (wV 8) (waCons true (wV 12) waNil)))) (wSeq (wRet (wC (.bool false))) wNil) wNil) W_law_6))
def W_law : WS := (wSeq (wTown 1 0) (wSeq (wAsg (twT [2, 3]) (wDrw 1 0 kd__law_open_house pr__law_open_house rl__law_open_house (wC (.int 4)))) (wSeq (wSet 4 (pIm (wDrw 1 0 kd__law_standing pr__law_standing rl__law_standing (wV 2)))) (wSeq (wSet 5 (pIm (wCall (arW 1 sp__law_exits) (waCons true (wV 2) waNil)))) (wSeq (wPar 6 7 (pLst (waCons true (wV 4) waNil)) (pLst waNil)) (wSeq (wSet 8 (pIm (wC .none))) (wSeq (wWhile (tCmp .Is true (wV 8) (wC .none)) (wSeq (wAsg (twT [9, 10, 11]) (wCall (arW 3 sp__law_walk) (waCons true (wV 2) (waCons true (wIx true (wV 6) (wNeg (wC (.int 1)))) (waCons true (wV 3) waNil))))) (wSeq (wApp 7 (wV 9)) (wSeq (wIfS (tCmp .In true (wV 11) (wV 6)) (wSeq (wSet 8 (pIm (wIdx true (wV 6) (wV 11)))) wNil) wNil) W_law_1)))) W_law_7)))))))
theorem c_law (T : Bts mg) (F__law_town : FnD P w K mg base 1 "_law_town" (spTown K)) (F__law_open_house : FnD P w K mg base 4 "_law_open_house" (spT K kd__law_open_house pr__law_open_house rl__law_open_house)) (F__law_standing : FnD P w K mg base 2 "_law_standing" (spT K kd__law_standing pr__law_standing rl__law_standing)) (F__law_exits : FnD P w K mg base 1 "_law_exits" (spW K 1 sp__law_exits)) (F__law_walk : FnD P w K mg base 1 "_law_walk" (spW K 3 sp__law_walk)) (F_returns : FnD P w K mg base 8 "returns" (spW K 3 sp_returns)) (F__law_draw : FnD P w K mg base 1 "_law_draw" (spT K kd__law_draw pr__law_draw rl__law_draw)) (F_send : FnD P w K mg base 7 "send" (spW K 4 sp_send)) : ∀ (cdv : Value) (A : Around) (outer : List Env) (s : Shared) (H : Hp) (E : XK), Room 8 (A.deeper (envOfC "law" (defScope s_law) s.heap.objs.size f cdv)) → SndS (CxF P w K mg base N_law "law" s_law f cdv A outer s H E) (defBody s_law) W_law := fun cdv A outer s H E hr =>
  (ss_cons (s1_town F__law_town (hr.mono (by decide)) (by rfl) sc_law.nd (i := 1) (j := 0) rfl (loc_of rfl) rfl (vis_of rfl)) (ss_cons (s1_asg (pg_tup rfl (pgs_cons (pg_name (i := 2) sc_law.nd rfl (loc_of rfl)) (pgs_cons (pg_name (i := 3) sc_law.nd rfl (loc_of rfl)) pgs_nil))) (rx_tup [2, 3]) (sn_draw F__law_open_house (hr.mono (by decide)) (by rfl) (i := 1) (j := 0) rfl (vis_of rfl) rfl (vis_of rfl) sn_int)) (ss_cons (s1_set (i := 4) sc_law.nd rfl (loc_of rfl) (sp_im (sn_draw F__law_standing (hr.mono (by decide)) (by rfl) (i := 1) (j := 0) rfl (vis_of rfl) rfl (vis_of rfl) (sn_var (i := 2) rfl (vis_of rfl))))) (ss_cons (s1_set (i := 5) sc_law.nd rfl (loc_of rfl) (sp_im (sn_call F__law_exits (hr.mono (by decide)) (by rfl) (sa_cons (sn_var (i := 2) rfl (vis_of rfl)) sa_nil)))) (ss_cons (s1_par (i := 6) (j := 7) rfl sc_law.nd rfl rfl (by decide) rfl rfl (sp_lst (sa_cons (sn_var (i := 4) rfl (vis_of rfl)) sa_nil)) (sp_lst sa_nil) (by rfl)) (ss_cons (s1_set (i := 8) sc_law.nd rfl (loc_of rfl) (sp_im sn_non)) (ss_cons (s1_while PassesOwn.never (st_cmp hr (sn_var (i := 8) rfl (vis_of rfl)) sn_non (nomark _)) (ss_cons (s1_asg (pg_tup rfl (pgs_cons (pg_name (i := 9) sc_law.nd rfl (loc_of rfl)) (pgs_cons (pg_name (i := 10) sc_law.nd rfl (loc_of rfl)) (pgs_cons (pg_name (i := 11) sc_law.nd rfl (loc_of rfl)) pgs_nil)))) (rx_tup [9, 10, 11]) (sn_call F__law_walk (hr.mono (by decide)) (by rfl) (sa_cons (sn_var (i := 2) rfl (vis_of rfl)) (sa_cons (sn_ix (sn_var (i := 6) rfl (vis_of rfl)) (sn_neg sn_int)) (sa_cons (sn_var (i := 3) rfl (vis_of rfl)) sa_nil))))) (ss_cons (s1_append (i := 7) rfl (vis_of rfl) (sn_var (i := 9) rfl (vis_of rfl))) (ss_cons (s1_if (st_cmp hr (sn_var (i := 11) rfl (vis_of rfl)) (sn_var (i := 6) rfl (vis_of rfl)) (by rfl)) (ss_cons (s1_set (i := 8) sc_law.nd rfl (loc_of rfl) (sp_im (sn_index hr (sn_var (i := 6) rfl (vis_of rfl)) (sn_var (i := 11) rfl (vis_of rfl))))) ss_nil) ss_nil) (ss_cons (s1_append (i := 6) rfl (vis_of rfl) (sn_var (i := 11) rfl (vis_of rfl))) ss_nil))))) (ss_cons (s1_set (i := 12) sc_law.nd rfl (loc_of rfl) (sp_im (sn_bin (sn_callB ok_len (by rfl) T.len (by decide +kernel) (sa_cons (sn_var (i := 7) rfl (vis_of rfl)) sa_nil)) (sn_var (i := 8) rfl (vis_of rfl))))) (ss_cons (s1_if (st_cmp hr (sn_call F_returns (hr.mono (by decide)) (by rfl) (sa_cons (sn_var (i := 2) rfl (vis_of rfl)) (sa_cons (sn_var (i := 4) rfl (vis_of rfl)) (sa_cons (sn_var (i := 3) rfl (vis_of rfl)) sa_nil)))) (sn_tup (sa_cons (sn_var (i := 8) rfl (vis_of rfl)) (sa_cons (sn_var (i := 12) rfl (vis_of rfl)) sa_nil))) (nomark _)) (ss_cons (s1_ret sn_bl) ss_nil) ss_nil) (ss_cons (s1_set (i := 13) sc_law.nd rfl (loc_of rfl) (sp_im (sn_draw F__law_draw (hr.mono (by decide)) (by rfl) (i := 1) (j := 0) rfl (vis_of rfl) rfl (vis_of rfl) sn_int))) (ss_cons (s1_for PassesOwn.never rfl (si_exp (sn_tup (sa_cons sn_int (sa_cons sn_int (sa_cons (sn_var (i := 8) rfl (vis_of rfl)) (sa_cons (sn_bin (sn_var (i := 8) rfl (vis_of rfl)) (sn_var (i := 12) rfl (vis_of rfl))) (sa_cons (sn_draw F__law_draw (hr.mono (by decide)) (by rfl) (i := 1) (j := 0) rfl (vis_of rfl) rfl (vis_of rfl) sn_int) (sa_cons (sn_var (i := 13) rfl (vis_of rfl)) (sa_cons sn_int sa_nil))))))))) (pg_name (i := 14) sc_law.nd rfl (loc_of rfl)) (rx_name 14) (ss_cons (s1_par (i := 15) (j := 16) rfl sc_law.nd rfl rfl (by decide) rfl rfl (sp_im sn_int) (sp_im (sn_var (i := 14) rfl (vis_of rfl))) (by rfl)) (ss_cons (s1_if (st_cmp hr (sn_var (i := 14) rfl (vis_of rfl)) (sn_var (i := 8) rfl (vis_of rfl)) (nomark _)) (ss_cons (s1_set (i := 15) sc_law.nd rfl (loc_of rfl) (sp_im (sn_bin (sn_bin (sn_var (i := 14) rfl (vis_of rfl)) (sn_var (i := 8) rfl (vis_of rfl))) (sn_var (i := 12) rfl (vis_of rfl))))) (ss_cons (s1_set (i := 16) sc_law.nd rfl (loc_of rfl) (sp_im (sn_bin (sn_var (i := 8) rfl (vis_of rfl)) (sn_bin (sn_bin (sn_var (i := 14) rfl (vis_of rfl)) (sn_var (i := 8) rfl (vis_of rfl))) (sn_var (i := 12) rfl (vis_of rfl)))))) ss_nil)) ss_nil) (ss_cons (s1_set (i := 17) sc_law.nd rfl (loc_of rfl) (sp_lst sa_nil)) (ss_cons (s1_for PassesOwn.never rfl (si_var (i := 5) rfl (vis_of rfl)) (pg_name (i := 18) sc_law.nd rfl (loc_of rfl)) (rx_name 18) (ss_cons (s1_set (i := 19) sc_law.nd rfl (loc_of rfl) (sp_im (sn_callB ok_len (by rfl) T.len (by decide +kernel) (sa_cons (sn_lc (own := [("one", 20)]) rfl sc_law.nd (si_exp (sn_sl (sn_var (i := 7) rfl (vis_of rfl)) (so_some (sn_var (i := 8) rfl (vis_of rfl))) so_none)) (blkOk_by (N := N_law) (sc := defScope s_law) (by decide +kernel)) (fun _ _ _ _ _ => (pg_name (i := 20) sc_law.nd rfl (loc_of rfl) (.inr rfl))) (rx_name 20) (by decide) (keep_name (by decide)) (fun _ _ _ _ _ => (sts_one (st_cmp hr (sn_var (i := 20) rfl (vis_of rfl)) (sn_var (i := 18) rfl (vis_of rfl)) (nomark _)))) (fun _ _ _ _ _ => (sn_var (i := 20) rfl (vis_of rfl)))) sa_nil)))) (ss_cons (s1_append (i := 17) rfl (vis_of rfl) (sn_bin (sn_bin (sn_var (i := 15) rfl (vis_of rfl)) (sn_var (i := 19) rfl (vis_of rfl))) (sn_callB ok_len (by rfl) T.len (by decide +kernel) (sa_cons (sn_lc (own := [("one", 20)]) rfl sc_law.nd (si_exp (sn_sl (sn_var (i := 7) rfl (vis_of rfl)) so_none (so_some (sn_var (i := 16) rfl (vis_of rfl))))) (blkOk_by (N := N_law) (sc := defScope s_law) (by decide +kernel)) (fun _ _ _ _ _ => (pg_name (i := 20) sc_law.nd rfl (loc_of rfl) (.inr rfl))) (rx_name 20) (by decide) (keep_name (by decide)) (fun _ _ _ _ _ => (sts_one (st_cmp hr (sn_var (i := 20) rfl (vis_of rfl)) (sn_var (i := 18) rfl (vis_of rfl)) (nomark _)))) (fun _ _ _ _ _ => (sn_var (i := 20) rfl (vis_of rfl)))) sa_nil)))) ss_nil))) (ss_cons (s1_if (st_cmp hr (sn_call F_send (hr.mono (by decide)) (by rfl) (sa_cons (sn_var (i := 2) rfl (vis_of rfl)) (sa_cons (sn_var (i := 4) rfl (vis_of rfl)) (sa_cons (sn_var (i := 3) rfl (vis_of rfl)) (sa_cons (sn_var (i := 14) rfl (vis_of rfl)) sa_nil))))) (sn_tup (sa_cons (sn_callTy ok_tuple (by rfl) T.tuple (by decide +kernel) (sa_cons (sn_var (i := 17) rfl (vis_of rfl)) sa_nil)) (sa_cons (sn_ix (sn_var (i := 6) rfl (vis_of rfl)) (sn_var (i := 16) rfl (vis_of rfl))) sa_nil))) (nomark _)) (ss_cons (s1_ret sn_bl) ss_nil) ss_nil) (ss_cons (s1_if (st_cmp hr (sn_callB (ok_sum2 rfl) (by rfl) T.sum (by decide +kernel) (sa_cons (sn_ix (sn_call F_send (hr.mono (by decide)) (by rfl) (sa_cons (sn_var (i := 2) rfl (vis_of rfl)) (sa_cons (sn_var (i := 4) rfl (vis_of rfl)) (sa_cons (sn_var (i := 3) rfl (vis_of rfl)) (sa_cons (sn_var (i := 14) rfl (vis_of rfl)) sa_nil))))) sn_int) sa_nil)) (sn_var (i := 14) rfl (vis_of rfl)) (nomark _)) (ss_cons (s1_ret sn_bl) ss_nil) ss_nil) ss_nil))))))) (ss_cons (s1_set (i := 21) sc_law.nd rfl (loc_of rfl) (sp_im (sn_call F_send (hr.mono (by decide)) (by rfl) (sa_cons (sn_var (i := 2) rfl (vis_of rfl)) (sa_cons (sn_var (i := 4) rfl (vis_of rfl)) (sa_cons (sn_var (i := 3) rfl (vis_of rfl)) (sa_cons sn_int sa_nil))))))) (ss_cons (s1_set (i := 22) sc_law.nd rfl (loc_of rfl) (sp_im (sn_call F_send (hr.mono (by decide)) (by rfl) (sa_cons (sn_var (i := 2) rfl (vis_of rfl)) (sa_cons (sn_ix (sn_var (i := 21) rfl (vis_of rfl)) sn_int) (sa_cons (sn_var (i := 3) rfl (vis_of rfl)) (sa_cons sn_int sa_nil))))))) (ss_cons (s1_set (i := 23) sc_law.nd rfl (loc_of rfl) (sp_im (sn_call F_send (hr.mono (by decide)) (by rfl) (sa_cons (sn_var (i := 2) rfl (vis_of rfl)) (sa_cons (sn_var (i := 4) rfl (vis_of rfl)) (sa_cons (sn_var (i := 3) rfl (vis_of rfl)) (sa_cons sn_int sa_nil))))))) (ss_cons (s1_ret (sn_cmp hr (sn_var (i := 23) rfl (vis_of rfl)) (sn_tup (sa_cons (sn_callTy ok_tuple (by rfl) T.tuple (by decide +kernel) (sa_cons (sn_lc (own := [("x", 24), ("y", 25)]) (g := gTup _ 2 (gNames [24, 25])) rfl sc_law.nd (si_zip (sn_ix (sn_var (i := 21) rfl (vis_of rfl)) sn_int) (sn_ix (sn_var (i := 22) rfl (vis_of rfl)) sn_int) (by rfl) T.zip) (blkOk_by (N := N_law) (sc := defScope s_law) (by decide +kernel)) (fun _ _ _ _ _ => (pg_tup rfl (pgs_cons (pg_name (i := 24) sc_law.nd rfl (loc_of rfl) (.inr rfl)) (pgs_cons (pg_name (i := 25) sc_law.nd rfl (loc_of rfl) (.inr rfl)) pgs_nil)))) (rx_tup [24, 25]) (by decide) (keep_tup (by decide)) (fun _ _ _ _ _ => sts_nil) (fun _ _ _ _ _ => (sn_bin (sn_var (i := 24) rfl (vis_of rfl)) (sn_var (i := 25) rfl (vis_of rfl))))) sa_nil)) (sa_cons (sn_ix (sn_var (i := 22) rfl (vis_of rfl)) sn_int) sa_nil))) (nomark _))) ss_nil)))))))))))))))
section
variable {ss : List Int} {t : Addr} {h : House} {s : Stg} {x c n p m : Nat} {E : EndsW}
abbrev R11 (ss : List Int) (t : Addr) (c : Nat) (h : House) (x : Nat) (s : Stg) (n p : Nat) (y9 y10 y11 : SV) : List SV := [.sc ss, .tw t ss.length c, .im (dH h), .im (dN x), .im (dS s), .im (.list ((exitsOf h).map dX)), .ml ((stL h x s (n + 1)).map dS), .ml ((exL h x s n).map dX), .im (dN p), y9, y10, y11]
theorem sh_sent (m : Nat) : Sh 2 (dSent h x s m) := sh_tup2 (sh_tup (sh_map (fun _ => sh_int _) _)) (sh_S _)
theorem spsendL {k : Nat} {Q : PyData → Prop} {z : PyData} (e : z = dN k) : sp_send [dH h, dS s, dN x, z] Q = ((OkS h s x ∧ k ≤ 1000000000) ∧ Q (dSent h x s k)) := by subst e; exact spHSNN_eq
theorem q3 (o : OkS h s x) (hm : m ≤ 1000000000) {rest : Nat} (hr : rest ≤ n) (hn : n ≤ 81) (hnit : nit h x rest s = nit h x m s) {y9 y10 y11 y12 y13 y15 y18 y19 : SV}
    (hE : E.nx (R11 ss t c h x s n p y9 y10 y11 ++ [y12, y13, .im (dN m), y15, .im (dN rest), .ml ((cntL h x s m).map dN), y18, y19, .no, .no, .no, .no, .no, .no])) : W_law_3 E (R11 ss t c h x s n p y9 y10 y11 ++ [y12, y13, .im (dN m), y15, .im (dN rest), .ml ((cntL h x s m).map dN), y18, y19, .no, .no, .no, .no, .no, .no]) := by
  have hg : (stL h x s (n + 1))[rest]? = some (nit h x m s) := by
    unfold stL
    rw [List.getElem?_map, List.getElem?_range (by omega), ← hnit]
    rfl
  have e1 : PyData.tuple [.tuple ((cntL h x s m).map dN), dS (nit h x m s)] = dSent h x s m := rfl
  unfold R11 at *
  simp only [List.cons_append, List.nil_append] at *
  simp only [W_law_3, WP.shp, WP.wSeq, WP.wNil, WP.wExpr, WP.wCall, WP.arW, WP.waCons, WP.waNil, WP.wV, WP.wC, WP.wIfS, WP.tNot, WP.tVal, WP.wSet, WP.pLst, WP.pIm, WP.pList, WP.pLrg, WP.tAnd, WP.tOr, WP.tCmp, WP.tChain, WP.wChain, WP.wCmp, WP.wBin, WP.wIsi, WP.wIx, WP.wNeg, WP.wNot, WP.wAnd, WP.wOr, WP.wIf, WP.wAsg, WP.twN, WP.puts, WP.wApp, WP.wRet, WP.wRetN, WP.wAbs, WP.wPass, WP.wBrk, WP.wCnt, WP.wTup, WP.wLst, WP.wSl, WP.woN, WP.woS, WP.wLrg, WP.wDrw, WP.wFor, WP.wFz, WP.wPar, WP.wPar3, WP.wSetIx, WP.wiV, WP.wiE, WP.wiR, WP.wiZ, WP.gs, WP.wIdx, WP.wCount, WP.wLc, WP.tYesW, WP.okF, WP.wipeS, WP.getK.eq_1, WP.getK.eq_2, WP.getK.eq_3, WP.asL.eq_1, WP.binW.eq_1, WP.binW.eq_2, WP.binW.eq_3, WP.binW.eq_4, WP.binW.eq_5, WP.binW.eq_6, WP.binW.eq_7, WP.binW.eq_8, WP.binW.eq_9, WP.binW.eq_10, WP.twT.eq_1, WP.fzK.eq_1, WP.fzK.eq_2, WP.fzK.eq_3, WP.itK.eq_1, WP.itK.eq_2, WP.zipW.eq_1, WP.seqW.eq_1, WP.seqW.eq_2, WP.cutW.eq_1, WP.cutW.eq_2, WP.asML.eq_1, WP.asI.eq_1, WP.asB.eq_1, WP.asN.eq_1, WP.cmpB.eq_1, WP.cmpB.eq_2, WP.cmpB.eq_3, WP.cmpB.eq_4, WP.cmpB.eq_5, WP.cmpB.eq_6, WP.cmpB.eq_7, WP.cmpB.eq_8, WP.cmpB.eq_9, WP.cmpB.eq_10, WP.cmpB.eq_11, WP.cmpB.eq_12, WP.cmpB.eq_13, WP.cmpB.eq_14, WP.ixW.eq_1, WP.ixW.eq_2, WP.idxW.eq_1, WP.isLD.eq_1, WP.lenW.eq_1, WP.lenW.eq_2, WP.tupleW.eq_1, WP.listW.eq_1, WP.listW.eq_2, WP.intW.eq_1, WP.intW.eq_2, WP.absW.eq_1, WP.allW.eq_1, WP.anyW.eq_1, WP.sumW.eq_1, WP.twW.eq_1, WP.cntW.eq_1, WP.itemsN.eq_1, WP.itemsN.eq_2, TH.noL, TH.noLs, true_or, or_true, true_and, and_true, Bool.true_or, Bool.or_true, Bool.false_or, Bool.or_false, Bool.true_and, Bool.and_true, Bool.false_and, Bool.and_false, Bool.not_true, Bool.not_false, reduceIte, List.set_cons_zero, List.set_cons_succ, List.length_cons, List.length_nil, Nat.zero_add, Bool.false_eq_true, Nat.reduceAdd, Nat.reduceLT, Nat.reduceLeDiff, Nat.reduceEqDiff, Int.reduceNeg, decide_true, decide_false, WP.isStr_dX, WP.isStr_int, TH.noL_H, TH.noL_R, TH.noL_S, TH.noL_W, WP.noLs_W, WP.noLs_S, WP.noLs_N, WP.noLs_I, WP.noLs_X, WP.noLs_app, L2.atI_last, WP.atI_0, WP.atI_1, WP.atI_2, WP.atI_3, Option.some.injEq, exists_eq_left', WP.lenW_H, WP.lenW_R, WP.lenW_S, WP.seqW_H, WP.seqW_R, WP.seqW_S, WP.spH_eq, WP.spHN_eq, WP.spHS_eq, WP.spHSN_eq, WP.spHSNN_eq, WP.spHSS_eq, WP.spHSSS_eq, WP.argS_H, WP.argS_S, WP.argS_N, WP.argS_I, TH.eqv_int, TH.eqv_nat, TH.eqv_str, TH.eqv_ex, TH.eqv_W, TH.eqv_R, TH.eqv_H, TH.eqv_S, WP.shp_W, WP.shp_R, WP.shp_H, WP.shp_S, WP.shp_int, WP.shp_bool, WP.shp_none, List.map_cons, List.map_nil, List.append_assoc, List.cons_append, List.nil_append, sp_send, o, hm, noL_sent, ixW_LM hg]
  rw [e1]
  simp only [WP.shp, WP.wSeq, WP.wNil, WP.wExpr, WP.wCall, WP.arW, WP.waCons, WP.waNil, WP.wV, WP.wC, WP.wIfS, WP.tNot, WP.tVal, WP.wSet, WP.pLst, WP.pIm, WP.pList, WP.pLrg, WP.tAnd, WP.tOr, WP.tCmp, WP.tChain, WP.wChain, WP.wCmp, WP.wBin, WP.wIsi, WP.wIx, WP.wNeg, WP.wNot, WP.wAnd, WP.wOr, WP.wIf, WP.wAsg, WP.twN, WP.puts, WP.wApp, WP.wRet, WP.wRetN, WP.wAbs, WP.wPass, WP.wBrk, WP.wCnt, WP.wTup, WP.wLst, WP.wSl, WP.woN, WP.woS, WP.wLrg, WP.wDrw, WP.wFor, WP.wFz, WP.wPar, WP.wPar3, WP.wSetIx, WP.wiV, WP.wiE, WP.wiR, WP.wiZ, WP.gs, WP.wIdx, WP.wCount, WP.wLc, WP.tYesW, WP.okF, WP.wipeS, WP.getK.eq_1, WP.getK.eq_2, WP.getK.eq_3, WP.asL.eq_1, WP.binW.eq_1, WP.binW.eq_2, WP.binW.eq_3, WP.binW.eq_4, WP.binW.eq_5, WP.binW.eq_6, WP.binW.eq_7, WP.binW.eq_8, WP.binW.eq_9, WP.binW.eq_10, WP.twT.eq_1, WP.fzK.eq_1, WP.fzK.eq_2, WP.fzK.eq_3, WP.itK.eq_1, WP.itK.eq_2, WP.zipW.eq_1, WP.seqW.eq_1, WP.seqW.eq_2, WP.cutW.eq_1, WP.cutW.eq_2, WP.asML.eq_1, WP.asI.eq_1, WP.asB.eq_1, WP.asN.eq_1, WP.cmpB.eq_1, WP.cmpB.eq_2, WP.cmpB.eq_3, WP.cmpB.eq_4, WP.cmpB.eq_5, WP.cmpB.eq_6, WP.cmpB.eq_7, WP.cmpB.eq_8, WP.cmpB.eq_9, WP.cmpB.eq_10, WP.cmpB.eq_11, WP.cmpB.eq_12, WP.cmpB.eq_13, WP.cmpB.eq_14, WP.ixW.eq_1, WP.ixW.eq_2, WP.idxW.eq_1, WP.isLD.eq_1, WP.lenW.eq_1, WP.lenW.eq_2, WP.tupleW.eq_1, WP.listW.eq_1, WP.listW.eq_2, WP.intW.eq_1, WP.intW.eq_2, WP.absW.eq_1, WP.allW.eq_1, WP.anyW.eq_1, WP.sumW.eq_1, WP.twW.eq_1, WP.cntW.eq_1, WP.itemsN.eq_1, WP.itemsN.eq_2, TH.noL, TH.noLs, true_or, or_true, true_and, and_true, Bool.true_or, Bool.or_true, Bool.false_or, Bool.or_false, Bool.true_and, Bool.and_true, Bool.false_and, Bool.and_false, Bool.not_true, Bool.not_false, reduceIte, List.set_cons_zero, List.set_cons_succ, List.length_cons, List.length_nil, Nat.zero_add, Bool.false_eq_true, Nat.reduceAdd, Nat.reduceLT, Nat.reduceLeDiff, Nat.reduceEqDiff, Int.reduceNeg, decide_true, decide_false, WP.isStr_dX, WP.isStr_int, TH.noL_H, TH.noL_R, TH.noL_S, TH.noL_W, WP.noLs_W, WP.noLs_S, WP.noLs_N, WP.noLs_I, WP.noLs_X, WP.noLs_app, L2.atI_last, WP.atI_0, WP.atI_1, WP.atI_2, WP.atI_3, Option.some.injEq, exists_eq_left', WP.lenW_H, WP.lenW_R, WP.lenW_S, WP.seqW_H, WP.seqW_R, WP.seqW_S, WP.spH_eq, WP.spHN_eq, WP.spHS_eq, WP.spHSN_eq, WP.spHSNN_eq, WP.spHSS_eq, WP.spHSSS_eq, WP.argS_H, WP.argS_S, WP.argS_N, WP.argS_I, TH.eqv_int, TH.eqv_nat, TH.eqv_str, TH.eqv_ex, TH.eqv_W, TH.eqv_R, TH.eqv_H, TH.eqv_S, WP.shp_W, WP.shp_R, WP.shp_H, WP.shp_S, WP.shp_int, WP.shp_bool, WP.shp_none, List.map_cons, List.map_nil, List.append_assoc, List.cons_append, List.nil_append, sh_shp (sh_sent m), eqv_shp (sh_shp (sh_sent m))]
  have e2 : ∀ k : PyData → Prop, ixW (dSent h x s m) (.int 0) k = k (.tuple ((cntL h x s m).map dN)) := fun k => ex_some atI_0
  have e3 : (cntL h x s m).sum = m := sum_cnt o m
  simp only [W_law_2, WP.shp, WP.wSeq, WP.wNil, WP.wExpr, WP.wCall, WP.arW, WP.waCons, WP.waNil, WP.wV, WP.wC, WP.wIfS, WP.tNot, WP.tVal, WP.wSet, WP.pLst, WP.pIm, WP.pList, WP.pLrg, WP.tAnd, WP.tOr, WP.tCmp, WP.tChain, WP.wChain, WP.wCmp, WP.wBin, WP.wIsi, WP.wIx, WP.wNeg, WP.wNot, WP.wAnd, WP.wOr, WP.wIf, WP.wAsg, WP.twN, WP.puts, WP.wApp, WP.wRet, WP.wRetN, WP.wAbs, WP.wPass, WP.wBrk, WP.wCnt, WP.wTup, WP.wLst, WP.wSl, WP.woN, WP.woS, WP.wLrg, WP.wDrw, WP.wFor, WP.wFz, WP.wPar, WP.wPar3, WP.wSetIx, WP.wiV, WP.wiE, WP.wiR, WP.wiZ, WP.gs, WP.wIdx, WP.wCount, WP.wLc, WP.tYesW, WP.okF, WP.wipeS, WP.getK.eq_1, WP.getK.eq_2, WP.getK.eq_3, WP.asL.eq_1, WP.binW.eq_1, WP.binW.eq_2, WP.binW.eq_3, WP.binW.eq_4, WP.binW.eq_5, WP.binW.eq_6, WP.binW.eq_7, WP.binW.eq_8, WP.binW.eq_9, WP.binW.eq_10, WP.twT.eq_1, WP.fzK.eq_1, WP.fzK.eq_2, WP.fzK.eq_3, WP.itK.eq_1, WP.itK.eq_2, WP.zipW.eq_1, WP.seqW.eq_1, WP.seqW.eq_2, WP.cutW.eq_1, WP.cutW.eq_2, WP.asML.eq_1, WP.asI.eq_1, WP.asB.eq_1, WP.asN.eq_1, WP.cmpB.eq_1, WP.cmpB.eq_2, WP.cmpB.eq_3, WP.cmpB.eq_4, WP.cmpB.eq_5, WP.cmpB.eq_6, WP.cmpB.eq_7, WP.cmpB.eq_8, WP.cmpB.eq_9, WP.cmpB.eq_10, WP.cmpB.eq_11, WP.cmpB.eq_12, WP.cmpB.eq_13, WP.cmpB.eq_14, WP.ixW.eq_1, WP.ixW.eq_2, WP.idxW.eq_1, WP.isLD.eq_1, WP.lenW.eq_1, WP.lenW.eq_2, WP.tupleW.eq_1, WP.listW.eq_1, WP.listW.eq_2, WP.intW.eq_1, WP.intW.eq_2, WP.absW.eq_1, WP.allW.eq_1, WP.anyW.eq_1, WP.sumW.eq_1, WP.twW.eq_1, WP.cntW.eq_1, WP.itemsN.eq_1, WP.itemsN.eq_2, TH.noL, TH.noLs, true_or, or_true, true_and, and_true, Bool.true_or, Bool.or_true, Bool.false_or, Bool.or_false, Bool.true_and, Bool.and_true, Bool.false_and, Bool.and_false, Bool.not_true, Bool.not_false, reduceIte, List.set_cons_zero, List.set_cons_succ, List.length_cons, List.length_nil, Nat.zero_add, Bool.false_eq_true, Nat.reduceAdd, Nat.reduceLT, Nat.reduceLeDiff, Nat.reduceEqDiff, Int.reduceNeg, decide_true, decide_false, WP.isStr_dX, WP.isStr_int, TH.noL_H, TH.noL_R, TH.noL_S, TH.noL_W, WP.noLs_W, WP.noLs_S, WP.noLs_N, WP.noLs_I, WP.noLs_X, WP.noLs_app, L2.atI_last, WP.atI_0, WP.atI_1, WP.atI_2, WP.atI_3, Option.some.injEq, exists_eq_left', WP.lenW_H, WP.lenW_R, WP.lenW_S, WP.seqW_H, WP.seqW_R, WP.seqW_S, WP.spH_eq, WP.spHN_eq, WP.spHS_eq, WP.spHSN_eq, WP.spHSNN_eq, WP.spHSS_eq, WP.spHSSS_eq, WP.argS_H, WP.argS_S, WP.argS_N, WP.argS_I, TH.eqv_int, TH.eqv_nat, TH.eqv_str, TH.eqv_ex, TH.eqv_W, TH.eqv_R, TH.eqv_H, TH.eqv_S, WP.shp_W, WP.shp_R, WP.shp_H, WP.shp_S, WP.shp_int, WP.shp_bool, WP.shp_none, List.map_cons, List.map_nil, List.append_assoc, List.cons_append, List.nil_append, sp_send, o, hm, e2, sum2_TN, e3, decide_true]
  exact hE
theorem q4 (o : OkS h s x) (cr : Crs h s x n p) (hm : m ≤ 1000000000) {whole rest : Nat} (hr : rest ≤ n) (hw : whole ≤ 1000000000) (hnit : nit h x rest s = nit h x m s) (hcnt : ∀ e, TH.cnt h x s m e = whole * TH.cnt h x (nit h x p s) (n - p) e + TH.cnt h x s rest e) {y9 y10 y11 y12 y13 y17 y18 y19 : SV}
    (hE : ∀ y17 y18 y19, E.nx (R11 ss t c h x s n p y9 y10 y11 ++ [y12, y13, .im (dN m), .im (dN whole), .im (dN rest), y17, y18, y19, .no, .no, .no, .no, .no, .no])) : W_law_4 E (R11 ss t c h x s n p y9 y10 y11 ++ [y12, y13, .im (dN m), .im (dN whole), .im (dN rest), y17, y18, y19, .no, .no, .no, .no, .no, .no]) := by
  have hn81 := cr.le o
  have hpn := cr.lt
  simp only [R11, List.cons_append, List.nil_append, W_law_4, WP.shp, WP.wSeq, WP.wNil, WP.wExpr, WP.wCall, WP.arW, WP.waCons, WP.waNil, WP.wV, WP.wC, WP.wIfS, WP.tNot, WP.tVal, WP.wSet, WP.pLst, WP.pIm, WP.pList, WP.pLrg, WP.tAnd, WP.tOr, WP.tCmp, WP.tChain, WP.wChain, WP.wCmp, WP.wBin, WP.wIsi, WP.wIx, WP.wNeg, WP.wNot, WP.wAnd, WP.wOr, WP.wIf, WP.wAsg, WP.twN, WP.puts, WP.wApp, WP.wRet, WP.wRetN, WP.wAbs, WP.wPass, WP.wBrk, WP.wCnt, WP.wTup, WP.wLst, WP.wSl, WP.woN, WP.woS, WP.wLrg, WP.wDrw, WP.wFor, WP.wFz, WP.wPar, WP.wPar3, WP.wSetIx, WP.wiV, WP.wiE, WP.wiR, WP.wiZ, WP.gs, WP.wIdx, WP.wCount, WP.wLc, WP.tYesW, WP.okF, WP.wipeS, WP.getK.eq_1, WP.getK.eq_2, WP.getK.eq_3, WP.asL.eq_1, WP.binW.eq_1, WP.binW.eq_2, WP.binW.eq_3, WP.binW.eq_4, WP.binW.eq_5, WP.binW.eq_6, WP.binW.eq_7, WP.binW.eq_8, WP.binW.eq_9, WP.binW.eq_10, WP.twT.eq_1, WP.fzK.eq_1, WP.fzK.eq_2, WP.fzK.eq_3, WP.itK.eq_1, WP.itK.eq_2, WP.zipW.eq_1, WP.seqW.eq_1, WP.seqW.eq_2, WP.cutW.eq_1, WP.cutW.eq_2, WP.asML.eq_1, WP.asI.eq_1, WP.asB.eq_1, WP.asN.eq_1, WP.cmpB.eq_1, WP.cmpB.eq_2, WP.cmpB.eq_3, WP.cmpB.eq_4, WP.cmpB.eq_5, WP.cmpB.eq_6, WP.cmpB.eq_7, WP.cmpB.eq_8, WP.cmpB.eq_9, WP.cmpB.eq_10, WP.cmpB.eq_11, WP.cmpB.eq_12, WP.cmpB.eq_13, WP.cmpB.eq_14, WP.ixW.eq_1, WP.ixW.eq_2, WP.idxW.eq_1, WP.isLD.eq_1, WP.lenW.eq_1, WP.lenW.eq_2, WP.tupleW.eq_1, WP.listW.eq_1, WP.listW.eq_2, WP.intW.eq_1, WP.intW.eq_2, WP.absW.eq_1, WP.allW.eq_1, WP.anyW.eq_1, WP.sumW.eq_1, WP.twW.eq_1, WP.cntW.eq_1, WP.itemsN.eq_1, WP.itemsN.eq_2, TH.noL, TH.noLs, true_or, or_true, true_and, and_true, Bool.true_or, Bool.or_true, Bool.false_or, Bool.or_false, Bool.true_and, Bool.and_true, Bool.false_and, Bool.and_false, Bool.not_true, Bool.not_false, reduceIte, List.set_cons_zero, List.set_cons_succ, List.length_cons, List.length_nil, Nat.zero_add, Bool.false_eq_true, Nat.reduceAdd, Nat.reduceLT, Nat.reduceLeDiff, Nat.reduceEqDiff, Int.reduceNeg, decide_true, decide_false, WP.isStr_dX, WP.isStr_int, TH.noL_H, TH.noL_R, TH.noL_S, TH.noL_W, WP.noLs_W, WP.noLs_S, WP.noLs_N, WP.noLs_I, WP.noLs_X, WP.noLs_app, L2.atI_last, WP.atI_0, WP.atI_1, WP.atI_2, WP.atI_3, Option.some.injEq, exists_eq_left', WP.lenW_H, WP.lenW_R, WP.lenW_S, WP.seqW_H, WP.seqW_R, WP.seqW_S, WP.spH_eq, WP.spHN_eq, WP.spHS_eq, WP.spHSN_eq, WP.spHSNN_eq, WP.spHSS_eq, WP.spHSSS_eq, WP.argS_H, WP.argS_S, WP.argS_N, WP.argS_I, TH.eqv_int, TH.eqv_nat, TH.eqv_str, TH.eqv_ex, TH.eqv_W, TH.eqv_R, TH.eqv_H, TH.eqv_S, WP.shp_W, WP.shp_R, WP.shp_H, WP.shp_S, WP.shp_int, WP.shp_bool, WP.shp_none, List.map_cons, List.map_nil, List.append_assoc, List.cons_append, List.nil_append]
  refine loop_ind (fun i ρ => ∃ y18 y19, ρ = R11 ss t c h x s n p y9 y10 y11 ++ [y12, y13, .im (dN m), .im (dN whole), .im (dN rest), .ml ((((exitsOf h).take i).map fun e => TH.cnt h x s m e).map dN), y18, y19, .no, .no, .no, .no, .no, .no]) ?_ ?_ ⟨y18, y19, rfl⟩
  · rintro i d ρ hd ⟨y18, y19, rfl⟩ N hN
    rw [List.getElem?_map] at hd
    obtain ⟨e, he, rfl⟩ := Option.map_eq_some_iff.mp hd
    have hex3 := exitsOf_len h
    have hcm : CMul (whole : Int) (((exL h x (nit h x p s) (n - p)).count e : Nat) : Int) := .inl ⟨by omega, by omega⟩
    have hlc : (((exitsOf h).take i).map fun e => TH.cnt h x s m e).length < 100000 := by rw [List.length_map, List.length_take]; omega
    simp only [R11, List.cons_append, List.nil_append, WP.shp, WP.wSeq, WP.wNil, WP.wExpr, WP.wCall, WP.arW, WP.waCons, WP.waNil, WP.wV, WP.wC, WP.wIfS, WP.tNot, WP.tVal, WP.wSet, WP.pLst, WP.pIm, WP.pList, WP.pLrg, WP.tAnd, WP.tOr, WP.tCmp, WP.tChain, WP.wChain, WP.wCmp, WP.wBin, WP.wIsi, WP.wIx, WP.wNeg, WP.wNot, WP.wAnd, WP.wOr, WP.wIf, WP.wAsg, WP.twN, WP.puts, WP.wApp, WP.wRet, WP.wRetN, WP.wAbs, WP.wPass, WP.wBrk, WP.wCnt, WP.wTup, WP.wLst, WP.wSl, WP.woN, WP.woS, WP.wLrg, WP.wDrw, WP.wFor, WP.wFz, WP.wPar, WP.wPar3, WP.wSetIx, WP.wiV, WP.wiE, WP.wiR, WP.wiZ, WP.gs, WP.wIdx, WP.wCount, WP.wLc, WP.tYesW, WP.okF, WP.wipeS, WP.getK.eq_1, WP.getK.eq_2, WP.getK.eq_3, WP.asL.eq_1, WP.binW.eq_1, WP.binW.eq_2, WP.binW.eq_3, WP.binW.eq_4, WP.binW.eq_5, WP.binW.eq_6, WP.binW.eq_7, WP.binW.eq_8, WP.binW.eq_9, WP.binW.eq_10, WP.twT.eq_1, WP.fzK.eq_1, WP.fzK.eq_2, WP.fzK.eq_3, WP.itK.eq_1, WP.itK.eq_2, WP.zipW.eq_1, WP.seqW.eq_1, WP.seqW.eq_2, WP.cutW.eq_1, WP.cutW.eq_2, WP.asML.eq_1, WP.asI.eq_1, WP.asB.eq_1, WP.asN.eq_1, WP.cmpB.eq_1, WP.cmpB.eq_2, WP.cmpB.eq_3, WP.cmpB.eq_4, WP.cmpB.eq_5, WP.cmpB.eq_6, WP.cmpB.eq_7, WP.cmpB.eq_8, WP.cmpB.eq_9, WP.cmpB.eq_10, WP.cmpB.eq_11, WP.cmpB.eq_12, WP.cmpB.eq_13, WP.cmpB.eq_14, WP.ixW.eq_1, WP.ixW.eq_2, WP.idxW.eq_1, WP.isLD.eq_1, WP.lenW.eq_1, WP.lenW.eq_2, WP.tupleW.eq_1, WP.listW.eq_1, WP.listW.eq_2, WP.intW.eq_1, WP.intW.eq_2, WP.absW.eq_1, WP.allW.eq_1, WP.anyW.eq_1, WP.sumW.eq_1, WP.twW.eq_1, WP.cntW.eq_1, WP.itemsN.eq_1, WP.itemsN.eq_2, TH.noL, TH.noLs, true_or, or_true, true_and, and_true, Bool.true_or, Bool.or_true, Bool.false_or, Bool.or_false, Bool.true_and, Bool.and_true, Bool.false_and, Bool.and_false, Bool.not_true, Bool.not_false, reduceIte, List.set_cons_zero, List.set_cons_succ, List.length_cons, List.length_nil, Nat.zero_add, Bool.false_eq_true, Nat.reduceAdd, Nat.reduceLT, Nat.reduceLeDiff, Nat.reduceEqDiff, Int.reduceNeg, decide_true, decide_false, WP.isStr_dX, WP.isStr_int, TH.noL_H, TH.noL_R, TH.noL_S, TH.noL_W, WP.noLs_W, WP.noLs_S, WP.noLs_N, WP.noLs_I, WP.noLs_X, WP.noLs_app, L2.atI_last, WP.atI_0, WP.atI_1, WP.atI_2, WP.atI_3, Option.some.injEq, exists_eq_left', WP.lenW_H, WP.lenW_R, WP.lenW_S, WP.seqW_H, WP.seqW_R, WP.seqW_S, WP.spH_eq, WP.spHN_eq, WP.spHS_eq, WP.spHSN_eq, WP.spHSNN_eq, WP.spHSS_eq, WP.spHSSS_eq, WP.argS_H, WP.argS_S, WP.argS_N, WP.argS_I, TH.eqv_int, TH.eqv_nat, TH.eqv_str, TH.eqv_ex, TH.eqv_W, TH.eqv_R, TH.eqv_H, TH.eqv_S, WP.shp_W, WP.shp_R, WP.shp_H, WP.shp_S, WP.shp_int, WP.shp_bool, WP.shp_none, List.map_cons, List.map_nil, List.append_assoc, List.cons_append, List.nil_append, cutW_L_lo (l := exL h x s n) (x := p) (by rw [exL_len]; omega), exL_drop (Nat.le_of_lt hpn), cutW_L_hi (l := exL h x s n) (x := rest) (by rw [exL_len]; exact hr), exL_take hr, List.length_map, exL_len]
    refine ⟨⟨by omega, rfl⟩, ?_⟩
    refine lc_fil (fun d => PyData.eqv d (dX e)) (fun d => d) (fun d hd M hM => ?_) ?_
    · obtain ⟨w, hw, rfl⟩ := List.mem_map.mp hd
      have hq : PyData.eqv (dX w) (dX e) = decide (exS w = exS e) := eqv_str _ _
      rw [hq] at hM
      simp only [WP.shp, WP.wSeq, WP.wNil, WP.wExpr, WP.wCall, WP.arW, WP.waCons, WP.waNil, WP.wV, WP.wC, WP.wIfS, WP.tNot, WP.tVal, WP.wSet, WP.pLst, WP.pIm, WP.pList, WP.pLrg, WP.tAnd, WP.tOr, WP.tCmp, WP.tChain, WP.wChain, WP.wCmp, WP.wBin, WP.wIsi, WP.wIx, WP.wNeg, WP.wNot, WP.wAnd, WP.wOr, WP.wIf, WP.wAsg, WP.twN, WP.puts, WP.wApp, WP.wRet, WP.wRetN, WP.wAbs, WP.wPass, WP.wBrk, WP.wCnt, WP.wTup, WP.wLst, WP.wSl, WP.woN, WP.woS, WP.wLrg, WP.wDrw, WP.wFor, WP.wFz, WP.wPar, WP.wPar3, WP.wSetIx, WP.wiV, WP.wiE, WP.wiR, WP.wiZ, WP.gs, WP.wIdx, WP.wCount, WP.wLc, WP.tYesW, WP.okF, WP.wipeS, WP.getK.eq_1, WP.getK.eq_2, WP.getK.eq_3, WP.asL.eq_1, WP.binW.eq_1, WP.binW.eq_2, WP.binW.eq_3, WP.binW.eq_4, WP.binW.eq_5, WP.binW.eq_6, WP.binW.eq_7, WP.binW.eq_8, WP.binW.eq_9, WP.binW.eq_10, WP.twT.eq_1, WP.fzK.eq_1, WP.fzK.eq_2, WP.fzK.eq_3, WP.itK.eq_1, WP.itK.eq_2, WP.zipW.eq_1, WP.seqW.eq_1, WP.seqW.eq_2, WP.cutW.eq_1, WP.cutW.eq_2, WP.asML.eq_1, WP.asI.eq_1, WP.asB.eq_1, WP.asN.eq_1, WP.cmpB.eq_1, WP.cmpB.eq_2, WP.cmpB.eq_3, WP.cmpB.eq_4, WP.cmpB.eq_5, WP.cmpB.eq_6, WP.cmpB.eq_7, WP.cmpB.eq_8, WP.cmpB.eq_9, WP.cmpB.eq_10, WP.cmpB.eq_11, WP.cmpB.eq_12, WP.cmpB.eq_13, WP.cmpB.eq_14, WP.ixW.eq_1, WP.ixW.eq_2, WP.idxW.eq_1, WP.isLD.eq_1, WP.lenW.eq_1, WP.lenW.eq_2, WP.tupleW.eq_1, WP.listW.eq_1, WP.listW.eq_2, WP.intW.eq_1, WP.intW.eq_2, WP.absW.eq_1, WP.allW.eq_1, WP.anyW.eq_1, WP.sumW.eq_1, WP.twW.eq_1, WP.cntW.eq_1, WP.itemsN.eq_1, WP.itemsN.eq_2, TH.noL, TH.noLs, true_or, or_true, true_and, and_true, Bool.true_or, Bool.or_true, Bool.false_or, Bool.or_false, Bool.true_and, Bool.and_true, Bool.false_and, Bool.and_false, Bool.not_true, Bool.not_false, reduceIte, List.set_cons_zero, List.set_cons_succ, List.length_cons, List.length_nil, Nat.zero_add, Bool.false_eq_true, Nat.reduceAdd, Nat.reduceLT, Nat.reduceLeDiff, Nat.reduceEqDiff, Int.reduceNeg, decide_true, decide_false, WP.isStr_dX, WP.isStr_int, TH.noL_H, TH.noL_R, TH.noL_S, TH.noL_W, WP.noLs_W, WP.noLs_S, WP.noLs_N, WP.noLs_I, WP.noLs_X, WP.noLs_app, L2.atI_last, WP.atI_0, WP.atI_1, WP.atI_2, WP.atI_3, Option.some.injEq, exists_eq_left', WP.lenW_H, WP.lenW_R, WP.lenW_S, WP.seqW_H, WP.seqW_R, WP.seqW_S, WP.spH_eq, WP.spHN_eq, WP.spHS_eq, WP.spHSN_eq, WP.spHSNN_eq, WP.spHSS_eq, WP.spHSSS_eq, WP.argS_H, WP.argS_S, WP.argS_N, WP.argS_I, TH.eqv_int, TH.eqv_nat, TH.eqv_str, TH.eqv_ex, TH.eqv_W, TH.eqv_R, TH.eqv_H, TH.eqv_S, WP.shp_W, WP.shp_R, WP.shp_H, WP.shp_S, WP.shp_int, WP.shp_bool, WP.shp_none, List.map_cons, List.map_nil, List.append_assoc, List.cons_append, List.nil_append, sh_shp (sh_X _)]
      cases hb : decide (exS w = exS e) with
      | true => rw [hb] at hM; exact hM
      | false => rw [hb] at hM; exact hM
    · simp only [List.nil_append, WP.shp, WP.wSeq, WP.wNil, WP.wExpr, WP.wCall, WP.arW, WP.waCons, WP.waNil, WP.wV, WP.wC, WP.wIfS, WP.tNot, WP.tVal, WP.wSet, WP.pLst, WP.pIm, WP.pList, WP.pLrg, WP.tAnd, WP.tOr, WP.tCmp, WP.tChain, WP.wChain, WP.wCmp, WP.wBin, WP.wIsi, WP.wIx, WP.wNeg, WP.wNot, WP.wAnd, WP.wOr, WP.wIf, WP.wAsg, WP.twN, WP.puts, WP.wApp, WP.wRet, WP.wRetN, WP.wAbs, WP.wPass, WP.wBrk, WP.wCnt, WP.wTup, WP.wLst, WP.wSl, WP.woN, WP.woS, WP.wLrg, WP.wDrw, WP.wFor, WP.wFz, WP.wPar, WP.wPar3, WP.wSetIx, WP.wiV, WP.wiE, WP.wiR, WP.wiZ, WP.gs, WP.wIdx, WP.wCount, WP.wLc, WP.tYesW, WP.okF, WP.wipeS, WP.getK.eq_1, WP.getK.eq_2, WP.getK.eq_3, WP.asL.eq_1, WP.binW.eq_1, WP.binW.eq_2, WP.binW.eq_3, WP.binW.eq_4, WP.binW.eq_5, WP.binW.eq_6, WP.binW.eq_7, WP.binW.eq_8, WP.binW.eq_9, WP.binW.eq_10, WP.twT.eq_1, WP.fzK.eq_1, WP.fzK.eq_2, WP.fzK.eq_3, WP.itK.eq_1, WP.itK.eq_2, WP.zipW.eq_1, WP.seqW.eq_1, WP.seqW.eq_2, WP.cutW.eq_1, WP.cutW.eq_2, WP.asML.eq_1, WP.asI.eq_1, WP.asB.eq_1, WP.asN.eq_1, WP.cmpB.eq_1, WP.cmpB.eq_2, WP.cmpB.eq_3, WP.cmpB.eq_4, WP.cmpB.eq_5, WP.cmpB.eq_6, WP.cmpB.eq_7, WP.cmpB.eq_8, WP.cmpB.eq_9, WP.cmpB.eq_10, WP.cmpB.eq_11, WP.cmpB.eq_12, WP.cmpB.eq_13, WP.cmpB.eq_14, WP.ixW.eq_1, WP.ixW.eq_2, WP.idxW.eq_1, WP.isLD.eq_1, WP.lenW.eq_1, WP.lenW.eq_2, WP.tupleW.eq_1, WP.listW.eq_1, WP.listW.eq_2, WP.intW.eq_1, WP.intW.eq_2, WP.absW.eq_1, WP.allW.eq_1, WP.anyW.eq_1, WP.sumW.eq_1, WP.twW.eq_1, WP.cntW.eq_1, WP.itemsN.eq_1, WP.itemsN.eq_2, TH.noL, TH.noLs, true_or, or_true, true_and, and_true, Bool.true_or, Bool.or_true, Bool.false_or, Bool.or_false, Bool.true_and, Bool.and_true, Bool.false_and, Bool.and_false, Bool.not_true, Bool.not_false, reduceIte, List.set_cons_zero, List.set_cons_succ, List.length_cons, List.length_nil, Nat.zero_add, Bool.false_eq_true, Nat.reduceAdd, Nat.reduceLT, Nat.reduceLeDiff, Nat.reduceEqDiff, Int.reduceNeg, decide_true, decide_false, WP.isStr_dX, WP.isStr_int, TH.noL_H, TH.noL_R, TH.noL_S, TH.noL_W, WP.noLs_W, WP.noLs_S, WP.noLs_N, WP.noLs_I, WP.noLs_X, WP.noLs_app, L2.atI_last, WP.atI_0, WP.atI_1, WP.atI_2, WP.atI_3, Option.some.injEq, exists_eq_left', WP.lenW_H, WP.lenW_R, WP.lenW_S, WP.seqW_H, WP.seqW_R, WP.seqW_S, WP.spH_eq, WP.spHN_eq, WP.spHS_eq, WP.spHSN_eq, WP.spHSNN_eq, WP.spHSS_eq, WP.spHSSS_eq, WP.argS_H, WP.argS_S, WP.argS_N, WP.argS_I, TH.eqv_int, TH.eqv_nat, TH.eqv_str, TH.eqv_ex, TH.eqv_W, TH.eqv_R, TH.eqv_H, TH.eqv_S, WP.shp_W, WP.shp_R, WP.shp_H, WP.shp_S, WP.shp_int, WP.shp_bool, WP.shp_none, List.map_cons, List.map_nil, List.append_assoc, List.cons_append, List.nil_append, List.length_map, filt_X2, exL_len, hcm]
      refine ⟨⟨by omega, rfl⟩, ?_⟩
      refine lc_fil (fun d => PyData.eqv d (dX e)) (fun d => d) (fun d hd M hM => ?_) ?_
      · obtain ⟨w, hw, rfl⟩ := List.mem_map.mp hd
        have hq : PyData.eqv (dX w) (dX e) = decide (exS w = exS e) := eqv_str _ _
        rw [hq] at hM
        simp only [WP.shp, WP.wSeq, WP.wNil, WP.wExpr, WP.wCall, WP.arW, WP.waCons, WP.waNil, WP.wV, WP.wC, WP.wIfS, WP.tNot, WP.tVal, WP.wSet, WP.pLst, WP.pIm, WP.pList, WP.pLrg, WP.tAnd, WP.tOr, WP.tCmp, WP.tChain, WP.wChain, WP.wCmp, WP.wBin, WP.wIsi, WP.wIx, WP.wNeg, WP.wNot, WP.wAnd, WP.wOr, WP.wIf, WP.wAsg, WP.twN, WP.puts, WP.wApp, WP.wRet, WP.wRetN, WP.wAbs, WP.wPass, WP.wBrk, WP.wCnt, WP.wTup, WP.wLst, WP.wSl, WP.woN, WP.woS, WP.wLrg, WP.wDrw, WP.wFor, WP.wFz, WP.wPar, WP.wPar3, WP.wSetIx, WP.wiV, WP.wiE, WP.wiR, WP.wiZ, WP.gs, WP.wIdx, WP.wCount, WP.wLc, WP.tYesW, WP.okF, WP.wipeS, WP.getK.eq_1, WP.getK.eq_2, WP.getK.eq_3, WP.asL.eq_1, WP.binW.eq_1, WP.binW.eq_2, WP.binW.eq_3, WP.binW.eq_4, WP.binW.eq_5, WP.binW.eq_6, WP.binW.eq_7, WP.binW.eq_8, WP.binW.eq_9, WP.binW.eq_10, WP.twT.eq_1, WP.fzK.eq_1, WP.fzK.eq_2, WP.fzK.eq_3, WP.itK.eq_1, WP.itK.eq_2, WP.zipW.eq_1, WP.seqW.eq_1, WP.seqW.eq_2, WP.cutW.eq_1, WP.cutW.eq_2, WP.asML.eq_1, WP.asI.eq_1, WP.asB.eq_1, WP.asN.eq_1, WP.cmpB.eq_1, WP.cmpB.eq_2, WP.cmpB.eq_3, WP.cmpB.eq_4, WP.cmpB.eq_5, WP.cmpB.eq_6, WP.cmpB.eq_7, WP.cmpB.eq_8, WP.cmpB.eq_9, WP.cmpB.eq_10, WP.cmpB.eq_11, WP.cmpB.eq_12, WP.cmpB.eq_13, WP.cmpB.eq_14, WP.ixW.eq_1, WP.ixW.eq_2, WP.idxW.eq_1, WP.isLD.eq_1, WP.lenW.eq_1, WP.lenW.eq_2, WP.tupleW.eq_1, WP.listW.eq_1, WP.listW.eq_2, WP.intW.eq_1, WP.intW.eq_2, WP.absW.eq_1, WP.allW.eq_1, WP.anyW.eq_1, WP.sumW.eq_1, WP.twW.eq_1, WP.cntW.eq_1, WP.itemsN.eq_1, WP.itemsN.eq_2, TH.noL, TH.noLs, true_or, or_true, true_and, and_true, Bool.true_or, Bool.or_true, Bool.false_or, Bool.or_false, Bool.true_and, Bool.and_true, Bool.false_and, Bool.and_false, Bool.not_true, Bool.not_false, reduceIte, List.set_cons_zero, List.set_cons_succ, List.length_cons, List.length_nil, Nat.zero_add, Bool.false_eq_true, Nat.reduceAdd, Nat.reduceLT, Nat.reduceLeDiff, Nat.reduceEqDiff, Int.reduceNeg, decide_true, decide_false, WP.isStr_dX, WP.isStr_int, TH.noL_H, TH.noL_R, TH.noL_S, TH.noL_W, WP.noLs_W, WP.noLs_S, WP.noLs_N, WP.noLs_I, WP.noLs_X, WP.noLs_app, L2.atI_last, WP.atI_0, WP.atI_1, WP.atI_2, WP.atI_3, Option.some.injEq, exists_eq_left', WP.lenW_H, WP.lenW_R, WP.lenW_S, WP.seqW_H, WP.seqW_R, WP.seqW_S, WP.spH_eq, WP.spHN_eq, WP.spHS_eq, WP.spHSN_eq, WP.spHSNN_eq, WP.spHSS_eq, WP.spHSSS_eq, WP.argS_H, WP.argS_S, WP.argS_N, WP.argS_I, TH.eqv_int, TH.eqv_nat, TH.eqv_str, TH.eqv_ex, TH.eqv_W, TH.eqv_R, TH.eqv_H, TH.eqv_S, WP.shp_W, WP.shp_R, WP.shp_H, WP.shp_S, WP.shp_int, WP.shp_bool, WP.shp_none, List.map_cons, List.map_nil, List.append_assoc, List.cons_append, List.nil_append, sh_shp (sh_X _)]
        cases hb : decide (exS w = exS e) with
        | true => rw [hb] at hM; exact hM
        | false => rw [hb] at hM; exact hM
      · simp only [List.nil_append, WP.shp, WP.wSeq, WP.wNil, WP.wExpr, WP.wCall, WP.arW, WP.waCons, WP.waNil, WP.wV, WP.wC, WP.wIfS, WP.tNot, WP.tVal, WP.wSet, WP.pLst, WP.pIm, WP.pList, WP.pLrg, WP.tAnd, WP.tOr, WP.tCmp, WP.tChain, WP.wChain, WP.wCmp, WP.wBin, WP.wIsi, WP.wIx, WP.wNeg, WP.wNot, WP.wAnd, WP.wOr, WP.wIf, WP.wAsg, WP.twN, WP.puts, WP.wApp, WP.wRet, WP.wRetN, WP.wAbs, WP.wPass, WP.wBrk, WP.wCnt, WP.wTup, WP.wLst, WP.wSl, WP.woN, WP.woS, WP.wLrg, WP.wDrw, WP.wFor, WP.wFz, WP.wPar, WP.wPar3, WP.wSetIx, WP.wiV, WP.wiE, WP.wiR, WP.wiZ, WP.gs, WP.wIdx, WP.wCount, WP.wLc, WP.tYesW, WP.okF, WP.wipeS, WP.getK.eq_1, WP.getK.eq_2, WP.getK.eq_3, WP.asL.eq_1, WP.binW.eq_1, WP.binW.eq_2, WP.binW.eq_3, WP.binW.eq_4, WP.binW.eq_5, WP.binW.eq_6, WP.binW.eq_7, WP.binW.eq_8, WP.binW.eq_9, WP.binW.eq_10, WP.twT.eq_1, WP.fzK.eq_1, WP.fzK.eq_2, WP.fzK.eq_3, WP.itK.eq_1, WP.itK.eq_2, WP.zipW.eq_1, WP.seqW.eq_1, WP.seqW.eq_2, WP.cutW.eq_1, WP.cutW.eq_2, WP.asML.eq_1, WP.asI.eq_1, WP.asB.eq_1, WP.asN.eq_1, WP.cmpB.eq_1, WP.cmpB.eq_2, WP.cmpB.eq_3, WP.cmpB.eq_4, WP.cmpB.eq_5, WP.cmpB.eq_6, WP.cmpB.eq_7, WP.cmpB.eq_8, WP.cmpB.eq_9, WP.cmpB.eq_10, WP.cmpB.eq_11, WP.cmpB.eq_12, WP.cmpB.eq_13, WP.cmpB.eq_14, WP.ixW.eq_1, WP.ixW.eq_2, WP.idxW.eq_1, WP.isLD.eq_1, WP.lenW.eq_1, WP.lenW.eq_2, WP.tupleW.eq_1, WP.listW.eq_1, WP.listW.eq_2, WP.intW.eq_1, WP.intW.eq_2, WP.absW.eq_1, WP.allW.eq_1, WP.anyW.eq_1, WP.sumW.eq_1, WP.twW.eq_1, WP.cntW.eq_1, WP.itemsN.eq_1, WP.itemsN.eq_2, TH.noL, TH.noLs, true_or, or_true, true_and, and_true, Bool.true_or, Bool.or_true, Bool.false_or, Bool.or_false, Bool.true_and, Bool.and_true, Bool.false_and, Bool.and_false, Bool.not_true, Bool.not_false, reduceIte, List.set_cons_zero, List.set_cons_succ, List.length_cons, List.length_nil, Nat.zero_add, Bool.false_eq_true, Nat.reduceAdd, Nat.reduceLT, Nat.reduceLeDiff, Nat.reduceEqDiff, Int.reduceNeg, decide_true, decide_false, WP.isStr_dX, WP.isStr_int, TH.noL_H, TH.noL_R, TH.noL_S, TH.noL_W, WP.noLs_W, WP.noLs_S, WP.noLs_N, WP.noLs_I, WP.noLs_X, WP.noLs_app, L2.atI_last, WP.atI_0, WP.atI_1, WP.atI_2, WP.atI_3, Option.some.injEq, exists_eq_left', WP.lenW_H, WP.lenW_R, WP.lenW_S, WP.seqW_H, WP.seqW_R, WP.seqW_S, WP.spH_eq, WP.spHN_eq, WP.spHS_eq, WP.spHSN_eq, WP.spHSNN_eq, WP.spHSS_eq, WP.spHSSS_eq, WP.argS_H, WP.argS_S, WP.argS_N, WP.argS_I, TH.eqv_int, TH.eqv_nat, TH.eqv_str, TH.eqv_ex, TH.eqv_W, TH.eqv_R, TH.eqv_H, TH.eqv_S, WP.shp_W, WP.shp_R, WP.shp_H, WP.shp_S, WP.shp_int, WP.shp_bool, WP.shp_none, List.map_cons, List.map_nil, List.append_assoc, List.cons_append, List.nil_append, List.length_map, filt_X2]
        refine ⟨by rw [List.length_take]; omega, hN _ ⟨.im (dX e), .im (dN ((exL h x (nit h x p s) (n - p)).count e)), ?_⟩⟩
        have ev : (whole : Int) * (((exL h x (nit h x p s) (n - p)).count e : Nat) : Int) + (((exL h x s rest).count e : Nat) : Int) = ((TH.cnt h x s m e : Nat) : Int) := by
          rw [hcnt e]
          unfold TH.cnt
          rw [Int.natCast_add, Int.natCast_mul]
        rw [ev, take_succ he]
        simp [R11]
  · rintro ρ ⟨y18, y19, rfl⟩
    rw [List.length_map, List.take_length]
    exact q3 o hm hr hn81 hnit (hE _ _ _)
theorem q5 (o : OkS h s x) {y6 y7 y8 y9 y10 y11 y12 y13 y14 y15 y16 y17 y18 y19 : SV} : W_law_5 { nx := fun _ => False, rt := fun z _ => z = .bool true } [.sc ss, .tw t ss.length c, .im (dH h), .im (dN x), .im (dS s), .im (.list ((exitsOf h).map dX)), y6, y7, y8, y9, y10, y11, y12, y13, y14, y15, y16, y17, y18, y19, .no, .no, .no, .no, .no, .no] := by
  have o3 := OkS.nit o 3
  have e0 : ∀ (s : Stg) (k : Nat) (Q : PyData → Prop), ixW (dSent h x s k) (.int 0) Q = Q (.tuple ((cntL h x s k).map dN)) := fun s k Q => ex_some atI_0
  have e1 : ∀ (s : Stg) (k : Nat) (Q : PyData → Prop), ixW (dSent h x s k) (.int 1) Q = Q (dS (nit h x k s)) := fun s k Q => ex_some atI_1
  have c3 : (3 : Nat) ≤ 1000000000 := by decide
  have c4 : (4 : Nat) ≤ 1000000000 := by decide
  have c7 : (7 : Nat) ≤ 1000000000 := by decide
  have hex3 := exitsOf_len h
  simp only [W_law_5, WP.shp, WP.wSeq, WP.wNil, WP.wExpr, WP.wCall, WP.arW, WP.waCons, WP.waNil, WP.wV, WP.wC, WP.wIfS, WP.tNot, WP.tVal, WP.wSet, WP.pLst, WP.pIm, WP.pList, WP.pLrg, WP.tAnd, WP.tOr, WP.tCmp, WP.tChain, WP.wChain, WP.wCmp, WP.wBin, WP.wIsi, WP.wIx, WP.wNeg, WP.wNot, WP.wAnd, WP.wOr, WP.wIf, WP.wAsg, WP.twN, WP.puts, WP.wApp, WP.wRet, WP.wRetN, WP.wAbs, WP.wPass, WP.wBrk, WP.wCnt, WP.wTup, WP.wLst, WP.wSl, WP.woN, WP.woS, WP.wLrg, WP.wDrw, WP.wFor, WP.wFz, WP.wPar, WP.wPar3, WP.wSetIx, WP.wiV, WP.wiE, WP.wiR, WP.wiZ, WP.gs, WP.wIdx, WP.wCount, WP.wLc, WP.tYesW, WP.okF, WP.wipeS, WP.getK.eq_1, WP.getK.eq_2, WP.getK.eq_3, WP.asL.eq_1, WP.binW.eq_1, WP.binW.eq_2, WP.binW.eq_3, WP.binW.eq_4, WP.binW.eq_5, WP.binW.eq_6, WP.binW.eq_7, WP.binW.eq_8, WP.binW.eq_9, WP.binW.eq_10, WP.twT.eq_1, WP.fzK.eq_1, WP.fzK.eq_2, WP.fzK.eq_3, WP.itK.eq_1, WP.itK.eq_2, WP.zipW.eq_1, WP.seqW.eq_1, WP.seqW.eq_2, WP.cutW.eq_1, WP.cutW.eq_2, WP.asML.eq_1, WP.asI.eq_1, WP.asB.eq_1, WP.asN.eq_1, WP.cmpB.eq_1, WP.cmpB.eq_2, WP.cmpB.eq_3, WP.cmpB.eq_4, WP.cmpB.eq_5, WP.cmpB.eq_6, WP.cmpB.eq_7, WP.cmpB.eq_8, WP.cmpB.eq_9, WP.cmpB.eq_10, WP.cmpB.eq_11, WP.cmpB.eq_12, WP.cmpB.eq_13, WP.cmpB.eq_14, WP.ixW.eq_1, WP.ixW.eq_2, WP.idxW.eq_1, WP.isLD.eq_1, WP.lenW.eq_1, WP.lenW.eq_2, WP.tupleW.eq_1, WP.listW.eq_1, WP.listW.eq_2, WP.intW.eq_1, WP.intW.eq_2, WP.absW.eq_1, WP.allW.eq_1, WP.anyW.eq_1, WP.sumW.eq_1, WP.twW.eq_1, WP.cntW.eq_1, WP.itemsN.eq_1, WP.itemsN.eq_2, TH.noL, TH.noLs, true_or, or_true, true_and, and_true, Bool.true_or, Bool.or_true, Bool.false_or, Bool.or_false, Bool.true_and, Bool.and_true, Bool.false_and, Bool.and_false, Bool.not_true, Bool.not_false, reduceIte, List.set_cons_zero, List.set_cons_succ, List.length_cons, List.length_nil, Nat.zero_add, Bool.false_eq_true, Nat.reduceAdd, Nat.reduceLT, Nat.reduceLeDiff, Nat.reduceEqDiff, Int.reduceNeg, decide_true, decide_false, WP.isStr_dX, WP.isStr_int, TH.noL_H, TH.noL_R, TH.noL_S, TH.noL_W, WP.noLs_W, WP.noLs_S, WP.noLs_N, WP.noLs_I, WP.noLs_X, WP.noLs_app, L2.atI_last, WP.atI_0, WP.atI_1, WP.atI_2, WP.atI_3, Option.some.injEq, exists_eq_left', WP.lenW_H, WP.lenW_R, WP.lenW_S, WP.seqW_H, WP.seqW_R, WP.seqW_S, WP.spH_eq, WP.spHN_eq, WP.spHS_eq, WP.spHSN_eq, WP.spHSNN_eq, WP.spHSS_eq, WP.spHSSS_eq, WP.argS_H, WP.argS_S, WP.argS_N, WP.argS_I, TH.eqv_int, TH.eqv_nat, TH.eqv_str, TH.eqv_ex, TH.eqv_W, TH.eqv_R, TH.eqv_H, TH.eqv_S, WP.shp_W, WP.shp_R, WP.shp_H, WP.shp_S, WP.shp_int, WP.shp_bool, WP.shp_none, List.map_cons, List.map_nil, List.append_assoc, List.cons_append, List.nil_append, spsendL (k := 3) (z := .int 3) rfl, spsendL (k := 4) (z := .int 4) rfl, spsendL (k := 7) (z := .int 7) rfl, o, noL_sent, e0, e1, o3, c3, c4, c7]
  have hzl : (zD ((cntL h x s 3).map dN) ((cntL h x (nit h x 3 s) 4).map dN)).length ≤ 100000 := by
    rw [zD_len]
    unfold cntL
    simp only [List.length_map]
    omega
  refine ⟨⟨hzl, rfl⟩, ?_⟩
  have ez : zD ((cntL h x s 3).map dN) ((cntL h x (nit h x 3 s) 4).map dN) = (exitsOf h).map fun e => PyData.tuple [dN (TH.cnt h x s 3 e), dN (TH.cnt h x (nit h x 3 s) 4 e)] := by
    unfold cntL zD
    rw [List.map_map, List.map_map, List.zipWith_map]
    induction exitsOf h with
    | nil => rfl
    | cons a l ih => simp [ih]
  rw [ez]
  refine lc_map (fun d => match d with
    | .tuple [.int a, .int b] => .int (a + b)
    | _ => .none) (fun d hd M hM => ?_) ?_
  · obtain ⟨e, he, rfl⟩ := List.mem_map.mp hd
    simp only [WP.shp, WP.wSeq, WP.wNil, WP.wExpr, WP.wCall, WP.arW, WP.waCons, WP.waNil, WP.wV, WP.wC, WP.wIfS, WP.tNot, WP.tVal, WP.wSet, WP.pLst, WP.pIm, WP.pList, WP.pLrg, WP.tAnd, WP.tOr, WP.tCmp, WP.tChain, WP.wChain, WP.wCmp, WP.wBin, WP.wIsi, WP.wIx, WP.wNeg, WP.wNot, WP.wAnd, WP.wOr, WP.wIf, WP.wAsg, WP.twN, WP.puts, WP.wApp, WP.wRet, WP.wRetN, WP.wAbs, WP.wPass, WP.wBrk, WP.wCnt, WP.wTup, WP.wLst, WP.wSl, WP.woN, WP.woS, WP.wLrg, WP.wDrw, WP.wFor, WP.wFz, WP.wPar, WP.wPar3, WP.wSetIx, WP.wiV, WP.wiE, WP.wiR, WP.wiZ, WP.gs, WP.wIdx, WP.wCount, WP.wLc, WP.tYesW, WP.okF, WP.wipeS, WP.getK.eq_1, WP.getK.eq_2, WP.getK.eq_3, WP.asL.eq_1, WP.binW.eq_1, WP.binW.eq_2, WP.binW.eq_3, WP.binW.eq_4, WP.binW.eq_5, WP.binW.eq_6, WP.binW.eq_7, WP.binW.eq_8, WP.binW.eq_9, WP.binW.eq_10, WP.twT.eq_1, WP.fzK.eq_1, WP.fzK.eq_2, WP.fzK.eq_3, WP.itK.eq_1, WP.itK.eq_2, WP.zipW.eq_1, WP.seqW.eq_1, WP.seqW.eq_2, WP.cutW.eq_1, WP.cutW.eq_2, WP.asML.eq_1, WP.asI.eq_1, WP.asB.eq_1, WP.asN.eq_1, WP.cmpB.eq_1, WP.cmpB.eq_2, WP.cmpB.eq_3, WP.cmpB.eq_4, WP.cmpB.eq_5, WP.cmpB.eq_6, WP.cmpB.eq_7, WP.cmpB.eq_8, WP.cmpB.eq_9, WP.cmpB.eq_10, WP.cmpB.eq_11, WP.cmpB.eq_12, WP.cmpB.eq_13, WP.cmpB.eq_14, WP.ixW.eq_1, WP.ixW.eq_2, WP.idxW.eq_1, WP.isLD.eq_1, WP.lenW.eq_1, WP.lenW.eq_2, WP.tupleW.eq_1, WP.listW.eq_1, WP.listW.eq_2, WP.intW.eq_1, WP.intW.eq_2, WP.absW.eq_1, WP.allW.eq_1, WP.anyW.eq_1, WP.sumW.eq_1, WP.twW.eq_1, WP.cntW.eq_1, WP.itemsN.eq_1, WP.itemsN.eq_2, TH.noL, TH.noLs, true_or, or_true, true_and, and_true, Bool.true_or, Bool.or_true, Bool.false_or, Bool.or_false, Bool.true_and, Bool.and_true, Bool.false_and, Bool.and_false, Bool.not_true, Bool.not_false, reduceIte, List.set_cons_zero, List.set_cons_succ, List.length_cons, List.length_nil, Nat.zero_add, Bool.false_eq_true, Nat.reduceAdd, Nat.reduceLT, Nat.reduceLeDiff, Nat.reduceEqDiff, Int.reduceNeg, decide_true, decide_false, WP.isStr_dX, WP.isStr_int, TH.noL_H, TH.noL_R, TH.noL_S, TH.noL_W, WP.noLs_W, WP.noLs_S, WP.noLs_N, WP.noLs_I, WP.noLs_X, WP.noLs_app, L2.atI_last, WP.atI_0, WP.atI_1, WP.atI_2, WP.atI_3, Option.some.injEq, exists_eq_left', WP.lenW_H, WP.lenW_R, WP.lenW_S, WP.seqW_H, WP.seqW_R, WP.seqW_S, WP.spH_eq, WP.spHN_eq, WP.spHS_eq, WP.spHSN_eq, WP.spHSNN_eq, WP.spHSS_eq, WP.spHSSS_eq, WP.argS_H, WP.argS_S, WP.argS_N, WP.argS_I, TH.eqv_int, TH.eqv_nat, TH.eqv_str, TH.eqv_ex, TH.eqv_W, TH.eqv_R, TH.eqv_H, TH.eqv_S, WP.shp_W, WP.shp_R, WP.shp_H, WP.shp_S, WP.shp_int, WP.shp_bool, WP.shp_none, List.map_cons, List.map_nil, List.append_assoc, List.cons_append, List.nil_append]
    exact hM
  · have e2 : ((exitsOf h).map fun e => PyData.tuple [dN (TH.cnt h x s 3 e), dN (TH.cnt h x (nit h x 3 s) 4 e)]).map (fun d => match d with
      | .tuple [.int a, .int b] => .int (a + b)
      | _ => .none) = (cntL h x s 7).map dN := by
      unfold cntL
      rw [List.map_map, List.map_map]
      refine List.map_congr_left fun e _ => ?_
      show PyData.int (((TH.cnt h x s 3 e : Nat) : Int) + ((TH.cnt h x (nit h x 3 s) 4 e : Nat) : Int)) = PyData.int ((TH.cnt h x s (3 + 4) e : Nat) : Int)
      rw [cnt_add]
      rfl
    rw [List.nil_append, e2]
    have e3 : nit h x 4 (nit h x 3 s) = nit h x 7 s := (nit_add h x 3 4 s).symm
    rw [e3]
    have e4 : PyData.tuple [.tuple ((cntL h x s 7).map dN), dS (nit h x 7 s)] = dSent h x s 7 := rfl
    simp only [WP.shp, WP.wSeq, WP.wNil, WP.wExpr, WP.wCall, WP.arW, WP.waCons, WP.waNil, WP.wV, WP.wC, WP.wIfS, WP.tNot, WP.tVal, WP.wSet, WP.pLst, WP.pIm, WP.pList, WP.pLrg, WP.tAnd, WP.tOr, WP.tCmp, WP.tChain, WP.wChain, WP.wCmp, WP.wBin, WP.wIsi, WP.wIx, WP.wNeg, WP.wNot, WP.wAnd, WP.wOr, WP.wIf, WP.wAsg, WP.twN, WP.puts, WP.wApp, WP.wRet, WP.wRetN, WP.wAbs, WP.wPass, WP.wBrk, WP.wCnt, WP.wTup, WP.wLst, WP.wSl, WP.woN, WP.woS, WP.wLrg, WP.wDrw, WP.wFor, WP.wFz, WP.wPar, WP.wPar3, WP.wSetIx, WP.wiV, WP.wiE, WP.wiR, WP.wiZ, WP.gs, WP.wIdx, WP.wCount, WP.wLc, WP.tYesW, WP.okF, WP.wipeS, WP.getK.eq_1, WP.getK.eq_2, WP.getK.eq_3, WP.asL.eq_1, WP.binW.eq_1, WP.binW.eq_2, WP.binW.eq_3, WP.binW.eq_4, WP.binW.eq_5, WP.binW.eq_6, WP.binW.eq_7, WP.binW.eq_8, WP.binW.eq_9, WP.binW.eq_10, WP.twT.eq_1, WP.fzK.eq_1, WP.fzK.eq_2, WP.fzK.eq_3, WP.itK.eq_1, WP.itK.eq_2, WP.zipW.eq_1, WP.seqW.eq_1, WP.seqW.eq_2, WP.cutW.eq_1, WP.cutW.eq_2, WP.asML.eq_1, WP.asI.eq_1, WP.asB.eq_1, WP.asN.eq_1, WP.cmpB.eq_1, WP.cmpB.eq_2, WP.cmpB.eq_3, WP.cmpB.eq_4, WP.cmpB.eq_5, WP.cmpB.eq_6, WP.cmpB.eq_7, WP.cmpB.eq_8, WP.cmpB.eq_9, WP.cmpB.eq_10, WP.cmpB.eq_11, WP.cmpB.eq_12, WP.cmpB.eq_13, WP.cmpB.eq_14, WP.ixW.eq_1, WP.ixW.eq_2, WP.idxW.eq_1, WP.isLD.eq_1, WP.lenW.eq_1, WP.lenW.eq_2, WP.tupleW.eq_1, WP.listW.eq_1, WP.listW.eq_2, WP.intW.eq_1, WP.intW.eq_2, WP.absW.eq_1, WP.allW.eq_1, WP.anyW.eq_1, WP.sumW.eq_1, WP.twW.eq_1, WP.cntW.eq_1, WP.itemsN.eq_1, WP.itemsN.eq_2, TH.noL, TH.noLs, true_or, or_true, true_and, and_true, Bool.true_or, Bool.or_true, Bool.false_or, Bool.or_false, Bool.true_and, Bool.and_true, Bool.false_and, Bool.and_false, Bool.not_true, Bool.not_false, reduceIte, List.set_cons_zero, List.set_cons_succ, List.length_cons, List.length_nil, Nat.zero_add, Bool.false_eq_true, Nat.reduceAdd, Nat.reduceLT, Nat.reduceLeDiff, Nat.reduceEqDiff, Int.reduceNeg, decide_true, decide_false, WP.isStr_dX, WP.isStr_int, TH.noL_H, TH.noL_R, TH.noL_S, TH.noL_W, WP.noLs_W, WP.noLs_S, WP.noLs_N, WP.noLs_I, WP.noLs_X, WP.noLs_app, L2.atI_last, WP.atI_0, WP.atI_1, WP.atI_2, WP.atI_3, Option.some.injEq, exists_eq_left', WP.lenW_H, WP.lenW_R, WP.lenW_S, WP.seqW_H, WP.seqW_R, WP.seqW_S, WP.spH_eq, WP.spHN_eq, WP.spHS_eq, WP.spHSN_eq, WP.spHSNN_eq, WP.spHSS_eq, WP.spHSSS_eq, WP.argS_H, WP.argS_S, WP.argS_N, WP.argS_I, TH.eqv_int, TH.eqv_nat, TH.eqv_str, TH.eqv_ex, TH.eqv_W, TH.eqv_R, TH.eqv_H, TH.eqv_S, WP.shp_W, WP.shp_R, WP.shp_H, WP.shp_S, WP.shp_int, WP.shp_bool, WP.shp_none, List.map_cons, List.map_nil, List.append_assoc, List.cons_append, List.nil_append]
    rw [e4]
    simp only [WP.shp, WP.wSeq, WP.wNil, WP.wExpr, WP.wCall, WP.arW, WP.waCons, WP.waNil, WP.wV, WP.wC, WP.wIfS, WP.tNot, WP.tVal, WP.wSet, WP.pLst, WP.pIm, WP.pList, WP.pLrg, WP.tAnd, WP.tOr, WP.tCmp, WP.tChain, WP.wChain, WP.wCmp, WP.wBin, WP.wIsi, WP.wIx, WP.wNeg, WP.wNot, WP.wAnd, WP.wOr, WP.wIf, WP.wAsg, WP.twN, WP.puts, WP.wApp, WP.wRet, WP.wRetN, WP.wAbs, WP.wPass, WP.wBrk, WP.wCnt, WP.wTup, WP.wLst, WP.wSl, WP.woN, WP.woS, WP.wLrg, WP.wDrw, WP.wFor, WP.wFz, WP.wPar, WP.wPar3, WP.wSetIx, WP.wiV, WP.wiE, WP.wiR, WP.wiZ, WP.gs, WP.wIdx, WP.wCount, WP.wLc, WP.tYesW, WP.okF, WP.wipeS, WP.getK.eq_1, WP.getK.eq_2, WP.getK.eq_3, WP.asL.eq_1, WP.binW.eq_1, WP.binW.eq_2, WP.binW.eq_3, WP.binW.eq_4, WP.binW.eq_5, WP.binW.eq_6, WP.binW.eq_7, WP.binW.eq_8, WP.binW.eq_9, WP.binW.eq_10, WP.twT.eq_1, WP.fzK.eq_1, WP.fzK.eq_2, WP.fzK.eq_3, WP.itK.eq_1, WP.itK.eq_2, WP.zipW.eq_1, WP.seqW.eq_1, WP.seqW.eq_2, WP.cutW.eq_1, WP.cutW.eq_2, WP.asML.eq_1, WP.asI.eq_1, WP.asB.eq_1, WP.asN.eq_1, WP.cmpB.eq_1, WP.cmpB.eq_2, WP.cmpB.eq_3, WP.cmpB.eq_4, WP.cmpB.eq_5, WP.cmpB.eq_6, WP.cmpB.eq_7, WP.cmpB.eq_8, WP.cmpB.eq_9, WP.cmpB.eq_10, WP.cmpB.eq_11, WP.cmpB.eq_12, WP.cmpB.eq_13, WP.cmpB.eq_14, WP.ixW.eq_1, WP.ixW.eq_2, WP.idxW.eq_1, WP.isLD.eq_1, WP.lenW.eq_1, WP.lenW.eq_2, WP.tupleW.eq_1, WP.listW.eq_1, WP.listW.eq_2, WP.intW.eq_1, WP.intW.eq_2, WP.absW.eq_1, WP.allW.eq_1, WP.anyW.eq_1, WP.sumW.eq_1, WP.twW.eq_1, WP.cntW.eq_1, WP.itemsN.eq_1, WP.itemsN.eq_2, TH.noL, TH.noLs, true_or, or_true, true_and, and_true, Bool.true_or, Bool.or_true, Bool.false_or, Bool.or_false, Bool.true_and, Bool.and_true, Bool.false_and, Bool.and_false, Bool.not_true, Bool.not_false, reduceIte, List.set_cons_zero, List.set_cons_succ, List.length_cons, List.length_nil, Nat.zero_add, Bool.false_eq_true, Nat.reduceAdd, Nat.reduceLT, Nat.reduceLeDiff, Nat.reduceEqDiff, Int.reduceNeg, decide_true, decide_false, WP.isStr_dX, WP.isStr_int, TH.noL_H, TH.noL_R, TH.noL_S, TH.noL_W, WP.noLs_W, WP.noLs_S, WP.noLs_N, WP.noLs_I, WP.noLs_X, WP.noLs_app, L2.atI_last, WP.atI_0, WP.atI_1, WP.atI_2, WP.atI_3, Option.some.injEq, exists_eq_left', WP.lenW_H, WP.lenW_R, WP.lenW_S, WP.seqW_H, WP.seqW_R, WP.seqW_S, WP.spH_eq, WP.spHN_eq, WP.spHS_eq, WP.spHSN_eq, WP.spHSNN_eq, WP.spHSS_eq, WP.spHSSS_eq, WP.argS_H, WP.argS_S, WP.argS_N, WP.argS_I, TH.eqv_int, TH.eqv_nat, TH.eqv_str, TH.eqv_ex, TH.eqv_W, TH.eqv_R, TH.eqv_H, TH.eqv_S, WP.shp_W, WP.shp_R, WP.shp_H, WP.shp_S, WP.shp_int, WP.shp_bool, WP.shp_none, List.map_cons, List.map_nil, List.append_assoc, List.cons_append, List.nil_append, sh_shp (sh_sent 7), eqv_shp (sh_shp (sh_sent 7))]
theorem q6 (hss : ss.length ≤ 63) (o : OkS h s x) (cr : Crs h s x n p) (hc : c ≤ 1000) {y9 y10 y11 y13 : SV} : W_law_6 { nx := fun _ => False, rt := fun z _ => z = .bool true } (R11 ss t c h x s n p y9 y10 y11 ++ [.im (dN (n - p)), .no, .no, .no, .no, .no, .no, .no, .no, .no, .no, .no, .no, .no]) := by
  have hn81 := cr.le o
  have hpn := cr.lt
  have hL : 0 < n - p := by omega
  simp only [R11, List.cons_append, List.nil_append, W_law_6, WP.shp, WP.wSeq, WP.wNil, WP.wExpr, WP.wCall, WP.arW, WP.waCons, WP.waNil, WP.wV, WP.wC, WP.wIfS, WP.tNot, WP.tVal, WP.wSet, WP.pLst, WP.pIm, WP.pList, WP.pLrg, WP.tAnd, WP.tOr, WP.tCmp, WP.tChain, WP.wChain, WP.wCmp, WP.wBin, WP.wIsi, WP.wIx, WP.wNeg, WP.wNot, WP.wAnd, WP.wOr, WP.wIf, WP.wAsg, WP.twN, WP.puts, WP.wApp, WP.wRet, WP.wRetN, WP.wAbs, WP.wPass, WP.wBrk, WP.wCnt, WP.wTup, WP.wLst, WP.wSl, WP.woN, WP.woS, WP.wLrg, WP.wDrw, WP.wFor, WP.wFz, WP.wPar, WP.wPar3, WP.wSetIx, WP.wiV, WP.wiE, WP.wiR, WP.wiZ, WP.gs, WP.wIdx, WP.wCount, WP.wLc, WP.tYesW, WP.okF, WP.wipeS, WP.getK.eq_1, WP.getK.eq_2, WP.getK.eq_3, WP.asL.eq_1, WP.binW.eq_1, WP.binW.eq_2, WP.binW.eq_3, WP.binW.eq_4, WP.binW.eq_5, WP.binW.eq_6, WP.binW.eq_7, WP.binW.eq_8, WP.binW.eq_9, WP.binW.eq_10, WP.twT.eq_1, WP.fzK.eq_1, WP.fzK.eq_2, WP.fzK.eq_3, WP.itK.eq_1, WP.itK.eq_2, WP.zipW.eq_1, WP.seqW.eq_1, WP.seqW.eq_2, WP.cutW.eq_1, WP.cutW.eq_2, WP.asML.eq_1, WP.asI.eq_1, WP.asB.eq_1, WP.asN.eq_1, WP.cmpB.eq_1, WP.cmpB.eq_2, WP.cmpB.eq_3, WP.cmpB.eq_4, WP.cmpB.eq_5, WP.cmpB.eq_6, WP.cmpB.eq_7, WP.cmpB.eq_8, WP.cmpB.eq_9, WP.cmpB.eq_10, WP.cmpB.eq_11, WP.cmpB.eq_12, WP.cmpB.eq_13, WP.cmpB.eq_14, WP.ixW.eq_1, WP.ixW.eq_2, WP.idxW.eq_1, WP.isLD.eq_1, WP.lenW.eq_1, WP.lenW.eq_2, WP.tupleW.eq_1, WP.listW.eq_1, WP.listW.eq_2, WP.intW.eq_1, WP.intW.eq_2, WP.absW.eq_1, WP.allW.eq_1, WP.anyW.eq_1, WP.sumW.eq_1, WP.twW.eq_1, WP.cntW.eq_1, WP.itemsN.eq_1, WP.itemsN.eq_2, TH.noL, TH.noLs, true_or, or_true, true_and, and_true, Bool.true_or, Bool.or_true, Bool.false_or, Bool.or_false, Bool.true_and, Bool.and_true, Bool.false_and, Bool.and_false, Bool.not_true, Bool.not_false, reduceIte, List.set_cons_zero, List.set_cons_succ, List.length_cons, List.length_nil, Nat.zero_add, Bool.false_eq_true, Nat.reduceAdd, Nat.reduceLT, Nat.reduceLeDiff, Nat.reduceEqDiff, Int.reduceNeg, decide_true, decide_false, WP.isStr_dX, WP.isStr_int, TH.noL_H, TH.noL_R, TH.noL_S, TH.noL_W, WP.noLs_W, WP.noLs_S, WP.noLs_N, WP.noLs_I, WP.noLs_X, WP.noLs_app, L2.atI_last, WP.atI_0, WP.atI_1, WP.atI_2, WP.atI_3, Option.some.injEq, exists_eq_left', WP.lenW_H, WP.lenW_R, WP.lenW_S, WP.seqW_H, WP.seqW_R, WP.seqW_S, WP.spH_eq, WP.spHN_eq, WP.spHS_eq, WP.spHSN_eq, WP.spHSNN_eq, WP.spHSS_eq, WP.spHSSS_eq, WP.argS_H, WP.argS_S, WP.argS_N, WP.argS_I, TH.eqv_int, TH.eqv_nat, TH.eqv_str, TH.eqv_ex, TH.eqv_W, TH.eqv_R, TH.eqv_H, TH.eqv_S, WP.shp_W, WP.shp_R, WP.shp_H, WP.shp_S, WP.shp_int, WP.shp_bool, WP.shp_none, List.map_cons, List.map_nil, List.append_assoc, List.cons_append, List.nil_append, hss, kd__law_draw]
  refine ⟨by omega, ⟨1000000001, by decide, by decide, rfl⟩, ?_⟩
  rintro z ⟨m1, k1, em1, hk1, rfl⟩ _
  have hk1' : k1 ≤ 1000000000 := by
    have : m1 = 1000000001 := (dN_inj (a := 1000000001) em1).symm
    omega
  refine ⟨by omega, ⟨60, by decide, by decide, rfl⟩, ?_⟩
  rintro z ⟨m2, k2, em2, hk2, rfl⟩ _
  have hk2' : k2 ≤ 60 := by
    have : m2 = 60 := (dN_inj (a := 60) em2).symm
    omega
  refine loop_ind (fun i ρ => ∃ y13 y14 y15 y16 y17 y18 y19, ρ = R11 ss t (c + 1 + 1) h x s n p y9 y10 y11 ++ [.im (dN (n - p)), y13, y14, y15, y16, y17, y18, y19, .no, .no, .no, .no, .no, .no]) ?_ ?_ ⟨_, _, _, _, _, _, _, rfl⟩
  · rintro i d ρ hd ⟨y13, y14, y15, y16, y17, y18, y19, rfl⟩ N hN
    obtain ⟨m, hm, rfl⟩ : ∃ m : Nat, m ≤ 1000000000 ∧ d = dN m := by
      have := List.mem_of_getElem? hd
      simp only [List.mem_cons, List.not_mem_nil, or_false] at this
      rcases this with rfl | rfl | rfl | rfl | rfl | rfl | rfl
      · exact ⟨0, by decide, rfl⟩
      · exact ⟨1, by decide, rfl⟩
      · exact ⟨p, by omega, rfl⟩
      · exact ⟨p + (n - p), by omega, rfl⟩
      · exact ⟨k2, by omega, rfl⟩
      · exact ⟨k1, hk1', rfl⟩
      · exact ⟨1000000000, by decide, rfl⟩
    simp only [R11, List.cons_append, List.nil_append, WP.shp, WP.wSeq, WP.wNil, WP.wExpr, WP.wCall, WP.arW, WP.waCons, WP.waNil, WP.wV, WP.wC, WP.wIfS, WP.tNot, WP.tVal, WP.wSet, WP.pLst, WP.pIm, WP.pList, WP.pLrg, WP.tAnd, WP.tOr, WP.tCmp, WP.tChain, WP.wChain, WP.wCmp, WP.wBin, WP.wIsi, WP.wIx, WP.wNeg, WP.wNot, WP.wAnd, WP.wOr, WP.wIf, WP.wAsg, WP.twN, WP.puts, WP.wApp, WP.wRet, WP.wRetN, WP.wAbs, WP.wPass, WP.wBrk, WP.wCnt, WP.wTup, WP.wLst, WP.wSl, WP.woN, WP.woS, WP.wLrg, WP.wDrw, WP.wFor, WP.wFz, WP.wPar, WP.wPar3, WP.wSetIx, WP.wiV, WP.wiE, WP.wiR, WP.wiZ, WP.gs, WP.wIdx, WP.wCount, WP.wLc, WP.tYesW, WP.okF, WP.wipeS, WP.getK.eq_1, WP.getK.eq_2, WP.getK.eq_3, WP.asL.eq_1, WP.binW.eq_1, WP.binW.eq_2, WP.binW.eq_3, WP.binW.eq_4, WP.binW.eq_5, WP.binW.eq_6, WP.binW.eq_7, WP.binW.eq_8, WP.binW.eq_9, WP.binW.eq_10, WP.twT.eq_1, WP.fzK.eq_1, WP.fzK.eq_2, WP.fzK.eq_3, WP.itK.eq_1, WP.itK.eq_2, WP.zipW.eq_1, WP.seqW.eq_1, WP.seqW.eq_2, WP.cutW.eq_1, WP.cutW.eq_2, WP.asML.eq_1, WP.asI.eq_1, WP.asB.eq_1, WP.asN.eq_1, WP.cmpB.eq_1, WP.cmpB.eq_2, WP.cmpB.eq_3, WP.cmpB.eq_4, WP.cmpB.eq_5, WP.cmpB.eq_6, WP.cmpB.eq_7, WP.cmpB.eq_8, WP.cmpB.eq_9, WP.cmpB.eq_10, WP.cmpB.eq_11, WP.cmpB.eq_12, WP.cmpB.eq_13, WP.cmpB.eq_14, WP.ixW.eq_1, WP.ixW.eq_2, WP.idxW.eq_1, WP.isLD.eq_1, WP.lenW.eq_1, WP.lenW.eq_2, WP.tupleW.eq_1, WP.listW.eq_1, WP.listW.eq_2, WP.intW.eq_1, WP.intW.eq_2, WP.absW.eq_1, WP.allW.eq_1, WP.anyW.eq_1, WP.sumW.eq_1, WP.twW.eq_1, WP.cntW.eq_1, WP.itemsN.eq_1, WP.itemsN.eq_2, TH.noL, TH.noLs, true_or, or_true, true_and, and_true, Bool.true_or, Bool.or_true, Bool.false_or, Bool.or_false, Bool.true_and, Bool.and_true, Bool.false_and, Bool.and_false, Bool.not_true, Bool.not_false, reduceIte, List.set_cons_zero, List.set_cons_succ, List.length_cons, List.length_nil, Nat.zero_add, Bool.false_eq_true, Nat.reduceAdd, Nat.reduceLT, Nat.reduceLeDiff, Nat.reduceEqDiff, Int.reduceNeg, decide_true, decide_false, WP.isStr_dX, WP.isStr_int, TH.noL_H, TH.noL_R, TH.noL_S, TH.noL_W, WP.noLs_W, WP.noLs_S, WP.noLs_N, WP.noLs_I, WP.noLs_X, WP.noLs_app, L2.atI_last, WP.atI_0, WP.atI_1, WP.atI_2, WP.atI_3, Option.some.injEq, exists_eq_left', WP.lenW_H, WP.lenW_R, WP.lenW_S, WP.seqW_H, WP.seqW_R, WP.seqW_S, WP.spH_eq, WP.spHN_eq, WP.spHS_eq, WP.spHSN_eq, WP.spHSNN_eq, WP.spHSS_eq, WP.spHSSS_eq, WP.argS_H, WP.argS_S, WP.argS_N, WP.argS_I, TH.eqv_int, TH.eqv_nat, TH.eqv_str, TH.eqv_ex, TH.eqv_W, TH.eqv_R, TH.eqv_H, TH.eqv_S, WP.shp_W, WP.shp_R, WP.shp_H, WP.shp_S, WP.shp_int, WP.shp_bool, WP.shp_none, List.map_cons, List.map_nil, List.append_assoc, List.cons_append, List.nil_append]
    by_cases hmp : (p : Int) < (m : Int)
    · have hmp' : p ≤ m := by omega
      have hcd : CDiv ((m : Int) - (p : Int)) (((n - p : Nat)) : Int) := ⟨by omega, by omega⟩
      have hmod : 0 < (((n - p : Nat)) : Int) := by omega
      have e5 : (m : Int) - (p : Int) = ((m - p : Nat) : Int) := by omega
      simp only [hmp, WP.shp, WP.wSeq, WP.wNil, WP.wExpr, WP.wCall, WP.arW, WP.waCons, WP.waNil, WP.wV, WP.wC, WP.wIfS, WP.tNot, WP.tVal, WP.wSet, WP.pLst, WP.pIm, WP.pList, WP.pLrg, WP.tAnd, WP.tOr, WP.tCmp, WP.tChain, WP.wChain, WP.wCmp, WP.wBin, WP.wIsi, WP.wIx, WP.wNeg, WP.wNot, WP.wAnd, WP.wOr, WP.wIf, WP.wAsg, WP.twN, WP.puts, WP.wApp, WP.wRet, WP.wRetN, WP.wAbs, WP.wPass, WP.wBrk, WP.wCnt, WP.wTup, WP.wLst, WP.wSl, WP.woN, WP.woS, WP.wLrg, WP.wDrw, WP.wFor, WP.wFz, WP.wPar, WP.wPar3, WP.wSetIx, WP.wiV, WP.wiE, WP.wiR, WP.wiZ, WP.gs, WP.wIdx, WP.wCount, WP.wLc, WP.tYesW, WP.okF, WP.wipeS, WP.getK.eq_1, WP.getK.eq_2, WP.getK.eq_3, WP.asL.eq_1, WP.binW.eq_1, WP.binW.eq_2, WP.binW.eq_3, WP.binW.eq_4, WP.binW.eq_5, WP.binW.eq_6, WP.binW.eq_7, WP.binW.eq_8, WP.binW.eq_9, WP.binW.eq_10, WP.twT.eq_1, WP.fzK.eq_1, WP.fzK.eq_2, WP.fzK.eq_3, WP.itK.eq_1, WP.itK.eq_2, WP.zipW.eq_1, WP.seqW.eq_1, WP.seqW.eq_2, WP.cutW.eq_1, WP.cutW.eq_2, WP.asML.eq_1, WP.asI.eq_1, WP.asB.eq_1, WP.asN.eq_1, WP.cmpB.eq_1, WP.cmpB.eq_2, WP.cmpB.eq_3, WP.cmpB.eq_4, WP.cmpB.eq_5, WP.cmpB.eq_6, WP.cmpB.eq_7, WP.cmpB.eq_8, WP.cmpB.eq_9, WP.cmpB.eq_10, WP.cmpB.eq_11, WP.cmpB.eq_12, WP.cmpB.eq_13, WP.cmpB.eq_14, WP.ixW.eq_1, WP.ixW.eq_2, WP.idxW.eq_1, WP.isLD.eq_1, WP.lenW.eq_1, WP.lenW.eq_2, WP.tupleW.eq_1, WP.listW.eq_1, WP.listW.eq_2, WP.intW.eq_1, WP.intW.eq_2, WP.absW.eq_1, WP.allW.eq_1, WP.anyW.eq_1, WP.sumW.eq_1, WP.twW.eq_1, WP.cntW.eq_1, WP.itemsN.eq_1, WP.itemsN.eq_2, TH.noL, TH.noLs, true_or, or_true, true_and, and_true, Bool.true_or, Bool.or_true, Bool.false_or, Bool.or_false, Bool.true_and, Bool.and_true, Bool.false_and, Bool.and_false, Bool.not_true, Bool.not_false, reduceIte, List.set_cons_zero, List.set_cons_succ, List.length_cons, List.length_nil, Nat.zero_add, Bool.false_eq_true, Nat.reduceAdd, Nat.reduceLT, Nat.reduceLeDiff, Nat.reduceEqDiff, Int.reduceNeg, decide_true, decide_false, WP.isStr_dX, WP.isStr_int, TH.noL_H, TH.noL_R, TH.noL_S, TH.noL_W, WP.noLs_W, WP.noLs_S, WP.noLs_N, WP.noLs_I, WP.noLs_X, WP.noLs_app, L2.atI_last, WP.atI_0, WP.atI_1, WP.atI_2, WP.atI_3, Option.some.injEq, exists_eq_left', WP.lenW_H, WP.lenW_R, WP.lenW_S, WP.seqW_H, WP.seqW_R, WP.seqW_S, WP.spH_eq, WP.spHN_eq, WP.spHS_eq, WP.spHSN_eq, WP.spHSNN_eq, WP.spHSS_eq, WP.spHSSS_eq, WP.argS_H, WP.argS_S, WP.argS_N, WP.argS_I, TH.eqv_int, TH.eqv_nat, TH.eqv_str, TH.eqv_ex, TH.eqv_W, TH.eqv_R, TH.eqv_H, TH.eqv_S, WP.shp_W, WP.shp_R, WP.shp_H, WP.shp_S, WP.shp_int, WP.shp_bool, WP.shp_none, List.map_cons, List.map_nil, List.append_assoc, List.cons_append, List.nil_append, hcd, hmod]
      rw [e5, ← Int.natCast_ediv, ← Int.natCast_emod]
      have hr := Nat.mod_lt (m - p) hL
      have e6 : (p : Int) + (((m - p) % (n - p) : Nat) : Int) = ((p + (m - p) % (n - p) : Nat) : Int) := by omega
      rw [e6]
      refine q4 (c := c + 1 + 1) o cr hm (by omega) ?_ (cr.nit_many hmp').symm (fun e => ?_) fun y17 y18 y19 => hN _ ⟨_, _, _, _, y17, y18, y19, rfl⟩
      · exact Nat.le_trans (Nat.div_le_self _ _) (by omega)
      · rw [cr.cnt_many hmp', cnt_add]
        omega
    · simp only [hmp, WP.shp, WP.wSeq, WP.wNil, WP.wExpr, WP.wCall, WP.arW, WP.waCons, WP.waNil, WP.wV, WP.wC, WP.wIfS, WP.tNot, WP.tVal, WP.wSet, WP.pLst, WP.pIm, WP.pList, WP.pLrg, WP.tAnd, WP.tOr, WP.tCmp, WP.tChain, WP.wChain, WP.wCmp, WP.wBin, WP.wIsi, WP.wIx, WP.wNeg, WP.wNot, WP.wAnd, WP.wOr, WP.wIf, WP.wAsg, WP.twN, WP.puts, WP.wApp, WP.wRet, WP.wRetN, WP.wAbs, WP.wPass, WP.wBrk, WP.wCnt, WP.wTup, WP.wLst, WP.wSl, WP.woN, WP.woS, WP.wLrg, WP.wDrw, WP.wFor, WP.wFz, WP.wPar, WP.wPar3, WP.wSetIx, WP.wiV, WP.wiE, WP.wiR, WP.wiZ, WP.gs, WP.wIdx, WP.wCount, WP.wLc, WP.tYesW, WP.okF, WP.wipeS, WP.getK.eq_1, WP.getK.eq_2, WP.getK.eq_3, WP.asL.eq_1, WP.binW.eq_1, WP.binW.eq_2, WP.binW.eq_3, WP.binW.eq_4, WP.binW.eq_5, WP.binW.eq_6, WP.binW.eq_7, WP.binW.eq_8, WP.binW.eq_9, WP.binW.eq_10, WP.twT.eq_1, WP.fzK.eq_1, WP.fzK.eq_2, WP.fzK.eq_3, WP.itK.eq_1, WP.itK.eq_2, WP.zipW.eq_1, WP.seqW.eq_1, WP.seqW.eq_2, WP.cutW.eq_1, WP.cutW.eq_2, WP.asML.eq_1, WP.asI.eq_1, WP.asB.eq_1, WP.asN.eq_1, WP.cmpB.eq_1, WP.cmpB.eq_2, WP.cmpB.eq_3, WP.cmpB.eq_4, WP.cmpB.eq_5, WP.cmpB.eq_6, WP.cmpB.eq_7, WP.cmpB.eq_8, WP.cmpB.eq_9, WP.cmpB.eq_10, WP.cmpB.eq_11, WP.cmpB.eq_12, WP.cmpB.eq_13, WP.cmpB.eq_14, WP.ixW.eq_1, WP.ixW.eq_2, WP.idxW.eq_1, WP.isLD.eq_1, WP.lenW.eq_1, WP.lenW.eq_2, WP.tupleW.eq_1, WP.listW.eq_1, WP.listW.eq_2, WP.intW.eq_1, WP.intW.eq_2, WP.absW.eq_1, WP.allW.eq_1, WP.anyW.eq_1, WP.sumW.eq_1, WP.twW.eq_1, WP.cntW.eq_1, WP.itemsN.eq_1, WP.itemsN.eq_2, TH.noL, TH.noLs, true_or, or_true, true_and, and_true, Bool.true_or, Bool.or_true, Bool.false_or, Bool.or_false, Bool.true_and, Bool.and_true, Bool.false_and, Bool.and_false, Bool.not_true, Bool.not_false, reduceIte, List.set_cons_zero, List.set_cons_succ, List.length_cons, List.length_nil, Nat.zero_add, Bool.false_eq_true, Nat.reduceAdd, Nat.reduceLT, Nat.reduceLeDiff, Nat.reduceEqDiff, Int.reduceNeg, decide_true, decide_false, WP.isStr_dX, WP.isStr_int, TH.noL_H, TH.noL_R, TH.noL_S, TH.noL_W, WP.noLs_W, WP.noLs_S, WP.noLs_N, WP.noLs_I, WP.noLs_X, WP.noLs_app, L2.atI_last, WP.atI_0, WP.atI_1, WP.atI_2, WP.atI_3, Option.some.injEq, exists_eq_left', WP.lenW_H, WP.lenW_R, WP.lenW_S, WP.seqW_H, WP.seqW_R, WP.seqW_S, WP.spH_eq, WP.spHN_eq, WP.spHS_eq, WP.spHSN_eq, WP.spHSNN_eq, WP.spHSS_eq, WP.spHSSS_eq, WP.argS_H, WP.argS_S, WP.argS_N, WP.argS_I, TH.eqv_int, TH.eqv_nat, TH.eqv_str, TH.eqv_ex, TH.eqv_W, TH.eqv_R, TH.eqv_H, TH.eqv_S, WP.shp_W, WP.shp_R, WP.shp_H, WP.shp_S, WP.shp_int, WP.shp_bool, WP.shp_none, List.map_cons, List.map_nil, List.append_assoc, List.cons_append, List.nil_append]
      refine q4 (c := c + 1 + 1) (whole := 0) (rest := m) o cr hm (by omega) (by omega) rfl (fun e => ?_) fun y17 y18 y19 => hN _ ⟨_, _, _, _, y17, y18, y19, rfl⟩
      rw [Nat.zero_mul, Nat.zero_add]
  · rintro ρ ⟨y13, y14, y15, y16, y17, y18, y19, rfl⟩
    exact q5 o
theorem q7 (hss : ss.length ≤ 63) (o : OkS h s x) (cr : Crs h s x n p) (en : crN h s x = n) (ep : crP h s x = p) (hc : c ≤ 1000) {y9 y10 y11 : SV} : W_law_7 { nx := fun _ => False, rt := fun z _ => z = .bool true } (R11 ss t c h x s n p y9 y10 y11 ++ [.no, .no, .no, .no, .no, .no, .no, .no, .no, .no, .no, .no, .no, .no]) := by
  have hpn := cr.lt
  have el : ((n : Nat) : Int) - (p : Int) = ((n - p : Nat) : Int) := by omega
  have e1 : PyData.tuple [dN p, dN (n - p)] = dS [p, n - p] := rfl
  simp only [R11, List.cons_append, List.nil_append, W_law_7, WP.shp, WP.wSeq, WP.wNil, WP.wExpr, WP.wCall, WP.arW, WP.waCons, WP.waNil, WP.wV, WP.wC, WP.wIfS, WP.tNot, WP.tVal, WP.wSet, WP.pLst, WP.pIm, WP.pList, WP.pLrg, WP.tAnd, WP.tOr, WP.tCmp, WP.tChain, WP.wChain, WP.wCmp, WP.wBin, WP.wIsi, WP.wIx, WP.wNeg, WP.wNot, WP.wAnd, WP.wOr, WP.wIf, WP.wAsg, WP.twN, WP.puts, WP.wApp, WP.wRet, WP.wRetN, WP.wAbs, WP.wPass, WP.wBrk, WP.wCnt, WP.wTup, WP.wLst, WP.wSl, WP.woN, WP.woS, WP.wLrg, WP.wDrw, WP.wFor, WP.wFz, WP.wPar, WP.wPar3, WP.wSetIx, WP.wiV, WP.wiE, WP.wiR, WP.wiZ, WP.gs, WP.wIdx, WP.wCount, WP.wLc, WP.tYesW, WP.okF, WP.wipeS, WP.getK.eq_1, WP.getK.eq_2, WP.getK.eq_3, WP.asL.eq_1, WP.binW.eq_1, WP.binW.eq_2, WP.binW.eq_3, WP.binW.eq_4, WP.binW.eq_5, WP.binW.eq_6, WP.binW.eq_7, WP.binW.eq_8, WP.binW.eq_9, WP.binW.eq_10, WP.twT.eq_1, WP.fzK.eq_1, WP.fzK.eq_2, WP.fzK.eq_3, WP.itK.eq_1, WP.itK.eq_2, WP.zipW.eq_1, WP.seqW.eq_1, WP.seqW.eq_2, WP.cutW.eq_1, WP.cutW.eq_2, WP.asML.eq_1, WP.asI.eq_1, WP.asB.eq_1, WP.asN.eq_1, WP.cmpB.eq_1, WP.cmpB.eq_2, WP.cmpB.eq_3, WP.cmpB.eq_4, WP.cmpB.eq_5, WP.cmpB.eq_6, WP.cmpB.eq_7, WP.cmpB.eq_8, WP.cmpB.eq_9, WP.cmpB.eq_10, WP.cmpB.eq_11, WP.cmpB.eq_12, WP.cmpB.eq_13, WP.cmpB.eq_14, WP.ixW.eq_1, WP.ixW.eq_2, WP.idxW.eq_1, WP.isLD.eq_1, WP.lenW.eq_1, WP.lenW.eq_2, WP.tupleW.eq_1, WP.listW.eq_1, WP.listW.eq_2, WP.intW.eq_1, WP.intW.eq_2, WP.absW.eq_1, WP.allW.eq_1, WP.anyW.eq_1, WP.sumW.eq_1, WP.twW.eq_1, WP.cntW.eq_1, WP.itemsN.eq_1, WP.itemsN.eq_2, TH.noL, TH.noLs, true_or, or_true, true_and, and_true, Bool.true_or, Bool.or_true, Bool.false_or, Bool.or_false, Bool.true_and, Bool.and_true, Bool.false_and, Bool.and_false, Bool.not_true, Bool.not_false, reduceIte, List.set_cons_zero, List.set_cons_succ, List.length_cons, List.length_nil, Nat.zero_add, Bool.false_eq_true, Nat.reduceAdd, Nat.reduceLT, Nat.reduceLeDiff, Nat.reduceEqDiff, Int.reduceNeg, decide_true, decide_false, WP.isStr_dX, WP.isStr_int, TH.noL_H, TH.noL_R, TH.noL_S, TH.noL_W, WP.noLs_W, WP.noLs_S, WP.noLs_N, WP.noLs_I, WP.noLs_X, WP.noLs_app, L2.atI_last, WP.atI_0, WP.atI_1, WP.atI_2, WP.atI_3, Option.some.injEq, exists_eq_left', WP.lenW_H, WP.lenW_R, WP.lenW_S, WP.seqW_H, WP.seqW_R, WP.seqW_S, WP.spH_eq, WP.spHN_eq, WP.spHS_eq, WP.spHSN_eq, WP.spHSNN_eq, WP.spHSS_eq, WP.spHSSS_eq, WP.argS_H, WP.argS_S, WP.argS_N, WP.argS_I, TH.eqv_int, TH.eqv_nat, TH.eqv_str, TH.eqv_ex, TH.eqv_W, TH.eqv_R, TH.eqv_H, TH.eqv_S, WP.shp_W, WP.shp_R, WP.shp_H, WP.shp_S, WP.shp_int, WP.shp_bool, WP.shp_none, List.map_cons, List.map_nil, List.append_assoc, List.cons_append, List.nil_append, List.length_map, exL_len, el, sp_returns, o, en, ep]
  rw [e1]
  simp only [WP.shp, WP.wSeq, WP.wNil, WP.wExpr, WP.wCall, WP.arW, WP.waCons, WP.waNil, WP.wV, WP.wC, WP.wIfS, WP.tNot, WP.tVal, WP.wSet, WP.pLst, WP.pIm, WP.pList, WP.pLrg, WP.tAnd, WP.tOr, WP.tCmp, WP.tChain, WP.wChain, WP.wCmp, WP.wBin, WP.wIsi, WP.wIx, WP.wNeg, WP.wNot, WP.wAnd, WP.wOr, WP.wIf, WP.wAsg, WP.twN, WP.puts, WP.wApp, WP.wRet, WP.wRetN, WP.wAbs, WP.wPass, WP.wBrk, WP.wCnt, WP.wTup, WP.wLst, WP.wSl, WP.woN, WP.woS, WP.wLrg, WP.wDrw, WP.wFor, WP.wFz, WP.wPar, WP.wPar3, WP.wSetIx, WP.wiV, WP.wiE, WP.wiR, WP.wiZ, WP.gs, WP.wIdx, WP.wCount, WP.wLc, WP.tYesW, WP.okF, WP.wipeS, WP.getK.eq_1, WP.getK.eq_2, WP.getK.eq_3, WP.asL.eq_1, WP.binW.eq_1, WP.binW.eq_2, WP.binW.eq_3, WP.binW.eq_4, WP.binW.eq_5, WP.binW.eq_6, WP.binW.eq_7, WP.binW.eq_8, WP.binW.eq_9, WP.binW.eq_10, WP.twT.eq_1, WP.fzK.eq_1, WP.fzK.eq_2, WP.fzK.eq_3, WP.itK.eq_1, WP.itK.eq_2, WP.zipW.eq_1, WP.seqW.eq_1, WP.seqW.eq_2, WP.cutW.eq_1, WP.cutW.eq_2, WP.asML.eq_1, WP.asI.eq_1, WP.asB.eq_1, WP.asN.eq_1, WP.cmpB.eq_1, WP.cmpB.eq_2, WP.cmpB.eq_3, WP.cmpB.eq_4, WP.cmpB.eq_5, WP.cmpB.eq_6, WP.cmpB.eq_7, WP.cmpB.eq_8, WP.cmpB.eq_9, WP.cmpB.eq_10, WP.cmpB.eq_11, WP.cmpB.eq_12, WP.cmpB.eq_13, WP.cmpB.eq_14, WP.ixW.eq_1, WP.ixW.eq_2, WP.idxW.eq_1, WP.isLD.eq_1, WP.lenW.eq_1, WP.lenW.eq_2, WP.tupleW.eq_1, WP.listW.eq_1, WP.listW.eq_2, WP.intW.eq_1, WP.intW.eq_2, WP.absW.eq_1, WP.allW.eq_1, WP.anyW.eq_1, WP.sumW.eq_1, WP.twW.eq_1, WP.cntW.eq_1, WP.itemsN.eq_1, WP.itemsN.eq_2, TH.noL, TH.noLs, true_or, or_true, true_and, and_true, Bool.true_or, Bool.or_true, Bool.false_or, Bool.or_false, Bool.true_and, Bool.and_true, Bool.false_and, Bool.and_false, Bool.not_true, Bool.not_false, reduceIte, List.set_cons_zero, List.set_cons_succ, List.length_cons, List.length_nil, Nat.zero_add, Bool.false_eq_true, Nat.reduceAdd, Nat.reduceLT, Nat.reduceLeDiff, Nat.reduceEqDiff, Int.reduceNeg, decide_true, decide_false, WP.isStr_dX, WP.isStr_int, TH.noL_H, TH.noL_R, TH.noL_S, TH.noL_W, WP.noLs_W, WP.noLs_S, WP.noLs_N, WP.noLs_I, WP.noLs_X, WP.noLs_app, L2.atI_last, WP.atI_0, WP.atI_1, WP.atI_2, WP.atI_3, Option.some.injEq, exists_eq_left', WP.lenW_H, WP.lenW_R, WP.lenW_S, WP.seqW_H, WP.seqW_R, WP.seqW_S, WP.spH_eq, WP.spHN_eq, WP.spHS_eq, WP.spHSN_eq, WP.spHSNN_eq, WP.spHSS_eq, WP.spHSSS_eq, WP.argS_H, WP.argS_S, WP.argS_N, WP.argS_I, TH.eqv_int, TH.eqv_nat, TH.eqv_str, TH.eqv_ex, TH.eqv_W, TH.eqv_R, TH.eqv_H, TH.eqv_S, WP.shp_W, WP.shp_R, WP.shp_H, WP.shp_S, WP.shp_int, WP.shp_bool, WP.shp_none, List.map_cons, List.map_nil, List.append_assoc, List.cons_append, List.nil_append, decide_true]
  exact q6 (y13 := .no) hss o cr hc
end
theorem l_law (ss : List Int) (hss : ss.length ≤ 63) : W_law { nx := fun _ => False, rt := fun z _ => z = .bool true } (.sc ss :: List.replicate (N_law.length - 1) .no) := by
  show W_law _ [.sc ss, .no, .no, .no, .no, .no, .no, .no, .no, .no, .no, .no, .no, .no, .no, .no, .no, .no, .no, .no, .no, .no, .no, .no, .no, .no]
  simp only [W_law, WP.shp, WP.wSeq, WP.wNil, WP.wExpr, WP.wCall, WP.arW, WP.waCons, WP.waNil, WP.wV, WP.wC, WP.wIfS, WP.tNot, WP.tVal, WP.wSet, WP.pLst, WP.pIm, WP.pList, WP.pLrg, WP.tAnd, WP.tOr, WP.tCmp, WP.tChain, WP.wChain, WP.wCmp, WP.wBin, WP.wIsi, WP.wIx, WP.wNeg, WP.wNot, WP.wAnd, WP.wOr, WP.wIf, WP.wAsg, WP.twN, WP.puts, WP.wApp, WP.wRet, WP.wRetN, WP.wAbs, WP.wPass, WP.wBrk, WP.wCnt, WP.wTup, WP.wLst, WP.wSl, WP.woN, WP.woS, WP.wLrg, WP.wDrw, WP.wFor, WP.wFz, WP.wPar, WP.wPar3, WP.wSetIx, WP.wiV, WP.wiE, WP.wiR, WP.wiZ, WP.gs, WP.wIdx, WP.wCount, WP.wLc, WP.tYesW, WP.okF, WP.wipeS, WP.getK.eq_1, WP.getK.eq_2, WP.getK.eq_3, WP.asL.eq_1, WP.binW.eq_1, WP.binW.eq_2, WP.binW.eq_3, WP.binW.eq_4, WP.binW.eq_5, WP.binW.eq_6, WP.binW.eq_7, WP.binW.eq_8, WP.binW.eq_9, WP.binW.eq_10, WP.twT.eq_1, WP.fzK.eq_1, WP.fzK.eq_2, WP.fzK.eq_3, WP.itK.eq_1, WP.itK.eq_2, WP.zipW.eq_1, WP.seqW.eq_1, WP.seqW.eq_2, WP.cutW.eq_1, WP.cutW.eq_2, WP.asML.eq_1, WP.asI.eq_1, WP.asB.eq_1, WP.asN.eq_1, WP.cmpB.eq_1, WP.cmpB.eq_2, WP.cmpB.eq_3, WP.cmpB.eq_4, WP.cmpB.eq_5, WP.cmpB.eq_6, WP.cmpB.eq_7, WP.cmpB.eq_8, WP.cmpB.eq_9, WP.cmpB.eq_10, WP.cmpB.eq_11, WP.cmpB.eq_12, WP.cmpB.eq_13, WP.cmpB.eq_14, WP.ixW.eq_1, WP.ixW.eq_2, WP.idxW.eq_1, WP.isLD.eq_1, WP.lenW.eq_1, WP.lenW.eq_2, WP.tupleW.eq_1, WP.listW.eq_1, WP.listW.eq_2, WP.intW.eq_1, WP.intW.eq_2, WP.absW.eq_1, WP.allW.eq_1, WP.anyW.eq_1, WP.sumW.eq_1, WP.twW.eq_1, WP.cntW.eq_1, WP.itemsN.eq_1, WP.itemsN.eq_2, TH.noL, TH.noLs, true_or, or_true, true_and, and_true, Bool.true_or, Bool.or_true, Bool.false_or, Bool.or_false, Bool.true_and, Bool.and_true, Bool.false_and, Bool.and_false, Bool.not_true, Bool.not_false, reduceIte, List.set_cons_zero, List.set_cons_succ, List.length_cons, List.length_nil, Nat.zero_add, Bool.false_eq_true, Nat.reduceAdd, Nat.reduceLT, Nat.reduceLeDiff, Nat.reduceEqDiff, Int.reduceNeg, decide_true, decide_false, WP.isStr_dX, WP.isStr_int, TH.noL_H, TH.noL_R, TH.noL_S, TH.noL_W, WP.noLs_W, WP.noLs_S, WP.noLs_N, WP.noLs_I, WP.noLs_X, WP.noLs_app, L2.atI_last, WP.atI_0, WP.atI_1, WP.atI_2, WP.atI_3, Option.some.injEq, exists_eq_left', WP.lenW_H, WP.lenW_R, WP.lenW_S, WP.seqW_H, WP.seqW_R, WP.seqW_S, WP.spH_eq, WP.spHN_eq, WP.spHS_eq, WP.spHSN_eq, WP.spHSNN_eq, WP.spHSS_eq, WP.spHSSS_eq, WP.argS_H, WP.argS_S, WP.argS_N, WP.argS_I, TH.eqv_int, TH.eqv_nat, TH.eqv_str, TH.eqv_ex, TH.eqv_W, TH.eqv_R, TH.eqv_H, TH.eqv_S, WP.shp_W, WP.shp_R, WP.shp_H, WP.shp_S, WP.shp_int, WP.shp_bool, WP.shp_none, List.map_cons, List.map_nil, List.append_assoc, List.cons_append, List.nil_append, wTown, asSc.eq_1, hss, kd__law_open_house, kd__law_standing]
  intro t
  refine ⟨by decide, ⟨4, by decide, by decide, rfl⟩, ?_⟩
  rintro z ⟨_, h, x, _, g, _, hx, sf, rfl⟩ _
  simp only [WP.shp, WP.wSeq, WP.wNil, WP.wExpr, WP.wCall, WP.arW, WP.waCons, WP.waNil, WP.wV, WP.wC, WP.wIfS, WP.tNot, WP.tVal, WP.wSet, WP.pLst, WP.pIm, WP.pList, WP.pLrg, WP.tAnd, WP.tOr, WP.tCmp, WP.tChain, WP.wChain, WP.wCmp, WP.wBin, WP.wIsi, WP.wIx, WP.wNeg, WP.wNot, WP.wAnd, WP.wOr, WP.wIf, WP.wAsg, WP.twN, WP.puts, WP.wApp, WP.wRet, WP.wRetN, WP.wAbs, WP.wPass, WP.wBrk, WP.wCnt, WP.wTup, WP.wLst, WP.wSl, WP.woN, WP.woS, WP.wLrg, WP.wDrw, WP.wFor, WP.wFz, WP.wPar, WP.wPar3, WP.wSetIx, WP.wiV, WP.wiE, WP.wiR, WP.wiZ, WP.gs, WP.wIdx, WP.wCount, WP.wLc, WP.tYesW, WP.okF, WP.wipeS, WP.getK.eq_1, WP.getK.eq_2, WP.getK.eq_3, WP.asL.eq_1, WP.binW.eq_1, WP.binW.eq_2, WP.binW.eq_3, WP.binW.eq_4, WP.binW.eq_5, WP.binW.eq_6, WP.binW.eq_7, WP.binW.eq_8, WP.binW.eq_9, WP.binW.eq_10, WP.twT.eq_1, WP.fzK.eq_1, WP.fzK.eq_2, WP.fzK.eq_3, WP.itK.eq_1, WP.itK.eq_2, WP.zipW.eq_1, WP.seqW.eq_1, WP.seqW.eq_2, WP.cutW.eq_1, WP.cutW.eq_2, WP.asML.eq_1, WP.asI.eq_1, WP.asB.eq_1, WP.asN.eq_1, WP.cmpB.eq_1, WP.cmpB.eq_2, WP.cmpB.eq_3, WP.cmpB.eq_4, WP.cmpB.eq_5, WP.cmpB.eq_6, WP.cmpB.eq_7, WP.cmpB.eq_8, WP.cmpB.eq_9, WP.cmpB.eq_10, WP.cmpB.eq_11, WP.cmpB.eq_12, WP.cmpB.eq_13, WP.cmpB.eq_14, WP.ixW.eq_1, WP.ixW.eq_2, WP.idxW.eq_1, WP.isLD.eq_1, WP.lenW.eq_1, WP.lenW.eq_2, WP.tupleW.eq_1, WP.listW.eq_1, WP.listW.eq_2, WP.intW.eq_1, WP.intW.eq_2, WP.absW.eq_1, WP.allW.eq_1, WP.anyW.eq_1, WP.sumW.eq_1, WP.twW.eq_1, WP.cntW.eq_1, WP.itemsN.eq_1, WP.itemsN.eq_2, TH.noL, TH.noLs, true_or, or_true, true_and, and_true, Bool.true_or, Bool.or_true, Bool.false_or, Bool.or_false, Bool.true_and, Bool.and_true, Bool.false_and, Bool.and_false, Bool.not_true, Bool.not_false, reduceIte, List.set_cons_zero, List.set_cons_succ, List.length_cons, List.length_nil, Nat.zero_add, Bool.false_eq_true, Nat.reduceAdd, Nat.reduceLT, Nat.reduceLeDiff, Nat.reduceEqDiff, Int.reduceNeg, decide_true, decide_false, WP.isStr_dX, WP.isStr_int, TH.noL_H, TH.noL_R, TH.noL_S, TH.noL_W, WP.noLs_W, WP.noLs_S, WP.noLs_N, WP.noLs_I, WP.noLs_X, WP.noLs_app, L2.atI_last, WP.atI_0, WP.atI_1, WP.atI_2, WP.atI_3, Option.some.injEq, exists_eq_left', WP.lenW_H, WP.lenW_R, WP.lenW_S, WP.seqW_H, WP.seqW_R, WP.seqW_S, WP.spH_eq, WP.spHN_eq, WP.spHS_eq, WP.spHSN_eq, WP.spHSNN_eq, WP.spHSS_eq, WP.spHSSS_eq, WP.argS_H, WP.argS_S, WP.argS_N, WP.argS_I, TH.eqv_int, TH.eqv_nat, TH.eqv_str, TH.eqv_ex, TH.eqv_W, TH.eqv_R, TH.eqv_H, TH.eqv_S, WP.shp_W, WP.shp_R, WP.shp_H, WP.shp_S, WP.shp_int, WP.shp_bool, WP.shp_none, List.map_cons, List.map_nil, List.append_assoc, List.cons_append, List.nil_append, stand_pr, stand_all, g, hss]
  refine ⟨by decide, fun s gst => ?_⟩
  have o : OkS h s x := ⟨g, gst, hx, sf⟩
  have cr := crs o
  have hn81 := cr.le o
  have q := fun y9 y10 y11 => q7 (t := t) (c := 45) (y9 := y9) (y10 := y10) (y11 := y11) hss o cr rfl rfl (by decide)
  generalize crN h s x = n at *
  generalize crP h s x = p at *
  have sm : SmallH h := small_of g
  simp only [WP.shp, WP.wSeq, WP.wNil, WP.wExpr, WP.wCall, WP.arW, WP.waCons, WP.waNil, WP.wV, WP.wC, WP.wIfS, WP.tNot, WP.tVal, WP.wSet, WP.pLst, WP.pIm, WP.pList, WP.pLrg, WP.tAnd, WP.tOr, WP.tCmp, WP.tChain, WP.wChain, WP.wCmp, WP.wBin, WP.wIsi, WP.wIx, WP.wNeg, WP.wNot, WP.wAnd, WP.wOr, WP.wIf, WP.wAsg, WP.twN, WP.puts, WP.wApp, WP.wRet, WP.wRetN, WP.wAbs, WP.wPass, WP.wBrk, WP.wCnt, WP.wTup, WP.wLst, WP.wSl, WP.woN, WP.woS, WP.wLrg, WP.wDrw, WP.wFor, WP.wFz, WP.wPar, WP.wPar3, WP.wSetIx, WP.wiV, WP.wiE, WP.wiR, WP.wiZ, WP.gs, WP.wIdx, WP.wCount, WP.wLc, WP.tYesW, WP.okF, WP.wipeS, WP.getK.eq_1, WP.getK.eq_2, WP.getK.eq_3, WP.asL.eq_1, WP.binW.eq_1, WP.binW.eq_2, WP.binW.eq_3, WP.binW.eq_4, WP.binW.eq_5, WP.binW.eq_6, WP.binW.eq_7, WP.binW.eq_8, WP.binW.eq_9, WP.binW.eq_10, WP.twT.eq_1, WP.fzK.eq_1, WP.fzK.eq_2, WP.fzK.eq_3, WP.itK.eq_1, WP.itK.eq_2, WP.zipW.eq_1, WP.seqW.eq_1, WP.seqW.eq_2, WP.cutW.eq_1, WP.cutW.eq_2, WP.asML.eq_1, WP.asI.eq_1, WP.asB.eq_1, WP.asN.eq_1, WP.cmpB.eq_1, WP.cmpB.eq_2, WP.cmpB.eq_3, WP.cmpB.eq_4, WP.cmpB.eq_5, WP.cmpB.eq_6, WP.cmpB.eq_7, WP.cmpB.eq_8, WP.cmpB.eq_9, WP.cmpB.eq_10, WP.cmpB.eq_11, WP.cmpB.eq_12, WP.cmpB.eq_13, WP.cmpB.eq_14, WP.ixW.eq_1, WP.ixW.eq_2, WP.idxW.eq_1, WP.isLD.eq_1, WP.lenW.eq_1, WP.lenW.eq_2, WP.tupleW.eq_1, WP.listW.eq_1, WP.listW.eq_2, WP.intW.eq_1, WP.intW.eq_2, WP.absW.eq_1, WP.allW.eq_1, WP.anyW.eq_1, WP.sumW.eq_1, WP.twW.eq_1, WP.cntW.eq_1, WP.itemsN.eq_1, WP.itemsN.eq_2, TH.noL, TH.noLs, true_or, or_true, true_and, and_true, Bool.true_or, Bool.or_true, Bool.false_or, Bool.or_false, Bool.true_and, Bool.and_true, Bool.false_and, Bool.and_false, Bool.not_true, Bool.not_false, reduceIte, List.set_cons_zero, List.set_cons_succ, List.length_cons, List.length_nil, Nat.zero_add, Bool.false_eq_true, Nat.reduceAdd, Nat.reduceLT, Nat.reduceLeDiff, Nat.reduceEqDiff, Int.reduceNeg, decide_true, decide_false, WP.isStr_dX, WP.isStr_int, TH.noL_H, TH.noL_R, TH.noL_S, TH.noL_W, WP.noLs_W, WP.noLs_S, WP.noLs_N, WP.noLs_I, WP.noLs_X, WP.noLs_app, L2.atI_last, WP.atI_0, WP.atI_1, WP.atI_2, WP.atI_3, Option.some.injEq, exists_eq_left', WP.lenW_H, WP.lenW_R, WP.lenW_S, WP.seqW_H, WP.seqW_R, WP.seqW_S, WP.spH_eq, WP.spHN_eq, WP.spHS_eq, WP.spHSN_eq, WP.spHSNN_eq, WP.spHSS_eq, WP.spHSSS_eq, WP.argS_H, WP.argS_S, WP.argS_N, WP.argS_I, TH.eqv_int, TH.eqv_nat, TH.eqv_str, TH.eqv_ex, TH.eqv_W, TH.eqv_R, TH.eqv_H, TH.eqv_S, WP.shp_W, WP.shp_R, WP.shp_H, WP.shp_S, WP.shp_int, WP.shp_bool, WP.shp_none, List.map_cons, List.map_nil, List.append_assoc, List.cons_append, List.nil_append, sp__law_exits, sm]
  refine while_ind (fun m ρ => (∃ (k : Nat) (y9 y10 y11 : SV), m = n - k ∧ k < n ∧ ρ = [.sc ss, .tw t ss.length 45, .im (dH h), .im (dN x), .im (dS s), .im (.list ((exitsOf h).map dX)), .ml ((stL h x s (k + 1)).map dS), .ml ((exL h x s k).map dX), .im .none, y9, y10, y11, .no, .no, .no, .no, .no, .no, .no, .no, .no, .no, .no, .no, .no, .no]) ∨ (m = 0 ∧ ∃ y9 y10 y11, ρ = R11 ss t 45 h x s n p y9 y10 y11 ++ [.no, .no, .no, .no, .no, .no, .no, .no, .no, .no, .no, .no, .no, .no])) ?_ (n := n) (.inl ⟨0, .no, .no, .no, rfl, by have := cr.lt; omega, rfl⟩)
  rintro m ρ (⟨k, y9, y10, y11, rfl, hk, rfl⟩ | ⟨rfl, y9, y10, y11, rfl⟩) N hN
  · have ok := OkS.nit o k
    have e1 : (stL h x s (k + 1)).map dS = (stL h x s k).map dS ++ [dS (nit h x k s)] := by rw [stL_succ, List.map_append]; rfl
    have hl1 : (exL h x s k).length < 100000 := by rw [exL_len]; omega
    have e2 : (exL h x s k).map dX ++ [dX (ex1 h x (nit h x k s))] = (exL h x s (k + 1)).map dX := by rw [exL_succ, List.map_append]; rfl
    have e3 : nx h x (nit h x k s) = nit h x (k + 1) s := (nit_succ h x k s).symm
    simp only [WP.shp, WP.wSeq, WP.wNil, WP.wExpr, WP.wCall, WP.arW, WP.waCons, WP.waNil, WP.wV, WP.wC, WP.wIfS, WP.tNot, WP.tVal, WP.wSet, WP.pLst, WP.pIm, WP.pList, WP.pLrg, WP.tAnd, WP.tOr, WP.tCmp, WP.tChain, WP.wChain, WP.wCmp, WP.wBin, WP.wIsi, WP.wIx, WP.wNeg, WP.wNot, WP.wAnd, WP.wOr, WP.wIf, WP.wAsg, WP.twN, WP.puts, WP.wApp, WP.wRet, WP.wRetN, WP.wAbs, WP.wPass, WP.wBrk, WP.wCnt, WP.wTup, WP.wLst, WP.wSl, WP.woN, WP.woS, WP.wLrg, WP.wDrw, WP.wFor, WP.wFz, WP.wPar, WP.wPar3, WP.wSetIx, WP.wiV, WP.wiE, WP.wiR, WP.wiZ, WP.gs, WP.wIdx, WP.wCount, WP.wLc, WP.tYesW, WP.okF, WP.wipeS, WP.getK.eq_1, WP.getK.eq_2, WP.getK.eq_3, WP.asL.eq_1, WP.binW.eq_1, WP.binW.eq_2, WP.binW.eq_3, WP.binW.eq_4, WP.binW.eq_5, WP.binW.eq_6, WP.binW.eq_7, WP.binW.eq_8, WP.binW.eq_9, WP.binW.eq_10, WP.twT.eq_1, WP.fzK.eq_1, WP.fzK.eq_2, WP.fzK.eq_3, WP.itK.eq_1, WP.itK.eq_2, WP.zipW.eq_1, WP.seqW.eq_1, WP.seqW.eq_2, WP.cutW.eq_1, WP.cutW.eq_2, WP.asML.eq_1, WP.asI.eq_1, WP.asB.eq_1, WP.asN.eq_1, WP.cmpB.eq_1, WP.cmpB.eq_2, WP.cmpB.eq_3, WP.cmpB.eq_4, WP.cmpB.eq_5, WP.cmpB.eq_6, WP.cmpB.eq_7, WP.cmpB.eq_8, WP.cmpB.eq_9, WP.cmpB.eq_10, WP.cmpB.eq_11, WP.cmpB.eq_12, WP.cmpB.eq_13, WP.cmpB.eq_14, WP.ixW.eq_1, WP.ixW.eq_2, WP.idxW.eq_1, WP.isLD.eq_1, WP.lenW.eq_1, WP.lenW.eq_2, WP.tupleW.eq_1, WP.listW.eq_1, WP.listW.eq_2, WP.intW.eq_1, WP.intW.eq_2, WP.absW.eq_1, WP.allW.eq_1, WP.anyW.eq_1, WP.sumW.eq_1, WP.twW.eq_1, WP.cntW.eq_1, WP.itemsN.eq_1, WP.itemsN.eq_2, TH.noL, TH.noLs, true_or, or_true, true_and, and_true, Bool.true_or, Bool.or_true, Bool.false_or, Bool.or_false, Bool.true_and, Bool.and_true, Bool.false_and, Bool.and_false, Bool.not_true, Bool.not_false, reduceIte, List.set_cons_zero, List.set_cons_succ, List.length_cons, List.length_nil, Nat.zero_add, Bool.false_eq_true, Nat.reduceAdd, Nat.reduceLT, Nat.reduceLeDiff, Nat.reduceEqDiff, Int.reduceNeg, decide_true, decide_false, WP.isStr_dX, WP.isStr_int, TH.noL_H, TH.noL_R, TH.noL_S, TH.noL_W, WP.noLs_W, WP.noLs_S, WP.noLs_N, WP.noLs_I, WP.noLs_X, WP.noLs_app, L2.atI_last, WP.atI_0, WP.atI_1, WP.atI_2, WP.atI_3, Option.some.injEq, exists_eq_left', WP.lenW_H, WP.lenW_R, WP.lenW_S, WP.seqW_H, WP.seqW_R, WP.seqW_S, WP.spH_eq, WP.spHN_eq, WP.spHS_eq, WP.spHSN_eq, WP.spHSNN_eq, WP.spHSS_eq, WP.spHSSS_eq, WP.argS_H, WP.argS_S, WP.argS_N, WP.argS_I, TH.eqv_int, TH.eqv_nat, TH.eqv_str, TH.eqv_ex, TH.eqv_W, TH.eqv_R, TH.eqv_H, TH.eqv_S, WP.shp_W, WP.shp_R, WP.shp_H, WP.shp_S, WP.shp_int, WP.shp_bool, WP.shp_none, List.map_cons, List.map_nil, List.append_assoc, List.cons_append, List.nil_append, TH.isNon, e1, sp__law_walk, g, ok.gs, hx, ok.walk, dWalk, List.length_map, hl1, e2, e3]
    rw [← e1]
    have hl2 : ((stL h x s (k + 1)).map dS).length < 100000 := by rw [List.length_map, stL_len]; omega
    have e4 : (stL h x s (k + 1)).map dS ++ [dS (nit h x (k + 1) s)] = (stL h x s (k + 1 + 1)).map dS := by rw [stL_succ h x s (k + 1), List.map_append]; rfl
    simp only [WP.shp, WP.wSeq, WP.wNil, WP.wExpr, WP.wCall, WP.arW, WP.waCons, WP.waNil, WP.wV, WP.wC, WP.wIfS, WP.tNot, WP.tVal, WP.wSet, WP.pLst, WP.pIm, WP.pList, WP.pLrg, WP.tAnd, WP.tOr, WP.tCmp, WP.tChain, WP.wChain, WP.wCmp, WP.wBin, WP.wIsi, WP.wIx, WP.wNeg, WP.wNot, WP.wAnd, WP.wOr, WP.wIf, WP.wAsg, WP.twN, WP.puts, WP.wApp, WP.wRet, WP.wRetN, WP.wAbs, WP.wPass, WP.wBrk, WP.wCnt, WP.wTup, WP.wLst, WP.wSl, WP.woN, WP.woS, WP.wLrg, WP.wDrw, WP.wFor, WP.wFz, WP.wPar, WP.wPar3, WP.wSetIx, WP.wiV, WP.wiE, WP.wiR, WP.wiZ, WP.gs, WP.wIdx, WP.wCount, WP.wLc, WP.tYesW, WP.okF, WP.wipeS, WP.getK.eq_1, WP.getK.eq_2, WP.getK.eq_3, WP.asL.eq_1, WP.binW.eq_1, WP.binW.eq_2, WP.binW.eq_3, WP.binW.eq_4, WP.binW.eq_5, WP.binW.eq_6, WP.binW.eq_7, WP.binW.eq_8, WP.binW.eq_9, WP.binW.eq_10, WP.twT.eq_1, WP.fzK.eq_1, WP.fzK.eq_2, WP.fzK.eq_3, WP.itK.eq_1, WP.itK.eq_2, WP.zipW.eq_1, WP.seqW.eq_1, WP.seqW.eq_2, WP.cutW.eq_1, WP.cutW.eq_2, WP.asML.eq_1, WP.asI.eq_1, WP.asB.eq_1, WP.asN.eq_1, WP.cmpB.eq_1, WP.cmpB.eq_2, WP.cmpB.eq_3, WP.cmpB.eq_4, WP.cmpB.eq_5, WP.cmpB.eq_6, WP.cmpB.eq_7, WP.cmpB.eq_8, WP.cmpB.eq_9, WP.cmpB.eq_10, WP.cmpB.eq_11, WP.cmpB.eq_12, WP.cmpB.eq_13, WP.cmpB.eq_14, WP.ixW.eq_1, WP.ixW.eq_2, WP.idxW.eq_1, WP.isLD.eq_1, WP.lenW.eq_1, WP.lenW.eq_2, WP.tupleW.eq_1, WP.listW.eq_1, WP.listW.eq_2, WP.intW.eq_1, WP.intW.eq_2, WP.absW.eq_1, WP.allW.eq_1, WP.anyW.eq_1, WP.sumW.eq_1, WP.twW.eq_1, WP.cntW.eq_1, WP.itemsN.eq_1, WP.itemsN.eq_2, TH.noL, TH.noLs, true_or, or_true, true_and, and_true, Bool.true_or, Bool.or_true, Bool.false_or, Bool.or_false, Bool.true_and, Bool.and_true, Bool.false_and, Bool.and_false, Bool.not_true, Bool.not_false, reduceIte, List.set_cons_zero, List.set_cons_succ, List.length_cons, List.length_nil, Nat.zero_add, Bool.false_eq_true, Nat.reduceAdd, Nat.reduceLT, Nat.reduceLeDiff, Nat.reduceEqDiff, Int.reduceNeg, decide_true, decide_false, WP.isStr_dX, WP.isStr_int, TH.noL_H, TH.noL_R, TH.noL_S, TH.noL_W, WP.noLs_W, WP.noLs_S, WP.noLs_N, WP.noLs_I, WP.noLs_X, WP.noLs_app, L2.atI_last, WP.atI_0, WP.atI_1, WP.atI_2, WP.atI_3, Option.some.injEq, exists_eq_left', WP.lenW_H, WP.lenW_R, WP.lenW_S, WP.seqW_H, WP.seqW_R, WP.seqW_S, WP.spH_eq, WP.spHN_eq, WP.spHS_eq, WP.spHSN_eq, WP.spHSNN_eq, WP.spHSS_eq, WP.spHSSS_eq, WP.argS_H, WP.argS_S, WP.argS_N, WP.argS_I, TH.eqv_int, TH.eqv_nat, TH.eqv_str, TH.eqv_ex, TH.eqv_W, TH.eqv_R, TH.eqv_H, TH.eqv_S, WP.shp_W, WP.shp_R, WP.shp_H, WP.shp_S, WP.shp_int, WP.shp_bool, WP.shp_none, List.map_cons, List.map_nil, List.append_assoc, List.cons_append, List.nil_append, shp_lS, any_S]
    by_cases hin : nit h x (k + 1) s ∈ stL h x s (k + 1)
    · obtain ⟨j, hj, ej⟩ := List.mem_map.mp hin
      rw [List.mem_range] at hj
      have hkn : k + 1 = n := by
        by_cases hlt : k + 1 < n
        · exact absurd ej (cr.inj j (k + 1) hj hlt)
        · omega
      have hjp : j = p := by
        have h1 : nit h x p s = nit h x j s := by rw [ej, hkn, cr.eq]
        rcases Nat.lt_trichotomy j p with hlt | he | hgt
        · exact absurd h1.symm (cr.inj j p hlt cr.lt)
        · exact he
        · exact absurd h1 (cr.inj p j hgt (by omega))
      simp only [hin, WP.shp, WP.wSeq, WP.wNil, WP.wExpr, WP.wCall, WP.arW, WP.waCons, WP.waNil, WP.wV, WP.wC, WP.wIfS, WP.tNot, WP.tVal, WP.wSet, WP.pLst, WP.pIm, WP.pList, WP.pLrg, WP.tAnd, WP.tOr, WP.tCmp, WP.tChain, WP.wChain, WP.wCmp, WP.wBin, WP.wIsi, WP.wIx, WP.wNeg, WP.wNot, WP.wAnd, WP.wOr, WP.wIf, WP.wAsg, WP.twN, WP.puts, WP.wApp, WP.wRet, WP.wRetN, WP.wAbs, WP.wPass, WP.wBrk, WP.wCnt, WP.wTup, WP.wLst, WP.wSl, WP.woN, WP.woS, WP.wLrg, WP.wDrw, WP.wFor, WP.wFz, WP.wPar, WP.wPar3, WP.wSetIx, WP.wiV, WP.wiE, WP.wiR, WP.wiZ, WP.gs, WP.wIdx, WP.wCount, WP.wLc, WP.tYesW, WP.okF, WP.wipeS, WP.getK.eq_1, WP.getK.eq_2, WP.getK.eq_3, WP.asL.eq_1, WP.binW.eq_1, WP.binW.eq_2, WP.binW.eq_3, WP.binW.eq_4, WP.binW.eq_5, WP.binW.eq_6, WP.binW.eq_7, WP.binW.eq_8, WP.binW.eq_9, WP.binW.eq_10, WP.twT.eq_1, WP.fzK.eq_1, WP.fzK.eq_2, WP.fzK.eq_3, WP.itK.eq_1, WP.itK.eq_2, WP.zipW.eq_1, WP.seqW.eq_1, WP.seqW.eq_2, WP.cutW.eq_1, WP.cutW.eq_2, WP.asML.eq_1, WP.asI.eq_1, WP.asB.eq_1, WP.asN.eq_1, WP.cmpB.eq_1, WP.cmpB.eq_2, WP.cmpB.eq_3, WP.cmpB.eq_4, WP.cmpB.eq_5, WP.cmpB.eq_6, WP.cmpB.eq_7, WP.cmpB.eq_8, WP.cmpB.eq_9, WP.cmpB.eq_10, WP.cmpB.eq_11, WP.cmpB.eq_12, WP.cmpB.eq_13, WP.cmpB.eq_14, WP.ixW.eq_1, WP.ixW.eq_2, WP.idxW.eq_1, WP.isLD.eq_1, WP.lenW.eq_1, WP.lenW.eq_2, WP.tupleW.eq_1, WP.listW.eq_1, WP.listW.eq_2, WP.intW.eq_1, WP.intW.eq_2, WP.absW.eq_1, WP.allW.eq_1, WP.anyW.eq_1, WP.sumW.eq_1, WP.twW.eq_1, WP.cntW.eq_1, WP.itemsN.eq_1, WP.itemsN.eq_2, TH.noL, TH.noLs, true_or, or_true, true_and, and_true, Bool.true_or, Bool.or_true, Bool.false_or, Bool.or_false, Bool.true_and, Bool.and_true, Bool.false_and, Bool.and_false, Bool.not_true, Bool.not_false, reduceIte, List.set_cons_zero, List.set_cons_succ, List.length_cons, List.length_nil, Nat.zero_add, Bool.false_eq_true, Nat.reduceAdd, Nat.reduceLT, Nat.reduceLeDiff, Nat.reduceEqDiff, Int.reduceNeg, decide_true, decide_false, WP.isStr_dX, WP.isStr_int, TH.noL_H, TH.noL_R, TH.noL_S, TH.noL_W, WP.noLs_W, WP.noLs_S, WP.noLs_N, WP.noLs_I, WP.noLs_X, WP.noLs_app, L2.atI_last, WP.atI_0, WP.atI_1, WP.atI_2, WP.atI_3, Option.some.injEq, exists_eq_left', WP.lenW_H, WP.lenW_R, WP.lenW_S, WP.seqW_H, WP.seqW_R, WP.seqW_S, WP.spH_eq, WP.spHN_eq, WP.spHS_eq, WP.spHSN_eq, WP.spHSNN_eq, WP.spHSS_eq, WP.spHSSS_eq, WP.argS_H, WP.argS_S, WP.argS_N, WP.argS_I, TH.eqv_int, TH.eqv_nat, TH.eqv_str, TH.eqv_ex, TH.eqv_W, TH.eqv_R, TH.eqv_H, TH.eqv_S, WP.shp_W, WP.shp_R, WP.shp_H, WP.shp_S, WP.shp_int, WP.shp_bool, WP.shp_none, List.map_cons, List.map_nil, List.append_assoc, List.cons_append, List.nil_append, shp_lS]
      refine ⟨p, ⟨dS (nit h x p s), ?_, ?_⟩, fun m y hm hy => ?_, ?_⟩
      · rw [List.getElem?_map]
        unfold stL
        rw [List.getElem?_map, List.getElem?_range (by omega)]
        rfl
      · rw [eqv_S, ← hjp, ej, decide_eq_true rfl]
      · rw [List.getElem?_map] at hy
        unfold stL at hy
        rw [List.getElem?_map, List.getElem?_range (by omega)] at hy
        cases hy
        rw [eqv_S]
        refine decide_eq_false fun e => ?_
        rw [← ej, hjp] at e
        exact cr.inj m p hm cr.lt e
      · simp only [W_law_1, WP.shp, WP.wSeq, WP.wNil, WP.wExpr, WP.wCall, WP.arW, WP.waCons, WP.waNil, WP.wV, WP.wC, WP.wIfS, WP.tNot, WP.tVal, WP.wSet, WP.pLst, WP.pIm, WP.pList, WP.pLrg, WP.tAnd, WP.tOr, WP.tCmp, WP.tChain, WP.wChain, WP.wCmp, WP.wBin, WP.wIsi, WP.wIx, WP.wNeg, WP.wNot, WP.wAnd, WP.wOr, WP.wIf, WP.wAsg, WP.twN, WP.puts, WP.wApp, WP.wRet, WP.wRetN, WP.wAbs, WP.wPass, WP.wBrk, WP.wCnt, WP.wTup, WP.wLst, WP.wSl, WP.woN, WP.woS, WP.wLrg, WP.wDrw, WP.wFor, WP.wFz, WP.wPar, WP.wPar3, WP.wSetIx, WP.wiV, WP.wiE, WP.wiR, WP.wiZ, WP.gs, WP.wIdx, WP.wCount, WP.wLc, WP.tYesW, WP.okF, WP.wipeS, WP.getK.eq_1, WP.getK.eq_2, WP.getK.eq_3, WP.asL.eq_1, WP.binW.eq_1, WP.binW.eq_2, WP.binW.eq_3, WP.binW.eq_4, WP.binW.eq_5, WP.binW.eq_6, WP.binW.eq_7, WP.binW.eq_8, WP.binW.eq_9, WP.binW.eq_10, WP.twT.eq_1, WP.fzK.eq_1, WP.fzK.eq_2, WP.fzK.eq_3, WP.itK.eq_1, WP.itK.eq_2, WP.zipW.eq_1, WP.seqW.eq_1, WP.seqW.eq_2, WP.cutW.eq_1, WP.cutW.eq_2, WP.asML.eq_1, WP.asI.eq_1, WP.asB.eq_1, WP.asN.eq_1, WP.cmpB.eq_1, WP.cmpB.eq_2, WP.cmpB.eq_3, WP.cmpB.eq_4, WP.cmpB.eq_5, WP.cmpB.eq_6, WP.cmpB.eq_7, WP.cmpB.eq_8, WP.cmpB.eq_9, WP.cmpB.eq_10, WP.cmpB.eq_11, WP.cmpB.eq_12, WP.cmpB.eq_13, WP.cmpB.eq_14, WP.ixW.eq_1, WP.ixW.eq_2, WP.idxW.eq_1, WP.isLD.eq_1, WP.lenW.eq_1, WP.lenW.eq_2, WP.tupleW.eq_1, WP.listW.eq_1, WP.listW.eq_2, WP.intW.eq_1, WP.intW.eq_2, WP.absW.eq_1, WP.allW.eq_1, WP.anyW.eq_1, WP.sumW.eq_1, WP.twW.eq_1, WP.cntW.eq_1, WP.itemsN.eq_1, WP.itemsN.eq_2, TH.noL, TH.noLs, true_or, or_true, true_and, and_true, Bool.true_or, Bool.or_true, Bool.false_or, Bool.or_false, Bool.true_and, Bool.and_true, Bool.false_and, Bool.and_false, Bool.not_true, Bool.not_false, reduceIte, List.set_cons_zero, List.set_cons_succ, List.length_cons, List.length_nil, Nat.zero_add, Bool.false_eq_true, Nat.reduceAdd, Nat.reduceLT, Nat.reduceLeDiff, Nat.reduceEqDiff, Int.reduceNeg, decide_true, decide_false, WP.isStr_dX, WP.isStr_int, TH.noL_H, TH.noL_R, TH.noL_S, TH.noL_W, WP.noLs_W, WP.noLs_S, WP.noLs_N, WP.noLs_I, WP.noLs_X, WP.noLs_app, L2.atI_last, WP.atI_0, WP.atI_1, WP.atI_2, WP.atI_3, Option.some.injEq, exists_eq_left', WP.lenW_H, WP.lenW_R, WP.lenW_S, WP.seqW_H, WP.seqW_R, WP.seqW_S, WP.spH_eq, WP.spHN_eq, WP.spHS_eq, WP.spHSN_eq, WP.spHSNN_eq, WP.spHSS_eq, WP.spHSSS_eq, WP.argS_H, WP.argS_S, WP.argS_N, WP.argS_I, TH.eqv_int, TH.eqv_nat, TH.eqv_str, TH.eqv_ex, TH.eqv_W, TH.eqv_R, TH.eqv_H, TH.eqv_S, WP.shp_W, WP.shp_R, WP.shp_H, WP.shp_S, WP.shp_int, WP.shp_bool, WP.shp_none, List.map_cons, List.map_nil, List.append_assoc, List.cons_append, List.nil_append, hl2]
        rw [e4, hkn]
        exact hN 0 _ (by omega) (.inr ⟨rfl, _, _, _, rfl⟩)
    · have hlt : k + 1 < n := by
        by_cases hlt : k + 1 < n
        · exact hlt
        · have hkn : k + 1 = n := by omega
          refine absurd (List.mem_map.mpr ⟨p, List.mem_range.mpr ?_, ?_⟩) hin
          · have := cr.lt; omega
          · rw [hkn, cr.eq]
      simp only [hin, W_law_1, WP.shp, WP.wSeq, WP.wNil, WP.wExpr, WP.wCall, WP.arW, WP.waCons, WP.waNil, WP.wV, WP.wC, WP.wIfS, WP.tNot, WP.tVal, WP.wSet, WP.pLst, WP.pIm, WP.pList, WP.pLrg, WP.tAnd, WP.tOr, WP.tCmp, WP.tChain, WP.wChain, WP.wCmp, WP.wBin, WP.wIsi, WP.wIx, WP.wNeg, WP.wNot, WP.wAnd, WP.wOr, WP.wIf, WP.wAsg, WP.twN, WP.puts, WP.wApp, WP.wRet, WP.wRetN, WP.wAbs, WP.wPass, WP.wBrk, WP.wCnt, WP.wTup, WP.wLst, WP.wSl, WP.woN, WP.woS, WP.wLrg, WP.wDrw, WP.wFor, WP.wFz, WP.wPar, WP.wPar3, WP.wSetIx, WP.wiV, WP.wiE, WP.wiR, WP.wiZ, WP.gs, WP.wIdx, WP.wCount, WP.wLc, WP.tYesW, WP.okF, WP.wipeS, WP.getK.eq_1, WP.getK.eq_2, WP.getK.eq_3, WP.asL.eq_1, WP.binW.eq_1, WP.binW.eq_2, WP.binW.eq_3, WP.binW.eq_4, WP.binW.eq_5, WP.binW.eq_6, WP.binW.eq_7, WP.binW.eq_8, WP.binW.eq_9, WP.binW.eq_10, WP.twT.eq_1, WP.fzK.eq_1, WP.fzK.eq_2, WP.fzK.eq_3, WP.itK.eq_1, WP.itK.eq_2, WP.zipW.eq_1, WP.seqW.eq_1, WP.seqW.eq_2, WP.cutW.eq_1, WP.cutW.eq_2, WP.asML.eq_1, WP.asI.eq_1, WP.asB.eq_1, WP.asN.eq_1, WP.cmpB.eq_1, WP.cmpB.eq_2, WP.cmpB.eq_3, WP.cmpB.eq_4, WP.cmpB.eq_5, WP.cmpB.eq_6, WP.cmpB.eq_7, WP.cmpB.eq_8, WP.cmpB.eq_9, WP.cmpB.eq_10, WP.cmpB.eq_11, WP.cmpB.eq_12, WP.cmpB.eq_13, WP.cmpB.eq_14, WP.ixW.eq_1, WP.ixW.eq_2, WP.idxW.eq_1, WP.isLD.eq_1, WP.lenW.eq_1, WP.lenW.eq_2, WP.tupleW.eq_1, WP.listW.eq_1, WP.listW.eq_2, WP.intW.eq_1, WP.intW.eq_2, WP.absW.eq_1, WP.allW.eq_1, WP.anyW.eq_1, WP.sumW.eq_1, WP.twW.eq_1, WP.cntW.eq_1, WP.itemsN.eq_1, WP.itemsN.eq_2, TH.noL, TH.noLs, true_or, or_true, true_and, and_true, Bool.true_or, Bool.or_true, Bool.false_or, Bool.or_false, Bool.true_and, Bool.and_true, Bool.false_and, Bool.and_false, Bool.not_true, Bool.not_false, reduceIte, List.set_cons_zero, List.set_cons_succ, List.length_cons, List.length_nil, Nat.zero_add, Bool.false_eq_true, Nat.reduceAdd, Nat.reduceLT, Nat.reduceLeDiff, Nat.reduceEqDiff, Int.reduceNeg, decide_true, decide_false, WP.isStr_dX, WP.isStr_int, TH.noL_H, TH.noL_R, TH.noL_S, TH.noL_W, WP.noLs_W, WP.noLs_S, WP.noLs_N, WP.noLs_I, WP.noLs_X, WP.noLs_app, L2.atI_last, WP.atI_0, WP.atI_1, WP.atI_2, WP.atI_3, Option.some.injEq, exists_eq_left', WP.lenW_H, WP.lenW_R, WP.lenW_S, WP.seqW_H, WP.seqW_R, WP.seqW_S, WP.spH_eq, WP.spHN_eq, WP.spHS_eq, WP.spHSN_eq, WP.spHSNN_eq, WP.spHSS_eq, WP.spHSSS_eq, WP.argS_H, WP.argS_S, WP.argS_N, WP.argS_I, TH.eqv_int, TH.eqv_nat, TH.eqv_str, TH.eqv_ex, TH.eqv_W, TH.eqv_R, TH.eqv_H, TH.eqv_S, WP.shp_W, WP.shp_R, WP.shp_H, WP.shp_S, WP.shp_int, WP.shp_bool, WP.shp_none, List.map_cons, List.map_nil, List.append_assoc, List.cons_append, List.nil_append, hl2]
      rw [e4]
      exact hN (n - (k + 1)) _ (by omega) (.inl ⟨k + 1, _, _, _, rfl, hlt, rfl⟩)
  · simp only [R11, List.cons_append, List.nil_append, WP.shp, WP.wSeq, WP.wNil, WP.wExpr, WP.wCall, WP.arW, WP.waCons, WP.waNil, WP.wV, WP.wC, WP.wIfS, WP.tNot, WP.tVal, WP.wSet, WP.pLst, WP.pIm, WP.pList, WP.pLrg, WP.tAnd, WP.tOr, WP.tCmp, WP.tChain, WP.wChain, WP.wCmp, WP.wBin, WP.wIsi, WP.wIx, WP.wNeg, WP.wNot, WP.wAnd, WP.wOr, WP.wIf, WP.wAsg, WP.twN, WP.puts, WP.wApp, WP.wRet, WP.wRetN, WP.wAbs, WP.wPass, WP.wBrk, WP.wCnt, WP.wTup, WP.wLst, WP.wSl, WP.woN, WP.woS, WP.wLrg, WP.wDrw, WP.wFor, WP.wFz, WP.wPar, WP.wPar3, WP.wSetIx, WP.wiV, WP.wiE, WP.wiR, WP.wiZ, WP.gs, WP.wIdx, WP.wCount, WP.wLc, WP.tYesW, WP.okF, WP.wipeS, WP.getK.eq_1, WP.getK.eq_2, WP.getK.eq_3, WP.asL.eq_1, WP.binW.eq_1, WP.binW.eq_2, WP.binW.eq_3, WP.binW.eq_4, WP.binW.eq_5, WP.binW.eq_6, WP.binW.eq_7, WP.binW.eq_8, WP.binW.eq_9, WP.binW.eq_10, WP.twT.eq_1, WP.fzK.eq_1, WP.fzK.eq_2, WP.fzK.eq_3, WP.itK.eq_1, WP.itK.eq_2, WP.zipW.eq_1, WP.seqW.eq_1, WP.seqW.eq_2, WP.cutW.eq_1, WP.cutW.eq_2, WP.asML.eq_1, WP.asI.eq_1, WP.asB.eq_1, WP.asN.eq_1, WP.cmpB.eq_1, WP.cmpB.eq_2, WP.cmpB.eq_3, WP.cmpB.eq_4, WP.cmpB.eq_5, WP.cmpB.eq_6, WP.cmpB.eq_7, WP.cmpB.eq_8, WP.cmpB.eq_9, WP.cmpB.eq_10, WP.cmpB.eq_11, WP.cmpB.eq_12, WP.cmpB.eq_13, WP.cmpB.eq_14, WP.ixW.eq_1, WP.ixW.eq_2, WP.idxW.eq_1, WP.isLD.eq_1, WP.lenW.eq_1, WP.lenW.eq_2, WP.tupleW.eq_1, WP.listW.eq_1, WP.listW.eq_2, WP.intW.eq_1, WP.intW.eq_2, WP.absW.eq_1, WP.allW.eq_1, WP.anyW.eq_1, WP.sumW.eq_1, WP.twW.eq_1, WP.cntW.eq_1, WP.itemsN.eq_1, WP.itemsN.eq_2, TH.noL, TH.noLs, true_or, or_true, true_and, and_true, Bool.true_or, Bool.or_true, Bool.false_or, Bool.or_false, Bool.true_and, Bool.and_true, Bool.false_and, Bool.and_false, Bool.not_true, Bool.not_false, reduceIte, List.set_cons_zero, List.set_cons_succ, List.length_cons, List.length_nil, Nat.zero_add, Bool.false_eq_true, Nat.reduceAdd, Nat.reduceLT, Nat.reduceLeDiff, Nat.reduceEqDiff, Int.reduceNeg, decide_true, decide_false, WP.isStr_dX, WP.isStr_int, TH.noL_H, TH.noL_R, TH.noL_S, TH.noL_W, WP.noLs_W, WP.noLs_S, WP.noLs_N, WP.noLs_I, WP.noLs_X, WP.noLs_app, L2.atI_last, WP.atI_0, WP.atI_1, WP.atI_2, WP.atI_3, Option.some.injEq, exists_eq_left', WP.lenW_H, WP.lenW_R, WP.lenW_S, WP.seqW_H, WP.seqW_R, WP.seqW_S, WP.spH_eq, WP.spHN_eq, WP.spHS_eq, WP.spHSN_eq, WP.spHSNN_eq, WP.spHSS_eq, WP.spHSSS_eq, WP.argS_H, WP.argS_S, WP.argS_N, WP.argS_I, TH.eqv_int, TH.eqv_nat, TH.eqv_str, TH.eqv_ex, TH.eqv_W, TH.eqv_R, TH.eqv_H, TH.eqv_S, WP.shp_W, WP.shp_R, WP.shp_H, WP.shp_S, WP.shp_int, WP.shp_bool, WP.shp_none, List.map_cons, List.map_nil, List.append_assoc, List.cons_append, List.nil_append, TH.isNon]
    exact q y9 y10 y11
theorem ok_law (T : Bts mg) (F__law_town : FnD P w K mg base 1 "_law_town" (spTown K)) (F__law_open_house : FnD P w K mg base 4 "_law_open_house" (spT K kd__law_open_house pr__law_open_house rl__law_open_house)) (F__law_standing : FnD P w K mg base 2 "_law_standing" (spT K kd__law_standing pr__law_standing rl__law_standing)) (F__law_exits : FnD P w K mg base 1 "_law_exits" (spW K 1 sp__law_exits)) (F__law_walk : FnD P w K mg base 1 "_law_walk" (spW K 3 sp__law_walk)) (F_returns : FnD P w K mg base 8 "returns" (spW K 3 sp_returns)) (F__law_draw : FnD P w K mg base 1 "_law_draw" (spT K kd__law_draw pr__law_draw rl__law_draw)) (F_send : FnD P w K mg base 7 "send" (spW K 4 sp_send)) : ∀ f fd, Fun K "law" "law" s_law f fd → FnOk P w K mg base CX0 9 f fd ["script"] (spLaw K) := fun f fd F => Fun.okLaw F sc_law (by decide) (c_law T F__law_town F__law_open_house F__law_standing F__law_exits F__law_walk F_returns F__law_draw F_send) l_law
end
end TK

namespace TK
open PySem L2 TH WP PyProof.Rows
/-! ### what the top has written -/
theorem all_mk {l : PySem.W.OpenLaw} {w : World} {K : PySem.W.Frag} {h : Heap} {mg : Str → Option Value} {fa : Addr} (X : K.In h) (G : h.Ns mainGlobals mg) (hfa : mg "law" = some (.ref fa))
    {f_q0 : Addr} {oc_q0 kV_q0 dc_q0 pm_q0 cd_q0 ct_q0 : Value} {od_q0 an_q0 : Option Addr} {sl_q0 : Array (Option Value)}
    {f_q1 : Addr} {oc_q1 kV_q1 dc_q1 pm_q1 cd_q1 ct_q1 : Value} {od_q1 an_q1 : Option Addr} {sl_q1 : Array (Option Value)}
    {f_q2 : Addr} {oc_q2 kV_q2 dc_q2 pm_q2 cd_q2 ct_q2 : Value} {od_q2 an_q2 : Option Addr} {sl_q2 : Array (Option Value)}
    {f_q3 : Addr} {oc_q3 kV_q3 dc_q3 pm_q3 cd_q3 ct_q3 : Value} {od_q3 an_q3 : Option Addr} {sl_q3 : Array (Option Value)}
    {f_q4 : Addr} {oc_q4 kV_q4 dc_q4 pm_q4 cd_q4 ct_q4 : Value} {od_q4 an_q4 : Option Addr} {sl_q4 : Array (Option Value)}
    {f_q5 : Addr} {oc_q5 kV_q5 dc_q5 pm_q5 cd_q5 ct_q5 : Value} {od_q5 an_q5 : Option Addr} {sl_q5 : Array (Option Value)}
    {f_q6 : Addr} {oc_q6 kV_q6 dc_q6 pm_q6 cd_q6 ct_q6 : Value} {od_q6 an_q6 : Option Addr} {sl_q6 : Array (Option Value)}
    {f_q7 : Addr} {oc_q7 kV_q7 dc_q7 pm_q7 cd_q7 ct_q7 : Value} {od_q7 an_q7 : Option Addr} {sl_q7 : Array (Option Value)}
    {f_q8 : Addr} {oc_q8 kV_q8 dc_q8 pm_q8 cd_q8 ct_q8 : Value} {od_q8 an_q8 : Option Addr} {sl_q8 : Array (Option Value)}
    {f_q9 : Addr} {oc_q9 kV_q9 dc_q9 pm_q9 cd_q9 ct_q9 : Value} {od_q9 an_q9 : Option Addr} {sl_q9 : Array (Option Value)}
    {f_q10 : Addr} {oc_q10 kV_q10 dc_q10 pm_q10 cd_q10 ct_q10 : Value} {od_q10 an_q10 : Option Addr} {sl_q10 : Array (Option Value)}
    {f_q11 : Addr} {oc_q11 kV_q11 dc_q11 pm_q11 cd_q11 ct_q11 : Value} {od_q11 an_q11 : Option Addr} {sl_q11 : Array (Option Value)}
    {f_q12 : Addr} {oc_q12 kV_q12 dc_q12 pm_q12 cd_q12 ct_q12 : Value} {od_q12 an_q12 : Option Addr} {sl_q12 : Array (Option Value)}
    {f_q13 : Addr} {oc_q13 kV_q13 dc_q13 pm_q13 cd_q13 ct_q13 : Value} {od_q13 an_q13 : Option Addr} {sl_q13 : Array (Option Value)}
    {f_q14 : Addr} {oc_q14 kV_q14 dc_q14 pm_q14 cd_q14 ct_q14 : Value} {od_q14 an_q14 : Option Addr} {sl_q14 : Array (Option Value)}
    {f_q15 : Addr} {oc_q15 kV_q15 dc_q15 pm_q15 cd_q15 ct_q15 : Value} {od_q15 an_q15 : Option Addr} {sl_q15 : Array (Option Value)}
    {f_q16 : Addr} {oc_q16 kV_q16 dc_q16 pm_q16 cd_q16 ct_q16 : Value} {od_q16 an_q16 : Option Addr} {sl_q16 : Array (Option Value)}
    {f_q17 : Addr} {oc_q17 kV_q17 dc_q17 pm_q17 cd_q17 ct_q17 : Value} {od_q17 an_q17 : Option Addr} {sl_q17 : Array (Option Value)}
    {f_q18 : Addr} {oc_q18 kV_q18 dc_q18 pm_q18 cd_q18 ct_q18 : Value} {od_q18 an_q18 : Option Addr} {sl_q18 : Array (Option Value)}
    {f_q19 : Addr} {oc_q19 kV_q19 dc_q19 pm_q19 cd_q19 ct_q19 : Value} {od_q19 an_q19 : Option Addr} {sl_q19 : Array (Option Value)}
    {f_q20 : Addr} {oc_q20 kV_q20 dc_q20 pm_q20 cd_q20 ct_q20 : Value} {od_q20 an_q20 : Option Addr} {sl_q20 : Array (Option Value)}
    {f_q21 : Addr} {oc_q21 kV_q21 dc_q21 pm_q21 cd_q21 ct_q21 : Value} {od_q21 an_q21 : Option Addr} {sl_q21 : Array (Option Value)}
    {f_q22 : Addr} {oc_q22 kV_q22 dc_q22 pm_q22 cd_q22 ct_q22 : Value} {od_q22 an_q22 : Option Addr} {sl_q22 : Array (Option Value)}
    {f_q23 : Addr} {oc_q23 kV_q23 dc_q23 pm_q23 cd_q23 ct_q23 : Value} {od_q23 an_q23 : Option Addr} {sl_q23 : Array (Option Value)}
    {f_q24 : Addr} {oc_q24 kV_q24 dc_q24 pm_q24 cd_q24 ct_q24 : Value} {od_q24 an_q24 : Option Addr} {sl_q24 : Array (Option Value)}
    {f_q25 : Addr} {oc_q25 kV_q25 dc_q25 pm_q25 cd_q25 ct_q25 : Value} {od_q25 an_q25 : Option Addr} {sl_q25 : Array (Option Value)}
    {f_q26 : Addr} {oc_q26 kV_q26 dc_q26 pm_q26 cd_q26 ct_q26 : Value} {od_q26 an_q26 : Option Addr} {sl_q26 : Array (Option Value)}
    {f_q27 : Addr} {oc_q27 kV_q27 dc_q27 pm_q27 cd_q27 ct_q27 : Value} {od_q27 an_q27 : Option Addr} {sl_q27 : Array (Option Value)}
    {f_q28 : Addr} {oc_q28 kV_q28 dc_q28 pm_q28 cd_q28 ct_q28 : Value} {od_q28 an_q28 : Option Addr} {sl_q28 : Array (Option Value)}
    {f_q29 : Addr} {oc_q29 kV_q29 dc_q29 pm_q29 cd_q29 ct_q29 : Value} {od_q29 an_q29 : Option Addr} {sl_q29 : Array (Option Value)}
    {f_q30 : Addr} {oc_q30 kV_q30 dc_q30 pm_q30 cd_q30 ct_q30 : Value} {od_q30 an_q30 : Option Addr} {sl_q30 : Array (Option Value)}
    {f_q31 : Addr} {oc_q31 kV_q31 dc_q31 pm_q31 cd_q31 ct_q31 : Value} {od_q31 an_q31 : Option Addr} {sl_q31 : Array (Option Value)}
    {f_ex : Addr} {od_ex : Option Addr} {sl_ex : Array (Option Value)} {n_ex : Nat} {t1 t2 t3 : Tok} (a_ex : PySem.W.nsIn K mainGlobals "EXITS" = some (some (.ref f_ex))) (l_ex : K.lookup f_ex = some ⟨.type "tuple", od_ex, .seq #[.str "A" t1, .str "B" t2, .str "C" t3] n_ex, sl_ex⟩)
    (a_q0 : PySem.W.nsIn K mainGlobals "is_between" = some (some (.ref f_q0))) (l_q0 : K.lookup f_q0 = some ⟨oc_q0, od_q0, .func (PySem.W.fnOf "is_between" "is_between" (defArgs s_is_between) (defBody s_is_between) (defScope s_is_between) .none kV_q0 dc_q0 pm_q0 an_q0 cd_q0 ct_q0), sl_q0⟩) (c_q0 : PySem.W.codeIn K cd_q0 "is_between" = true) (k_q0 : PySem.W.keepIn K (.ref f_q0) = true)
    (a_q1 : PySem.W.nsIn K mainGlobals "is_way" = some (some (.ref f_q1))) (l_q1 : K.lookup f_q1 = some ⟨oc_q1, od_q1, .func (PySem.W.fnOf "is_way" "is_way" (defArgs s_is_way) (defBody s_is_way) (defScope s_is_way) .none kV_q1 dc_q1 pm_q1 an_q1 cd_q1 ct_q1), sl_q1⟩) (c_q1 : PySem.W.codeIn K cd_q1 "is_way" = true) (k_q1 : PySem.W.keepIn K (.ref f_q1) = true)
    (a_q2 : PySem.W.nsIn K mainGlobals "is_house" = some (some (.ref f_q2))) (l_q2 : K.lookup f_q2 = some ⟨oc_q2, od_q2, .func (PySem.W.fnOf "is_house" "is_house" (defArgs s_is_house) (defBody s_is_house) (defScope s_is_house) .none kV_q2 dc_q2 pm_q2 an_q2 cd_q2 ct_q2), sl_q2⟩) (c_q2 : PySem.W.codeIn K cd_q2 "is_house" = true) (k_q2 : PySem.W.keepIn K (.ref f_q2) = true)
    (a_q3 : PySem.W.nsIn K mainGlobals "check_house" = some (some (.ref f_q3))) (l_q3 : K.lookup f_q3 = some ⟨oc_q3, od_q3, .func (PySem.W.fnOf "check_house" "check_house" (defArgs s_check_house) (defBody s_check_house) (defScope s_check_house) .none kV_q3 dc_q3 pm_q3 an_q3 cd_q3 ct_q3), sl_q3⟩) (c_q3 : PySem.W.codeIn K cd_q3 "check_house" = true) (k_q3 : PySem.W.keepIn K (.ref f_q3) = true)
    (a_q4 : PySem.W.nsIn K mainGlobals "is_known_standing" = some (some (.ref f_q4))) (l_q4 : K.lookup f_q4 = some ⟨oc_q4, od_q4, .func (PySem.W.fnOf "is_known_standing" "is_known_standing" (defArgs s_is_known_standing) (defBody s_is_known_standing) (defScope s_is_known_standing) .none kV_q4 dc_q4 pm_q4 an_q4 cd_q4 ct_q4), sl_q4⟩) (c_q4 : PySem.W.codeIn K cd_q4 "is_known_standing" = true) (k_q4 : PySem.W.keepIn K (.ref f_q4) = true)
    (a_q5 : PySem.W.nsIn K mainGlobals "check_standing" = some (some (.ref f_q5))) (l_q5 : K.lookup f_q5 = some ⟨oc_q5, od_q5, .func (PySem.W.fnOf "check_standing" "check_standing" (defArgs s_check_standing) (defBody s_check_standing) (defScope s_check_standing) .none kV_q5 dc_q5 pm_q5 an_q5 cd_q5 ct_q5), sl_q5⟩) (c_q5 : PySem.W.codeIn K cd_q5 "check_standing" = true) (k_q5 : PySem.W.keepIn K (.ref f_q5) = true)
    (a_q6 : PySem.W.nsIn K mainGlobals "check_hall" = some (some (.ref f_q6))) (l_q6 : K.lookup f_q6 = some ⟨oc_q6, od_q6, .func (PySem.W.fnOf "check_hall" "check_hall" (defArgs s_check_hall) (defBody s_check_hall) (defScope s_check_hall) .none kV_q6 dc_q6 pm_q6 an_q6 cd_q6 ct_q6), sl_q6⟩) (c_q6 : PySem.W.codeIn K cd_q6 "check_hall" = true) (k_q6 : PySem.W.keepIn K (.ref f_q6) = true)
    (a_q7 : PySem.W.nsIn K mainGlobals "found_exits" = some (some (.ref f_q7))) (l_q7 : K.lookup f_q7 = some ⟨oc_q7, od_q7, .func (PySem.W.fnOf "found_exits" "found_exits" (defArgs s_found_exits) (defBody s_found_exits) (defScope s_found_exits) .none kV_q7 dc_q7 pm_q7 an_q7 cd_q7 ct_q7), sl_q7⟩) (c_q7 : PySem.W.codeIn K cd_q7 "found_exits" = true) (k_q7 : PySem.W.keepIn K (.ref f_q7) = true)
    (a_q8 : PySem.W.nsIn K mainGlobals "met_from" = some (some (.ref f_q8))) (l_q8 : K.lookup f_q8 = some ⟨oc_q8, od_q8, .func (PySem.W.fnOf "met_from" "met_from" (defArgs s_met_from) (defBody s_met_from) (defScope s_met_from) .none kV_q8 dc_q8 pm_q8 an_q8 cd_q8 ct_q8), sl_q8⟩) (c_q8 : PySem.W.codeIn K cd_q8 "met_from" = true) (k_q8 : PySem.W.keepIn K (.ref f_q8) = true)
    (a_q9 : PySem.W.nsIn K mainGlobals "has_exit" = some (some (.ref f_q9))) (l_q9 : K.lookup f_q9 = some ⟨oc_q9, od_q9, .func (PySem.W.fnOf "has_exit" "has_exit" (defArgs s_has_exit) (defBody s_has_exit) (defScope s_has_exit) .none kV_q9 dc_q9 pm_q9 an_q9 cd_q9 ct_q9), sl_q9⟩) (c_q9 : PySem.W.codeIn K cd_q9 "has_exit" = true) (k_q9 : PySem.W.keepIn K (.ref f_q9) = true)
    (a_q10 : PySem.W.nsIn K mainGlobals "is_safe" = some (some (.ref f_q10))) (l_q10 : K.lookup f_q10 = some ⟨oc_q10, od_q10, .func (PySem.W.fnOf "is_safe" "is_safe" (defArgs s_is_safe) (defBody s_is_safe) (defScope s_is_safe) .none kV_q10 dc_q10 pm_q10 an_q10 cd_q10 ct_q10), sl_q10⟩) (c_q10 : PySem.W.codeIn K cd_q10 "is_safe" = true) (k_q10 : PySem.W.keepIn K (.ref f_q10) = true)
    (a_q11 : PySem.W.nsIn K mainGlobals "check_safe" = some (some (.ref f_q11))) (l_q11 : K.lookup f_q11 = some ⟨oc_q11, od_q11, .func (PySem.W.fnOf "check_safe" "check_safe" (defArgs s_check_safe) (defBody s_check_safe) (defScope s_check_safe) .none kV_q11 dc_q11 pm_q11 an_q11 cd_q11 ct_q11), sl_q11⟩) (c_q11 : PySem.W.codeIn K cd_q11 "check_safe" = true) (k_q11 : PySem.W.keepIn K (.ref f_q11) = true)
    (a_q12 : PySem.W.nsIn K mainGlobals "moved" = some (some (.ref f_q12))) (l_q12 : K.lookup f_q12 = some ⟨oc_q12, od_q12, .func (PySem.W.fnOf "moved" "moved" (defArgs s_moved) (defBody s_moved) (defScope s_moved) .none kV_q12 dc_q12 pm_q12 an_q12 cd_q12 ct_q12), sl_q12⟩) (c_q12 : PySem.W.codeIn K cd_q12 "moved" = true) (k_q12 : PySem.W.keepIn K (.ref f_q12) = true)
    (a_q13 : PySem.W.nsIn K mainGlobals "check_three" = some (some (.ref f_q13))) (l_q13 : K.lookup f_q13 = some ⟨oc_q13, od_q13, .func (PySem.W.fnOf "check_three" "check_three" (defArgs s_check_three) (defBody s_check_three) (defScope s_check_three) .none kV_q13 dc_q13 pm_q13 an_q13 cd_q13 ct_q13), sl_q13⟩) (c_q13 : PySem.W.codeIn K cd_q13 "check_three" = true) (k_q13 : PySem.W.keepIn K (.ref f_q13) = true)
    (a_q14 : PySem.W.nsIn K mainGlobals "walked" = some (some (.ref f_q14))) (l_q14 : K.lookup f_q14 = some ⟨oc_q14, od_q14, .func (PySem.W.fnOf "walked" "walked" (defArgs s_walked) (defBody s_walked) (defScope s_walked) .none kV_q14 dc_q14 pm_q14 an_q14 cd_q14 ct_q14), sl_q14⟩) (c_q14 : PySem.W.codeIn K cd_q14 "walked" = true) (k_q14 : PySem.W.keepIn K (.ref f_q14) = true)
    (a_q15 : PySem.W.nsIn K mainGlobals "check_walk" = some (some (.ref f_q15))) (l_q15 : K.lookup f_q15 = some ⟨oc_q15, od_q15, .func (PySem.W.fnOf "check_walk" "check_walk" (defArgs s_check_walk) (defBody s_check_walk) (defScope s_check_walk) .none kV_q15 dc_q15 pm_q15 an_q15 cd_q15 ct_q15), sl_q15⟩) (c_q15 : PySem.W.codeIn K cd_q15 "check_walk" = true) (k_q15 : PySem.W.keepIn K (.ref f_q15) = true)
    (a_q16 : PySem.W.nsIn K mainGlobals "course" = some (some (.ref f_q16))) (l_q16 : K.lookup f_q16 = some ⟨oc_q16, od_q16, .func (PySem.W.fnOf "course" "course" (defArgs s_course) (defBody s_course) (defScope s_course) .none kV_q16 dc_q16 pm_q16 an_q16 cd_q16 ct_q16), sl_q16⟩) (c_q16 : PySem.W.codeIn K cd_q16 "course" = true) (k_q16 : PySem.W.keepIn K (.ref f_q16) = true)
    (a_q17 : PySem.W.nsIn K mainGlobals "sent" = some (some (.ref f_q17))) (l_q17 : K.lookup f_q17 = some ⟨oc_q17, od_q17, .func (PySem.W.fnOf "sent" "sent" (defArgs s_sent) (defBody s_sent) (defScope s_sent) .none kV_q17 dc_q17 pm_q17 an_q17 cd_q17 ct_q17), sl_q17⟩) (c_q17 : PySem.W.codeIn K cd_q17 "sent" = true) (k_q17 : PySem.W.keepIn K (.ref f_q17) = true)
    (a_q18 : PySem.W.nsIn K mainGlobals "check_people" = some (some (.ref f_q18))) (l_q18 : K.lookup f_q18 = some ⟨oc_q18, od_q18, .func (PySem.W.fnOf "check_people" "check_people" (defArgs s_check_people) (defBody s_check_people) (defScope s_check_people) .none kV_q18 dc_q18 pm_q18 an_q18 cd_q18 ct_q18), sl_q18⟩) (c_q18 : PySem.W.codeIn K cd_q18 "check_people" = true) (k_q18 : PySem.W.keepIn K (.ref f_q18) = true)
    (a_q19 : PySem.W.nsIn K mainGlobals "send" = some (some (.ref f_q19))) (l_q19 : K.lookup f_q19 = some ⟨oc_q19, od_q19, .func (PySem.W.fnOf "send" "send" (defArgs s_send) (defBody s_send) (defScope s_send) .none kV_q19 dc_q19 pm_q19 an_q19 cd_q19 ct_q19), sl_q19⟩) (c_q19 : PySem.W.codeIn K cd_q19 "send" = true) (k_q19 : PySem.W.keepIn K (.ref f_q19) = true)
    (a_q20 : PySem.W.nsIn K mainGlobals "returns" = some (some (.ref f_q20))) (l_q20 : K.lookup f_q20 = some ⟨oc_q20, od_q20, .func (PySem.W.fnOf "returns" "returns" (defArgs s_returns) (defBody s_returns) (defScope s_returns) .none kV_q20 dc_q20 pm_q20 an_q20 cd_q20 ct_q20), sl_q20⟩) (c_q20 : PySem.W.codeIn K cd_q20 "returns" = true) (k_q20 : PySem.W.keepIn K (.ref f_q20) = true)
    (a_q21 : PySem.W.nsIn K mainGlobals "_law_town" = some (some (.ref f_q21))) (l_q21 : K.lookup f_q21 = some ⟨oc_q21, od_q21, .func (PySem.W.fnOf "_law_town" "_law_town" (defArgs s__law_town) (defBody s__law_town) (defScope s__law_town) .none kV_q21 dc_q21 pm_q21 an_q21 cd_q21 ct_q21), sl_q21⟩) (c_q21 : PySem.W.codeIn K cd_q21 "_law_town" = true) (k_q21 : PySem.W.keepIn K (.ref f_q21) = true)
    (a_q22 : PySem.W.nsIn K mainGlobals "_law_draw" = some (some (.ref f_q22))) (l_q22 : K.lookup f_q22 = some ⟨oc_q22, od_q22, .func (PySem.W.fnOf "_law_draw" "_law_draw" (defArgs s__law_draw) (defBody s__law_draw) (defScope s__law_draw) .none kV_q22 dc_q22 pm_q22 an_q22 cd_q22 ct_q22), sl_q22⟩) (c_q22 : PySem.W.codeIn K cd_q22 "_law_draw" = true) (k_q22 : PySem.W.keepIn K (.ref f_q22) = true)
    (a_q23 : PySem.W.nsIn K mainGlobals "_law_pick" = some (some (.ref f_q23))) (l_q23 : K.lookup f_q23 = some ⟨oc_q23, od_q23, .func (PySem.W.fnOf "_law_pick" "_law_pick" (defArgs s__law_pick) (defBody s__law_pick) (defScope s__law_pick) .none kV_q23 dc_q23 pm_q23 an_q23 cd_q23 ct_q23), sl_q23⟩) (c_q23 : PySem.W.codeIn K cd_q23 "_law_pick" = true) (k_q23 : PySem.W.keepIn K (.ref f_q23) = true)
    (a_q24 : PySem.W.nsIn K mainGlobals "_law_house" = some (some (.ref f_q24))) (l_q24 : K.lookup f_q24 = some ⟨oc_q24, od_q24, .func (PySem.W.fnOf "_law_house" "_law_house" (defArgs s__law_house) (defBody s__law_house) (defScope s__law_house) .none kV_q24 dc_q24 pm_q24 an_q24 cd_q24 ct_q24), sl_q24⟩) (c_q24 : PySem.W.codeIn K cd_q24 "_law_house" = true) (k_q24 : PySem.W.keepIn K (.ref f_q24) = true)
    (a_q25 : PySem.W.nsIn K mainGlobals "_law_standing" = some (some (.ref f_q25))) (l_q25 : K.lookup f_q25 = some ⟨oc_q25, od_q25, .func (PySem.W.fnOf "_law_standing" "_law_standing" (defArgs s__law_standing) (defBody s__law_standing) (defScope s__law_standing) .none kV_q25 dc_q25 pm_q25 an_q25 cd_q25 ct_q25), sl_q25⟩) (c_q25 : PySem.W.codeIn K cd_q25 "_law_standing" = true) (k_q25 : PySem.W.keepIn K (.ref f_q25) = true)
    (a_q26 : PySem.W.nsIn K mainGlobals "_law_exits" = some (some (.ref f_q26))) (l_q26 : K.lookup f_q26 = some ⟨oc_q26, od_q26, .func (PySem.W.fnOf "_law_exits" "_law_exits" (defArgs s__law_exits) (defBody s__law_exits) (defScope s__law_exits) .none kV_q26 dc_q26 pm_q26 an_q26 cd_q26 ct_q26), sl_q26⟩) (c_q26 : PySem.W.codeIn K cd_q26 "_law_exits" = true) (k_q26 : PySem.W.keepIn K (.ref f_q26) = true)
    (a_q27 : PySem.W.nsIn K mainGlobals "_law_reach" = some (some (.ref f_q27))) (l_q27 : K.lookup f_q27 = some ⟨oc_q27, od_q27, .func (PySem.W.fnOf "_law_reach" "_law_reach" (defArgs s__law_reach) (defBody s__law_reach) (defScope s__law_reach) .none kV_q27 dc_q27 pm_q27 an_q27 cd_q27 ct_q27), sl_q27⟩) (c_q27 : PySem.W.codeIn K cd_q27 "_law_reach" = true) (k_q27 : PySem.W.keepIn K (.ref f_q27) = true)
    (a_q28 : PySem.W.nsIn K mainGlobals "_law_safe" = some (some (.ref f_q28))) (l_q28 : K.lookup f_q28 = some ⟨oc_q28, od_q28, .func (PySem.W.fnOf "_law_safe" "_law_safe" (defArgs s__law_safe) (defBody s__law_safe) (defScope s__law_safe) .none kV_q28 dc_q28 pm_q28 an_q28 cd_q28 ct_q28), sl_q28⟩) (c_q28 : PySem.W.codeIn K cd_q28 "_law_safe" = true) (k_q28 : PySem.W.keepIn K (.ref f_q28) = true)
    (a_q29 : PySem.W.nsIn K mainGlobals "_law_walk" = some (some (.ref f_q29))) (l_q29 : K.lookup f_q29 = some ⟨oc_q29, od_q29, .func (PySem.W.fnOf "_law_walk" "_law_walk" (defArgs s__law_walk) (defBody s__law_walk) (defScope s__law_walk) .none kV_q29 dc_q29 pm_q29 an_q29 cd_q29 ct_q29), sl_q29⟩) (c_q29 : PySem.W.codeIn K cd_q29 "_law_walk" = true) (k_q29 : PySem.W.keepIn K (.ref f_q29) = true)
    (a_q30 : PySem.W.nsIn K mainGlobals "_law_open_house" = some (some (.ref f_q30))) (l_q30 : K.lookup f_q30 = some ⟨oc_q30, od_q30, .func (PySem.W.fnOf "_law_open_house" "_law_open_house" (defArgs s__law_open_house) (defBody s__law_open_house) (defScope s__law_open_house) .none kV_q30 dc_q30 pm_q30 an_q30 cd_q30 ct_q30), sl_q30⟩) (c_q30 : PySem.W.codeIn K cd_q30 "_law_open_house" = true) (k_q30 : PySem.W.keepIn K (.ref f_q30) = true)
    (a_q31 : PySem.W.nsIn K mainGlobals "law" = some (some (.ref f_q31))) (l_q31 : K.lookup f_q31 = some ⟨oc_q31, od_q31, .func (PySem.W.fnOf "law" "law" (defArgs s_law) (defBody s_law) (defScope s_law) .none kV_q31 dc_q31 pm_q31 an_q31 cd_q31 ct_q31), sl_q31⟩) (c_q31 : PySem.W.codeIn K cd_q31 "law" = true) (k_q31 : PySem.W.keepIn K (.ref f_q31) = true)
    (b_isinstance : PySem.W.nsIn K mainGlobals "isinstance" = some none)
    (b_int : PySem.W.nsIn K mainGlobals "int" = some none)
    (b_bool : PySem.W.nsIn K mainGlobals "bool" = some none)
    (b_str : PySem.W.nsIn K mainGlobals "str" = some none)
    (b_tuple : PySem.W.nsIn K mainGlobals "tuple" = some none)
    (b_list : PySem.W.nsIn K mainGlobals "list" = some none)
    (b_dict : PySem.W.nsIn K mainGlobals "dict" = some none)
    (b_set : PySem.W.nsIn K mainGlobals "set" = some none)
    (b_len : PySem.W.nsIn K mainGlobals "len" = some none)
    (b_range : PySem.W.nsIn K mainGlobals "range" = some none)
    (b_sorted : PySem.W.nsIn K mainGlobals "sorted" = some none)
    (b_any : PySem.W.nsIn K mainGlobals "any" = some none)
    (b_all : PySem.W.nsIn K mainGlobals "all" = some none)
    (b_sum : PySem.W.nsIn K mainGlobals "sum" = some none)
    (b_abs : PySem.W.nsIn K mainGlobals "abs" = some none)
    (b_max : PySem.W.nsIn K mainGlobals "max" = some none)
    (b_min : PySem.W.nsIn K mainGlobals "min" = some none)
    (b_zip : PySem.W.nsIn K mainGlobals "zip" = some none)
    (b_enumerate : PySem.W.nsIn K mainGlobals "enumerate" = some none)
    : ∃ fd : FuncData, (∀ (s : Shared) (v : Value), BindsTo s fd ⟨[v], []⟩ [("script", v)]) ∧ ∀ base : Heap, K.In base → base.Ns mainGlobals mg → FnOk l.prog w K mg base CX0 9 fa fd ["script"] (spLaw K) := by
  have e := hfa.symm.trans (PySem.W.mg_of X G a_q31)
  cases e
  have T : Bts mg := ⟨PySem.W.mg_none_of X G b_isinstance, PySem.W.mg_none_of X G b_int, PySem.W.mg_none_of X G b_bool, PySem.W.mg_none_of X G b_str, PySem.W.mg_none_of X G b_tuple, PySem.W.mg_none_of X G b_list, PySem.W.mg_none_of X G b_dict, PySem.W.mg_none_of X G b_set, PySem.W.mg_none_of X G b_len, PySem.W.mg_none_of X G b_range, PySem.W.mg_none_of X G b_sorted, PySem.W.mg_none_of X G b_any, PySem.W.mg_none_of X G b_all, PySem.W.mg_none_of X G b_sum, PySem.W.mg_none_of X G b_abs, PySem.W.mg_none_of X G b_max, PySem.W.mg_none_of X G b_min, PySem.W.mg_none_of X G b_zip, PySem.W.mg_none_of X G b_enumerate⟩
  have G1 : GEx K mg := gex_mk (PySem.W.mg_of X G a_ex) l_ex
  have F_q0 := fun_mk (st := s_is_between) l_q0 c_q0 k_q0
  have L_is_between : Lnk K mg "is_between" s_is_between ["value", "low", "high"] := ⟨f_q0, _, PySem.W.mg_of X G a_q0, F_q0, F_q0.binds (ps := ["value", "low", "high"]) fun _ _ _ _ _ _ us hl => match us, hl with | [_, _, _], _ => rfl⟩
  have F_q1 := fun_mk (st := s_is_way) l_q1 c_q1 k_q1
  have L_is_way : Lnk K mg "is_way" s_is_way ["value", "halls"] := ⟨f_q1, _, PySem.W.mg_of X G a_q1, F_q1, F_q1.binds (ps := ["value", "halls"]) fun _ _ _ _ _ _ us hl => match us, hl with | [_, _], _ => rfl⟩
  have F_q2 := fun_mk (st := s_is_house) l_q2 c_q2 k_q2
  have L_is_house : Lnk K mg "is_house" s_is_house ["value"] := ⟨f_q2, _, PySem.W.mg_of X G a_q2, F_q2, F_q2.binds (ps := ["value"]) fun _ _ _ _ _ _ us hl => match us, hl with | [_], _ => rfl⟩
  have F_q3 := fun_mk (st := s_check_house) l_q3 c_q3 k_q3
  have L_check_house : Lnk K mg "check_house" s_check_house ["value"] := ⟨f_q3, _, PySem.W.mg_of X G a_q3, F_q3, F_q3.binds (ps := ["value"]) fun _ _ _ _ _ _ us hl => match us, hl with | [_], _ => rfl⟩
  have F_q4 := fun_mk (st := s_is_known_standing) l_q4 c_q4 k_q4
  have L_is_known_standing : Lnk K mg "is_known_standing" s_is_known_standing ["house", "value"] := ⟨f_q4, _, PySem.W.mg_of X G a_q4, F_q4, F_q4.binds (ps := ["house", "value"]) fun _ _ _ _ _ _ us hl => match us, hl with | [_, _], _ => rfl⟩
  have F_q5 := fun_mk (st := s_check_standing) l_q5 c_q5 k_q5
  have L_check_standing : Lnk K mg "check_standing" s_check_standing ["house", "standing"] := ⟨f_q5, _, PySem.W.mg_of X G a_q5, F_q5, F_q5.binds (ps := ["house", "standing"]) fun _ _ _ _ _ _ us hl => match us, hl with | [_, _], _ => rfl⟩
  have F_q6 := fun_mk (st := s_check_hall) l_q6 c_q6 k_q6
  have L_check_hall : Lnk K mg "check_hall" s_check_hall ["house", "hall"] := ⟨f_q6, _, PySem.W.mg_of X G a_q6, F_q6, F_q6.binds (ps := ["house", "hall"]) fun _ _ _ _ _ _ us hl => match us, hl with | [_, _], _ => rfl⟩
  have F_q7 := fun_mk (st := s_found_exits) l_q7 c_q7 k_q7
  have L_found_exits : Lnk K mg "found_exits" s_found_exits ["house"] := ⟨f_q7, _, PySem.W.mg_of X G a_q7, F_q7, F_q7.binds (ps := ["house"]) fun _ _ _ _ _ _ us hl => match us, hl with | [_], _ => rfl⟩
  have F_q8 := fun_mk (st := s_met_from) l_q8 c_q8 k_q8
  have L_met_from : Lnk K mg "met_from" s_met_from ["house", "hall"] := ⟨f_q8, _, PySem.W.mg_of X G a_q8, F_q8, F_q8.binds (ps := ["house", "hall"]) fun _ _ _ _ _ _ us hl => match us, hl with | [_, _], _ => rfl⟩
  have F_q9 := fun_mk (st := s_has_exit) l_q9 c_q9 k_q9
  have L_has_exit : Lnk K mg "has_exit" s_has_exit ["house", "hall"] := ⟨f_q9, _, PySem.W.mg_of X G a_q9, F_q9, F_q9.binds (ps := ["house", "hall"]) fun _ _ _ _ _ _ us hl => match us, hl with | [_, _], _ => rfl⟩
  have F_q10 := fun_mk (st := s_is_safe) l_q10 c_q10 k_q10
  have L_is_safe : Lnk K mg "is_safe" s_is_safe ["house", "hall"] := ⟨f_q10, _, PySem.W.mg_of X G a_q10, F_q10, F_q10.binds (ps := ["house", "hall"]) fun _ _ _ _ _ _ us hl => match us, hl with | [_, _], _ => rfl⟩
  have F_q11 := fun_mk (st := s_check_safe) l_q11 c_q11 k_q11
  have L_check_safe : Lnk K mg "check_safe" s_check_safe ["house", "hall"] := ⟨f_q11, _, PySem.W.mg_of X G a_q11, F_q11, F_q11.binds (ps := ["house", "hall"]) fun _ _ _ _ _ _ us hl => match us, hl with | [_, _], _ => rfl⟩
  have F_q12 := fun_mk (st := s_moved) l_q12 c_q12 k_q12
  have L_moved : Lnk K mg "moved" s_moved ["house", "standing", "hall"] := ⟨f_q12, _, PySem.W.mg_of X G a_q12, F_q12, F_q12.binds (ps := ["house", "standing", "hall"]) fun _ _ _ _ _ _ us hl => match us, hl with | [_, _, _], _ => rfl⟩
  have F_q13 := fun_mk (st := s_check_three) l_q13 c_q13 k_q13
  have L_check_three : Lnk K mg "check_three" s_check_three ["house", "standing", "hall"] := ⟨f_q13, _, PySem.W.mg_of X G a_q13, F_q13, F_q13.binds (ps := ["house", "standing", "hall"]) fun _ _ _ _ _ _ us hl => match us, hl with | [_, _, _], _ => rfl⟩
  have F_q14 := fun_mk (st := s_walked) l_q14 c_q14 k_q14
  have L_walked : Lnk K mg "walked" s_walked ["house", "standing", "hall"] := ⟨f_q14, _, PySem.W.mg_of X G a_q14, F_q14, F_q14.binds (ps := ["house", "standing", "hall"]) fun _ _ _ _ _ _ us hl => match us, hl with | [_, _, _], _ => rfl⟩
  have F_q15 := fun_mk (st := s_check_walk) l_q15 c_q15 k_q15
  have L_check_walk : Lnk K mg "check_walk" s_check_walk ["house", "standing", "hall"] := ⟨f_q15, _, PySem.W.mg_of X G a_q15, F_q15, F_q15.binds (ps := ["house", "standing", "hall"]) fun _ _ _ _ _ _ us hl => match us, hl with | [_, _, _], _ => rfl⟩
  have F_q16 := fun_mk (st := s_course) l_q16 c_q16 k_q16
  have L_course : Lnk K mg "course" s_course ["house", "standing", "hall"] := ⟨f_q16, _, PySem.W.mg_of X G a_q16, F_q16, F_q16.binds (ps := ["house", "standing", "hall"]) fun _ _ _ _ _ _ us hl => match us, hl with | [_, _, _], _ => rfl⟩
  have F_q17 := fun_mk (st := s_sent) l_q17 c_q17 k_q17
  have L_sent : Lnk K mg "sent" s_sent ["house", "standing", "hall", "people"] := ⟨f_q17, _, PySem.W.mg_of X G a_q17, F_q17, F_q17.binds (ps := ["house", "standing", "hall", "people"]) fun _ _ _ _ _ _ us hl => match us, hl with | [_, _, _, _], _ => rfl⟩
  have F_q18 := fun_mk (st := s_check_people) l_q18 c_q18 k_q18
  have L_check_people : Lnk K mg "check_people" s_check_people ["people"] := ⟨f_q18, _, PySem.W.mg_of X G a_q18, F_q18, F_q18.binds (ps := ["people"]) fun _ _ _ _ _ _ us hl => match us, hl with | [_], _ => rfl⟩
  have F_q19 := fun_mk (st := s_send) l_q19 c_q19 k_q19
  have L_send : Lnk K mg "send" s_send ["house", "standing", "hall", "people"] := ⟨f_q19, _, PySem.W.mg_of X G a_q19, F_q19, F_q19.binds (ps := ["house", "standing", "hall", "people"]) fun _ _ _ _ _ _ us hl => match us, hl with | [_, _, _, _], _ => rfl⟩
  have F_q20 := fun_mk (st := s_returns) l_q20 c_q20 k_q20
  have L_returns : Lnk K mg "returns" s_returns ["house", "standing", "hall"] := ⟨f_q20, _, PySem.W.mg_of X G a_q20, F_q20, F_q20.binds (ps := ["house", "standing", "hall"]) fun _ _ _ _ _ _ us hl => match us, hl with | [_, _, _], _ => rfl⟩
  have F_q21 := fun_mk (st := s__law_town) l_q21 c_q21 k_q21
  have L__law_town : Lnk K mg "_law_town" s__law_town ["script"] := ⟨f_q21, _, PySem.W.mg_of X G a_q21, F_q21, F_q21.binds (ps := ["script"]) fun _ _ _ _ _ _ us hl => match us, hl with | [_], _ => rfl⟩
  have F_q22 := fun_mk (st := s__law_draw) l_q22 c_q22 k_q22
  have L__law_draw : Lnk K mg "_law_draw" s__law_draw ["script", "town", "limit"] := ⟨f_q22, _, PySem.W.mg_of X G a_q22, F_q22, F_q22.binds (ps := ["script", "town", "limit"]) fun _ _ _ _ _ _ us hl => match us, hl with | [_, _, _], _ => rfl⟩
  have F_q23 := fun_mk (st := s__law_pick) l_q23 c_q23 k_q23
  have L__law_pick : Lnk K mg "_law_pick" s__law_pick ["script", "town", "choices"] := ⟨f_q23, _, PySem.W.mg_of X G a_q23, F_q23, F_q23.binds (ps := ["script", "town", "choices"]) fun _ _ _ _ _ _ us hl => match us, hl with | [_, _, _], _ => rfl⟩
  have F_q24 := fun_mk (st := s__law_house) l_q24 c_q24 k_q24
  have L__law_house : Lnk K mg "_law_house" s__law_house ["script", "town", "halls"] := ⟨f_q24, _, PySem.W.mg_of X G a_q24, F_q24, F_q24.binds (ps := ["script", "town", "halls"]) fun _ _ _ _ _ _ us hl => match us, hl with | [_, _, _], _ => rfl⟩
  have F_q25 := fun_mk (st := s__law_standing) l_q25 c_q25 k_q25
  have L__law_standing : Lnk K mg "_law_standing" s__law_standing ["script", "town", "house"] := ⟨f_q25, _, PySem.W.mg_of X G a_q25, F_q25, F_q25.binds (ps := ["script", "town", "house"]) fun _ _ _ _ _ _ us hl => match us, hl with | [_, _, _], _ => rfl⟩
  have F_q26 := fun_mk (st := s__law_exits) l_q26 c_q26 k_q26
  have L__law_exits : Lnk K mg "_law_exits" s__law_exits ["house"] := ⟨f_q26, _, PySem.W.mg_of X G a_q26, F_q26, F_q26.binds (ps := ["house"]) fun _ _ _ _ _ _ us hl => match us, hl with | [_], _ => rfl⟩
  have F_q27 := fun_mk (st := s__law_reach) l_q27 c_q27 k_q27
  have L__law_reach : Lnk K mg "_law_reach" s__law_reach ["house", "hall"] := ⟨f_q27, _, PySem.W.mg_of X G a_q27, F_q27, F_q27.binds (ps := ["house", "hall"]) fun _ _ _ _ _ _ us hl => match us, hl with | [_, _], _ => rfl⟩
  have F_q28 := fun_mk (st := s__law_safe) l_q28 c_q28 k_q28
  have L__law_safe : Lnk K mg "_law_safe" s__law_safe ["house", "hall"] := ⟨f_q28, _, PySem.W.mg_of X G a_q28, F_q28, F_q28.binds (ps := ["house", "hall"]) fun _ _ _ _ _ _ us hl => match us, hl with | [_, _], _ => rfl⟩
  have F_q29 := fun_mk (st := s__law_walk) l_q29 c_q29 k_q29
  have L__law_walk : Lnk K mg "_law_walk" s__law_walk ["house", "standing", "hall"] := ⟨f_q29, _, PySem.W.mg_of X G a_q29, F_q29, F_q29.binds (ps := ["house", "standing", "hall"]) fun _ _ _ _ _ _ us hl => match us, hl with | [_, _, _], _ => rfl⟩
  have F_q30 := fun_mk (st := s__law_open_house) l_q30 c_q30 k_q30
  have L__law_open_house : Lnk K mg "_law_open_house" s__law_open_house ["script", "town", "halls"] := ⟨f_q30, _, PySem.W.mg_of X G a_q30, F_q30, F_q30.binds (ps := ["script", "town", "halls"]) fun _ _ _ _ _ _ us hl => match us, hl with | [_, _, _], _ => rfl⟩
  have F_q31 := fun_mk (st := s_law) l_q31 c_q31 k_q31
  refine ⟨PySem.W.fnOf "law" "law" (defArgs s_law) (defBody s_law) (defScope s_law) .none kV_q31 dc_q31 pm_q31 an_q31 cd_q31 ct_q31, fun s v => .of_eq rfl, fun base _ _ => ?_⟩
  have D_o_is_between := fd_is_between (P := l.prog) (w := w) (base := base) L_is_between T
  have D_w_is_between := cv_is_between D_o_is_between
  have D_o_is_way := fd_is_way (P := l.prog) (w := w) (base := base) L_is_way T G1 D_o_is_between
  have D_w_is_way := D_o_is_way
  have D_o_is_house := fd_is_house (P := l.prog) (w := w) (base := base) L_is_house T D_o_is_way
  have D_w_is_house := D_o_is_house
  have D_o_check_house := fd_check_house (P := l.prog) (w := w) (base := base) L_check_house  D_o_is_house
  have D_w_check_house := cv_check_house D_o_check_house
  have D_o_check_hall := fd_check_hall (P := l.prog) (w := w) (base := base) L_check_hall T D_o_is_between
  have D_w_check_hall := cv_check_hall D_o_check_hall
  have D_o_found_exits := fd_found_exits (P := l.prog) (w := w) (base := base) L_found_exits T
  have D_w_found_exits := cv_found_exits D_o_found_exits
  have D_o_met_from := fd_met_from (P := l.prog) (w := w) (base := base) L_met_from T
  have D_w_met_from := cv_met_from D_o_met_from
  have D_o_has_exit := fd_has_exit (P := l.prog) (w := w) (base := base) L_has_exit T D_o_met_from
  have D_w_has_exit := cv_has_exit D_o_has_exit
  have D_o_is_safe := fd_is_safe (P := l.prog) (w := w) (base := base) L_is_safe T D_o_met_from D_o_has_exit
  have D_w_is_safe := cv_is_safe D_o_is_safe
  have D_o__law_town := fd__law_town (P := l.prog) (w := w) (base := base) L__law_town T
  have D_w__law_town := cv__law_town D_o__law_town
  have D_o__law_draw := fd__law_draw (P := l.prog) (w := w) (base := base) L__law_draw T
  have D_w__law_draw := D_o__law_draw
  have D_o__law_pick := fd__law_pick (P := l.prog) (w := w) (base := base) L__law_pick T D_o__law_draw
  have D_w__law_pick := D_o__law_pick
  have D_o__law_house := fd__law_house (P := l.prog) (w := w) (base := base) L__law_house T D_o__law_draw D_o__law_pick
  have D_w__law_house := D_o__law_house
  have D_o__law_exits := fd__law_exits (P := l.prog) (w := w) (base := base) L__law_exits T
  have D_w__law_exits := cv__law_exits D_o__law_exits
  have D_o__law_reach := fd__law_reach (P := l.prog) (w := w) (base := base) L__law_reach T
  have D_w__law_reach := cv__law_reach D_o__law_reach
  have D_o__law_safe := fd__law_safe (P := l.prog) (w := w) (base := base) L__law_safe T D_o__law_reach
  have D_w__law_safe := cv__law_safe D_o__law_safe
  have D_o_is_known_standing := fd_is_known_standing (P := l.prog) (w := w) (base := base) L_is_known_standing T D_o_is_between
  have D_w_is_known_standing := D_o_is_known_standing
  have D_o_check_standing := fd_check_standing (P := l.prog) (w := w) (base := base) L_check_standing T D_o_check_house D_o_is_known_standing
  have D_w_check_standing := cv_check_standing D_o_check_standing
  have D_o_check_safe := fd_check_safe (P := l.prog) (w := w) (base := base) L_check_safe T D_o_is_safe
  have D_w_check_safe := cv_check_safe D_o_check_safe
  have D_o_moved := fd_moved (P := l.prog) (w := w) (base := base) L_moved T
  have D_w_moved := cv_moved D_o_moved
  have D_o_check_three := fd_check_three (P := l.prog) (w := w) (base := base) L_check_three  D_o_check_standing D_o_check_hall
  have D_w_check_three := cv_check_three D_o_check_three
  have D_o_check_walk := fd_check_walk (P := l.prog) (w := w) (base := base) L_check_walk  D_o_check_three D_o_check_safe
  have D_w_check_walk := cv_check_walk D_o_check_walk
  have D_w_walked := fd_walked (P := l.prog) (w := w) (base := base) L_walked T D_w_moved
  have D_w_check_people := fd_check_people (P := l.prog) (w := w) (base := base) L_check_people T  D_w_is_between
  have D_w_course := fd_course (P := l.prog) (w := w) (base := base) L_course T  D_w_walked
  have D_w_sent := fd_sent (P := l.prog) (w := w) (base := base) L_sent T  D_w_course D_w_found_exits
  have D_w_send := fd_send (P := l.prog) (w := w) (base := base) L_send T  D_w_check_three D_w_check_people D_w_check_safe D_w_sent
  have D_w_returns := fd_returns (P := l.prog) (w := w) (base := base) L_returns T  D_w_check_walk D_w_course
  have D_w__law_standing := fd__law_standing (P := l.prog) (w := w) (base := base) L__law_standing T  D_w__law_draw
  have D_w__law_walk := fd__law_walk (P := l.prog) (w := w) (base := base) L__law_walk T
  have D_w__law_open_house := fd__law_open_house (P := l.prog) (w := w) (base := base) L__law_open_house T  D_w__law_house D_w__law_safe D_w__law_pick
  exact ok_law (P := l.prog) (w := w) (base := base) T D_w__law_town D_w__law_open_house D_w__law_standing D_w__law_exits D_w__law_walk D_w_returns D_w__law_draw D_w_send _ _ F_q31
theorem walk {l : PySem.W.OpenLaw} {q : Program} {loose : List Str} {XP : (Str → Option Value) → Heap → Prop} {YP : World → Heap → Prop} {d : DefRec} {K : Params → PySem.W.Frag} (hn : l.most = some 63) (hdf : d.params.defaults = []) (hY : ∀ (w : World) (h : Heap), YP w h → (K w.params).In h)
    (F : ∀ (w : World) (mg : Str → Option Value) (fa : Addr) (h : Heap), (K w.params).In h → h.Ns mainGlobals mg → mg d.name = some (.ref fa) → ∃ fd : FuncData, (∀ (s : Shared) (u : Value), BindsTo s fd ⟨[u], []⟩ [("script", u)]) ∧ ∀ base : Heap, (K w.params).In base → base.Ns mainGlobals mg → FnOk l.prog w (K w.params) mg base CX0 9 fa fd ["script"] (spLaw (K w.params))) :
    PySem.W.WalkO q loose XP YP l.row.toRowW d [] (fun f vs => PySem.call f vs) :=
  L2.walk_of (n := 63) (k := 9) (x := "script") (CX := fun _ => CX0) (sp := fun w => spLaw (K w.params)) hn (by decide) hdf ⟨rfl, by decide, by decide⟩ hY F (fun _ _ a ns hl _ hS => ⟨a, ns, rfl, hl, hS, fun _ => rfl⟩) fun _ _ _ _ _ z => z
end TK
open PySem PySem.W PyProof.Rows
set_option maxHeartbeats 0 in
theorem PySem.Challenge.cw_turnhalls_k11_whole_people_holds : PySem.Challenge.rw_turnhalls_k11_whole_people.Holds := by
  w_on; o_law; k_head; (case hw => w_witness2)
  k_fill
  refine TK.walk (l := PySem.Challenge.rw_turnhalls_k11_whole_people) rfl rfl (fun w h Y => PySem.W.kIn_of Y) ?F
  case F =>
    intro w mg fa h KX G hmg
    refine' TK.all_mk KX G hmg ?a_ex ?l_ex ?a_q0 ?l_q0 ?c_q0 ?k_q0 ?a_q1 ?l_q1 ?c_q1 ?k_q1 ?a_q2 ?l_q2 ?c_q2 ?k_q2 ?a_q3 ?l_q3 ?c_q3 ?k_q3 ?a_q4 ?l_q4 ?c_q4 ?k_q4 ?a_q5 ?l_q5 ?c_q5 ?k_q5 ?a_q6 ?l_q6 ?c_q6 ?k_q6 ?a_q7 ?l_q7 ?c_q7 ?k_q7 ?a_q8 ?l_q8 ?c_q8 ?k_q8 ?a_q9 ?l_q9 ?c_q9 ?k_q9 ?a_q10 ?l_q10 ?c_q10 ?k_q10 ?a_q11 ?l_q11 ?c_q11 ?k_q11 ?a_q12 ?l_q12 ?c_q12 ?k_q12 ?a_q13 ?l_q13 ?c_q13 ?k_q13 ?a_q14 ?l_q14 ?c_q14 ?k_q14 ?a_q15 ?l_q15 ?c_q15 ?k_q15 ?a_q16 ?l_q16 ?c_q16 ?k_q16 ?a_q17 ?l_q17 ?c_q17 ?k_q17 ?a_q18 ?l_q18 ?c_q18 ?k_q18 ?a_q19 ?l_q19 ?c_q19 ?k_q19 ?a_q20 ?l_q20 ?c_q20 ?k_q20 ?a_q21 ?l_q21 ?c_q21 ?k_q21 ?a_q22 ?l_q22 ?c_q22 ?k_q22 ?a_q23 ?l_q23 ?c_q23 ?k_q23 ?a_q24 ?l_q24 ?c_q24 ?k_q24 ?a_q25 ?l_q25 ?c_q25 ?k_q25 ?a_q26 ?l_q26 ?c_q26 ?k_q26 ?a_q27 ?l_q27 ?c_q27 ?k_q27 ?a_q28 ?l_q28 ?c_q28 ?k_q28 ?a_q29 ?l_q29 ?c_q29 ?k_q29 ?a_q30 ?l_q30 ?c_q30 ?k_q30 ?a_q31 ?l_q31 ?c_q31 ?k_q31 ?b_isinstance ?b_int ?b_bool ?b_str ?b_tuple ?b_list ?b_dict ?b_set ?b_len ?b_range ?b_sorted ?b_any ?b_all ?b_sum ?b_abs ?b_max ?b_min ?b_zip ?b_enumerate
    (case a_ex => k_is)
    (case l_ex => k_is)
    (case a_q0 => k_is)
    (case l_q0 => k_is)
    (case c_q0 => k_is)
    (case k_q0 => k_is)
    (case a_q1 => k_is)
    (case l_q1 => k_is)
    (case c_q1 => k_is)
    (case k_q1 => k_is)
    (case a_q2 => k_is)
    (case l_q2 => k_is)
    (case c_q2 => k_is)
    (case k_q2 => k_is)
    (case a_q3 => k_is)
    (case l_q3 => k_is)
    (case c_q3 => k_is)
    (case k_q3 => k_is)
    (case a_q4 => k_is)
    (case l_q4 => k_is)
    (case c_q4 => k_is)
    (case k_q4 => k_is)
    (case a_q5 => k_is)
    (case l_q5 => k_is)
    (case c_q5 => k_is)
    (case k_q5 => k_is)
    (case a_q6 => k_is)
    (case l_q6 => k_is)
    (case c_q6 => k_is)
    (case k_q6 => k_is)
    (case a_q7 => k_is)
    (case l_q7 => k_is)
    (case c_q7 => k_is)
    (case k_q7 => k_is)
    (case a_q8 => k_is)
    (case l_q8 => k_is)
    (case c_q8 => k_is)
    (case k_q8 => k_is)
    (case a_q9 => k_is)
    (case l_q9 => k_is)
    (case c_q9 => k_is)
    (case k_q9 => k_is)
    (case a_q10 => k_is)
    (case l_q10 => k_is)
    (case c_q10 => k_is)
    (case k_q10 => k_is)
    (case a_q11 => k_is)
    (case l_q11 => k_is)
    (case c_q11 => k_is)
    (case k_q11 => k_is)
    (case a_q12 => k_is)
    (case l_q12 => k_is)
    (case c_q12 => k_is)
    (case k_q12 => k_is)
    (case a_q13 => k_is)
    (case l_q13 => k_is)
    (case c_q13 => k_is)
    (case k_q13 => k_is)
    (case a_q14 => k_is)
    (case l_q14 => k_is)
    (case c_q14 => k_is)
    (case k_q14 => k_is)
    (case a_q15 => k_is)
    (case l_q15 => k_is)
    (case c_q15 => k_is)
    (case k_q15 => k_is)
    (case a_q16 => k_is)
    (case l_q16 => k_is)
    (case c_q16 => k_is)
    (case k_q16 => k_is)
    (case a_q17 => k_is)
    (case l_q17 => k_is)
    (case c_q17 => k_is)
    (case k_q17 => k_is)
    (case a_q18 => k_is)
    (case l_q18 => k_is)
    (case c_q18 => k_is)
    (case k_q18 => k_is)
    (case a_q19 => k_is)
    (case l_q19 => k_is)
    (case c_q19 => k_is)
    (case k_q19 => k_is)
    (case a_q20 => k_is)
    (case l_q20 => k_is)
    (case c_q20 => k_is)
    (case k_q20 => k_is)
    (case a_q21 => k_is)
    (case l_q21 => k_is)
    (case c_q21 => k_is)
    (case k_q21 => k_is)
    (case a_q22 => k_is)
    (case l_q22 => k_is)
    (case c_q22 => k_is)
    (case k_q22 => k_is)
    (case a_q23 => k_is)
    (case l_q23 => k_is)
    (case c_q23 => k_is)
    (case k_q23 => k_is)
    (case a_q24 => k_is)
    (case l_q24 => k_is)
    (case c_q24 => k_is)
    (case k_q24 => k_is)
    (case a_q25 => k_is)
    (case l_q25 => k_is)
    (case c_q25 => k_is)
    (case k_q25 => k_is)
    (case a_q26 => k_is)
    (case l_q26 => k_is)
    (case c_q26 => k_is)
    (case k_q26 => k_is)
    (case a_q27 => k_is)
    (case l_q27 => k_is)
    (case c_q27 => k_is)
    (case k_q27 => k_is)
    (case a_q28 => k_is)
    (case l_q28 => k_is)
    (case c_q28 => k_is)
    (case k_q28 => k_is)
    (case a_q29 => k_is)
    (case l_q29 => k_is)
    (case c_q29 => k_is)
    (case k_q29 => k_is)
    (case a_q30 => k_is)
    (case l_q30 => k_is)
    (case c_q30 => k_is)
    (case k_q30 => k_is)
    (case a_q31 => k_is)
    (case l_q31 => k_is)
    (case c_q31 => k_is)
    (case k_q31 => k_is)
    (case b_isinstance => k_is)
    (case b_int => k_is)
    (case b_bool => k_is)
    (case b_str => k_is)
    (case b_tuple => k_is)
    (case b_list => k_is)
    (case b_dict => k_is)
    (case b_set => k_is)
    (case b_len => k_is)
    (case b_range => k_is)
    (case b_sorted => k_is)
    (case b_any => k_is)
    (case b_all => k_is)
    (case b_sum => k_is)
    (case b_abs => k_is)
    (case b_max => k_is)
    (case b_min => k_is)
    (case b_zip => k_is)
    (case b_enumerate => k_is)
