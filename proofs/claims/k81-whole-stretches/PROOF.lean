import PyProof.Rows.All
import Wide.All
import OpenK.AllK
import Wide.FinOn
import HandS.ForMost
import HandS.Star
import HandS.IsInst
import HandS.NoneIn
import HandS.Zip
import HandS.DictComp
import HandS.Deep
import HandS.Walk
import HandS.TupAny
import KE.GoesNew
import PyProof.RulesMatch
import HandS.Defaults
import KE.KDictKeyed
import KE.KDictCopyH
import KE.KDictSum
import KE.SortData
import HandS.TupLen
import HandS.Conv
import HandS.Style
import KE.KDictDisplayH
import PyProof.ReprRoads
import PyProof.Rows.ReprItems
import PyProof.Rows.ReprShort
import HandS.Wide
import HandS.TryOnly
import HandS.Sort
import PySem.Challenge.RW_enoughcharge_k81_whole_stretches
set_option Elab.async false
set_option linter.all false
set_option maxRecDepth 100000
set_option maxHeartbeats 4000000
/-! EcA: a layer over HandS. Weakest readings; typed slots; pure expressions and pure bodies. -/
namespace EC
open PySem PySem.Spec PyProof.Rows L2

/-! ### weakest readings -/
def wE (X : Cx) (e : Expr) : TE := fun σ H Q => ∀ (pins : List (Addr × Obj)) (s : Shared), Inv X pins σ H s → wpAny (model X.prog X.w) X.A (eval e X.env) (EP X pins σ Q) X.xe s
def wT (X : Cx) (e : Expr) : TT := fun σ H Q => ∀ (pins : List (Addr × Obj)) (s : Shared), Inv X pins σ H s → wpAny (model X.prog X.w) X.A (isTrue e X.env (eval e X.env)) (TP X pins σ Q) X.xe s
def wA (X : Cx) (es : List Expr) : TA := fun σ H Q => ∀ (pos : Pos) (pins : List (Addr × Obj)) (s : Shared), Inv X pins σ H s → wpAny (model X.prog X.w) X.A (spliced (backTo pos (starEach es X.env))) (AP X pins σ Q) X.xe s
def wS (X : Cx) (st : Stmt) : TS := fun D σ H => ∀ (pins : List (Addr × Obj)) (s : Shared), Inv X pins σ H s → wpAny (model X.prog X.w) X.A (exec st X.env) (SP X pins D) X.xe s
def wB (X : Cx) (sts : List Stmt) : TS := fun D σ H => ∀ (pins : List (Addr × Obj)) (s : Shared), Inv X pins σ H s → wpAny (model X.prog X.w) X.A (execs sts X.env) (SP X pins D) X.xe s
section
variable {X : Cx} {σ : L2.St} {H : Hp} {e : Expr} {es : List Expr} {st : Stmt} {sts : List Stmt}
theorem pe_w : PE X e (wE X e) := ⟨fun pins s _ _ _ I h => h pins s I⟩
theorem pt_w : PT X e (wT X e) := ⟨fun pins s _ _ _ I h => h pins s I⟩
theorem pa_w : PA X es (wA X es) := ⟨fun pos pins s _ _ _ I h => h pos pins s I⟩
theorem ps_w : PS X st (wS X st) := ⟨fun pins s _ _ _ I h => h pins s I⟩
theorem pss_w : PSs X sts (wB X sts) := ⟨fun pins s _ _ _ I h => h pins s I⟩
theorem wE_of {t : TE} {Q : VK} (h : PE X e t) (q : t σ H Q) : wE X e σ H Q := fun pins s I => h.run pins s σ H Q I q
theorem wT_of {t : TT} {Q : Bool → Hp → Prop} (h : PT X e t) (q : t σ H Q) : wT X e σ H Q := fun pins s I => h.run pins s σ H Q I q
theorem wA_of {t : TA} {Q : List V → Hp → Prop} (h : PA X es t) (q : t σ H Q) : wA X es σ H Q := fun pos pins s I => h.run pos pins s σ H Q I q
theorem wS_of {t : TS} {D : Ends} (h : PS X st t) (q : t D σ H) : wS X st D σ H := fun pins s I => h.run pins s σ H D I q
theorem wB_of {t : TS} {D : Ends} (h : PSs X sts t) (q : t D σ H) : wB X sts D σ H := fun pins s I => h.run pins s σ H D I q
theorem wE_mono {Q Q' : VK} (h : wE X e σ H Q) (k : ∀ v H', Q v H' → Q' v H') : wE X e σ H Q' := fun pins s I =>
  thn (h pins s I) fun _ _ ⟨v, H', I', r, q⟩ => ⟨v, H', I', r, k v H' q⟩
theorem wT_mono {Q Q' : Bool → Hp → Prop} (h : wT X e σ H Q) (k : ∀ v H', Q v H' → Q' v H') : wT X e σ H Q' := fun pins s I =>
  thn (h pins s I) fun _ _ ⟨H', I', q⟩ => ⟨H', I', k _ H' q⟩
theorem wA_mono {Q Q' : List V → Hp → Prop} (h : wA X es σ H Q) (k : ∀ v H', Q v H' → Q' v H') : wA X es σ H Q' := fun pos pins s I =>
  thn (h pos pins s I) fun _ _ ⟨v, H', I', r, q⟩ => ⟨v, H', I', r, k v H' q⟩
theorem wB_cons {D : Ends} (h : wS X st { D with nx := wB X sts D } σ H) : wB X (st :: sts) D σ H := wB_of (pss_cons ps_w pss_w) h
theorem wB_one {D : Ends} (h : wS X st D σ H) : wB X [st] D σ H := wB_of (pss_one ps_w) h
theorem wB_nil {D : Ends} (h : D.nx σ H) : wB X [] D σ H := wB_of pss_nil h
end

/-! ### types of what a slot holds -/
structure Ty where
  p : Hp → V → Prop
  up : ∀ {H H' : Hp} {v : V}, Same H H' → p H v → p H' v

theorem rd_up {H H' : Hp} {a : Addr} {u : HO} (e : Same H H') (h : Rd H a u) : Rd H' a u := by
  rcases h with h | ⟨o, h⟩
  · exact Or.inl (e a _ h)
  · exact Or.inr ⟨o, e a _ h⟩
theorem sqL_up {K : PySem.W.Frag} {H H' : Hp} {a : Addr} {xs : List V} (e : Same H H') (h : SqL K H a xs) : SqL K H' a xs := by
  rcases h with h | h
  · exact Or.inl (rd_up e h)
  · exact Or.inr h
theorem sqT_up {K : PySem.W.Frag} {H H' : Hp} {a : Addr} {xs : List V} (e : Same H H') (h : SqT K H a xs) : SqT K H' a xs := by
  rcases h with h | h
  · exact Or.inl (rd_up e h)
  · exact Or.inr h
mutual
theorem dp_up {K : PySem.W.Frag} {H H' : Hp} (e : Same H H') : ∀ (d : PyData) (v : V), Dp K H v d → Dp K H' v d
  | .none, _, h => by cases h; exact .non
  | .bool b, _, h => by cases h; exact .bl b
  | .int i, _, h => by cases h; exact .int i
  | .str x, _, h => by cases h; exact .str x
  | .list ds, _, h => by
    cases h with
    | lst h1 h2 => exact .lst (sqL_up e h1) (dpAll_up e ds _ h2)
  | .tuple ds, _, h => by
    cases h with
    | tup h1 h2 => exact .tup (sqT_up e h1) (dpAll_up e ds _ h2)
  | .dict _, _, h => by cases h
theorem dpAll_up {K : PySem.W.Frag} {H H' : Hp} (e : Same H H') : ∀ (ds : List PyData) (vs : List V), DpAll K H vs ds → DpAll K H' vs ds
  | [], _, h => by cases h; exact .nil
  | d :: ds, _, h => by
    cases h with
    | cons h1 h2 => exact .cons (dp_up e d _ h1) (dpAll_up e ds _ h2)
end
/-- a datum -/
def isD (K : PySem.W.Frag) (d : PyData) : Ty := ⟨fun H v => Dp K H v d, fun e h => dp_up e _ _ h⟩
/-- one value -/
def isV (x : V) : Ty := ⟨fun _ v => v = x, fun _ h => h⟩
theorem dp_int {K : PySem.W.Frag} {H : Hp} {v : V} {i : Int} (h : Dp K H v (.int i)) : v = .int i := by cases h; rfl
theorem dp_str {K : PySem.W.Frag} {H : Hp} {v : V} {x : Str} (h : Dp K H v (.str x)) : v = .str x := by cases h; rfl
theorem dp_bl {K : PySem.W.Frag} {H : Hp} {v : V} {b : Bool} (h : Dp K H v (.bool b)) : v = .bl b := by cases h; rfl
theorem dp_non {K : PySem.W.Frag} {H : Hp} {v : V} (h : Dp K H v .none) : v = .non := by cases h; rfl
theorem dp_tup {K : PySem.W.Frag} {H : Hp} {v : V} {ds : List PyData} (h : Dp K H v (.tuple ds)) : ∃ a xs, v = .ref a ∧ SqT K H a xs ∧ DpAll K H xs ds := by
  cases h with
  | tup h1 h2 => exact ⟨_, _, rfl, h1, h2⟩
theorem dp_lst {K : PySem.W.Frag} {H : Hp} {v : V} {ds : List PyData} (h : Dp K H v (.list ds)) : ∃ a xs, v = .ref a ∧ SqL K H a xs ∧ DpAll K H xs ds := by
  cases h with
  | lst h1 h2 => exact ⟨_, _, rfl, h1, h2⟩
theorem dpAll_len {K : PySem.W.Frag} {H : Hp} : ∀ {vs : List V} {ds : List PyData}, DpAll K H vs ds → vs.length = ds.length
  | _, _, .nil => rfl
  | _, _, .cons _ t => by simp [dpAll_len t]
theorem dpAll_get {K : PySem.W.Frag} {H : Hp} : ∀ {vs : List V} {ds : List PyData} {j : Nat} {d : PyData}, DpAll K H vs ds → ds[j]? = some d → ∃ v, vs[j]? = some v ∧ Dp K H v d
  | _, _, _, _, .nil, e => by simp at e
  | _, _, 0, _, .cons h _, e => by simp at e; subst e; exact ⟨_, rfl, h⟩
  | _, _, j + 1, _, .cons _ t, e => by
    obtain ⟨v, h1, h2⟩ := dpAll_get (j := j) t (by simpa using e)
    exact ⟨v, by simpa using h1, h2⟩
theorem dpAll_getV {K : PySem.W.Frag} {H : Hp} : ∀ {vs : List V} {ds : List PyData} {j : Nat} {v : V}, DpAll K H vs ds → vs[j]? = some v → ∃ d, ds[j]? = some d ∧ Dp K H v d
  | _, _, _, _, .nil, e => by simp at e
  | _, _, 0, _, .cons h _, e => by simp at e; subst e; exact ⟨_, rfl, h⟩
  | _, _, j + 1, _, .cons _ t, e => by
    obtain ⟨v, h1, h2⟩ := dpAll_getV (j := j) t (by simpa using e)
    exact ⟨v, by simpa using h1, h2⟩
theorem dpAll_app {K : PySem.W.Frag} {H : Hp} : ∀ {vs ws : List V} {ds es : List PyData}, DpAll K H vs ds → DpAll K H ws es → DpAll K H (vs ++ ws) (ds ++ es)
  | _, _, _, _, .nil, s => s
  | _, _, _, _, .cons h t, s => .cons h (dpAll_app t s)
theorem dpAll_drop {K : PySem.W.Frag} {H : Hp} : ∀ (n : Nat) {vs : List V} {ds : List PyData}, DpAll K H vs ds → DpAll K H (vs.drop n) (ds.drop n)
  | 0, _, _, h => h
  | _ + 1, _, _, .nil => .nil
  | n + 1, _, _, .cons _ t => dpAll_drop n t
theorem dpAll_take {K : PySem.W.Frag} {H : Hp} : ∀ (n : Nat) {vs : List V} {ds : List PyData}, DpAll K H vs ds → DpAll K H (vs.take n) (ds.take n)
  | 0, _, _, h => .nil
  | _ + 1, _, _, .nil => .nil
  | n + 1, _, _, .cons h t => .cons h (dpAll_take n t)
theorem dpAll_atI {K : PySem.W.Frag} {H : Hp} {vs : List V} {ds : List PyData} {i : Int} {d : PyData} (h : DpAll K H vs ds) (e : atI ds i = some d) : ∃ v, atI vs i = some v ∧ Dp K H v d := by
  unfold atI at e ⊢
  rw [dpAll_len h]
  cases q : ixN ds.length i with
  | none => rw [q] at e; cases e
  | some j =>
    rw [q] at e
    exact dpAll_get h e
theorem dpAll_mapInt {K : PySem.W.Frag} {H : Hp} : ∀ (ns : List Int), DpAll K H (ns.map V.int) (ns.map PyData.int)
  | [] => .nil
  | _ :: r => .cons (.int _) (dpAll_mapInt r)
theorem dpAll_ints {K : PySem.W.Frag} {H : Hp} : ∀ {vs : List V} {ns : List Int}, DpAll K H vs (ns.map PyData.int) → vs = ns.map V.int
  | _, [], h => by cases h; rfl
  | _, n :: ns, h => by
    have h' : DpAll K H _ (PyData.int n :: ns.map PyData.int) := h
    cases h' with
    | cons h1 h2 => rw [dp_int h1, dpAll_ints h2]; rfl
theorem dpAll_strs {K : PySem.W.Frag} {H : Hp} : ∀ {vs : List V} {ns : List Str}, DpAll K H vs (ns.map PyData.str) → vs = ns.map V.str
  | _, [], h => by cases h; rfl
  | _, n :: ns, h => by
    have h' : DpAll K H _ (PyData.str n :: ns.map PyData.str) := h
    cases h' with
    | cons h1 h2 => rw [dp_str h1, dpAll_strs h2]; rfl
theorem dpAll_bls {K : PySem.W.Frag} {H : Hp} : ∀ {vs : List V} {ns : List Bool}, DpAll K H vs (ns.map PyData.bool) → vs = ns.map V.bl
  | _, [], h => by cases h; rfl
  | _, n :: ns, h => by
    have h' : DpAll K H _ (PyData.bool n :: ns.map PyData.bool) := h
    cases h' with
    | cons h1 h2 => rw [dp_bl h1, dpAll_bls h2]; rfl

/-! ### typed slots -/
structure Env (Γ : List (Option Ty)) (σ : L2.St) (H : Hp) : Prop where
  len : Γ.length = σ.length
  at_ : ∀ (i : Nat) (τ : Ty), Γ[i]? = some (some τ) → ∃ v, σ[i]? = some (some v) ∧ τ.p H v
theorem Env.up {Γ : List (Option Ty)} {σ : L2.St} {H H' : Hp} (g : Env Γ σ H) (e : Same H H') : Env Γ σ H' :=
  ⟨g.len, fun i τ h => let ⟨v, h1, h2⟩ := g.at_ i τ h; ⟨v, h1, τ.up e h2⟩⟩
theorem Env.set {Γ : List (Option Ty)} {σ : L2.St} {H : Hp} (g : Env Γ σ H) (i : Nat) {v : V} {τ : Ty} (h : τ.p H v) : Env (Γ.set i (some τ)) (σ.set i (some v)) H := by
  refine ⟨by simp [g.len], fun j τ' e => ?_⟩
  by_cases hj : i = j
  · subst hj
    by_cases hl : i < Γ.length
    · rw [List.getElem?_set_self hl] at e
      cases e
      exact ⟨v, List.getElem?_set_self (by rw [← g.len]; exact hl), h⟩
    · rw [List.getElem?_eq_none (by simpa using hl)] at e
      cases e
  · rw [List.getElem?_set_ne hj] at e
    obtain ⟨w, h1, h2⟩ := g.at_ j τ' e
    exact ⟨w, by rw [List.getElem?_set_ne hj]; exact h1, h2⟩
theorem Env.clr {Γ : List (Option Ty)} {σ : L2.St} {H : Hp} (g : Env Γ σ H) (i : Nat) {v : Option V} : Env (Γ.set i none) (σ.set i v) H := by
  refine ⟨by simp [g.len], fun j τ' e => ?_⟩
  by_cases hj : i = j
  · subst hj
    by_cases hl : i < Γ.length
    · rw [List.getElem?_set_self hl] at e
      cases e
    · rw [List.getElem?_eq_none (by simpa using hl)] at e
      cases e
  · rw [List.getElem?_set_ne hj] at e
    obtain ⟨w, h1, h2⟩ := g.at_ j τ' e
    exact ⟨w, by rw [List.getElem?_set_ne hj]; exact h1, h2⟩
abbrev AllT (H : Hp) : List V → List Ty → Prop := Paired fun v τ => τ.p H v
theorem allT_up {H H' : Hp} (e : Same H H') : ∀ {vs : List V} {τs : List Ty}, AllT H vs τs → AllT H' vs τs
  | _, _, .nil => .nil
  | _, _, .cons h t => .cons (Ty.up _ e h) (allT_up e t)

/-! ### pure expressions -/
structure EV (X : Cx) (Γ : List (Option Ty)) (e : Expr) (τ : Ty) : Prop where
  run : ∀ σ H, Env Γ σ H → wE X e σ H fun v H' => Same H H' ∧ τ.p H' v
structure ET (X : Cx) (Γ : List (Option Ty)) (e : Expr) (b : Bool) : Prop where
  run : ∀ σ H, Env Γ σ H → wT X e σ H fun k H' => Same H H' ∧ k = b
structure EVs (X : Cx) (Γ : List (Option Ty)) (es : List Expr) (τs : List Ty) : Prop where
  run : ∀ σ H, Env Γ σ H → wA X es σ H fun vs H' => Same H H' ∧ AllT H' vs τs
structure EDs (X : Cx) (Γ : List (Option Ty)) (es : List Expr) (ds : List PyData) : Prop where
  run : ∀ σ H, Env Γ σ H → wA X es σ H fun vs H' => Same H H' ∧ DpAll X.K H' vs ds

theorem same_new {H : Hp} {p : Addr} {o : HO} (h : H p = none) : Same H (upd H p o) := fun b u e => by
  rw [upd_ne (ne_of_none e h)]
  exact e
section
variable {X : Cx} {Γ : List (Option Ty)} {e a b c : Expr} {es : List Expr} {pos : Pos} {τ : Ty}
theorem EV.of {t : TE} (h : PE X e t) (q : ∀ σ H, Env Γ σ H → t σ H fun v H' => Same H H' ∧ τ.p H' v) : EV X Γ e τ := ⟨fun σ H g => wE_of h (q σ H g)⟩
theorem ET.of {t : TT} {k : Bool} (h : PT X e t) (q : ∀ σ H, Env Γ σ H → t σ H fun v H' => Same H H' ∧ v = k) : ET X Γ e k := ⟨fun σ H g => wT_of h (q σ H g)⟩
/-- use of a pure expression within a reading -/
theorem EV.use {σ : L2.St} {H : Hp} {Q : VK} (h : EV X Γ e τ) (g : Env Γ σ H) (k : ∀ v H', Same H H' → τ.p H' v → Q v H') : wE X e σ H Q := wE_mono (h.run σ H g) fun v H' q => k v H' q.1 q.2
theorem ET.use {σ : L2.St} {H : Hp} {Q : Bool → Hp → Prop} {k : Bool} (h : ET X Γ e k) (g : Env Γ σ H) (q : ∀ H', Same H H' → Q k H') : wT X e σ H Q := wT_mono (h.run σ H g) fun v H' z => z.2 ▸ q H' z.1
theorem EVs.use {σ : L2.St} {H : Hp} {Q : List V → Hp → Prop} {τs : List Ty} (h : EVs X Γ es τs) (g : Env Γ σ H) (k : ∀ v H', Same H H' → AllT H' v τs → Q v H') : wA X es σ H Q := wA_mono (h.run σ H g) fun v H' q => k v H' q.1 q.2
theorem EDs.use {σ : L2.St} {H : Hp} {Q : List V → Hp → Prop} {ds : List PyData} (h : EDs X Γ es ds) (g : Env Γ σ H) (k : ∀ v H', Same H H' → DpAll X.K H' v ds → Q v H') : wA X es σ H Q := wA_mono (h.run σ H g) fun v H' q => k v H' q.1 q.2

theorem ev_name (i : Nat) {x : Str} (hN : X.N[i]? = some x) (hv : Vis X.env.scope x) (hg : Γ[i]? = some (some τ)) (hd : (x == ("__debug__" : Str)) = false := by decide) (hcd : (x == ("__classdict__" : Str)) = false := by decide) : EV X Γ (.Name x pos) τ :=
  .of (pe_var hN hv hd hcd) fun σ H g => let ⟨v, h1, h2⟩ := g.at_ i τ hg; ⟨v, h1, fun _ _ h => h, h2⟩
theorem ev_n (i : Nat) {x : Str} (hg : Γ[i]? = some (some τ)) (hN : X.N[i]? = some x := by rfl) (hv : Vis X.env.scope x := by first | exact .inl rfl | exact .inr (.inl rfl) | exact .inr (.inr rfl)) (hd : (x == ("__debug__" : Str)) = false := by decide) (hcd : (x == ("__classdict__" : Str)) = false := by decide) : EV X Γ (.Name x pos) τ := ev_name i hN hv hg hd hcd
theorem ev_int {i : Int} {j : Nat} : EV X Γ (.Constant (.int i) j pos) (isD X.K (.int i)) := .of pe_int fun _ _ _ => ⟨fun _ _ h => h, .int i⟩
theorem ev_str {i : Str} {j : Nat} : EV X Γ (.Constant (.str i) j pos) (isD X.K (.str i)) := .of pe_str fun _ _ _ => ⟨fun _ _ h => h, .str i⟩
theorem ev_bl {i : Bool} {j : Nat} : EV X Γ (.Constant (.bool i) j pos) (isD X.K (.bool i)) := .of pe_bl fun _ _ _ => ⟨fun _ _ h => h, .bl i⟩
theorem ev_non {j : Nat} : EV X Γ (.Constant .none j pos) (isD X.K .none) := .of pe_non fun _ _ _ => ⟨fun _ _ h => h, .non⟩
theorem ev_glob {x : Str} {v : V} {u : Value} (hg : Gl X x) (hm : X.mg x = some u) (r : RelV v u) (hd : (x == ("__debug__" : Str)) = false := by decide) : EV X Γ (.Name x pos) (isV v) :=
  .of (pe_glob hg hm r hd) fun _ _ _ => ⟨fun _ _ h => h, rfl⟩

theorem eds_nil : EDs X Γ [] [] := ⟨fun σ H g => wA_of pa_nil ⟨fun _ _ h => h, .nil⟩⟩
theorem eds_cons {d : PyData} {ds : List PyData} (h1 : EV X Γ e (isD X.K d)) (h2 : EDs X Γ es ds) (hs : starEach (e :: es) X.env = (false, eval e X.env) :: starEach es X.env := by rfl) : EDs X Γ (e :: es) (d :: ds) :=
  ⟨fun σ H g => wA_of (pa_cons pe_w pa_w hs) (h1.use g fun v H1 s1 q1 => h2.use (g.up s1) fun vs H2 s2 q2 => ⟨s1.trans s2, .cons (dp_up s2 _ _ q1) q2⟩)⟩
theorem eds_star {ds es' : List PyData} {p : Pos} (h1 : EV X Γ e (isD X.K (.tuple ds))) (h2 : EDs X Γ es es') (hs : starEach (.Starred e p :: es) X.env = (true, eval e X.env) :: starEach es X.env := by rfl) : EDs X Γ (.Starred e p :: es) (ds ++ es') :=
  ⟨fun σ H g => wA_of (StX.pa_star pe_w pa_w hs) (h1.use g fun v H1 s1 q1 => by
    obtain ⟨a, xs, rfl, hq, hx⟩ := dp_tup q1
    exact ⟨a, xs, rfl, .inl hq, h2.use (g.up s1) fun vs H2 s2 q2 => ⟨s1.trans s2, dpAll_app (dpAll_up s2 _ _ hx) q2⟩⟩)⟩
theorem evs_nil : EVs X Γ [] [] := ⟨fun σ H g => wA_of pa_nil ⟨fun _ _ h => h, .nil⟩⟩
theorem evs_cons {τs : List Ty} (h1 : EV X Γ e τ) (h2 : EVs X Γ es τs) (hs : starEach (e :: es) X.env = (false, eval e X.env) :: starEach es X.env := by rfl) : EVs X Γ (e :: es) (τ :: τs) :=
  ⟨fun σ H g => wA_of (pa_cons pe_w pa_w hs) (h1.use g fun v H1 s1 q1 => h2.use (g.up s1) fun vs H2 s2 q2 => ⟨s1.trans s2, .cons (τ.up s2 q1) q2⟩)⟩

theorem sz_of {n : Nat} (h : n ≤ 100000) : n ≤ sizeLine := Nat.le_trans h (by decide)
theorem ev_tup {k : Nat} {ds : List PyData} (h : EDs X Γ es ds) (hl : ds.length ≤ 100000 := by exact Nat.le_of_ble_eq_true rfl) : EV X Γ (.Tuple es k pos) (isD X.K (.tuple ds)) :=
  .of (pe_tup pa_w) fun σ H g => h.use g fun vs H1 s1 q => ⟨by rw [dpAll_len q]; exact sz_of hl, fun p hp => ⟨s1.trans (same_new hp), .tup (SqT.of upd_same) (dpAll_up (same_new hp) _ _ q)⟩⟩
theorem ev_lst {ds : List PyData} (h : EDs X Γ es ds) (hl : ds.length ≤ 100000 := by exact Nat.le_of_ble_eq_true rfl) : EV X Γ (.List es pos) (isD X.K (.list ds)) :=
  .of (pe_lst pa_w) fun σ H g => h.use g fun vs H1 s1 q => ⟨by rw [dpAll_len q]; exact sz_of hl, fun p hp => ⟨s1.trans (same_new hp), .lst (SqL.of upd_same) (dpAll_up (same_new hp) _ _ q)⟩⟩

/-! arithmetic -/
theorem ev_op2 {op : Operator} {g : Int → Int → Int} {i j : Int} (ho : OpR X (binaryOp op) (rI0 fun i j => .int (g i j))) (ha : EV X Γ a (isD X.K (.int i))) (hb : EV X Γ b (isD X.K (.int j))) : EV X Γ (.BinOp a op b pos) (isD X.K (.int (g i j))) :=
  .of (pe_op ho pe_w pe_w) fun σ H g' => ha.use g' fun v H1 s1 q1 => hb.use (g'.up s1) fun u H2 s2 q2 => ⟨i, j, dp_int q1, dp_int q2, s1.trans s2, .int _⟩
theorem ev_add {i j : Int} (ha : EV X Γ a (isD X.K (.int i))) (hb : EV X Γ b (isD X.K (.int j))) : EV X Γ (.BinOp a .Add b pos) (isD X.K (.int (i + j))) := ev_op2 (g := fun i j => i + j) op_add ha hb
theorem ev_suc {n : Nat} {j : Nat} {p2 : Pos} (ha : EV X Γ a (isD X.K (.int (n : Nat)))) : EV X Γ (.BinOp a .Add (.Constant (.int 1) j p2) pos) (isD X.K (.int ((n + 1 : Nat) : Int))) := ev_add ha ev_int
theorem ev_sub {i j : Int} (ha : EV X Γ a (isD X.K (.int i))) (hb : EV X Γ b (isD X.K (.int j))) : EV X Γ (.BinOp a .Sub b pos) (isD X.K (.int (i - j))) := ev_op2 (g := fun i j => i - j) op_sub ha hb
theorem ev_mod {i j : Int} (ha : EV X Γ a (isD X.K (.int i))) (hb : EV X Γ b (isD X.K (.int j))) (hj : 0 < j) : EV X Γ (.BinOp a .Mod b pos) (isD X.K (.int (i % j))) :=
  .of (pe_op op_mod pe_w pe_w) fun σ H g' => ha.use g' fun v H1 s1 q1 => hb.use (g'.up s1) fun u H2 s2 q2 => ⟨i, j, dp_int q1, dp_int q2, hj, s1.trans s2, .int _⟩
theorem ev_neg {i : Int} (ha : EV X Γ a (isD X.K (.int i))) : EV X Γ (.UnaryOp .USub a pos) (isD X.K (.int (-i))) :=
  .of (pe_un un_neg pe_w) fun σ H g' => ha.use g' fun v H1 s1 q1 => ⟨i, dp_int q1, s1, .int _⟩

/-! comparisons -/
theorem ev_cmpI {op : CmpOp} {g : Int → Int → Bool} {i j : Int} (ho : OpR X (compareOp op) (rI0 fun i j => .bl (g i j))) (hm : behindInMarks op b = false) (ha : EV X Γ a (isD X.K (.int i))) (hb : EV X Γ b (isD X.K (.int j))) : EV X Γ (.Compare a [op] [b] pos) (isD X.K (.bool (g i j))) :=
  .of (pe_cmpR ho pe_w pe_w hm) fun σ H g' => ha.use g' fun v H1 s1 q1 => hb.use (g'.up s1) fun u H2 s2 q2 => ⟨i, j, dp_int q1, dp_int q2, s1.trans s2, .bl _⟩
theorem et_cmpI {op : CmpOp} {g : Int → Int → Bool} {i j : Int} (ho : OpR X (compareOp op) (rI0 fun i j => .bl (g i j))) (hm : behindInMarks op b = false) (ha : EV X Γ a (isD X.K (.int i))) (hb : EV X Γ b (isD X.K (.int j))) : ET X Γ (.Compare a [op] [b] pos) (g i j) :=
  .of (pt_cmpR ho pe_w pe_w hm) fun σ H g' => ha.use g' fun v H1 s1 q1 => hb.use (g'.up s1) fun u H2 s2 q2 => ⟨i, j, dp_int q1, dp_int q2, _, rfl, s1.trans s2, rfl⟩
theorem ev_lt {i j : Int} (ha : EV X Γ a (isD X.K (.int i))) (hb : EV X Γ b (isD X.K (.int j))) : EV X Γ (.Compare a [.Lt] [b] pos) (isD X.K (.bool (decide (i < j)))) := ev_cmpI (g := fun i j => decide (i < j)) op_lt (nomark _) ha hb
theorem ev_le {i j : Int} (ha : EV X Γ a (isD X.K (.int i))) (hb : EV X Γ b (isD X.K (.int j))) : EV X Γ (.Compare a [.LtE] [b] pos) (isD X.K (.bool (decide (i ≤ j)))) := ev_cmpI (g := fun i j => decide (i ≤ j)) op_le (nomark _) ha hb
theorem ev_ge {i j : Int} (ha : EV X Γ a (isD X.K (.int i))) (hb : EV X Γ b (isD X.K (.int j))) : EV X Γ (.Compare a [.GtE] [b] pos) (isD X.K (.bool (decide (j ≤ i)))) := ev_cmpI (g := fun i j => decide (j ≤ i)) op_ge (nomark _) ha hb
theorem et_lt {i j : Int} (ha : EV X Γ a (isD X.K (.int i))) (hb : EV X Γ b (isD X.K (.int j))) : ET X Γ (.Compare a [.Lt] [b] pos) (decide (i < j)) := et_cmpI (g := fun i j => decide (i < j)) op_lt (nomark _) ha hb
theorem et_le {i j : Int} (ha : EV X Γ a (isD X.K (.int i))) (hb : EV X Γ b (isD X.K (.int j))) : ET X Γ (.Compare a [.LtE] [b] pos) (decide (i ≤ j)) := et_cmpI (g := fun i j => decide (i ≤ j)) op_le (nomark _) ha hb
theorem et_gt {i j : Int} (ha : EV X Γ a (isD X.K (.int i))) (hb : EV X Γ b (isD X.K (.int j))) : ET X Γ (.Compare a [.Gt] [b] pos) (decide (j < i)) := et_cmpI (g := fun i j => decide (j < i)) op_gt (nomark _) ha hb
theorem et_ge {i j : Int} (ha : EV X Γ a (isD X.K (.int i))) (hb : EV X Γ b (isD X.K (.int j))) : ET X Γ (.Compare a [.GtE] [b] pos) (decide (j ≤ i)) := et_cmpI (g := fun i j => decide (j ≤ i)) op_ge (nomark _) ha hb
/-- scalars: == and != -/
def scD : PyData → Bool
  | .int _ => true
  | .str _ => true
  | .bool _ => true
  | .none => true
  | _ => false
def scV : PyData → V
  | .int i => .int i
  | .str x => .str x
  | .bool b => .bl b
  | _ => .non
theorem scV_of {K : PySem.W.Frag} {H : Hp} {v : V} {d : PyData} (h : Dp K H v d) (e : scD d = true) : v = scV d := by
  cases h with
  | lst _ _ => cases e
  | tup _ _ => cases e
  | _ => rfl
theorem ev_eqS {d d' : PyData} {k : Bool} (ha : EV X Γ a (isD X.K d)) (hb : EV X Γ b (isD X.K d')) (h1 : scD d = true) (h2 : scD d' = true) (h3 : scal (scV d) (scV d') = true) (h4 : decide (scV d = scV d') = k) : EV X Γ (.Compare a [.Eq] [b] pos) (isD X.K (.bool k)) :=
  .of (pe_cmpR op_eq pe_w pe_w (nomark _)) fun σ H g' => ha.use g' fun v H1 s1 q1 => hb.use (g'.up s1) fun u H2 s2 q2 => by
    cases scV_of q1 h1
    cases scV_of q2 h2
    exact ⟨h3, s1.trans s2, h4 ▸ .bl _⟩
theorem et_eqS {d d' : PyData} {k : Bool} (ha : EV X Γ a (isD X.K d)) (hb : EV X Γ b (isD X.K d')) (h1 : scD d = true) (h2 : scD d' = true) (h3 : scal (scV d) (scV d') = true) (h4 : decide (scV d = scV d') = k) : ET X Γ (.Compare a [.Eq] [b] pos) k :=
  .of (pt_cmpR op_eq pe_w pe_w (nomark _)) fun σ H g' => ha.use g' fun v H1 s1 q1 => hb.use (g'.up s1) fun u H2 s2 q2 => by
    cases scV_of q1 h1
    cases scV_of q2 h2
    exact ⟨h3, _, rfl, s1.trans s2, h4⟩
theorem ev_neS {d d' : PyData} {k : Bool} (ha : EV X Γ a (isD X.K d)) (hb : EV X Γ b (isD X.K d')) (h1 : scD d = true) (h2 : scD d' = true) (h3 : scal (scV d) (scV d') = true) (h4 : (!decide (scV d = scV d')) = k) : EV X Γ (.Compare a [.NotEq] [b] pos) (isD X.K (.bool k)) :=
  .of (pe_cmpR op_ne pe_w pe_w (nomark _)) fun σ H g' => ha.use g' fun v H1 s1 q1 => hb.use (g'.up s1) fun u H2 s2 q2 => by
    cases scV_of q1 h1
    cases scV_of q2 h2
    exact ⟨h3, s1.trans s2, h4 ▸ .bl _⟩
theorem et_neS {d d' : PyData} {k : Bool} (ha : EV X Γ a (isD X.K d)) (hb : EV X Γ b (isD X.K d')) (h1 : scD d = true) (h2 : scD d' = true) (h3 : scal (scV d) (scV d') = true) (h4 : (!decide (scV d = scV d')) = k) : ET X Γ (.Compare a [.NotEq] [b] pos) k :=
  .of (pt_cmpR op_ne pe_w pe_w (nomark _)) fun σ H g' => ha.use g' fun v H1 s1 q1 => hb.use (g'.up s1) fun u H2 s2 q2 => by
    cases scV_of q1 h1
    cases scV_of q2 h2
    exact ⟨h3, _, rfl, s1.trans s2, h4⟩
/-- x == y of two texts -/
theorem str_dec {x y : Str} : decide (V.str x = V.str y) = decide (x = y) := by
  by_cases h : x = y
  · subst h; simp
  · rw [decide_eq_false h, decide_eq_false (fun q => h (by injection q))]
theorem int_dec {x y : Int} : decide (V.int x = V.int y) = decide (x = y) := by
  by_cases h : x = y
  · subst h; simp
  · rw [decide_eq_false h, decide_eq_false (fun q => h (by injection q))]
theorem ev_eqT {x y : Str} (ha : EV X Γ a (isD X.K (.str x))) (hb : EV X Γ b (isD X.K (.str y))) : EV X Γ (.Compare a [.Eq] [b] pos) (isD X.K (.bool (decide (x = y)))) := ev_eqS ha hb rfl rfl rfl str_dec
theorem et_eqT {x y : Str} (ha : EV X Γ a (isD X.K (.str x))) (hb : EV X Γ b (isD X.K (.str y))) : ET X Γ (.Compare a [.Eq] [b] pos) (decide (x = y)) := et_eqS ha hb rfl rfl rfl str_dec
theorem et_neT {x y : Str} (ha : EV X Γ a (isD X.K (.str x))) (hb : EV X Γ b (isD X.K (.str y))) : ET X Γ (.Compare a [.NotEq] [b] pos) (!decide (x = y)) := et_neS ha hb rfl rfl rfl (by rw [← str_dec]; rfl)
theorem ev_eqI {x y : Int} (ha : EV X Γ a (isD X.K (.int x))) (hb : EV X Γ b (isD X.K (.int y))) : EV X Γ (.Compare a [.Eq] [b] pos) (isD X.K (.bool (decide (x = y)))) := ev_eqS ha hb rfl rfl rfl int_dec
theorem et_eqI {x y : Int} (ha : EV X Γ a (isD X.K (.int x))) (hb : EV X Γ b (isD X.K (.int y))) : ET X Γ (.Compare a [.Eq] [b] pos) (decide (x = y)) := et_eqS ha hb rfl rfl rfl int_dec
theorem et_neI {x y : Int} (ha : EV X Γ a (isD X.K (.int x))) (hb : EV X Γ b (isD X.K (.int y))) : ET X Γ (.Compare a [.NotEq] [b] pos) (!decide (x = y)) := et_neS ha hb rfl rfl rfl (by rw [← int_dec]; rfl)
/-- == and != at any depth -/
theorem et_eqD {d d' : PyData} {k : Bool} (hu : X.A.units + 64 < cLine) (ha : EV X Γ a (isD X.K d)) (hb : EV X Γ b (isD X.K d')) (h1 : SeqAt.shaped d = true) (h2 : SeqAt.shaped d' = true) (h4 : PyData.eqv d d' = k) : ET X Γ (.Compare a [.Eq] [b] pos) k :=
  .of (pt_cmpR (op_eqD hu) pe_w pe_w (nomark _)) fun σ H g' => ha.use g' fun v H1 s1 q1 => hb.use (g'.up s1) fun u H2 s2 q2 => ⟨d, d', dp_up s2 _ _ q1, q2, h1, h2, _, rfl, s1.trans s2, h4⟩
theorem et_neD {d d' : PyData} {k : Bool} (hu : X.A.units + 64 < cLine) (ha : EV X Γ a (isD X.K d)) (hb : EV X Γ b (isD X.K d')) (h1 : SeqAt.shaped d = true) (h2 : SeqAt.shaped d' = true) (h4 : (!PyData.eqv d d') = k) : ET X Γ (.Compare a [.NotEq] [b] pos) k :=
  .of (pt_cmpR (op_neD hu) pe_w pe_w (nomark _)) fun σ H g' => ha.use g' fun v H1 s1 q1 => hb.use (g'.up s1) fun u H2 s2 q2 => ⟨d, d', dp_up s2 _ _ q1, q2, h1, h2, _, rfl, s1.trans s2, h4⟩
/-- a text in a tuple of texts -/
theorem inV_strs (x : Str) : ∀ ss : List Str, inV (.str x) (ss.map V.str) = decide (x ∈ ss)
  | [] => by simp [inV]
  | s :: ss => by
    have ih := inV_strs x ss
    unfold inV at ih ⊢
    rw [List.map_cons, List.any_cons, ih]
    have e : eqV (V.str s) (V.str x) = decide (s = x) := by
      first | rfl | (unfold eqV; simp) | (simp [eqV])
    rw [e]
    by_cases h : s = x
    · subst h; simp
    · simp [h, Ne.symm h]
theorem flat_strs : ∀ ss : List Str, (ss.map V.str).all flatV = true
  | [] => rfl
  | s :: ss => by rw [List.map_cons, List.all_cons, flat_strs ss]; rfl
theorem ev_inT {x : Str} {ss : List Str} {k : Bool} (ha : EV X Γ a (isD X.K (.str x))) (hb : EV X Γ b (isD X.K (.tuple (ss.map PyData.str)))) (hm : behindInMarks .In b = false) (hk : decide (x ∈ ss) = k) : EV X Γ (.Compare a [.In] [b] pos) (isD X.K (.bool k)) :=
  .of (pe_cmpR op_in_seq pe_w pe_w hm) fun σ H g' => ha.use g' fun v H1 s1 q1 => hb.use (g'.up s1) fun u H2 s2 q2 => by
    cases dp_str q1
    obtain ⟨p, xs, rfl, hq, hx⟩ := dp_tup q2
    cases dpAll_strs hx
    refine ⟨p, _, rfl, .inr hq, rfl, flat_strs ss, s1.trans s2, ?_⟩
    show Dp _ _ (V.bl (inV (.str x) (ss.map V.str))) _
    rw [inV_strs, hk]
    exact .bl _
theorem et_inT {x : Str} {ss : List Str} {k : Bool} (ha : EV X Γ a (isD X.K (.str x))) (hb : EV X Γ b (isD X.K (.tuple (ss.map PyData.str)))) (hm : behindInMarks .In b = false) (hk : decide (x ∈ ss) = k) : ET X Γ (.Compare a [.In] [b] pos) k :=
  .of (pt_cmpR op_in_seq pe_w pe_w hm) fun σ H g' => ha.use g' fun v H1 s1 q1 => hb.use (g'.up s1) fun u H2 s2 q2 => by
    cases dp_str q1
    obtain ⟨p, xs, rfl, hq, hx⟩ := dp_tup q2
    cases dpAll_strs hx
    refine ⟨p, _, rfl, .inr hq, rfl, flat_strs ss, _, rfl, s1.trans s2, ?_⟩
    show inV (.str x) (ss.map V.str) = k
    rw [inV_strs, hk]

/-! and, or, not, if -/
theorem ev_one {op : BoolOp} (ha : EV X Γ a τ) : EV X Γ (.BoolOp op [a] pos) τ := .of (pe_one pe_w) fun σ H g => ha.run σ H g
theorem ev_and {p q : Bool} (ha : EV X Γ a (isD X.K (.bool p))) (hb : p = true → EV X Γ (.BoolOp .And (b :: es) pos) (isD X.K (.bool q))) : EV X Γ (.BoolOp .And (a :: b :: es) pos) (isD X.K (.bool (p && q))) :=
  .of (pe_and pe_w pe_w) fun σ H g => ha.use g fun v H1 s1 q1 => by
    refine ⟨p, dp_bl q1, ?_⟩
    cases p with
    | true => exact iteT ((hb rfl).use (g.up s1) fun u H2 s2 q2 => ⟨s1.trans s2, q2⟩)
    | false => exact iteF ⟨s1, .bl _⟩
theorem ev_or {p q : Bool} (ha : EV X Γ a (isD X.K (.bool p))) (hb : p = false → EV X Γ (.BoolOp .Or (b :: es) pos) (isD X.K (.bool q))) : EV X Γ (.BoolOp .Or (a :: b :: es) pos) (isD X.K (.bool (p || q))) :=
  .of (pe_or pe_w pe_w) fun σ H g => ha.use g fun v H1 s1 q1 => by
    refine ⟨p, dp_bl q1, ?_⟩
    cases p with
    | true => exact iteT ⟨s1, .bl _⟩
    | false => exact iteF ((hb rfl).use (g.up s1) fun u H2 s2 q2 => ⟨s1.trans s2, q2⟩)
theorem ev_not {p : Bool} (ha : EV X Γ a (isD X.K (.bool p))) : EV X Γ (.UnaryOp .Not a pos) (isD X.K (.bool (!p))) :=
  .of (pe_not pe_w) fun σ H g => ha.use g fun v H1 s1 q1 => ⟨p, dp_bl q1, s1, .bl _⟩
theorem et_val {k : Bool} (ha : EV X Γ a (isD X.K (.bool k))) (he : ∀ whole, isTrue a X.env whole = (do let v ← whole; standAt a.pos; holding [v] (truthy v)) := by intro _; rfl) : ET X Γ a k :=
  .of (pt_val pe_w he) fun σ H g => ha.use g fun v H1 s1 q1 => ⟨k, dp_bl q1, s1, rfl⟩
theorem et_not {k : Bool} (ha : ET X Γ a k) : ET X Γ (.UnaryOp .Not a pos) (!k) := .of (pt_not pt_w) fun σ H g => ha.use g fun H1 s1 => ⟨s1, rfl⟩
/-- a test whatever its whole is -/
structure EW (X : Cx) (Γ : List (Option Ty)) (e : Expr) (b : Bool) : Prop where
  run : ∃ t, PW X e t ∧ ∀ σ H, Env Γ σ H → t σ H fun k H' => Same H H' ∧ k = b
theorem ew_and1 {p : Bool} (ha : ET X Γ a p) : EW X Γ (.BoolOp .And [a] pos) p := ⟨_, pw_and1 pt_w, fun σ H g => ha.run σ H g⟩
theorem ew_or1 {p : Bool} (ha : ET X Γ a p) : EW X Γ (.BoolOp .Or [a] pos) p := ⟨_, pw_or1 pt_w, fun σ H g => ha.run σ H g⟩
theorem pw_mono' {t : TT} {pr : Bool → Hp → Prop} (h : PW X e t) : True := trivial
theorem ew_and {p q : Bool} (ha : ET X Γ a p) (hb : p = true → EW X Γ (.BoolOp .And (b :: es) pos) q) : EW X Γ (.BoolOp .And (a :: b :: es) pos) (p && q) := by
  cases p with
  | true =>
    obtain ⟨t, ht, h⟩ := hb rfl
    refine ⟨_, pw_and pt_w ⟨fun wh pins s σ H Q I (hq : ∃ H0 σ0, σ0 = σ ∧ Same H0 H ∧ Env Γ σ0 H0 ∧ ∀ H', Same H H' → Q q H') => ?_⟩, fun σ H g => ha.use g fun H1 s1 => ?_⟩
    · obtain ⟨H0, σ0, rfl, s0, g0, k⟩ := hq
      exact thn (ht.run wh pins s _ H _ I (h _ H (g0.up s0))) fun b s' ⟨H', I', s2, e⟩ => ⟨H', I', e ▸ k H' s2⟩
    · exact iteT ⟨H, σ, rfl, s1, g, fun H' s2 => ⟨s1.trans s2, rfl⟩⟩
  | false =>
    exact ⟨_, pw_and (tB' := fun _ _ _ => False) pt_w ⟨fun _ _ _ _ _ _ _ z => z.elim⟩, fun σ H g => ha.use g fun H1 s1 => iteF ⟨s1, rfl⟩⟩
theorem ew_or {p q : Bool} (ha : ET X Γ a p) (hb : p = false → EW X Γ (.BoolOp .Or (b :: es) pos) q) : EW X Γ (.BoolOp .Or (a :: b :: es) pos) (p || q) := by
  cases p with
  | false =>
    obtain ⟨t, ht, h⟩ := hb rfl
    refine ⟨_, pw_or pt_w ⟨fun wh pins s σ H Q I (hq : ∃ H0 σ0, σ0 = σ ∧ Same H0 H ∧ Env Γ σ0 H0 ∧ ∀ H', Same H H' → Q q H') => ?_⟩, fun σ H g => ha.use g fun H1 s1 => ?_⟩
    · obtain ⟨H0, σ0, rfl, s0, g0, k⟩ := hq
      exact thn (ht.run wh pins s _ H _ I (h _ H (g0.up s0))) fun b s' ⟨H', I', s2, e⟩ => ⟨H', I', e ▸ k H' s2⟩
    · exact iteF ⟨H, σ, rfl, s1, g, fun H' s2 => ⟨s1.trans s2, rfl⟩⟩
  | true =>
    exact ⟨_, pw_or (tB' := fun _ _ _ => False) pt_w ⟨fun _ _ _ _ _ _ _ z => z.elim⟩, fun σ H g => ha.use g fun H1 s1 => iteT ⟨s1, rfl⟩⟩
theorem et_w {k : Bool} (h : EW X Γ e k) : ET X Γ e k := let ⟨_, ht, q⟩ := h.run; .of ht.pt q
theorem ev_ifE {k : Bool} (hc : ET X Γ c k) (ha : k = true → EV X Γ a τ) (hb : k = false → EV X Γ b τ) : EV X Γ (.IfExp c a b pos) τ :=
  .of (pe_ifExp pt_w pe_w pe_w) fun σ H g => hc.use g fun H1 s1 => by
    cases k with
    | true => exact iteT ((ha rfl).use (g.up s1) fun u H2 s2 q2 => ⟨s1.trans s2, q2⟩)
    | false => exact iteF ((hb rfl).use (g.up s1) fun u H2 s2 q2 => ⟨s1.trans s2, q2⟩)

/-! places, slices -/
theorem ev_ix {ds : List PyData} {i : Int} {d : PyData} (ha : EV X Γ a (isD X.K (.tuple ds))) (hb : EV X Γ b (isD X.K (.int i))) (h : atI ds i = some d) (hs : PlainIx b := by intro _ _; rfl) : EV X Γ (.Subscript a b pos) (isD X.K d) :=
  .of (pe_ix ix_tup pe_w pe_w hs) fun σ H g => ha.use g fun v H1 s1 q1 => hb.use (g.up s1) fun u H2 s2 q2 => by
    obtain ⟨p, xs, rfl, hq, hx⟩ := dp_tup q1
    obtain ⟨v, h1, h2⟩ := dpAll_atI (dpAll_up s2 _ _ hx) h
    exact ⟨p, xs, i, v, rfl, dp_int q2, sqT_up s2 hq, h1, s1.trans s2, h2⟩
theorem ev_ixL {ds : List PyData} {i : Int} {d : PyData} (ha : EV X Γ a (isD X.K (.list ds))) (hb : EV X Γ b (isD X.K (.int i))) (h : atI ds i = some d) (hs : PlainIx b := by intro _ _; rfl) : EV X Γ (.Subscript a b pos) (isD X.K d) :=
  .of (pe_ix ix_list pe_w pe_w hs) fun σ H g => ha.use g fun v H1 s1 q1 => hb.use (g.up s1) fun u H2 s2 q2 => by
    obtain ⟨p, xs, rfl, hq, hx⟩ := dp_lst q1
    obtain ⟨v, h1, h2⟩ := dpAll_atI (dpAll_up s2 _ _ hx) h
    exact ⟨p, xs, i, v, rfl, dp_int q2, sqL_up s2 hq, h1, s1.trans s2, h2⟩
end

/-! ### calls of defs -/
/-- a pure def's promise, by the types of its arguments -/
def spF (R : List Ty → Ty → Prop) : Sp := fun vs H Q _ => ∃ τs τ, R τs τ ∧ AllT H vs τs ∧ ∀ v H', Same H H' → τ.p H' v → Q v H'
/-- the def of this name in the text keeps the promise sp -/
structure FnS (P : Program) (w : World) (K : PySem.W.Frag) (mg : Str → Option Value) (base : Heap) (x : Str) (n : Nat) (k : Nat) (sp : Sp) : Prop where
  ex : ∃ (f : Addr) (fd : FuncData) (ps : List Str), ps.length = n ∧ FnOk P w K mg base CX0 k f fd ps sp ∧ mg x = some (.ref f) ∧ PySem.W.keepIn K (.ref f) = true ∧ Binds K fd ps []
section
variable {X : Cx} {Γ : List (Option Ty)} {e a b c : Expr} {es : List Expr} {pos p : Pos} {τ : Ty} {x : Str} {n k : Nat}
theorem pe_callN {sp : Sp} (F : FnS X.prog X.w X.K X.mg X.base x n k sp) (hr : Room k X.A) (hg : Gl X x) (hdb : (x == ("__debug__" : Str)) = false := by decide) (he : starEach (e :: es) X.env = (false, eval e X.env) :: starEach es X.env := by rfl) (hpl : (backTo pos (starEach es X.env)).any (·.1) = false := by rfl) :
    PE X (.Call (.Name x p) (e :: es) [] pos) (tCall sp [] E0 (wA X (e :: es))) := by
  obtain ⟨f, fd, ps, _, h, hm, hk, hb⟩ := F.ex
  exact pe_call h hr hg hm hk hb .nil pass0 pa_w hdb he hpl
theorem ev_call {R : List Ty → Ty → Prop} {τs : List Ty} (F : FnS X.prog X.w X.K X.mg X.base x n k (spF R)) (hr : Room k X.A) (ha : EVs X Γ (e :: es) τs) (h : R τs τ) (hg : Gl X x := by rfl) (hdb : (x == ("__debug__" : Str)) = false := by decide)
    (he : starEach (e :: es) X.env = (false, eval e X.env) :: starEach es X.env := by rfl) (hpl : (backTo pos (starEach es X.env)).any (·.1) = false := by rfl) : EV X Γ (.Call (.Name x p) (e :: es) [] pos) τ :=
  .of (pe_callN F hr hg hdb he hpl) fun σ H g => ha.use g fun vs H1 s1 q1 => ⟨τs, τ, h, by rw [List.append_nil]; exact q1, fun v H' s2 q => ⟨s1.trans s2, q⟩⟩
end

/-! ### pure bodies -/
structure BD (X : Cx) (Γ : List (Option Ty)) (sts : List Stmt) (τ : Ty) : Prop where
  run : ∀ σ H (D : Ends), Env Γ σ H → (∀ v H', Same H H' → τ.p H' v → D.rt v H') → wB X sts D σ H
structure BN (X : Cx) (Γ : List (Option Ty)) (sts : List Stmt) : Prop where
  run : ∀ σ H (D : Ends), Env Γ σ H → (∀ σ' H', Same H H' → D.nx σ' H') → wB X sts D σ H
section
variable {X : Cx} {Γ : List (Option Ty)} {e a b c : Expr} {es : List Expr} {pos p p2 : Pos} {τ τ1 : Ty} {x : Str} {rest body : List Stmt}
theorem bd_ret (h : EV X Γ e τ) : BD X Γ (.Return (some e) pos :: rest) τ :=
  ⟨fun σ H D g k => wB_cons (wS_of (ps_ret pe_w) (h.use g k))⟩
theorem bd_set (i : Nat) (hN : X.N.Nodup) (h : EV X Γ e τ1) (hr : BD X (Γ.set i (some τ1)) rest τ) (hi : X.N[i]? = some x := by rfl) (hx : Loc X.env.scope x := by first | exact .inl rfl | exact .inr rfl) (hs : swapsWith e (some (.Name x p)) pos.line X.env = pure false := by rfl)
    (hf : X.fn x = true ∨ X.env.scope.names.lookup x = some .local := by first | exact .inl rfl | exact .inr rfl) : BD X Γ (.Assign [.Name x p] e pos :: rest) τ :=
  ⟨fun σ H D g k => wB_cons (wS_of (ps_set hN hi hx pe_w hs hf) (h.use g fun v H1 s1 q1 => hr.run _ H1 D ((g.up s1).set i q1) fun u H2 s2 q2 => k u H2 (s1.trans s2) q2))⟩
theorem bd_if {k : Bool} (hc : ET X Γ c k) (ha : k = true → BD X Γ body τ) (hb : k = false → BD X Γ rest τ) : BD X Γ (.If c body [] pos :: rest) τ :=
  ⟨fun σ H D g q => wB_cons (wS_of (ps_if pt_w pss_w pss_nil) (hc.use g fun H1 s1 => by
    cases k with
    | true => exact iteT ((ha rfl).run _ H1 _ (g.up s1) fun v H2 s2 q2 => q v H2 (s1.trans s2) q2)
    | false => exact iteF ((hb rfl).run _ H1 _ (g.up s1) fun v H2 s2 q2 => q v H2 (s1.trans s2) q2)))⟩
theorem bd_expr (h : EV X Γ e τ1) (hr : BD X Γ rest τ) (hs : swapsWith e none pos.line X.env = pure false := by rfl) : BD X Γ (.Expr e pos :: rest) τ :=
  ⟨fun σ H D g k => wB_cons (wS_of (ps_expr pe_w hs) (h.use g fun v H1 s1 q1 => hr.run _ H1 D (g.up s1) fun u H2 s2 q2 => k u H2 (s1.trans s2) q2))⟩
theorem bn_nil : BN X Γ [] := ⟨fun σ H D g k => wB_nil (k σ H fun _ _ h => h)⟩
theorem bn_skip (hc : ET X Γ c false) (hr : BN X Γ rest) : BN X Γ (.If c body [] pos :: rest) :=
  ⟨fun σ H D g q => wB_cons (wS_of (ps_if pt_w pss_w pss_nil) (hc.use g fun H1 s1 => iteF (hr.run _ H1 _ (g.up s1) fun σ' H2 s2 => q σ' H2 (s1.trans s2))))⟩
theorem bn_expr (h : EV X Γ e τ1) (hr : BN X Γ rest) (hs : swapsWith e none pos.line X.env = pure false := by rfl) : BN X Γ (.Expr e pos :: rest) :=
  ⟨fun σ H D g k => wB_cons (wS_of (ps_expr pe_w hs) (h.use g fun v H1 s1 q1 => hr.run _ H1 D (g.up s1) fun σ' H2 s2 => k σ' H2 (s1.trans s2)))⟩
end

/-! ### a pure def by its body -/
def startΓ (N : List Str) (τs : List Ty) : List (Option Ty) := τs.map some ++ List.replicate (N.length - τs.length) none
theorem env_start {N : List Str} {H : Hp} {vs : List V} {τs : List Ty} (h : AllT H vs τs) : Env (startΓ N τs) (L2.start N vs) H := by
  have hl : vs.length = τs.length := Paired.length h
  refine ⟨by simp [startΓ, L2.start, hl], fun i τ e => ?_⟩
  unfold startΓ at e
  by_cases hi : i < τs.length
  · rw [List.getElem?_append_left (by simpa using hi), List.getElem?_map] at e
    cases q : τs[i]? with
    | none => rw [q] at e; cases e
    | some t =>
      rw [q] at e
      have e' : t = τ := by injection e with e; injection e
      subst e'
      have key : ∀ {vs : List V} {τs : List Ty} {i : Nat} {t : Ty}, AllT H vs τs → τs[i]? = some t → ∃ v, vs[i]? = some v ∧ t.p H v := by
        intro vs τs i t h
        induction h generalizing i with
        | nil => intro e; simp at e
        | cons h1 _ ih =>
          intro e
          cases i with
          | zero => simp at e; subst e; exact ⟨_, rfl, h1⟩
          | succ j =>
            obtain ⟨v, h2, h3⟩ := ih (i := j) (by simpa using e)
            exact ⟨v, by simpa using h2, h3⟩
      obtain ⟨v, h1, h2⟩ := key h q
      refine ⟨v, ?_, h2⟩
      unfold L2.start
      rw [List.getElem?_append_left (by simp; omega), List.getElem?_map, h1]
      rfl
  · rw [List.getElem?_append_right (by simpa using hi), List.getElem?_replicate] at e
    split at e <;> cases e
section
variable {P : Program} {w : World} {K : PySem.W.Frag} {mg : Str → Option Value} {base : Heap}
/-- the context of a def's body -/
abbrev cx (P : Program) (w : World) (K : PySem.W.Frag) (mg : Str → Option Value) (base : Heap) (N : List Str) (qual : Str) (st : Stmt) (f : Addr) (cdv : Value) (A : Around) (outer : List PySem.Env) (s : Shared) (H : Hp) (E : XK) : Cx :=
  (cxOf CX0 P w K mg base N qual (defScope st) f cdv A outer s H E).nox
theorem fn_bd {x qual : Str} {st : Stmt} {f : Addr} {fd : FuncData} {N ps : List Str} {k : Nat} {R : List Ty → Ty → Prop} (F : Fun K x qual st f fd) (S : FnScope N ps (defScope st)) (len : ∀ τs τ, R τs τ → τs.length = ps.length)
    (hb : ∀ (cdv : Value) (A : Around) (outer : List PySem.Env) (s : Shared) (H : Hp) (E : XK) τs τ, Room k (cx P w K mg base N qual st f cdv A outer s H E).A → R τs τ → BD (cx P w K mg base N qual st f cdv A outer s H E) (startΓ N τs) (defBody st) τ) :
    FnOk P w K mg base CX0 (k + 1) f fd ps (spF R) := by
  refine F.ok S (fun vs H Q E h => ?_) (fun cdv A outer s H vs Q E hr h => ?_)
  · obtain ⟨τs, τ, r, a, _⟩ := h
    rw [← len _ _ r]
    exact Paired.length a
  · obtain ⟨τs, τ, r, a, q⟩ := h
    exact ⟨_, pss_w, (hb cdv A outer s H E τs τ hr r).run _ H _ (env_start a) q⟩
theorem fn_bn {x qual : Str} {st : Stmt} {f : Addr} {fd : FuncData} {N ps : List Str} {k : Nat} {R : List Ty → Ty → Prop} (F : Fun K x qual st f fd) (S : FnScope N ps (defScope st)) (len : ∀ τs τ, R τs τ → τs.length = ps.length)
    (hb : ∀ (cdv : Value) (A : Around) (outer : List PySem.Env) (s : Shared) (H : Hp) (E : XK) τs τ, Room k (cx P w K mg base N qual st f cdv A outer s H E).A → R τs τ → τ = isV .non ∧ BN (cx P w K mg base N qual st f cdv A outer s H E) (startΓ N τs) (defBody st)) :
    FnOk P w K mg base CX0 (k + 1) f fd ps (spF R) := by
  refine F.ok S (fun vs H Q E h => ?_) (fun cdv A outer s H vs Q E hr h => ?_)
  · obtain ⟨τs, τ, r, a, _⟩ := h
    rw [← len _ _ r]
    exact Paired.length a
  · obtain ⟨τs, τ, r, a, q⟩ := h
    obtain ⟨rfl, hbn⟩ := hb cdv A outer s H E τs τ hr r
    exact ⟨_, pss_w, hbn.run _ H _ (env_start a) fun σ' H' s1 => q .non H' s1 rfl⟩
end
end EC

set_option Elab.async false
set_option linter.all false
set_option maxRecDepth 100000
set_option maxHeartbeats 4000000
/-! EcB: built-in calls on data, list comprehensions over any source, slices. -/
namespace EC
open PySem PySem.Spec PyProof.Rows L2

/-! ### data without lists stay while tuples stay -/
mutual
def lf : PyData → Bool
  | .list _ => false
  | .dict _ => false
  | .tuple ds => lfs ds
  | _ => true
def lfs : List PyData → Bool
  | [] => true
  | d :: ds => lf d && lfs ds
end
/-- the tuples stay -/
def TupSub (H H' : Hp) : Prop := ∀ b xs, Rd H b (.tup xs) → Rd H' b (.tup xs)
theorem TupSub.of {H H' : Hp} (e : Same H H') : TupSub H H' := fun b xs h => rd_up e h
theorem TupSub.trans {H H1 H2 : Hp} (a : TupSub H H1) (b : TupSub H1 H2) : TupSub H H2 := fun c xs h => b c xs (a c xs h)
theorem TupSub.refl (H : Hp) : TupSub H H := fun _ _ h => h
theorem TupSub.upd {H : Hp} {p : Addr} {o o' : HO} (h : H p = some o) (ht : ∀ xs, o ≠ .tup xs) (hf : ∀ ob xs, o ≠ .frz ob (.tup xs)) : TupSub H (upd H p o') := fun b xs r => by
  have hb : b ≠ p := by
    intro z
    subst z
    rcases r with r | ⟨ob, r⟩
    · rw [h] at r; exact ht xs (Option.some.inj r)
    · rw [h] at r; exact hf ob xs (Option.some.inj r)
  rcases r with r | ⟨ob, r⟩
  · exact .inl (by rw [upd_ne hb]; exact r)
  · exact .inr ⟨ob, by rw [upd_ne hb]; exact r⟩
theorem tupSub_lst {H : Hp} {p : Addr} {xs : List V} {o' : HO} (h : H p = some (.lst xs)) : TupSub H (upd H p o') := .upd h (fun _ => nofun) (fun _ _ => nofun)
theorem tupSub_dK {H : Hp} {p : Addr} {xs : List (Key × V)} {o' : HO} (h : H p = some (.dK xs)) : TupSub H (upd H p o') := .upd h (fun _ => nofun) (fun _ _ => nofun)
theorem tupSub_ext {H : Hp} {p : Addr} {φ : Heap → Prop} {o' : HO} (h : H p = some (.ext φ)) : TupSub H (upd H p o') := .upd h (fun _ => nofun) (fun _ _ => nofun)
theorem tupSub_ins {H : Hp} {p C dx : Addr} {fs : List (Str × V)} {o' : HO} (h : H p = some (.ins C dx fs)) : TupSub H (upd H p o') := .upd h (fun _ => nofun) (fun _ _ => nofun)
mutual
theorem dp_imm {K : PySem.W.Frag} {H H' : Hp} (e : TupSub H H') : ∀ (d : PyData) (v : V), lf d = true → Dp K H v d → Dp K H' v d
  | .none, _, _, h => by cases h; exact .non
  | .bool b, _, _, h => by cases h; exact .bl b
  | .int i, _, _, h => by cases h; exact .int i
  | .str x, _, _, h => by cases h; exact .str x
  | .list ds, _, z, h => by simp [lf] at z
  | .tuple ds, _, z, h => by
    cases h with
    | tup h1 h2 =>
      refine .tup ?_ (dpAll_imm e ds _ (by simpa [lf] using z) h2)
      rcases h1 with h1 | h1
      · exact .inl (e _ _ h1)
      · exact .inr h1
  | .dict _, _, z, h => by simp [lf] at z
theorem dpAll_imm {K : PySem.W.Frag} {H H' : Hp} (e : TupSub H H') : ∀ (ds : List PyData) (vs : List V), lfs ds = true → DpAll K H vs ds → DpAll K H' vs ds
  | [], _, _, h => by cases h; exact .nil
  | d :: ds, _, z, h => by
    have z' : lf d = true ∧ lfs ds = true := by simpa [lfs] using z
    cases h with
    | cons h1 h2 => exact .cons (dp_imm e d _ z'.1 h1) (dpAll_imm e ds _ z'.2 h2)
end
theorem lfs_of {ds : List PyData} (h : ∀ d ∈ ds, lf d = true) : lfs ds = true := by
  induction ds with
  | nil => rfl
  | cons d ds ih =>
    simp only [lfs, Bool.and_eq_true]
    exact ⟨h d (by simp), ih fun x hx => h x (by simp [hx])⟩
theorem lfs_app {ds es : List PyData} (h : lfs ds = true) (h' : lfs es = true) : lfs (ds ++ es) = true := by
  induction ds with
  | nil => exact h'
  | cons d ds ih =>
    simp only [lfs, Bool.and_eq_true, List.cons_append] at h ⊢
    exact ⟨h.1, ih h.2⟩
theorem lfs_ints : ∀ ns : List Int, lfs (ns.map PyData.int) = true
  | [] => rfl
  | _ :: r => by simp [lfs, lf, lfs_ints r]

/-! ### the built-in names are not taken -/
structure Bi (mg : Str → Option Value) : Prop where
  isinstance : mg "isinstance" = none
  int : mg "int" = none
  bool : mg "bool" = none
  str : mg "str" = none
  tuple : mg "tuple" = none
  len : mg "len" = none
  all : mg "all" = none
  zip : mg "zip" = none
  enumerate : mg "enumerate" = none
  range : mg "range" = none
  list : mg "list" = none
  sorted : mg "sorted" = none
  min : mg "min" = none
  max : mg "max" = none
  repr : mg "repr" = none

/-- the name of a datum's class -/
def tyD : PyData → String
  | .none => "NoneType"
  | .bool _ => "bool"
  | .int _ => "int"
  | .str _ => "str"
  | .tuple _ => "tuple"
  | .list _ => "list"
  | .dict _ => "dict"
theorem tyX_of {K : PySem.W.Frag} {H : Hp} {v : V} {d : PyData} (h : Dp K H v d) : TyX K H v (.type (tyD d)) := by
  cases h with
  | non => exact .base .non
  | bl b => exact .base (.bl b)
  | int i => exact .base (.int i)
  | str x => exact .base (.str x)
  | lst h1 _ =>
    rcases h1 with (h1 | ⟨o, h1⟩) | ⟨o, its, n, hk, hc, _⟩
    · exact .base (.lst h1)
    · exact .base (.frz h1)
    · exact .kList hk hc
  | tup h1 _ =>
    rcases h1 with (h1 | ⟨o, h1⟩) | ⟨o, its, n, hk, hc, _⟩
    · exact .base (.tup h1)
    · exact .fTuple h1
    · exact .kTuple hk hc

theorem kit_int_int : kitB "int" "int" = some true := by decide +kernel
theorem kit_int_bool : kitB "int" "bool" = some false := by decide +kernel
theorem kit_int_str : kitB "int" "str" = some false := by decide +kernel
theorem kit_int_tuple : kitB "int" "tuple" = some false := by decide +kernel
theorem kit_str_int : kitB "str" "int" = some false := by decide +kernel
theorem kit_str_bool : kitB "str" "bool" = some false := by decide +kernel
theorem kit_str_str : kitB "str" "str" = some true := by decide +kernel
theorem kit_str_tuple : kitB "str" "tuple" = some false := by decide +kernel
theorem kit_tuple_int : kitB "tuple" "int" = some false := by decide +kernel
theorem kit_tuple_bool : kitB "tuple" "bool" = some false := by decide +kernel
theorem kit_tuple_str : kitB "tuple" "str" = some false := by decide +kernel
theorem kit_tuple_tuple : kitB "tuple" "tuple" = some true := by decide +kernel
theorem kit_bool_int : kitB "bool" "int" = some true := by decide +kernel
theorem kit_bool_bool : kitB "bool" "bool" = some true := by decide +kernel
theorem kit_bool_str : kitB "bool" "str" = some false := by decide +kernel
theorem kit_bool_tuple : kitB "bool" "tuple" = some false := by decide +kernel
theorem kit_NoneType_int : kitB "NoneType" "int" = some false := by decide +kernel
theorem kit_NoneType_bool : kitB "NoneType" "bool" = some false := by decide +kernel
theorem kit_NoneType_str : kitB "NoneType" "str" = some false := by decide +kernel
theorem kit_NoneType_tuple : kitB "NoneType" "tuple" = some false := by decide +kernel
theorem kit_list_int : kitB "list" "int" = some false := by decide +kernel
theorem kit_list_bool : kitB "list" "bool" = some false := by decide +kernel
theorem kit_list_str : kitB "list" "str" = some false := by decide +kernel
theorem kit_list_tuple : kitB "list" "tuple" = some false := by decide +kernel
section
variable {X : Cx} {Γ : List (Option Ty)} {e a b c : Expr} {es : List Expr} {pos p p2 : Pos} {τ : Ty} {d : PyData}
theorem ev_isi {T : Str} {Tn : String} {r : Bool} (hm : X.mg "isinstance" = none) (hmT : X.mg T = none) (ha : EV X Γ a (isD X.K d)) (hk : kitB (tyD d) Tn = some r) (hv : bootBuiltins T = some (.type Tn)) (hg : Gl X "isinstance" := by rfl) (hgT : Gl X T := by rfl)
    (hv2 : bootBuiltins "isinstance" = some (.builtin "isinstance") := by decide +kernel) (hn : T ≠ "__name__" := by decide) (hd : (T == ("__debug__" : Str)) = false := by decide)
    (he : starEach [a, .Name T p2] X.env = (false, eval a X.env) :: starEach [.Name T p2] X.env := by rfl) (he2 : starEach [.Name T p2] X.env = (false, eval (.Name T p2) X.env) :: starEach [] X.env := by rfl) (hpl : (backTo pos (starEach [.Name T p2] X.env)).any (·.1) = false := by rfl) :
    EV X Γ (.Call (.Name "isinstance" p) [a, .Name T p2] [] pos) (isD X.K (.bool r)) :=
  .of (pe_callB call_isi hg hm hv2 (pa_cons pe_w (pa_cons (pe_bltn (v := .ty Tn) hgT hmT hv rfl hn hd) pa_nil he2) he) (by decide) (by decide) he hpl) fun σ H g => ha.use g fun v H1 s1 q1 => by
    refine ⟨v, .ty Tn, .type (tyD d), .type Tn, r, rfl, .ty Tn, tyX_of q1, kit_ty hk, s1, .bl r⟩
theorem ev_isint {r : Bool} (B : Bi X.mg) (ha : EV X Γ a (isD X.K d)) (hk : kitB (tyD d) "int" = some r := by first | exact kit_int_int | exact kit_str_int | exact kit_tuple_int | exact kit_bool_int | exact kit_NoneType_int | exact kit_list_int) (hg : Gl X "isinstance" := by rfl) (hgT : Gl X "int" := by rfl)
    (he : starEach [a, .Name "int" p2] X.env = (false, eval a X.env) :: starEach [.Name "int" p2] X.env := by rfl) (he2 : starEach [.Name "int" p2] X.env = (false, eval (.Name "int" p2) X.env) :: starEach [] X.env := by rfl) (hpl : (backTo pos (starEach [.Name "int" p2] X.env)).any (·.1) = false := by rfl) :
    EV X Γ (.Call (.Name "isinstance" p) [a, .Name "int" p2] [] pos) (isD X.K (.bool r)) := ev_isi B.isinstance B.int ha hk (by decide +kernel) hg hgT (he := he) (he2 := he2) (hpl := hpl)
theorem ev_isbool {r : Bool} (B : Bi X.mg) (ha : EV X Γ a (isD X.K d)) (hk : kitB (tyD d) "bool" = some r := by first | exact kit_int_bool | exact kit_str_bool | exact kit_tuple_bool | exact kit_bool_bool | exact kit_NoneType_bool | exact kit_list_bool) (hg : Gl X "isinstance" := by rfl) (hgT : Gl X "bool" := by rfl)
    (he : starEach [a, .Name "bool" p2] X.env = (false, eval a X.env) :: starEach [.Name "bool" p2] X.env := by rfl) (he2 : starEach [.Name "bool" p2] X.env = (false, eval (.Name "bool" p2) X.env) :: starEach [] X.env := by rfl) (hpl : (backTo pos (starEach [.Name "bool" p2] X.env)).any (·.1) = false := by rfl) :
    EV X Γ (.Call (.Name "isinstance" p) [a, .Name "bool" p2] [] pos) (isD X.K (.bool r)) := ev_isi B.isinstance B.bool ha hk (by decide +kernel) hg hgT (he := he) (he2 := he2) (hpl := hpl)
theorem ev_isstr {r : Bool} (B : Bi X.mg) (ha : EV X Γ a (isD X.K d)) (hk : kitB (tyD d) "str" = some r := by first | exact kit_int_str | exact kit_str_str | exact kit_tuple_str | exact kit_bool_str | exact kit_NoneType_str | exact kit_list_str) (hg : Gl X "isinstance" := by rfl) (hgT : Gl X "str" := by rfl)
    (he : starEach [a, .Name "str" p2] X.env = (false, eval a X.env) :: starEach [.Name "str" p2] X.env := by rfl) (he2 : starEach [.Name "str" p2] X.env = (false, eval (.Name "str" p2) X.env) :: starEach [] X.env := by rfl) (hpl : (backTo pos (starEach [.Name "str" p2] X.env)).any (·.1) = false := by rfl) :
    EV X Γ (.Call (.Name "isinstance" p) [a, .Name "str" p2] [] pos) (isD X.K (.bool r)) := ev_isi B.isinstance B.str ha hk (by decide +kernel) hg hgT (he := he) (he2 := he2) (hpl := hpl)
theorem ev_istuple {r : Bool} (B : Bi X.mg) (ha : EV X Γ a (isD X.K d)) (hk : kitB (tyD d) "tuple" = some r := by first | exact kit_int_tuple | exact kit_str_tuple | exact kit_tuple_tuple | exact kit_bool_tuple | exact kit_NoneType_tuple | exact kit_list_tuple) (hg : Gl X "isinstance" := by rfl) (hgT : Gl X "tuple" := by rfl)
    (he : starEach [a, .Name "tuple" p2] X.env = (false, eval a X.env) :: starEach [.Name "tuple" p2] X.env := by rfl) (he2 : starEach [.Name "tuple" p2] X.env = (false, eval (.Name "tuple" p2) X.env) :: starEach [] X.env := by rfl) (hpl : (backTo pos (starEach [.Name "tuple" p2] X.env)).any (·.1) = false := by rfl) :
    EV X Γ (.Call (.Name "isinstance" p) [a, .Name "tuple" p2] [] pos) (isD X.K (.bool r)) := ev_isi B.isinstance B.tuple ha hk (by decide +kernel) hg hgT (he := he) (he2 := he2) (hpl := hpl)

/-- len of a tuple, of a list -/
theorem ev_lenT {ds : List PyData} (B : Bi X.mg) (ha : EV X Γ a (isD X.K (.tuple ds))) (hg : Gl X "len" := by rfl) (he : starEach [a] X.env = (false, eval a X.env) :: starEach [] X.env := by rfl) :
    EV X Γ (.Call (.Name "len" p) [a] [] pos) (isD X.K (.int (ds.length : Nat))) :=
  .of (pe_callB call_len_seq hg B.len PySem.boot_len (pa_cons pe_w pa_nil he) (he := he)) fun σ H g => ha.use g fun v H1 s1 q1 => by
    obtain ⟨q, xs, rfl, hq, hx⟩ := dp_tup q1
    exact ⟨q, xs, rfl, .inr hq, s1, by rw [dpAll_len hx]; exact .int _⟩
theorem ev_lenL {ds : List PyData} (B : Bi X.mg) (ha : EV X Γ a (isD X.K (.list ds))) (hg : Gl X "len" := by rfl) (he : starEach [a] X.env = (false, eval a X.env) :: starEach [] X.env := by rfl) :
    EV X Γ (.Call (.Name "len" p) [a] [] pos) (isD X.K (.int (ds.length : Nat))) :=
  .of (pe_callB call_len_seq hg B.len PySem.boot_len (pa_cons pe_w pa_nil he) (he := he)) fun σ H g => ha.use g fun v H1 s1 q1 => by
    obtain ⟨q, xs, rfl, hq, hx⟩ := dp_lst q1
    exact ⟨q, xs, rfl, .inl hq, s1, by rw [dpAll_len hx]; exact .int _⟩
/-- tuple(list) -/
theorem ev_tupleL {ds : List PyData} (B : Bi X.mg) (ha : EV X Γ a (isD X.K (.list ds))) (hg : Gl X "tuple" := by rfl) (he : starEach [a] X.env = (false, eval a X.env) :: starEach [] X.env := by rfl) :
    EV X Γ (.Call (.Name "tuple" p) [a] [] pos) (isD X.K (.tuple ds)) :=
  .of (pe_callTy call_tuple_of hg B.tuple (by decide +kernel) (pa_cons pe_w pa_nil he) (he := he)) fun σ H g => ha.use g fun v H1 s1 q1 => by
    obtain ⟨q, xs, rfl, hq, hx⟩ := dp_lst q1
    exact ⟨q, xs, rfl, .inl ⟨hq, fun l hl => ⟨s1.trans (same_new hl), .tup (SqT.of upd_same) (dpAll_up (same_new hl) _ _ hx)⟩⟩⟩
/-- list(tuple), list(list) -/
theorem ev_listL {ds : List PyData} (B : Bi X.mg) (ha : EV X Γ a (isD X.K (.list ds))) (hg : Gl X "list" := by rfl) (he : starEach [a] X.env = (false, eval a X.env) :: starEach [] X.env := by rfl) :
    EV X Γ (.Call (.Name "list" p) [a] [] pos) (isD X.K (.list ds)) :=
  .of (pe_callTy call_list_of hg B.list (by decide +kernel) (pa_cons pe_w pa_nil he) (he := he)) fun σ H g => ha.use g fun v H1 s1 q1 => by
    obtain ⟨q, xs, rfl, hq, hx⟩ := dp_lst q1
    exact ⟨q, xs, rfl, .inl hq, fun l hl => ⟨s1.trans (same_new hl), .lst (SqL.of upd_same) (dpAll_up (same_new hl) _ _ hx)⟩⟩
/-- all(list of bools) -/
theorem ev_all {bs : List Bool} {k : Bool} (hc : X.calm = true) (B : Bi X.mg) (ha : EV X Γ a (isD X.K (.list (bs.map PyData.bool)))) (hk : bs.all id = k) (hg : Gl X "all" := by rfl) (he : starEach [a] X.env = (false, eval a X.env) :: starEach [] X.env := by rfl) :
    EV X Γ (.Call (.Name "all" p) [a] [] pos) (isD X.K (.bool k)) :=
  .of (pe_callB (cr_all hc) hg B.all (by decide +kernel) (pa_cons pe_w pa_nil he) (he := he)) fun σ H g => ha.use g fun v H1 s1 q1 => by
    obtain ⟨q, xs, rfl, hq, hx⟩ := dp_lst q1
    cases dpAll_bls hx
    exact ⟨q, bs, rfl, hq, s1, by rw [← hk]; exact .bl _⟩
/-- int(n), min(m, n), max(m, n) -/
theorem ev_int1 {i : Int} (B : Bi X.mg) (ha : EV X Γ a (isD X.K (.int i))) (hg : Gl X "int" := by rfl) (he : starEach [a] X.env = (false, eval a X.env) :: starEach [] X.env := by rfl) :
    EV X Γ (.Call (.Name "int" p) [a] [] pos) (isD X.K (.int i)) :=
  .of (pe_callTy call_int1 hg B.int (by decide +kernel) (pa_cons pe_w pa_nil he) (he := he)) fun σ H g => ha.use g fun v H1 s1 q1 => by
    cases dp_int q1
    exact .inl ⟨i, rfl, s1, .int _⟩
theorem ev_min2 {i j : Int} (hc : X.calm = true) (B : Bi X.mg) (ha : EV X Γ a (isD X.K (.int i))) (hb : EV X Γ b (isD X.K (.int j))) (hg : Gl X "min" := by rfl) (he : starEach [a, b] X.env = (false, eval a X.env) :: starEach [b] X.env := by rfl)
    (he2 : starEach [b] X.env = (false, eval b X.env) :: starEach [] X.env := by rfl) (hpl : (backTo pos (starEach [b] X.env)).any (·.1) = false := by rfl) :
    EV X Γ (.Call (.Name "min" p) [a, b] [] pos) (isD X.K (.int (if j < i then j else i))) :=
  .of (pe_callB (call_min2 hc) hg B.min (by decide +kernel) (pa_cons pe_w (pa_cons pe_w pa_nil he2) he) (he := he) (hpl := hpl)) fun σ H g => ha.use g fun v H1 s1 q1 => hb.use (g.up s1) fun u H2 s2 q2 => by
    cases dp_int q1
    cases dp_int q2
    exact ⟨i, j, rfl, s1.trans s2, .int _⟩
theorem ev_max2 {i j : Int} (hc : X.calm = true) (B : Bi X.mg) (ha : EV X Γ a (isD X.K (.int i))) (hb : EV X Γ b (isD X.K (.int j))) (hg : Gl X "max" := by rfl) (he : starEach [a, b] X.env = (false, eval a X.env) :: starEach [b] X.env := by rfl)
    (he2 : starEach [b] X.env = (false, eval b X.env) :: starEach [] X.env := by rfl) (hpl : (backTo pos (starEach [b] X.env)).any (·.1) = false := by rfl) :
    EV X Γ (.Call (.Name "max" p) [a, b] [] pos) (isD X.K (.int (if j > i then j else i))) :=
  .of (pe_callB (call_max2 hc) hg B.max (by decide +kernel) (pa_cons pe_w (pa_cons pe_w pa_nil he2) he) (he := he) (hpl := hpl)) fun σ H g => ha.use g fun v H1 s1 q1 => hb.use (g.up s1) fun u H2 s2 q2 => by
    cases dp_int q1
    cases dp_int q2
    exact ⟨i, j, rfl, s1.trans s2, .int _⟩
end

/-! ### slices -/
section
variable {X : Cx} {Γ : List (Option Ty)} {a b c : Expr} {pos p2 : Pos}
/-- an end of a slice -/
structure EO (X : Cx) (Γ : List (Option Ty)) (e : Option Expr) (o : Option Int) : Prop where
  run : ∃ t, PO X e t ∧ ∀ σ H, Env Γ σ H → ∀ Q : Option Int → Hp → Prop, (∀ H', Same H H' → Q o H') → t σ H Q
theorem eo_none : EO X Γ none none := ⟨_, po_none, fun σ H g Q q => q H fun _ _ h => h⟩
theorem eo_some {i : Int} (h : EV X Γ a (isD X.K (.int i))) : EO X Γ (some a) (some i) := ⟨_, po_some pe_w, fun σ H g Q q => h.use g fun v H1 s1 q1 => ⟨i, dp_int q1, q H1 s1⟩⟩
def cutD (ds : List PyData) (lo hi : Option Int) : List PyData := (ds.drop (HT.sIx ds.length 0 lo)).take (HT.sIx ds.length ds.length hi - HT.sIx ds.length 0 lo)
theorem dpAll_cut {K : PySem.W.Frag} {H : Hp} {vs : List V} {ds : List PyData} (h : DpAll K H vs ds) (lo hi : Option Int) : DpAll K H (cutV vs lo hi) (cutD ds lo hi) := by
  unfold cutV cutD
  rw [dpAll_len h]
  exact dpAll_take _ (dpAll_drop _ h)
theorem ev_sliceL {ds : List PyData} {lo hi : Option Expr} {l u : Option Int} (ha : EV X Γ a (isD X.K (.list ds))) (hl : EO X Γ lo l) (hu : EO X Γ hi u) : EV X Γ (.Subscript a (.Slice lo hi none p2) pos) (isD X.K (.list (cutD ds l u))) := by
  obtain ⟨t1, p1, q1⟩ := hl.run
  obtain ⟨t2, p2', q2⟩ := hu.run
  exact .of (pe_slice sl_list pe_w p1 p2') fun σ H g => ha.use g fun v H1 s1 r1 => q1 σ H1 (g.up s1) _ fun H2 s2 => q2 σ H2 ((g.up s1).up s2) _ fun H3 s3 => by
    obtain ⟨q, xs, rfl, hq, hx⟩ := dp_lst r1
    exact ⟨q, xs, rfl, sqL_up (s2.trans s3) hq, fun l hl => ⟨s1.trans (s2.trans (s3.trans (same_new hl))), .lst (SqL.of upd_same) (dpAll_cut (dpAll_up (s2.trans (s3.trans (same_new hl))) _ _ hx) _ _)⟩⟩
end
end EC

set_option Elab.async false
set_option linter.all false
set_option maxRecDepth 100000
set_option maxHeartbeats 4000000
/-! EcC: zip of a list and a tuple, enumerate of a tuple; sources of comprehensions; list comprehensions of pure elements. -/
namespace EC
open PySem PySem.Spec PyProof.Rows L2

/-! ### zip of a list at a and a tuple at b -/
def ItzLT (K : PySem.W.Frag) (a b : Addr) : It where
  go i H := ∃ (xs ys : List V) (x y : V), SqL K H a xs ∧ SqT K H b ys ∧ xs[i]? = some x ∧ ys[i]? = some y
  yld i H v H' := ∃ T x y, v = .ref T ∧ H T = none ∧ H' = upd H T (.tup [x, y]) ∧ (∀ xs, SqL K H a xs → xs[i]? = some x) ∧ ∀ ys, SqT K H b ys → ys[i]? = some y
  stop i H := ∃ xs ys : List V, SqL K H a xs ∧ SqT K H b ys ∧ i = min xs.length ys.length
/-- the state of its five cells -/
def ztn (a b z TI TO i1 i2 : Addr) (i : Nat) (h : Heap) : Prop :=
  IsZip h z TI TO .none ∧ IsTupOf2 h TI (.ref i1) (.ref i2) ∧ (∃ a1 a2, IsTupOf2 h TO a1 a2) ∧ h.IsListIter i1 a i ∧ h.IsTupleIter i2 b i
theorem turn_zipLT {P : Program} {w : World} {K : PySem.W.Frag} {elts : List Expr} {kk : Nat} {tpos : Pos} {a b z TI TO i1 i2 : Addr} (S : ZipSep2 z TI TO i1 i2 [i1, a] [i2, b]) :
    Turn P w K (.Tuple elts kk tpos) (ItzLT K a b) [z, TI, TO, i1, i2] z (ztn a b z TI TO i1 i2) where
  mem := by simp
  obj := by
    rintro i h ⟨hz, hTI, ⟨x, y, hTO⟩, ⟨o1, e1, _, d1⟩, ⟨o2, e2, _, d2⟩⟩ c hc
    simp only [List.mem_cons, List.not_mem_nil, or_false] at hc
    rcases hc with rfl | rfl | rfl | rfl | rfl
    · exact ⟨_, hz, nofun⟩
    · exact ⟨_, hTI, nofun⟩
    · exact ⟨_, hTO, nofun⟩
    · exact ⟨o1, e1, fun v q => by rw [d1] at q; cases q⟩
    · exact ⟨o2, e2, fun v q => by rw [d2] at q; cases q⟩
  keep := by
    rintro i h h' ⟨hz, hTI, ⟨x, y, hTO⟩, h1, h2⟩ k
    exact ⟨k z (by simp) _ hz, k TI (by simp) _ hTI, ⟨x, y, k TO (by simp) _ hTO⟩, h1.at fun o q => k i1 (by simp) o q, h2.at fun o q => k i2 (by simp) o q⟩
  item := by
    intro X hP hw hK hc i pins s σ H E I hf st hg
    subst hP hw hK
    obtain ⟨hz, hTI, hTO, h1, h2⟩ := st
    obtain ⟨xs, ys, x, y, hqx, hqy, hx, hy⟩ := hg
    obtain ⟨its, rv, p1, _⟩ := I.list hqx
    obtain ⟨its2, rv2, p2, _⟩ := I.tuple hqy
    have hh : X.A.in1.handled = none := I.ok.hd hc
    have ha : a ≠ i1 := by
      rintro rfl
      obtain ⟨o, e, c, _⟩ := h1
      obtain ⟨o', e', c', _⟩ := p1.isList
      rw [e] at e'; cases e'
      rw [c] at c'; injection c' with c'; exact absurd c' (by decide)
    have hb : b ≠ i2 := by
      rintro rfl
      obtain ⟨o, e, c, _⟩ := h2
      obtain ⟨o', e', c', _⟩ := p2
      rw [e] at e'; cases e'
      rw [c] at c'; injection c' with c'; exact absurd c' (by decide)
    have G := GoesN.zip2 (elts := elts) (x1 := kk) (pos := tpos) S (Draws.list (prog := X.prog) (w := X.w) hh i1 a ha its.toArray) (Draws.tuple hh i2 b hb its2.toArray)
    have hi : i < min its.toArray.size its2.toArray.size := by
      have l1 := rv.length
      have l2 := rv2.length
      have q1 := (List.getElem?_eq_some_iff.mp hx).1
      have q2 := (List.getElem?_eq_some_iff.mp hy).1
      simp only [List.size_toArray]
      omega
    refine thn (G.goes i s (fun v s2 => ∃ x H', Inv X pins σ H' s2 ∧ RelV x v ∧ (ItzLT X.K a b).yld i H x H' ∧ ztn a b z TI TO i1 i2 (i + 1) s2.heap ∧ ∀ c ∈ [z, TI, TO, i1, i2], H' c = none) E hi ⟨hz, hTI, hTO, ⟨h1, p1.isList⟩, ⟨h2, p2⟩⟩ ?_) fun r s1 ⟨u, hr, q⟩ => ⟨u, hr, q⟩
    rintro v h' tk ⟨T, u1, u2, rfl, hn, hu1, hu2, hT⟩ ⟨z', TI', TO', ⟨h1', _⟩, ⟨h2', _⟩⟩ hk _
    obtain ⟨v1, hv1, r1⟩ := rv.get hx
    obtain ⟨v2, hv2, r2⟩ := rv2.get hy
    have e1 : v1 = u1 := by
      have q : its[i]? = some u1 := by simpa using hu1
      rw [q] at hv1; cases hv1; rfl
    have e2 : v2 = u2 := by
      have q : its2[i]? = some u2 := by simpa using hu2
      rw [q] at hv2; cases hv2; rfl
    subst e1 e2
    have hnT : H T = none := I.hok.fresh hn
    have new : ObjOk X.prog X.w (upd H T (.tup [x, y])) h' T (.tup [x, y]) := ⟨by show 2 ≤ sizeLine; decide, [v1, v2], .cons r1 (.cons r2 .nil), hT⟩
    have hfw : ∀ c ∈ [z, TO, i1, i2], FpOk X pins H c := fun c hc' => hf c (by simp only [List.mem_cons, List.not_mem_nil, or_false] at hc' ⊢; rcases hc' with q | q | q | q <;> simp [q])
    refine ⟨.ref T, _, I.turnedNew (t' := tk) (ch := [z, TO, i1, i2]) hk hfw hn new, rfl, ⟨T, x, y, rfl, hnT, rfl, fun l hl => by rw [I.list_inj hl hqx]; exact hx, fun l hl => by rw [I.tuple_inj hl hqy]; exact hy⟩, ⟨z', TI', TO', h1', h2'⟩, fun c hcm => ?_⟩
    have hlt : c < s.heap.objs.size := by
      obtain ⟨a1, a2, hTO⟩ := hTO
      simp only [List.mem_cons, List.not_mem_nil, or_false] at hcm
      rcases hcm with q | q | q | q | q
      · rw [q]; exact Heap.lt_size hz
      · rw [q]; exact Heap.lt_size hTI
      · rw [q]; exact Heap.lt_size hTO
      · rw [q]; obtain ⟨_, e1, _⟩ := h1; exact Heap.lt_size e1
      · rw [q]; obtain ⟨_, e2, _⟩ := h2; exact Heap.lt_size e2
    rw [upd_ne (Nat.ne_of_lt (Nat.lt_of_lt_of_le hlt hn))]
    exact (hf c hcm).1
  done := by
    intro X hP hw hK hc i pins s σ H E I hf st hg
    subst hP hw hK
    obtain ⟨hz, hTI, hTO, h1, h2⟩ := st
    obtain ⟨xs, ys, hqx, hqy, hend⟩ := hg
    obtain ⟨its, rv, p1, _⟩ := I.list hqx
    obtain ⟨its2, rv2, p2, _⟩ := I.tuple hqy
    have hh : X.A.in1.handled = none := I.ok.hd hc
    have ha : a ≠ i1 := by
      rintro rfl
      obtain ⟨o, e, c, _⟩ := h1
      obtain ⟨o', e', c', _⟩ := p1.isList
      rw [e] at e'; cases e'
      rw [c] at c'; injection c' with c'; exact absurd c' (by decide)
    have hb : b ≠ i2 := by
      rintro rfl
      obtain ⟨o, e, c, _⟩ := h2
      obtain ⟨o', e', c', _⟩ := p2
      rw [e] at e'; cases e'
      rw [c] at c'; injection c' with c'; exact absurd c' (by decide)
    have G := GoesN.zip2 (elts := elts) (x1 := kk) (pos := tpos) S (Draws.list (prog := X.prog) (w := X.w) hh i1 a ha its.toArray) (Draws.tuple hh i2 b hb its2.toArray)
    have hi : i = min its.toArray.size its2.toArray.size := by
      have l1 := rv.length
      have l2 := rv2.length
      simp only [List.size_toArray]
      omega
    subst hi
    refine thn (G.stops s (fun s1 => Inv X pins σ H s1) E ⟨hz, hTI, hTO, ⟨h1, p1.isList⟩, ⟨h2, p2⟩⟩ fun h' tk hk _ => ?_) fun r s1 q => q
    have hfw : ∀ c ∈ [z, TO, i1, i2], FpOk X pins H c := fun c hc' => hf c (by simp only [List.mem_cons, List.not_mem_nil, or_false] at hc' ⊢; rcases hc' with q | q | q | q <;> simp [q])
    exact I.turnedL (t' := tk) (ch := [z, TO, i1, i2]) hk hfw
  self := fun A i s Q E st h => wpAny_pyIter_zip st.1 h

def iZipLT (K : PySem.W.Frag) (ta : TA) : TI := fun σ H R => ta σ H fun vs H1 => ∃ a b xs ys, vs = [.ref a, .ref b] ∧ SqL K H1 a xs ∧ SqT K H1 b ys ∧ R (ItzLT K a b) H1
theorem pi_zipLT {X : Cx} {e e2 : Expr} {ta : TA} {p pos tpos : Pos} {elts : List Expr} {kk : Nat} (hg : Gl X "zip") (hm : X.mg "zip" = none) (ha : PA X [e, e2] ta)
    (hs : starEach [e, e2] X.env = (false, eval e X.env) :: starEach [e2] X.env := by rfl) (hpl : (backTo pos (starEach [e2] X.env)).any (·.1) = false := by rfl) :
    PI X (.Tuple elts kk tpos) (.Call (.Name "zip" p) [e, e2] [] pos) (iZipLT X.K ta) := by
  refine ⟨fun pins s σ H R I h => ?_⟩
  refine Call_ (ld_blt I hg hm PyProof.Rows.boot_zip (callWith_type1 (thn (ha.run pos pins s σ H _ I h) fun us s1 ⟨vs, H1, I1, r1, q1⟩ => ?_) hs hpl))
  obtain ⟨a, b, xs, ys, rfl, hqx, hqy, q⟩ := q1
  obtain ⟨u1, u2, rfl, ra, rb⟩ := vals2 r1
  cases ra
  cases rb
  obtain ⟨its, rv, p1, _⟩ := I1.list hqx
  obtain ⟨its2, rv2, p2, _⟩ := I1.tuple hqy
  refine zip_begins2 (begins_list a its.toArray) (begins_tuple b its2.toArray) p1.isList p2 fun h' hz hTI hTO h1 h2 hsz hk => wpAny_pyIter_zip hz ?_
  have I2 : Inv X pins σ H1 { s1 with heap := h' } := I1.kept (t' := s1.toks) hk
  obtain ⟨o2, ho2, _⟩ := id p2
  have S := zip_sep2 (N := s1.heap.objs.size) (fp1 := [a]) (fp2 := [b]) (fun c hc => by cases List.mem_singleton.mp hc; exact p1.lt) (fun c hc => by cases List.mem_singleton.mp hc; exact Heap.lt_size ho2)
  refine ⟨_, [s1.heap.objs.size + 4, s1.heap.objs.size + 2, s1.heap.objs.size + 3, s1.heap.objs.size, s1.heap.objs.size + 1], _, _, H1, rfl, I2, turn_zipLT S, ⟨hz, hTI, ⟨_, _, hTO⟩, ⟨_, h1, rfl, rfl⟩, ⟨_, h2, rfl, rfl⟩⟩, fun c hc => ?_, q⟩
  have hle : s1.heap.objs.size ≤ c := by
    simp only [List.mem_cons, List.not_mem_nil, or_false] at hc
    rcases hc with z | z | z | z | z <;> (rw [z]; first | exact Nat.le_add_right _ _ | exact Nat.le_refl _)
  exact I1.fpOk hle (I1.hok.fresh hle)
theorem walk_zipLT {K : PySem.W.Frag} {a b : Addr} {xs ys : List V} {n : Nat} (hn : n = min xs.length ys.length) : Walk (ItzLT K a b) n (fun H => SqL K H a xs ∧ SqT K H b ys) (YPair (fun i => xs[i]?) (fun i => ys[i]?)) where
  goes := fun i H hi ⟨q1, q2⟩ => ⟨xs, ys, xs[i]'(by omega), ys[i]'(by omega), q1, q2, List.getElem?_eq_getElem _, List.getElem?_eq_getElem _⟩
  stops := fun H ⟨q1, q2⟩ => ⟨xs, ys, q1, q2, hn⟩
  yields := fun i H x H' hi ⟨q1, q2⟩ ⟨T, x1, y1, e, hT, e', f1, f2⟩ => ⟨T, x1, y1, e, hT, e', f1 xs q1, f2 ys q2⟩
theorem walk_zipT {K : PySem.W.Frag} {a b : Addr} {xs ys : List V} {n : Nat} (hn : n = min xs.length ys.length) : Walk (RZ.ItzT K a b) n (fun H => SqT K H a xs ∧ SqT K H b ys) (YPair (fun i => xs[i]?) (fun i => ys[i]?)) where
  goes := fun i H hi ⟨q1, q2⟩ => ⟨xs, ys, xs[i]'(by omega), ys[i]'(by omega), q1, q2, List.getElem?_eq_getElem _, List.getElem?_eq_getElem _⟩
  stops := fun H ⟨q1, q2⟩ => ⟨xs, ys, q1, q2, by omega⟩
  yields := fun i H x H' hi ⟨q1, q2⟩ ⟨T, x1, y1, e, hT, e', f1, f2⟩ => ⟨T, x1, y1, e, hT, e', f1 xs q1, f2 ys q2⟩

/-! ### enumerate of a tuple -/
def IteT (K : PySem.W.Frag) (a : Addr) : It where
  go i H := ∃ (xs : List V) (x : V), SqT K H a xs ∧ xs[i]? = some x
  yld i H v H' := ∃ T x, v = .ref T ∧ H T = none ∧ H' = upd H T (.tup [.int (i : Nat), x]) ∧ ∀ xs, SqT K H a xs → xs[i]? = some x
  stop i H := ∃ xs : List V, SqT K H a xs ∧ i = xs.length
def etn (a e it : Addr) (i : Nat) (h : Heap) : Prop := (∃ old, IsEnum h e it (0 + (i : Int)) old) ∧ h.IsTupleIter it a i
theorem turn_enumT {P : Program} {w : World} {K : PySem.W.Frag} {elts : List Expr} {kk : Nat} {tpos : Pos} {a e it : Addr} (hei : e ≠ it) (hea : e ≠ a) :
    Turn P w K (.Tuple elts kk tpos) (IteT K a) [e, it] e (etn a e it) where
  mem := by simp
  obj := by
    rintro i h ⟨⟨old, he⟩, ⟨o2, e2, _, d2⟩⟩ c hc
    simp only [List.mem_cons, List.not_mem_nil, or_false] at hc
    rcases hc with rfl | rfl
    · exact ⟨_, he, nofun⟩
    · exact ⟨o2, e2, fun v q => by rw [d2] at q; cases q⟩
  keep := by
    rintro i h h' ⟨⟨old, he⟩, h2⟩ k
    exact ⟨⟨old, k e (by simp) _ he⟩, h2.at fun o q => k it (by simp) o q⟩
  item := by
    intro X hP hw hK hc i pins s σ H E I hf st hg
    subst hP hw hK
    obtain ⟨he, h2⟩ := st
    obtain ⟨ys, y, hqy, hy⟩ := hg
    obtain ⟨its2, rv2, p2, _⟩ := I.tuple hqy
    have hh : X.A.in1.handled = none := I.ok.hd hc
    have hb : a ≠ it := by
      rintro rfl
      obtain ⟨o, e, c, _⟩ := h2
      obtain ⟨o', e', c', _⟩ := p2
      rw [e] at e'; cases e'
      rw [c] at c'; injection c' with c'; exact absurd c' (by decide)
    have G := GoesN.enumFrom (elts := elts) (x1 := kk) (pos := tpos) 0 (Draws.tuple (prog := X.prog) (w := X.w) hh it a hb its2.toArray) e hei (by simp [hei, hea]) (by simp)
    have hi : i < its2.toArray.size := by
      have l2 := rv2.length
      have q2 := (List.getElem?_eq_some_iff.mp hy).1
      simp only [List.size_toArray]
      omega
    refine thn (G.goes i s (fun v s2 => ∃ x H', Inv X pins σ H' s2 ∧ RelV x v ∧ (IteT X.K a).yld i H x H' ∧ etn a e it (i + 1) s2.heap ∧ ∀ c ∈ [e, it], H' c = none) E hi ⟨he, ⟨h2, p2⟩⟩ ?_) fun r s1 ⟨u, hr, q⟩ => ⟨u, hr, q⟩
    rintro v h' tk ⟨T, t, u2, rfl, hn, hu2, hT⟩ ⟨he', ⟨h2', _⟩⟩ hk _
    obtain ⟨v2, hv2, r2⟩ := rv2.get hy
    have e2 : v2 = u2 := by
      have q : its2[i]? = some u2 := by simpa using hu2
      rw [q] at hv2; cases hv2; rfl
    subst e2
    have hnT : H T = none := I.hok.fresh hn
    have new : ObjOk X.prog X.w (upd H T (.tup [.int (i : Nat), y])) h' T (.tup [.int (i : Nat), y]) := ⟨by show 2 ≤ sizeLine; decide, [.int (0 + (i : Int)) t, v2], .cons ⟨t, by rw [Int.zero_add]⟩ (.cons r2 .nil), hT⟩
    refine ⟨.ref T, _, I.turnedNew (t' := tk) (ch := [e, it]) hk hf hn new, rfl, ⟨T, y, rfl, hnT, rfl, fun l hl => by rw [I.tuple_inj hl hqy]; exact hy⟩, ⟨he', h2'⟩, fun c hcm => ?_⟩
    have hlt : c < s.heap.objs.size := by
      obtain ⟨old, he⟩ := he
      simp only [List.mem_cons, List.not_mem_nil, or_false] at hcm
      rcases hcm with q | q
      · rw [q]; exact Heap.lt_size he
      · rw [q]; obtain ⟨_, e2, _⟩ := h2; exact Heap.lt_size e2
    rw [upd_ne (Nat.ne_of_lt (Nat.lt_of_lt_of_le hlt hn))]
    exact (hf c hcm).1
  done := by
    intro X hP hw hK hc i pins s σ H E I hf st hg
    subst hP hw hK
    obtain ⟨he, h2⟩ := st
    obtain ⟨ys, hqy, hend⟩ := hg
    obtain ⟨its2, rv2, p2, _⟩ := I.tuple hqy
    have hh : X.A.in1.handled = none := I.ok.hd hc
    have hb : a ≠ it := by
      rintro rfl
      obtain ⟨o, e, c, _⟩ := h2
      obtain ⟨o', e', c', _⟩ := p2
      rw [e] at e'; cases e'
      rw [c] at c'; injection c' with c'; exact absurd c' (by decide)
    have G := GoesN.enumFrom (elts := elts) (x1 := kk) (pos := tpos) 0 (Draws.tuple (prog := X.prog) (w := X.w) hh it a hb its2.toArray) e hei (by simp [hei, hea]) (by simp)
    have hi : i = its2.toArray.size := by
      have l2 := rv2.length
      simp only [List.size_toArray]
      omega
    subst hi
    exact thn (G.stops s (fun s1 => Inv X pins σ H s1) E ⟨he, ⟨h2, p2⟩⟩ fun h' tk hk _ => I.turnedL (t' := tk) (ch := [e, it]) hk hf) fun r s1 q => q
  self := fun A i s Q E st h => let ⟨⟨old, he⟩, _⟩ := st; wpAny_pyIter_enum he h

set_option maxHeartbeats 8000000 in
theorem meets_enumB1 {v : Value} {o : Obj} {Hh : Heap → Prop} (B : Begins v o Hh) :
    Meets (Builtin.«enumerate.__new__» ⟨[.type "enumerate", v], []⟩) (fun _ R s => Hh s.heap ∧
      R (.ok (.ret (.ref (s.heap.push o).objs.size))) { s with heap := (s.heap.push o).push { cls := .type "enumerate", data := .fields #[.none, .bool false, .ref s.heap.objs.size, rawInt 0, .none, .none] } }) :=
  .of_wp fun prog w A R s h => by
    obtain ⟨hp, g, d, tk, os⟩ := s
    obtain ⟨h1, h⟩ := h
    have hsub := sub_enumerate
    have q1 : ∀ {A' : Around} {E : Value → Shared → Prop} {Q : Value → Shared → Prop}, Q (.ref hp.objs.size) ⟨hp.push o, g, d, tk, os⟩ → wpAny (model prog w) A' (pyIter v) Q E ⟨hp, g, d, tk, os⟩ :=
      fun q => B.iter prog w _ _ ⟨hp, g, d, tk, os⟩ _ h1 q
    wp_walk using q1
    refine wpAny_stack_any fun st => wpAny_pure ?_
    split
    · rename_i c _ _ _ _ _
      cases (c == Value.type "enumerate") <;>
        (wp_walk using q1
         exact ⟨_, rfl, h⟩)
    · wp_walk using q1
      exact ⟨_, rfl, h⟩
theorem call_enumB1 {prog : Program} {w : World} {A : Around} {E : Value → Shared → Prop} {s : Shared} {v : Value} {o : Obj} {Hh : Heap → Prop} {Q : Value → Shared → Prop} (B : Begins v o Hh) (h1 : Hh s.heap)
    (h : ∀ h', IsEnum h' (s.heap.objs.size + 1) s.heap.objs.size 0 .none → h'.get? s.heap.objs.size = some o → (∀ b o, s.heap.get? b = some o → h'.get? b = some o) → Q (.ref (s.heap.objs.size + 1)) { s with heap := h' }) :
    wpAny (model prog w) A (call (.type "enumerate") [v]) Q E s := by
  refine callType_new F.called_enumerate (by decide) (F.typeCall_enumerate_1 _) (F.newCall_enumerate_1 _) (fun obj => F.args_object_init_2 obj _) F.entry_enumerate_new (meets_enumB1 B) ⟨h1, ?_⟩
  have hz : (s.heap.push o).objs.size = s.heap.objs.size + 1 := Heap.size_push ..
  have he : IsEnum ((s.heap.push o).push { cls := .type "enumerate", data := .fields #[.none, .bool false, .ref s.heap.objs.size, rawInt 0, .none, .none] }) (s.heap.objs.size + 1) s.heap.objs.size 0 .none := by
    have q := Heap.get?_push_size (s.heap.push o) (o := { cls := .type "enumerate", data := .fields #[.none, .bool false, .ref s.heap.objs.size, rawInt 0, .none, .none] }) rfl
    rw [hz] at q
    exact q
  show _ ∧ _
  rw [hz]
  exact ⟨⟨_, he, rfl⟩, h _ he (Heap.get?_push_of_some _ (Heap.get?_push_size _ B.free)) fun b o x => Heap.get?_push_of_some _ (Heap.get?_push_of_some _ x)⟩
def iEnumT (K : PySem.W.Frag) (ta : TA) : TI := fun σ H R => ta σ H fun vs H1 => ∃ a xs, vs = [.ref a] ∧ SqT K H1 a xs ∧ R (IteT K a) H1
theorem pi_enumT {X : Cx} {e : Expr} {ta : TA} {p pos tpos : Pos} {elts : List Expr} {kk : Nat} (hg : Gl X "enumerate") (hm : X.mg "enumerate" = none) (ha : PA X [e] ta) (hs : starEach [e] X.env = [(false, eval e X.env)] := by rfl) :
    PI X (.Tuple elts kk tpos) (.Call (.Name "enumerate" p) [e] [] pos) (iEnumT X.K ta) := by
  refine ⟨fun pins s σ H R I h => ?_⟩
  refine Call_ (ld_blt I hg hm boot_enumerate (callWith_type1 (thn (ha.run pos pins s σ H _ I h) fun us s1 ⟨vs, H1, I1, r1, q1⟩ => ?_) hs rfl))
  obtain ⟨a, xs, rfl, hq, q⟩ := q1
  obtain ⟨u1, rfl, ra⟩ := vals1 r1
  cases ra
  obtain ⟨its, rv, p1, _⟩ := I1.tuple hq
  obtain ⟨o2, ho2, _⟩ := id p1
  have hal : a < s1.heap.objs.size := Heap.lt_size ho2
  refine call_enumB1 (begins_tuple a its.toArray) p1 fun h' he h2 hk => wpAny_pyIter_enum he ?_
  have I2 : Inv X pins σ H1 { s1 with heap := h' } := I1.kept (t' := s1.toks) hk
  refine ⟨_, [s1.heap.objs.size + 1, s1.heap.objs.size], _, _, H1, rfl, I2, turn_enumT (Nat.succ_ne_self _) (Nat.ne_of_gt (Nat.lt_succ_of_lt hal)), ⟨⟨.none, by rw [Int.zero_add]; exact he⟩, ⟨_, h2, rfl, rfl⟩⟩, fun c hc => ?_, q⟩
  have hle : s1.heap.objs.size ≤ c := by
    simp only [List.mem_cons, List.not_mem_nil, or_false] at hc
    rcases hc with z | z <;> (rw [z]; first | exact Nat.le_add_right _ _ | exact Nat.le_refl _)
  exact I1.fpOk hle (I1.hok.fresh hle)
theorem walk_enumT {K : PySem.W.Frag} {a : Addr} {xs : List V} : Walk (IteT K a) xs.length (fun H => SqT K H a xs) (YPair (fun i => some (.int (i : Nat))) (fun i => xs[i]?)) where
  goes := fun i H hi q1 => ⟨xs, xs[i], q1, List.getElem?_eq_getElem _⟩
  stops := fun H q1 => ⟨xs, q1, rfl⟩
  yields := fun i H x H' hi q1 ⟨T, x1, e, hT, e', f1⟩ => ⟨T, .int (i : Nat), x1, e, hT, e', rfl, f1 xs q1⟩
end EC

set_option Elab.async false
set_option linter.all false
set_option maxRecDepth 100000
set_option maxHeartbeats 4000000
/-! EcD: comprehensions of pure elements over any source. -/
namespace EC
open PySem PySem.Spec PyProof.Rows L2

def wipeG (Γ : List (Option Ty)) : List Nat → List (Option Ty)
  | [] => Γ
  | v :: vs => (wipeG Γ vs).set v none
theorem Env.wipe {Γ : List (Option Ty)} {σ : L2.St} {H : Hp} (g : Env Γ σ H) : ∀ vs : List Nat, Env (wipeG Γ vs) (L2.wipe σ vs) H
  | [] => g
  | v :: vs => (Env.wipe g vs).clr v
theorem wipe_set1 (σ : L2.St) (i : Nat) (v : V) : wipe ((wipe σ [i]).set i (some v)) [i] = wipe σ [i] := by
  simp [wipe, List.set_set]
theorem wipe_set2 (σ : L2.St) (i j : Nat) (v u : V) : wipe (((wipe σ [i, j]).set i (some v)).set j (some u)) [i, j] = wipe σ [i, j] := by
  apply List.ext_getElem?
  intro k
  simp only [wipe, List.getElem?_set, List.length_set]
  by_cases h1 : i = k <;> by_cases h2 : j = k <;> simp_all

/-! tests of a clause -/
def wTs (X : Cx) (ifs : List Expr) : TT := fun σ H Q => ∀ (pins : List (Addr × Obj)) (s : Shared), Inv X pins σ H s →
  wpAny (model X.prog X.w) X.A (forIn ifs true fun c r => if r = true then do let ok ← isTrue c X.env (eval c X.env); pure (ForInStep.yield ok) else pure (ForInStep.yield r)) (TP X pins σ Q) X.xe s
structure ETs (X : Cx) (Γ : List (Option Ty)) (ifs : List Expr) (b : Bool) : Prop where
  run : ∀ σ H, Env Γ σ H → wTs X ifs σ H fun k H' => Same H H' ∧ k = b
theorem ets_nil {X : Cx} {Γ : List (Option Ty)} : ETs X Γ [] true := ⟨fun σ H g pins s I => pts_nil.run pins s σ H _ I ⟨fun _ _ h => h, rfl⟩⟩
theorem ets_one {X : Cx} {Γ : List (Option Ty)} {c : Expr} {b : Bool} (h : ET X Γ c b) : ETs X Γ [c] b := ⟨fun σ H g pins s I => (pts_one pt_w).run pins s σ H _ I (h.run σ H g)⟩

/-- a block's context -/
abbrev bx (X : Cx) (scope : Scope) (s : Shared) (H : Hp) (C : Addr) (cl : List (Str × Addr)) (fp : List Addr) : Cx := X.blk s H scope (compEnvC scope cl C X.env) fp
/-- something that a comprehension goes over: n turns, at turn i the own slots are typed by Γi i -/
structure Src (X : Cx) (Γ : List (Option Ty)) (tg iter : Expr) (scope : Scope) (vs : List Nat) (n : Nat) (Γi : Nat → List (Option Ty)) : Prop where
  ex : ∃ (wi : TI) (g : TG), PI X tg iter wi ∧ (∀ s H C cl fp, PG (bx X scope s H C cl fp) tg g) ∧
    ∀ σ H, Env Γ σ H → ∀ R : It → Hp → Prop,
      (∀ (J : It) (H1 : Hp) (G : Hp → Prop) (Y : Nat → Hp → V → Hp → Prop), Same H H1 → Walk J n G Y → (∀ H', Same H1 H' → G H') →
        (∀ i x Ha Hb, i < n → Same H1 Ha → Y i Ha x Hb → Same Ha Hb ∧ ∀ Q : L2.St → Hp → Prop, (∀ σ2, Env (Γi i) σ2 Hb → wipe σ2 vs = wipe σ vs → Q σ2 Hb) → g x (wipe σ vs) Hb Q) → R J H1) → wi σ H R

def lcD (n : Nat) (b : Nat → Bool) (f : Nat → PyData) : List PyData := ((List.range n).filter b).map f
theorem lcD_succ (n : Nat) (b : Nat → Bool) (f : Nat → PyData) : lcD (n + 1) b f = if b n = true then lcD n b f ++ [f n] else lcD n b f := by
  unfold lcD
  rw [List.range_succ, List.filter_append, List.map_append]
  by_cases h : b n = true <;> simp [h]
theorem lcD_len (n : Nat) (b : Nat → Bool) (f : Nat → PyData) : (lcD n b f).length ≤ n := by
  unfold lcD
  rw [List.length_map]
  exact Nat.le_trans (List.length_filter_le _ _) (by simp)
theorem lcD_lf {n : Nat} {b : Nat → Bool} {f : Nat → PyData} (h : ∀ i, i < n → b i = true → lf (f i) = true) : lfs (lcD n b f) = true := by
  refine lfs_of fun d hd => ?_
  unfold lcD at hd
  obtain ⟨i, hi, rfl⟩ := List.mem_map.mp hd
  obtain ⟨h1, h2⟩ := List.mem_filter.mp hi
  exact h i (List.mem_range.mp h1) h2

section
variable {X : Cx} {Γ : List (Option Ty)} {tg iter elt : Expr} {ifs : List Expr} {scope : Scope} {own : List (Str × Nat)} {pos : Pos} {n : Nat} {Γi : Nat → List (Option Ty)} {b : Nat → Bool} {f : Nat → PyData}
/-- the reading of a comprehension of pure elements -/
theorem lc_run (own : List (Str × Nat)) (src : Src X Γ tg iter scope (own.map (·.2)) n Γi)
    (ht : ∀ s H C cl fp i, i < n → ETs (bx X scope s H C cl fp) (Γi i) ifs (b i))
    (he : ∀ s H C cl fp i, i < n → b i = true → EV (bx X scope s H C cl fp) (Γi i) elt (isD X.K (f i)))
    (hlf : ∀ i, i < n → b i = true → lf (f i) = true) (hn : n ≤ 100000) :
    ∃ (wi : TI) (g : TG), PI X tg iter wi ∧ (∀ s H C cl fp, PG (bx X scope s H C cl fp) tg g) ∧ ∀ σ H, Env Γ σ H → ∀ Q : VK, (∀ D acc H', Same H H' → H D = none → H' D = some (.lst acc) → DpAll X.K H' acc (lcD n b f) → Q (.ref D) H') →
      tLc wi g (fun σ' H' Q => ∀ s H C cl fp, wTs (bx X scope s H C cl fp) ifs σ' H' Q) (fun σ' H' Q => ∀ s H C cl fp, wE (bx X scope s H C cl fp) elt σ' H' Q) (own.map (·.2)) σ H Q := by
  obtain ⟨wi, g, hi, hg, run⟩ := src.ex
  refine ⟨wi, g, hi, hg, fun σ H g0 Q hQ => ?_⟩
  refine run σ H g0 _ fun J H1 G Y s1 wk hG hY => ?_
  intro D hD
  refine lc_it (g := g) (tt := fun σ' H' Q => ∀ s H C cl fp, wTs (bx X scope s H C cl fp) ifs σ' H' Q) (te := fun σ' H' Q => ∀ s H C cl fp, wE (bx X scope s H C cl fp) elt σ' H' Q) (vs := own.map (·.2)) (σ := σ) (Qd := fun H' => Q (.ref D) H') wk (fun i H' => Same H1 H' ∧ ∃ acc, H' D = some (.lst acc) ∧ DpAll X.K H' acc (lcD i b f)) ⟨same_new hD, [], upd_same, .nil⟩ (fun i H' _ p => hG H' p.1) ?_ ?_
  · rintro i x Ha Hb hi' ⟨s2, acc, hacc, da⟩ y
    obtain ⟨s3, k⟩ := hY i x Ha Hb hi' s2 y
    refine k _ fun σ2 g2 hw => ⟨hw, ?_⟩
    intro s H C cl fp pins s' I
    refine thn ((ht s H C cl fp i hi').run σ2 Hb g2 pins s' I) fun k s'' ⟨H3, I3, s4, e3⟩ => ⟨H3, I3, ?_⟩
    subst e3
    by_cases hb : b i = true
    · rw [if_pos hb]
      intro s H C cl fp
      refine (he s H C cl fp i hi' hb).use (g2.up s4) fun v H4 s5 q5 => ?_
      have s14 : Same H1 H4 := s2.trans (s3.trans (s4.trans s5))
      have hD4 : H4 D = some (.lst acc) := (s3.trans (s4.trans s5)) D _ hacc
      have hlen : acc.length = (lcD i b f).length := dpAll_len da
      have hl2 := lcD_len i b f
      refine ⟨acc, hD4, Nat.lt_of_le_of_lt (by omega : acc.length ≤ n) (Nat.lt_of_le_of_lt hn (by decide)), ⟨fun c o e => ?_, acc ++ [v], upd_same, ?_⟩⟩
      · rw [upd_ne (ne_of_none e hD)]
        exact s14 c o e
      · rw [lcD_succ, if_pos hb]
        refine dpAll_app (dpAll_imm (tupSub_lst hD4) _ _ (lcD_lf fun j hj => hlf j (by omega)) (dpAll_up (s3.trans (s4.trans s5)) _ _ da)) (.cons (dp_imm (tupSub_lst hD4) _ _ (hlf i hi' hb) q5) .nil)
    · rw [if_neg hb]
      refine ⟨s2.trans (s3.trans s4), acc, (s3.trans s4) D _ hacc, ?_⟩
      rw [lcD_succ, if_neg hb]
      exact dpAll_up (s3.trans s4) _ _ da
  · rintro H' ⟨s2, acc, hacc, da⟩
    refine hQ _ _ _ (s1.trans s2) ?_ hacc da
    cases q : H D with
    | none => rfl
    | some u => rw [s1 D u q] at hD; cases hD

theorem ev_lc (own : List (Str × Nat)) (hc : X.calm = true) (hN : X.N.Nodup) (ok : BlkOk X.N X.env.scope scope own) (src : Src X Γ tg iter scope (own.map (·.2)) n Γi)
    (ht : ∀ s H C cl fp i, i < n → ETs (bx X scope s H C cl fp) (Γi i) ifs (b i))
    (he : ∀ s H C cl fp i, i < n → b i = true → EV (bx X scope s H C cl fp) (Γi i) elt (isD X.K (f i)))
    (hlf : ∀ i, i < n → b i = true → lf (f i) = true) (hn : n ≤ 100000) (hs : ∀ x, foldedSetIterable iter X.env x = pure x := by intro _; rfl) :
    EV X Γ (.ListComp elt [⟨tg, iter, ifs, 0⟩] scope pos) (isD X.K (.list (lcD n b f))) := by
  obtain ⟨wi, g, hi, hg, run⟩ := lc_run own src ht he hlf hn
  exact .of (pe_lc hc hN hi ok hg (fun s H C cl fp => ⟨fun pins s' σ' H' Q I h => h s H C cl fp pins s' I⟩) (fun s H C cl fp => ⟨fun pins s' σ' H' Q I h => h s H C cl fp pins s' I⟩) hs) fun σ H g0 => run σ H g0 _ fun D acc H' s _ hD q => ⟨s, .lst (SqL.of hD) q⟩
/-- y = [..] on one line -/
theorem bd_setLc {rest : List Stmt} {τ : Ty} {y : Str} {py spos : Pos} (j : Nat) (own : List (Str × Nat)) (hc : X.calm = true) (hN : X.N.Nodup) (ok : BlkOk X.N X.env.scope scope own) (src : Src X Γ tg iter scope (own.map (·.2)) n Γi)
    (ht : ∀ s H C cl fp i, i < n → ETs (bx X scope s H C cl fp) (Γi i) ifs (b i))
    (he : ∀ s H C cl fp i, i < n → b i = true → EV (bx X scope s H C cl fp) (Γi i) elt (isD X.K (f i)))
    (hlf : ∀ i, i < n → b i = true → lf (f i) = true) (hn : n ≤ 100000)
    (hr : BD X (Γ.set j (some (isD X.K (.list (lcD n b f))))) rest τ) (hy : X.N[j]? = some y := by rfl) (hyl : X.env.scope.names.lookup y = some .local := by rfl)
    (hsw : swapsWith (.ListComp elt [⟨tg, iter, ifs, 0⟩] scope pos) (some (.Name y py)) spos.line X.env = pure true := by exact sw_true rfl rfl rfl (by decide +kernel)) (hs : ∀ x, foldedSetIterable iter X.env x = pure x := by intro _; rfl) :
    BD X Γ (.Assign [.Name y py] (.ListComp elt [⟨tg, iter, ifs, 0⟩] scope pos) spos :: rest) τ := by
  obtain ⟨wi, g, hi, hg, run⟩ := lc_run own src ht he hlf hn
  exact ⟨fun σ H D g0 k => wB_cons (wS_of (ps_setLc hc hN hy hyl hsw hi ok hg (fun s H C cl fp => ⟨fun pins s' σ' H' Q I h => h s H C cl fp pins s' I⟩) (fun s H C cl fp => ⟨fun pins s' σ' H' Q I h => h s H C cl fp pins s' I⟩) hs)
    (run σ H g0 _ fun D' acc H1 s1 _ hD' q1 => hr.run _ H1 D ((g0.up s1).set j (show (isD X.K (.list (lcD n b f))).p H1 (.ref D') from .lst (SqL.of hD') q1)) fun u H2 s2 q2 => k u H2 (s1.trans s2) q2))⟩

/-! sources -/
theorem src_tup {x : Str} {p : Pos} {ds : List PyData} (i : Nat) (h : EV X Γ iter (isD X.K (.tuple ds)))
    (hg : ∀ s H C cl fp, PG (bx X scope s H C cl fp) (.Name x p) (gName i)) : Src X Γ (.Name x p) iter scope [i] ds.length fun k => (wipeG Γ [i]).set i (some (isD X.K (ds.getD k .none))) := by
  refine ⟨_, _, pi_tup pe_w, hg, fun σ H g R q => h.use g fun v H1 s1 r1 => ?_⟩
  obtain ⟨a, xs, rfl, hq, hx⟩ := dp_tup r1
  refine ⟨a, rfl, ⟨xs, hq⟩, q _ H1 _ _ s1 (by rw [← dpAll_len hx]; exact walk_tup) (fun H' s' => sqT_up s' hq) ?_⟩
  rintro k x Ha Hb hk s2 ⟨rfl, hx2⟩
  refine ⟨fun _ _ h => h, fun Q hQ => hQ _ ?_ (wipe_set1 σ i x)⟩
  obtain ⟨d, hd, dd⟩ := dpAll_getV hx hx2
  refine (((g.up s1).up s2).wipe [i]).set i ?_
  rw [List.getD_eq_getElem?_getD, hd]
  exact dp_up s2 _ _ dd
theorem src_lst {x : Str} {p : Pos} {ds : List PyData} (i : Nat) (h : EV X Γ iter (isD X.K (.list ds)))
    (hg : ∀ s H C cl fp, PG (bx X scope s H C cl fp) (.Name x p) (gName i)) : Src X Γ (.Name x p) iter scope [i] ds.length fun k => (wipeG Γ [i]).set i (some (isD X.K (ds.getD k .none))) := by
  refine ⟨_, _, pi_list pe_w, hg, fun σ H g R q => h.use g fun v H1 s1 r1 => ?_⟩
  obtain ⟨a, xs, rfl, hq, hx⟩ := dp_lst r1
  refine ⟨a, rfl, ⟨xs, hq⟩, q _ H1 _ _ s1 (by rw [← dpAll_len hx]; exact walk_list) (fun H' s' => sqL_up s' hq) ?_⟩
  rintro k x Ha Hb hk s2 ⟨rfl, hx2⟩
  refine ⟨fun _ _ h => h, fun Q hQ => hQ _ ?_ (wipe_set1 σ i x)⟩
  obtain ⟨d, hd, dd⟩ := dpAll_getV hx hx2
  refine (((g.up s1).up s2).wipe [i]).set i ?_
  rw [List.getD_eq_getElem?_getD, hd]
  exact dp_up s2 _ _ dd
theorem src_range {x : Str} {p p2 p3 : Pos} {a : Expr} {m : Int} (i : Nat) (hm : X.mg "range" = none) (h : EV X Γ a (isD X.K (.int m))) (h0 : 0 ≤ m) (h1 : m ≤ 100000)
    (hg : ∀ s H C cl fp, PG (bx X scope s H C cl fp) (.Name x p) (gName i)) (hgl : Gl X "range" := by rfl) (hs : starEach [a] X.env = [(false, eval a X.env)] := by rfl) :
    Src X Γ (.Name x p) (.Call (.Name "range" p2) [a] [] p3) scope [i] m.toNat fun k => (wipeG Γ [i]).set i (some (isD X.K (.int (k : Nat)))) := by
  refine ⟨_, _, pi_range1 hgl hm (pa_cons pe_w pa_nil hs) hs, hg, fun σ H g R q => h.use g fun v H1 s1 r1 => ?_⟩
  cases dp_int r1
  refine ⟨m, rfl, by omega, by omega, q _ H1 _ _ s1 walk_range (fun _ _ => trivial) ?_⟩
  rintro k x Ha Hb hk s2 ⟨rfl, rfl⟩
  refine ⟨fun _ _ h => h, fun Q hQ => hQ _ ?_ (wipe_set1 σ i _)⟩
  refine (((g.up s1).up s2).wipe [i]).set i ?_
  show Dp _ _ (V.int (0 + (k : Int))) _
  rw [Int.zero_add]
  exact .int _
/-- the target a, b -/
theorem pair_tg {K : PySem.W.Frag} {σ : L2.St} {H : Hp} {T : Addr} {x y : V} {i j : Nat} {Q : L2.St → Hp → Prop} (hT : H T = some (.tup [x, y])) (h : Q ((σ.set i (some x)).set j (some y)) H) : gTup K 2 (gCons (gName i) (gCons (gName j) gNil)) (.ref T) σ H Q :=
  ⟨T, [x, y], rfl, SqT.of hT, rfl, x, [y], rfl, y, [], rfl, rfl, h⟩
abbrev Γ2 (Γ : List (Option Ty)) (i j : Nat) (τ τ' : Ty) : List (Option Ty) := ((wipeG Γ [i, j]).set i (some τ)).set j (some τ')
theorem src_zipTT {x y : Str} {px py p2 p3 tp : Pos} {kk : Nat} {a c : Expr} {ds es : List PyData} (i j : Nat) (hm : X.mg "zip" = none) (ha : EV X Γ a (isD X.K (.tuple ds))) (hb : EV X Γ c (isD X.K (.tuple es))) (hl : ds.length = es.length)
    (hg : ∀ s H C cl fp, PG (bx X scope s H C cl fp) (.Tuple [.Name x px, .Name y py] kk tp) (gTup X.K 2 (gCons (gName i) (gCons (gName j) gNil)))) (hgl : Gl X "zip" := by rfl)
    (hs : starEach [a, c] X.env = (false, eval a X.env) :: starEach [c] X.env := by rfl) (hs2 : starEach [c] X.env = (false, eval c X.env) :: starEach [] X.env := by rfl) (hpl : (backTo p3 (starEach [c] X.env)).any (·.1) = false := by rfl) :
    Src X Γ (.Tuple [.Name x px, .Name y py] kk tp) (.Call (.Name "zip" p2) [a, c] [] p3) scope [i, j] ds.length fun k => Γ2 Γ i j (isD X.K (ds.getD k .none)) (isD X.K (es.getD k .none)) := by
  refine ⟨_, _, RZ.pi_zipA hgl hm (pa_cons pe_w (pa_cons pe_w pa_nil hs2) hs) hs hpl, hg, fun σ H g R q => ha.use g fun v H1 s1 r1 => hb.use (g.up s1) fun u H2 s2 r2 => ?_⟩
  obtain ⟨a, xs, rfl, hq, hx⟩ := dp_tup r1
  obtain ⟨b, ys, rfl, hq2, hy⟩ := dp_tup r2
  have hn : ds.length = min xs.length ys.length := by rw [dpAll_len hx, dpAll_len hy, ← hl, Nat.min_self]
  refine ⟨a, b, xs, ys, rfl, .inr ⟨sqT_up s2 hq, hq2, q _ H2 _ _ (s1.trans s2) (walk_zipT hn) (fun H' s' => ⟨sqT_up (s2.trans s') hq, sqT_up s' hq2⟩) ?_⟩⟩
  rintro k x Ha Hb hk s3 ⟨T, x1, y1, rfl, hT, rfl, e1, e2⟩
  have s4 : Same Ha (upd Ha T (.tup [x1, y1])) := same_new hT
  refine ⟨s4, fun Q hQ => pair_tg upd_same (hQ _ ?_ (wipe_set2 σ i j x1 y1))⟩
  obtain ⟨d, hd, dd⟩ := dpAll_getV hx e1
  obtain ⟨d', hd', dd'⟩ := dpAll_getV hy e2
  refine (((((g.up s1).up s2).up (s3.trans s4)).wipe [i, j]).set i ?_).set j ?_
  · rw [List.getD_eq_getElem?_getD, hd]
    exact dp_up (s2.trans (s3.trans s4)) _ _ dd
  · rw [List.getD_eq_getElem?_getD, hd']
    exact dp_up (s3.trans s4) _ _ dd'
theorem src_zipLT {x y : Str} {px py p2 p3 tp : Pos} {kk : Nat} {a c : Expr} {ds es : List PyData} (i j : Nat) (hm : X.mg "zip" = none) (ha : EV X Γ a (isD X.K (.list ds))) (hb : EV X Γ c (isD X.K (.tuple es))) (hl : ds.length = es.length)
    (hg : ∀ s H C cl fp, PG (bx X scope s H C cl fp) (.Tuple [.Name x px, .Name y py] kk tp) (gTup X.K 2 (gCons (gName i) (gCons (gName j) gNil)))) (hgl : Gl X "zip" := by rfl)
    (hs : starEach [a, c] X.env = (false, eval a X.env) :: starEach [c] X.env := by rfl) (hs2 : starEach [c] X.env = (false, eval c X.env) :: starEach [] X.env := by rfl) (hpl : (backTo p3 (starEach [c] X.env)).any (·.1) = false := by rfl) :
    Src X Γ (.Tuple [.Name x px, .Name y py] kk tp) (.Call (.Name "zip" p2) [a, c] [] p3) scope [i, j] ds.length fun k => Γ2 Γ i j (isD X.K (ds.getD k .none)) (isD X.K (es.getD k .none)) := by
  refine ⟨_, _, pi_zipLT hgl hm (pa_cons pe_w (pa_cons pe_w pa_nil hs2) hs) hs hpl, hg, fun σ H g R q => ha.use g fun v H1 s1 r1 => hb.use (g.up s1) fun u H2 s2 r2 => ?_⟩
  obtain ⟨a, xs, rfl, hq, hx⟩ := dp_lst r1
  obtain ⟨b, ys, rfl, hq2, hy⟩ := dp_tup r2
  have hn : ds.length = min xs.length ys.length := by rw [dpAll_len hx, dpAll_len hy, ← hl, Nat.min_self]
  refine ⟨a, b, xs, ys, rfl, sqL_up s2 hq, hq2, q _ H2 _ _ (s1.trans s2) (walk_zipLT hn) (fun H' s' => ⟨sqL_up (s2.trans s') hq, sqT_up s' hq2⟩) ?_⟩
  rintro k x Ha Hb hk s3 ⟨T, x1, y1, rfl, hT, rfl, e1, e2⟩
  have s4 : Same Ha (upd Ha T (.tup [x1, y1])) := same_new hT
  refine ⟨s4, fun Q hQ => pair_tg upd_same (hQ _ ?_ (wipe_set2 σ i j x1 y1))⟩
  obtain ⟨d, hd, dd⟩ := dpAll_getV hx e1
  obtain ⟨d', hd', dd'⟩ := dpAll_getV hy e2
  refine (((((g.up s1).up s2).up (s3.trans s4)).wipe [i, j]).set i ?_).set j ?_
  · rw [List.getD_eq_getElem?_getD, hd]
    exact dp_up (s2.trans (s3.trans s4)) _ _ dd
  · rw [List.getD_eq_getElem?_getD, hd']
    exact dp_up (s3.trans s4) _ _ dd'
theorem src_enumT {x y : Str} {px py p2 p3 tp : Pos} {kk : Nat} {a : Expr} {ds : List PyData} (i j : Nat) (hm : X.mg "enumerate" = none) (ha : EV X Γ a (isD X.K (.tuple ds)))
    (hg : ∀ s H C cl fp, PG (bx X scope s H C cl fp) (.Tuple [.Name x px, .Name y py] kk tp) (gTup X.K 2 (gCons (gName i) (gCons (gName j) gNil)))) (hgl : Gl X "enumerate" := by rfl) (hs : starEach [a] X.env = [(false, eval a X.env)] := by rfl) :
    Src X Γ (.Tuple [.Name x px, .Name y py] kk tp) (.Call (.Name "enumerate" p2) [a] [] p3) scope [i, j] ds.length fun k => Γ2 Γ i j (isD X.K (.int (k : Nat))) (isD X.K (ds.getD k .none)) := by
  refine ⟨_, _, pi_enumT hgl hm (pa_cons pe_w pa_nil hs) hs, hg, fun σ H g R q => ha.use g fun v H1 s1 r1 => ?_⟩
  obtain ⟨a, xs, rfl, hq, hx⟩ := dp_tup r1
  refine ⟨a, xs, rfl, hq, q _ H1 _ _ s1 (by rw [← dpAll_len hx]; exact walk_enumT) (fun H' s' => sqT_up s' hq) ?_⟩
  rintro k x Ha Hb hk s3 ⟨T, x1, y1, rfl, hT, rfl, e1, e2⟩
  have s4 : Same Ha (upd Ha T (.tup [x1, y1])) := same_new hT
  refine ⟨s4, fun Q hQ => pair_tg upd_same (hQ _ ?_ (wipe_set2 σ i j x1 y1))⟩
  cases e1
  obtain ⟨d', hd', dd'⟩ := dpAll_getV hx e2
  refine ((((g.up s1).up (s3.trans s4)).wipe [i, j]).set i (show (isD X.K (.int (k : Nat))).p _ _ from Dp.int _)).set j ?_
  rw [List.getD_eq_getElem?_getD, hd']
  exact dp_up (s3.trans s4) _ _ dd'
theorem src_enumL {x y : Str} {px py p2 p3 tp : Pos} {kk : Nat} {a : Expr} {ds : List PyData} (i j : Nat) (hm : X.mg "enumerate" = none) (ha : EV X Γ a (isD X.K (.list ds)))
    (hg : ∀ s H C cl fp, PG (bx X scope s H C cl fp) (.Tuple [.Name x px, .Name y py] kk tp) (gTup X.K 2 (gCons (gName i) (gCons (gName j) gNil)))) (hgl : Gl X "enumerate" := by rfl) (hs : starEach [a] X.env = [(false, eval a X.env)] := by rfl) :
    Src X Γ (.Tuple [.Name x px, .Name y py] kk tp) (.Call (.Name "enumerate" p2) [a] [] p3) scope [i, j] ds.length fun k => Γ2 Γ i j (isD X.K (.int (k : Nat))) (isD X.K (ds.getD k .none)) := by
  refine ⟨_, _, pi_enum hgl hm (pa_cons pe_w pa_nil hs) hs, hg, fun σ H g R q => ha.use g fun v H1 s1 r1 => ?_⟩
  obtain ⟨a, xs, rfl, hq, hx⟩ := dp_lst r1
  refine ⟨a, xs, rfl, hq, q _ H1 _ _ s1 (by rw [← dpAll_len hx]; exact walk_enum) (fun H' s' => sqL_up s' hq) ?_⟩
  rintro k x Ha Hb hk s3 ⟨T, x1, y1, rfl, hT, rfl, e1, e2⟩
  have s4 : Same Ha (upd Ha T (.tup [x1, y1])) := same_new hT
  refine ⟨s4, fun Q hQ => pair_tg upd_same (hQ _ ?_ (wipe_set2 σ i j x1 y1))⟩
  cases e1
  obtain ⟨d', hd', dd'⟩ := dpAll_getV hx e2
  refine ((((g.up s1).up (s3.trans s4)).wipe [i, j]).set i (show (isD X.K (.int (k : Nat))).p _ _ from Dp.int _)).set j ?_
  rw [List.getD_eq_getElem?_getD, hd']
  exact dp_up (s3.trans s4) _ _ dd'
end
end EC

set_option Elab.async false
set_option linter.all false
set_option maxRecDepth 100000
set_option maxHeartbeats 4000000
/-! EcM: the text by places; programs and moments as plain data. -/
namespace EC
open PySem L2

/-! ### the text -/
def top (i : Nat) : Stmt := PySem.Challenge.pw_enoughcharge_k81_whole_stretches.main.body.getD i (.Pass ⟨0, 0, 0, 0⟩)

/-! ### programs -/
structure Cell where
  name : Str
  kind : Str
  top : Int
  start : Int
def Cell.d (c : Cell) : PyData := .tuple [.str c.name, .str c.kind, .int c.top, .int c.start]
/-- a number or a name -/
inductive Atm where
  | num (n : Int)
  | var (x : Str)
def Atm.d : Atm → PyData
  | .num n => .int n
  | .var x => .str x
inductive Ex where
  | atm (a : Atm)
  | plus (a b : Atm)
  | minus (a b : Atm)
def Ex.d : Ex → PyData
  | .atm a => a.d
  | .plus a b => .tuple [.str "plus", a.d, b.d]
  | .minus a b => .tuple [.str "minus", a.d, b.d]
inductive Tst where
  | less (a b : Atm)
  | equal (a b : Atm)
def Tst.d : Tst → PyData
  | .less a b => .tuple [.str "less", a.d, b.d]
  | .equal a b => .tuple [.str "equal", a.d, b.d]
inductive Ins where
  | set (x : Str) (e : Ex) (c : Int)
  | ask (x : Str) (c : Int)
  | jump (p : Nat) (c : Int)
  | unl (t : Tst) (p : Nat) (c : Int)
  | mark (c : Int)
  | off (c : Int)
  | fin
def Ins.d : Ins → PyData
  | .set x e c => .tuple [.str "set", .str x, e.d, .int c]
  | .ask x c => .tuple [.str "ask", .str x, .int c]
  | .jump p c => .tuple [.str "jump", .int (p : Nat), .int c]
  | .unl t p c => .tuple [.str "unless", t.d, .int (p : Nat), .int c]
  | .mark c => .tuple [.str "mark", .int c]
  | .off c => .tuple [.str "off", .int c]
  | .fin => .tuple [.str "end"]
structure Prg where
  cells : List Cell
  code : List Ins
  told : PyData
def Prg.d (P : Prg) : PyData := .tuple [.tuple (P.cells.map Cell.d), .tuple (P.code.map Ins.d), P.told]
/-- a moment: the copy's place and values, the place, the values -/
structure Mom where
  cp : Nat
  cs : List Int
  pl : Nat
  vs : List Int
  deriving DecidableEq
def intsD (ns : List Int) : PyData := .tuple (ns.map PyData.int)
def Mom.d (m : Mom) : PyData := .tuple [.tuple [.int (m.cp : Nat), intsD m.cs], .int (m.pl : Nat), intsD m.vs]
def stepD : Option Int → PyData
  | none => .tuple []
  | some v => .tuple [.int v]

/-! ### what a program does -/
def Prg.idx (P : Prg) (x : Str) : Nat := P.cells.findIdx fun c => decide (c.name = x)
def Prg.cell (P : Prg) (x : Str) : Cell := P.cells.getD (P.idx x) ⟨"", "", 0, 0⟩
def Prg.ins (P : Prg) (p : Nat) : Ins := P.code.getD p .fin
def Prg.val (P : Prg) (vs : List Int) (x : Str) : Int := vs.getD (P.idx x) 0
def Atm.val (P : Prg) (vs : List Int) : Atm → Int
  | .num n => n
  | .var x => P.val vs x
def Ex.val (P : Prg) (vs : List Int) : Ex → Int
  | .atm a => a.val P vs
  | .plus a b => a.val P vs + b.val P vs
  | .minus a b => a.val P vs - b.val P vs
def Tst.holds (P : Prg) (vs : List Int) : Tst → Bool
  | .less a b => decide (a.val P vs < b.val P vs)
  | .equal a b => decide (a.val P vs = b.val P vs)
def Cell.sv (c : Cell) : Bool := decide (c.kind = "saved")
/-- the values of the saved cells -/
def savedOf : List Cell → List Int → List Int
  | c :: cs, v :: vs => if c.sv = true then v :: savedOf cs vs else savedOf cs vs
  | _, _ => []
def Prg.after (P : Prg) (m : Mom) (s : Option Int) : Mom :=
  match P.ins m.pl with
  | .set x e _ => { m with pl := m.pl + 1, vs := m.vs.set (P.idx x) (e.val P m.vs % ((P.cell x).top + 1)) }
  | .ask x _ => { m with pl := m.pl + 1, vs := m.vs.set (P.idx x) (s.getD 0) }
  | .jump p _ => { m with pl := p }
  | .unl t p _ => { m with pl := if t.holds P m.vs = true then m.pl + 1 else p }
  | .mark _ => { cp := m.pl + 1, cs := savedOf P.cells m.vs, pl := m.pl + 1, vs := m.vs }
  | .off _ => { m with pl := m.pl + 1 }
  | .fin => { m with pl := m.pl + 1 }
def Prg.steps (P : Prg) (m : Mom) : List (Option Int) :=
  match P.ins m.pl with
  | .fin => []
  | .ask x _ => (List.range ((P.cell x).top + 1).toNat).map fun k => some (k : Nat)
  | _ => [none]
def Ins.due : Ins → Int
  | .set _ _ c => c
  | .ask _ c => c
  | .jump _ c => c
  | .unl _ _ c => c
  | .mark c => c
  | .off _ => 0
  | .fin => 0
def Prg.due (P : Prg) (m : Mom) : Int := (P.ins m.pl).due
/-- the values behind a fall -/
def wakeVals : List Cell → List Int → List Int → List Int
  | c :: cells, v :: vs, saved =>
    if c.sv = true then
      match saved with
      | s :: saved => s :: wakeVals cells vs saved
      | [] => v :: wakeVals cells vs []
    else (if c.kind = "kept" then v else c.start) :: wakeVals cells vs saved
  | _, _, _ => []
def Prg.wake (P : Prg) (m : Mom) : Mom := { cp := m.cp, cs := m.cs, pl := m.cp, vs := wakeVals P.cells m.vs m.cs }
def Prg.first (P : Prg) : Mom := { cp := 0, cs := savedOf P.cells (P.cells.map (·.start)), pl := 0, vs := P.cells.map (·.start) }

/-! ### well formed -/
def Atm.ok (P : Prg) : Atm → Prop
  | .num _ => True
  | .var x => x ∈ P.cells.map (·.name)
def Ex.ok (P : Prg) : Ex → Prop
  | .atm a => a.ok P
  | .plus a b => a.ok P ∧ b.ok P
  | .minus a b => a.ok P ∧ b.ok P
def Tst.ok (P : Prg) : Tst → Prop
  | .less a b => a.ok P ∧ b.ok P
  | .equal a b => a.ok P ∧ b.ok P
def costOk (c : Int) : Prop := 1 ≤ c ∧ c ≤ 9
/-- at a place -/
def Ins.ok (P : Prg) (at_ : Nat) : Ins → Prop
  | .set x e c => x ∈ P.cells.map (·.name) ∧ e.ok P ∧ costOk c ∧ at_ + 1 < P.code.length
  | .ask x c => x ∈ P.cells.map (·.name) ∧ costOk c ∧ at_ + 1 < P.code.length
  | .jump p c => p < P.code.length ∧ costOk c
  | .unl t p c => t.ok P ∧ p < P.code.length ∧ costOk c ∧ at_ + 1 < P.code.length
  | .mark c => costOk c ∧ at_ + 1 < P.code.length
  | .off c => costOk c ∧ at_ + 1 < P.code.length
  | .fin => True
def Cell.ok (c : Cell) : Prop := (c.kind = "quick" ∨ c.kind = "saved" ∨ c.kind = "kept") ∧ 0 ≤ c.start ∧ c.start ≤ c.top ∧ c.top ≤ 9
structure Prg.Ok (P : Prg) : Prop where
  names : (P.cells.map (·.name)).Nodup
  cell : ∀ c ∈ P.cells, c.ok
  ncell : P.cells.length ≤ 16
  code : ∀ (p : Nat) (i : Ins), P.code[p]? = some i → i.ok P p
  ncode : P.code.length ≤ 16
  told : lf P.told = true
/-- values of cells -/
def valsOk : List Cell → List Int → Prop
  | [], [] => True
  | c :: cs, v :: vs => (0 ≤ v ∧ v ≤ c.top) ∧ valsOk cs vs
  | _, _ => False
structure Prg.MomOk (P : Prg) (m : Mom) : Prop where
  cp : m.cp < P.code.length
  pl : m.pl < P.code.length
  cs : valsOk (P.cells.filter Cell.sv) m.cs
  vs : valsOk P.cells m.vs
end EC

set_option Elab.async false
set_option linter.all false
set_option maxRecDepth 100000
set_option maxHeartbeats 4000000
/-! EcF1: small pure defs of the program. -/
namespace EC
open PySem PySem.Spec PyProof.Rows L2
section
variable {P : Program} {w : World} {K : PySem.W.Frag} {mg : Str → Option Value} {base : Heap}

def RisInt (K : PySem.W.Frag) : List Ty → Ty → Prop := fun τs τ => ∃ i : Int, τs = [isD K (.int i)] ∧ τ = isD K (.bool true)
theorem sc_isInt : FnScope ["thing"] ["thing"] (defScope (top 6)) := ⟨rfl, rfl, rfl, by decide +kernel, rfl, by decide +kernel, by decide +kernel⟩
theorem ok_isInt {f : Addr} {fd : FuncData} (F : Fun K "is_integer" "is_integer" (top 6) f fd) (B : Bi mg) : FnOk P w K mg base CX0 1 f fd ["thing"] (spF (RisInt K)) := by
  refine fn_bd F sc_isInt (fun τs τ ⟨i, h, _⟩ => by rw [h]; rfl) fun cdv A outer s H E τs τ hr ⟨i, h1, h2⟩ => ?_
  subst h1 h2
  refine bd_ret (ev_and (p := true) (q := true) (ev_isint B (ev_name 0 rfl (.inl rfl) rfl)) fun _ => ?_)
  exact ev_one (ev_not (p := false) (ev_isbool B (ev_name 0 rfl (.inl rfl) rfl)))

def RisNum (K : PySem.W.Frag) : List Ty → Ty → Prop := fun τs τ => ∃ i : Int, τs = [isD K (.int i)] ∧ τ = isD K (.bool (decide (0 ≤ i)))
theorem sc_isNum : FnScope ["thing"] ["thing"] (defScope (top 7)) := ⟨rfl, rfl, rfl, by decide +kernel, rfl, by decide +kernel, by decide +kernel⟩
theorem ok_isNum {f : Addr} {fd : FuncData} (F : Fun K "is_number" "is_number" (top 7) f fd) (c1 : FnS P w K mg base "is_integer" 1 1 (spF (RisInt K))) : FnOk P w K mg base CX0 2 f fd ["thing"] (spF (RisNum K)) := by
  refine fn_bd F sc_isNum (fun τs τ ⟨i, h, _⟩ => by rw [h]; rfl) fun cdv A outer s H E τs τ hr ⟨i, h1, h2⟩ => ?_
  subst h1 h2
  refine bd_ret (ev_and (p := true) (q := decide (0 ≤ i)) (ev_call c1 hr (evs_cons (ev_name 0 rfl (.inl rfl) rfl) evs_nil) ⟨i, rfl, rfl⟩) fun _ => ?_)
  exact ev_one (ev_ge (ev_name 0 rfl (.inl rfl) rfl) ev_int)

def RcostDue (K : PySem.W.Frag) : List Ty → Ty → Prop := fun τs τ => ∃ i : Ins, τs = [isD K i.d] ∧ τ = isD K (.int i.due)
theorem sc_costDue : FnScope ["instruction"] ["instruction"] (defScope (top 29)) := ⟨rfl, rfl, rfl, by decide +kernel, rfl, by decide +kernel, by decide +kernel⟩
theorem ok_costDue {f : Addr} {fd : FuncData} (F : Fun K "cost_due" "cost_due" (top 29) f fd) : FnOk P w K mg base CX0 1 f fd ["instruction"] (spF (RcostDue K)) := by
  refine fn_bd F sc_costDue (fun τs τ ⟨i, h, _⟩ => by rw [h]; rfl) fun cdv A outer s H E τs τ hr ⟨i, h1, h2⟩ => ?_
  subst h1 h2
  cases i <;>
    refine bd_ret (ev_ifE (et_inT (ss := ["end", "off"]) (ev_ix (ev_name 0 rfl (.inl rfl) rfl) ev_int rfl) (ev_tup (eds_cons ev_str (eds_cons ev_str eds_nil)) (by decide)) rfl rfl) (fun h => ?_) (fun h => ?_)) <;>
    first
      | exact absurd h (by decide +kernel)
      | exact ev_int
      | exact ev_ix (ev_name 0 rfl (.inl rfl) rfl) (ev_neg ev_int) rfl
end
end EC

set_option Elab.async false
set_option linter.all false
set_option maxRecDepth 100000
set_option maxHeartbeats 4000000
/-! EcE: more rules of pure bodies: match, unpacking, slices and sums of tuples and lists, dicts with plain keys, index. -/
namespace EC
open PySem PySem.Spec PyProof.Rows L2

section
variable {X : Cx} {Γ : List (Option Ty)} {e a b c : Expr} {es : List Expr} {pos p p2 p3 : Pos} {τ τ1 : Ty} {x y z : Str} {rest body : List Stmt}
/-! slices, sums -/
theorem ev_sliceT {ds : List PyData} {lo hi : Option Expr} {l u : Option Int} (ha : EV X Γ a (isD X.K (.tuple ds))) (hl : EO X Γ lo l) (hu : EO X Γ hi u) : EV X Γ (.Subscript a (.Slice lo hi none p2) pos) (isD X.K (.tuple (cutD ds l u))) := by
  obtain ⟨t1, p1, q1⟩ := hl.run
  obtain ⟨t2, p2', q2⟩ := hu.run
  exact .of (pe_slice sl_tupA pe_w p1 p2') fun σ H g => ha.use g fun v H1 s1 r1 => q1 σ H1 (g.up s1) _ fun H2 s2 => q2 σ H2 ((g.up s1).up s2) _ fun H3 s3 => by
    obtain ⟨q, xs, rfl, hq, hx⟩ := dp_tup r1
    refine ⟨q, xs, rfl, sqT_up (s2.trans s3) hq, fun hw => ⟨s1.trans (s2.trans s3), .tup (sqT_up (s2.trans s3) hq) ?_⟩, fun _ l hl => ⟨s1.trans (s2.trans (s3.trans (same_new hl))), .tup (SqT.of upd_same) (dpAll_cut (dpAll_up (s2.trans (s3.trans (same_new hl))) _ _ hx) _ _)⟩⟩
    have e1 := dpAll_cut (dpAll_up (s2.trans s3) _ _ hx) l u
    have e2 : cutV xs l u = xs := by
      unfold cutV
      rw [hw.1, hw.2]
      simp
    rw [e2] at e1
    exact e1
theorem ev_catT {ds es' : List PyData} (ha : EV X Γ a (isD X.K (.tuple ds))) (hb : EV X Γ b (isD X.K (.tuple es'))) (hl : ds.length + es'.length ≤ 100000) : EV X Γ (.BinOp a .Add b pos) (isD X.K (.tuple (ds ++ es'))) :=
  .of (pe_op op_catA pe_w pe_w) fun σ H g => ha.use g fun v H1 s1 r1 => hb.use (g.up s1) fun u H2 s2 r2 => by
    obtain ⟨q, xs, rfl, hq, hx⟩ := dp_tup r1
    obtain ⟨q2, ys, rfl, hq2, hy⟩ := dp_tup r2
    have l1 := dpAll_len hx
    have l2 := dpAll_len hy
    refine ⟨q, q2, xs, ys, rfl, rfl, sqT_up s2 hq, hq2, by rw [l1, l2]; exact sz_of hl, fun e => ⟨s1.trans s2, ?_⟩, fun _ e => ⟨s1.trans s2, ?_⟩, fun _ _ l hl => ⟨s1.trans (s2.trans (same_new hl)), .tup (SqT.of upd_same) (dpAll_app (dpAll_up (s2.trans (same_new hl)) _ _ hx) (dpAll_up (same_new hl) _ _ hy))⟩⟩
    · subst e
      cases hx
      exact .tup hq2 hy
    · subst e
      cases hy
      rw [List.append_nil]
      exact .tup (sqT_up s2 hq) (dpAll_up s2 _ _ hx)
/-- index of a text in a list of texts -/
theorem eqV_str {s t : Str} : eqV (V.str s) (V.str t) = decide (s = t) := by
  first | rfl | (unfold eqV; simp) | (simp [eqV])
theorem ev_index {ss : List Str} {j : Nat} (ha : EV X Γ a (isD X.K (.list (ss.map PyData.str)))) (hb : EV X Γ b (isD X.K (.str x))) (hj : ss[j]? = some x) (hn : ∀ (m : Nat) (z : Str), m < j → ss[m]? = some z → z ≠ x)
    (hpe : PE X (.Call (.Attribute a "index" p2) [b] [] pos) (tBM X.K "list" (rIndex X.K) (wE X a) (tCons (wE X b) tNil)) := by exact pe_bm PySem.F.plainAttrs_list PySem.F.slot_list_index PySem.F.type_list_index mt_index pe_w (pa_cons pe_w pa_nil)) :
    EV X Γ (.Call (.Attribute a "index" p2) [b] [] pos) (isD X.K (.int (j : Nat))) :=
  .of hpe fun σ H g => ha.use g fun v H1 s1 r1 => by
    obtain ⟨q, xs, rfl, hq, hx⟩ := dp_lst r1
    cases dpAll_strs hx
    refine ⟨.inl ⟨rfl, _, hq⟩, hb.use (g.up s1) fun u H2 s2 r2 => ?_⟩
    cases dp_str r2
    refine ⟨q, _, .str x, j, .str x, rfl, rfl, sqL_up s2 hq, rfl, flat_strs ss, by rw [List.getElem?_map, hj]; rfl, by rw [eqV_str]; simp, fun m z' hm hz => ?_, s1.trans s2, .int _⟩
    rw [List.getElem?_map] at hz
    cases e : ss[m]? with
    | none => rw [e] at hz; cases hz
    | some t =>
      rw [e] at hz
      cases hz
      rw [eqV_str]
      exact decide_eq_false (hn m t hm e)

/-! dicts with ints or texts as keys -/
def isK (kvs : List (Key × V)) : Ty := ⟨fun H v => ∃ d, v = .ref d ∧ H d = some (.dK kvs), fun e ⟨d, h1, h2⟩ => ⟨d, h1, e _ _ h2⟩⟩
/-- a datum without parts, as a value -/
def flD : V → PyData
  | .int i => .int i
  | .str s => .str s
  | .bl k => .bool k
  | _ => .none
theorem ev_dget {kvs : List (Key × V)} {i : Int} (hu : X.A.units + 1 < cLine) (ha : EV X Γ a (isK kvs)) (hb : EV X Γ b (isD X.K (.str x))) (hv : valV kvs (.inr x) = some (.int i)) (hs : NoSl b := by intro _ _; rfl) : EV X Γ (.Subscript a b pos) (isD X.K (.int i)) :=
  .of (pe_dget hu pe_w pe_w hs) fun σ H g => ha.use g fun v H1 s1 r1 => hb.use (g.up s1) fun u H2 s2 r2 => by
    obtain ⟨d, rfl, hd⟩ := r1
    cases dp_str r2
    have q := DGet.k (k := Sum.inr x) (s2 _ _ hd)
    rw [hv] at q
    exact ⟨d, .int i, rfl, q, s1.trans s2, .int i⟩
theorem ev_dgetOr {kvs : List (Key × V)} {i j k : Int} (hu : X.A.units + 1 < cLine) (ha : EV X Γ a (isK kvs)) (hb : EV X Γ b (isD X.K (.int i))) (hc : EV X Γ c (isD X.K (.int j))) (hv : (valV kvs (.inl i)).getD (.int j) = .int k)
    (m : M2 X a "get" p2 b c pos := by exact ⟨rfl, rfl, rfl, rfl⟩) : EV X Γ (.Call (.Attribute a "get" p2) [b, c] [] pos) (isD X.K (.int k)) :=
  .of (pe_dget2 hu pe_w pe_w pe_w m) fun σ H g => ha.use g fun v H1 s1 r1 => by
    obtain ⟨d, rfl, hd⟩ := r1
    refine ⟨d, rfl, .inl ⟨kvs, .inl hd⟩, hb.use (g.up s1) fun u H2 s2 r2 => hc.use ((g.up s1).up s2) fun w H3 s3 r3 => ?_⟩
    cases dp_int r2
    cases dp_int r3
    exact ⟨_, DGet.k (k := Sum.inl i) ((s2.trans s3) _ _ hd), s1.trans (s2.trans s3), by rw [hv]; exact .int k⟩

/-- a value of a dict that a comprehension makes -/
def dcD (n : Nat) (k : Nat → Key) (v : Nat → V) : List (Key × V) := (List.range n).foldl (fun acc i => putK acc (k i) (v i)) []
theorem dcD_succ (n : Nat) (k : Nat → Key) (v : Nat → V) : dcD (n + 1) k v = putK (dcD n k v) (k n) (v n) := by
  unfold dcD
  rw [List.range_succ, List.foldl_append]
  rfl
theorem dcD_len (k : Nat → Key) (v : Nat → V) : ∀ n, (dcD n k v).length ≤ n
  | 0 => Nat.le_refl _
  | n + 1 => by
    rw [dcD_succ]
    have h1 := dcD_len k v n
    have h2 := length_putK (dcD n k v) (k n) (v n)
    omega
/-- the last one with the key wins -/
theorem dcD_val (k : Nat → Key) (v : Nat → V) : ∀ n (j : Nat), j < n → (∀ i, i < n → k i = k j → i = j) → valV (dcD n k v) (k j) = some (v j)
  | 0, j, h, _ => by omega
  | n + 1, j, h, u => by
    rw [dcD_succ, valV_put]
    by_cases e : j = n
    · subst e
      rw [if_pos rfl]
    · rw [if_neg (fun q => e (u n (by omega) q.symm).symm)]
      exact dcD_val k v n j (by omega) fun i hi => u i (by omega)
theorem dcD_none (k : Nat → Key) (v : Nat → V) (x : Key) : ∀ n, (∀ i, i < n → k i ≠ x) → valV (dcD n k v) x = none
  | 0, _ => rfl
  | n + 1, h => by
    rw [dcD_succ, valV_put, if_neg (fun q => h n (by omega) q.symm)]
    exact dcD_none k v x n fun i hi => h i (by omega)
def kD : Key → PyData
  | .inl i => .int i
  | .inr x => .str x
theorem kD_of {K : PySem.W.Frag} {H : Hp} {v : V} {k : Key} (h : Dp K H v (kD k)) : v = kV k := by
  cases k with
  | inl i => exact dp_int h
  | inr s => exact dp_str h
theorem ev_dc {tg iter kx vx : Expr} {scope : Scope} {n : Nat} {Γi : Nat → List (Option Ty)} {k : Nat → Key} {v : Nat → V} (own : List (Str × Nat)) (hc : X.calm = true) (hN : X.N.Nodup) (ok : BlkOk X.N X.env.scope scope own) (src : Src X Γ tg iter scope (own.map (·.2)) n Γi)
    (hk : ∀ s H C cl fp i, i < n → EV (bx X scope s H C cl fp) (Γi i) kx (isD X.K (kD (k i))))
    (hv : ∀ s H C cl fp i, i < n → EV (bx X scope s H C cl fp) (Γi i) vx (isV (v i)))
    (hn : n ≤ 100000) (hs : ∀ x, foldedSetIterable iter X.env x = pure x := by intro _; rfl) :
    EV X Γ (.DictComp kx vx [⟨tg, iter, [], 0⟩] scope pos) (isK (dcD n k v)) := by
  obtain ⟨wi, g, hi, hg, run⟩ := src.ex
  refine .of (pe_dc (tk := fun σ' H' Q => ∀ s H C cl fp, wE (bx X scope s H C cl fp) kx σ' H' Q) (tv := fun σ' H' Q => ∀ s H C cl fp, wE (bx X scope s H C cl fp) vx σ' H' Q) (tt := tYes) hc hN hi ok hg
    (fun _ _ _ _ _ => pts_nil) (fun s H C cl fp => ⟨fun pins s' σ' H' Q I h => h s H C cl fp pins s' I⟩) (fun s H C cl fp => ⟨fun pins s' σ' H' Q I h => h s H C cl fp pins s' I⟩) hs) fun σ H g0 => ?_
  refine run σ H g0 _ fun J H1 G Y s1 wk hG hY => ?_
  intro D hD
  refine ⟨fun i m H' => m = n - i ∧ i ≤ n ∧ Same H1 H' ∧ H' D = some (.dK (dcD i k v)), ⟨n, by simp, Nat.zero_le _, same_new hD, upd_same⟩, ?_⟩
  rintro i m Ha ⟨rfl, hin, s2, hDa⟩
  by_cases hlt : i < n
  · refine .inr ⟨wk.goes i Ha hlt (hG Ha s2), fun H' => Same H1 H' ∧ H' D = some (.dK (dcD (i + 1) k v)), fun H' q => ⟨n - (i + 1), by omega, rfl, hlt, q⟩, fun x Hb y => ?_⟩
    obtain ⟨s3, kk⟩ := hY i x Ha Hb hlt s2 (wk.yields i Ha x Hb hlt (hG Ha s2) y)
    refine kk _ fun σ2 g2 hw => ⟨hw, ?_⟩
    refine iteT (B := (fun H' => Same H1 H' ∧ H' D = some (.dK (dcD (i + 1) k v))) Hb) ?_
    intro s H C cl fp
    refine (hk s H C cl fp i hlt).use g2 fun v1 H3 s4 r1 => ?_
    intro s H C cl fp
    refine (hv s H C cl fp i hlt).use (g2.up s4) fun v2 H4 s5 r2 => ?_
    have s14 : Same H1 H4 := s2.trans (s3.trans (s4.trans s5))
    have hD4 : H4 D = some (.dK (dcD i k v)) := (s3.trans (s4.trans s5)) D _ hDa
    have hl := dcD_len k v i
    refine ⟨_, k i, kD_of r1, hD4, Nat.lt_of_le_of_lt (by omega : _ ≤ n) (Nat.lt_of_le_of_lt hn (by decide)), fun c o e => ?_, ?_⟩
    · rw [upd_ne (ne_of_none e hD)]
      exact s14 c o e
    · rw [upd_same, dcD_succ]
      cases r2
      rfl
  · have e : i = n := by omega
    subst e
    exact .inl ⟨wk.stops Ha (hG Ha s2), s1.trans s2, D, rfl, hDa⟩

/-! unpacking -/
theorem bd_unp3 {px py pz : Pos} {kk : Nat} {d1 d2 d3 : PyData} (i j l : Nat) (hc : X.calm = true) (hN : X.N.Nodup) (h : EV X Γ e (isD X.K (.tuple [d1, d2, d3]))) (hr : BD X (((Γ.set i (some (isD X.K d1))).set j (some (isD X.K d2))).set l (some (isD X.K d3))) rest τ)
    (hi : X.N[i]? = some x := by rfl) (hj : X.N[j]? = some y := by rfl) (hl : X.N[l]? = some z := by rfl)
    (gx : PG X (.Name x px) (gName i) := by first | exact pg_name (by assumption) rfl (.inl rfl) (.inl rfl) | exact pg_name (by assumption) rfl (.inr rfl) (.inl rfl))
    (gy : PG X (.Name y py) (gName j) := by first | exact pg_name (by assumption) rfl (.inl rfl) (.inl rfl) | exact pg_name (by assumption) rfl (.inr rfl) (.inl rfl))
    (gz : PG X (.Name z pz) (gName l) := by first | exact pg_name (by assumption) rfl (.inl rfl) (.inl rfl) | exact pg_name (by assumption) rfl (.inr rfl) (.inl rfl))
    (hs : swapsWithSole [.Tuple [.Name x px, .Name y py, .Name z pz] kk p] e pos.line X.env = pure false := by rfl) (hw : swappedStores [.Tuple [.Name x px, .Name y py, .Name z pz] kk p] e X.env = pure none := by rfl) :
    BD X Γ (.Assign [.Tuple [.Name x px, .Name y py, .Name z pz] kk p] e pos :: rest) τ :=
  ⟨fun σ H D g k => wB_cons (wS_of (ps_asg pe_w (pg_tup (n := 3) hc (pgs_cons gx (pgs_cons gy (pgs_cons gz pgs_nil)))) hs hw) (h.use g fun v H1 s1 r1 => by
    obtain ⟨a, xs, rfl, hq, hx⟩ := dp_tup r1
    cases hx with
    | cons h1 hx =>
      cases hx with
      | cons h2 hx =>
        cases hx with
        | cons h3 hx =>
          cases hx
          exact ⟨a, _, rfl, hq, rfl, _, _, rfl, _, _, rfl, _, _, rfl, rfl, hr.run _ H1 D ((((g.up s1).set i h1).set j h2).set l h3) fun u H2 s2 q2 => k u H2 (s1.trans s2) q2⟩))⟩
theorem bd_unp2 {px py : Pos} {kk : Nat} {d1 d2 : PyData} (i j : Nat) (hc : X.calm = true) (hN : X.N.Nodup) (h : EV X Γ e (isD X.K (.tuple [d1, d2]))) (hr : BD X ((Γ.set i (some (isD X.K d1))).set j (some (isD X.K d2))) rest τ)
    (hi : X.N[i]? = some x := by rfl) (hj : X.N[j]? = some y := by rfl)
    (gx : PG X (.Name x px) (gName i) := by first | exact pg_name (by assumption) rfl (.inl rfl) (.inl rfl) | exact pg_name (by assumption) rfl (.inr rfl) (.inl rfl))
    (gy : PG X (.Name y py) (gName j) := by first | exact pg_name (by assumption) rfl (.inl rfl) (.inl rfl) | exact pg_name (by assumption) rfl (.inr rfl) (.inl rfl))
    (hs : swapsWithSole [.Tuple [.Name x px, .Name y py] kk p] e pos.line X.env = pure false := by rfl) (hw : swappedStores [.Tuple [.Name x px, .Name y py] kk p] e X.env = pure none := by rfl) :
    BD X Γ (.Assign [.Tuple [.Name x px, .Name y py] kk p] e pos :: rest) τ :=
  ⟨fun σ H D g k => wB_cons (wS_of (ps_asg pe_w (pg_tup (n := 2) hc (pgs_cons gx (pgs_cons gy pgs_nil))) hs hw) (h.use g fun v H1 s1 r1 => by
    obtain ⟨a, xs, rfl, hq, hx⟩ := dp_tup r1
    cases hx with
    | cons h1 hx =>
      cases hx with
      | cons h2 hx =>
        cases hx
        exact ⟨a, _, rfl, hq, rfl, _, _, rfl, _, _, rfl, rfl, hr.run _ H1 D (((g.up s1).set i h1).set j h2) fun u H2 s2 q2 => k u H2 (s1.trans s2) q2⟩))⟩
/-- x, y = a, b -/
theorem bd_par {px py p4 : Pos} {kk k2 : Nat} {τ2 : Ty} (i j : Nat) (hc : X.calm = true) (hN : X.N.Nodup) (hij : i ≠ j) (ha : EV X Γ a τ1) (hb : EV X Γ b τ2) (hr : BD X ((Γ.set i (some τ1)).set j (some τ2)) rest τ)
    (hi : X.N[i]? = some x := by rfl) (hj : X.N[j]? = some y := by rfl) (hx : X.env.scope.names.lookup x = some .local := by rfl) (hy : X.env.scope.names.lookup y = some .local := by rfl)
    (hw : swappedStores [.Tuple [.Name x px, .Name y py] kk p] (.Tuple [a, b] k2 p4) X.env = pure (some [x, y]) := by rfl) (hs : swapsWithSole [.Tuple [.Name x px, .Name y py] kk p] (.Tuple [a, b] k2 p4) pos.line X.env = pure false := by rfl)
    (he : starEach [a, b] X.env = (false, eval a X.env) :: starEach [b] X.env := by rfl) (he2 : starEach [b] X.env = (false, eval b X.env) :: starEach [] X.env := by rfl) :
    BD X Γ (.Assign [.Tuple [.Name x px, .Name y py] kk p] (.Tuple [a, b] k2 p4) pos :: rest) τ :=
  ⟨fun σ H D g k => wB_cons (wS_of (ps_par hc hN hi hj hij hx hy (pa_cons pe_w (pa_cons pe_w pa_nil he2) he) hw hs) (ha.use g fun v H1 s1 r1 => hb.use (g.up s1) fun u H2 s2 r2 =>
    ⟨v, u, rfl, hr.run _ H2 D (((g.up (s1.trans s2)).set i (τ1.up s2 r1)).set j r2) fun w H3 s3 q3 => k w H3 (s1.trans (s2.trans s3)) q3⟩))⟩
end

/-! ### match over a text -/
structure BC (X : Cx) (Γ : List (Option Ty)) (x : Str) (cs : List MatchCase) (τ : Ty) : Prop where
  run : ∀ σ H (D : Ends) (t : Tok) (fst : Bool), Env Γ σ H → (∀ v H', Same H H' → τ.p H' v → D.rt v H') → ∀ (pins : List (Addr × Obj)) (s : Shared), Inv X pins σ H s → wpAny (model X.prog X.w) X.A (matchCases cs X.env (.str x t) fst) (SP X pins D) X.xe s
section
variable {X : Cx} {Γ : List (Option Ty)} {e : Expr} {pos p p2 : Pos} {τ : Ty} {x y : Str} {rest body : List Stmt} {cs : List MatchCase} {j : Nat}
theorem bd_match (h : EV X Γ e (isD X.K (.str x))) (hc : BC X Γ x cs τ) : BD X Γ (.Match e cs pos :: rest) τ := by
  refine ⟨fun σ H D g k pins s I => wpAny_execs_cons (wpAny_Match (thn (h.run σ H g pins s I) fun u s1 ⟨v, H1, I1, r, s2, q⟩ => ?_))⟩
  cases dp_str q
  obtain ⟨t, rfl⟩ := r
  refine thn (hc.run σ H1 { D with nx := fun _ _ => False, bk := D.bk } t true (g.up s2) (fun w H2 s3 q3 => k w H2 (s2.trans s3) q3) pins s1 I1) fun f s3 z => ?_
  cases f with
  | next => exact (let ⟨_, _, _, z⟩ := z; z).elim
  | ret u => exact z
  | brk => exact z
  | cont => exact z
theorem bc_hit (hb : BD X Γ body τ) (e : x = y) : BC X Γ x (⟨.MatchValue (.Constant (.str y) j p) p2, none, body⟩ :: cs) τ := by
  subst e
  refine ⟨fun σ H D t fst g k pins s I => wpAny_matchCases_cons (wpAny_matchPattern_Value ?_)⟩
  refine thn ((pe_str (X := X)).run pins s σ H (fun v H' => v = .str x ∧ H' = H) I ⟨rfl, rfl⟩) fun u s1 ⟨v, H1, I1, r, e1, e2⟩ => ?_
  subst e1 e2
  obtain ⟨t2, rfl⟩ := r
  refine thn (op_eq (X := X) pins s1 σ H1 (.str x) (.str x) (.str x t) (.str x t2) (fun v H' => v = .bl true ∧ H' = H1) I1 ⟨t, rfl⟩ ⟨t2, rfl⟩ ⟨rfl, by rw [str_dec]; simp, rfl⟩) fun u s2 ⟨v, H2, I2, r, e1, e2⟩ => ?_
  subst e1 e2
  cases r
  refine wpAny_truthy_bool ?_
  show wpAny _ _ _ _ _ _
  exact assignInOrder_nil (hb.run σ H2 D g k pins s2 I2)
theorem bc_miss (hb : BC X Γ x cs τ) (ne : x ≠ y) : BC X Γ x (⟨.MatchValue (.Constant (.str y) j p) p2, none, body⟩ :: cs) τ := by
  refine ⟨fun σ H D t fst g k pins s I => wpAny_matchCases_cons (wpAny_matchPattern_Value ?_)⟩
  refine thn ((pe_str (X := X)).run pins s σ H (fun v H' => v = .str y ∧ H' = H) I ⟨rfl, rfl⟩) fun u s1 ⟨v, H1, I1, r, e1, e2⟩ => ?_
  subst e1 e2
  obtain ⟨t2, rfl⟩ := r
  refine thn (op_eq (X := X) pins s1 σ H1 (.str x) (.str y) (.str x t) (.str y t2) (fun v H' => v = .bl false ∧ H' = H1) I1 ⟨t, rfl⟩ ⟨t2, rfl⟩ ⟨rfl, by rw [str_dec]; simp [ne], rfl⟩) fun u s2 ⟨v, H2, I2, r, e1, e2⟩ => ?_
  subst e1 e2
  cases r
  refine wpAny_truthy_bool ?_
  exact hb.run σ H2 D t false g k pins s2 I2
theorem bc_any (hb : BD X Γ body τ) : BC X Γ x (⟨.MatchAs none none p, none, body⟩ :: cs) τ := by
  refine ⟨fun σ H D t fst g k pins s I => wpAny_matchCases_cons (wpAny_matchPattern_Capture ?_)⟩
  exact assignInOrder_nil (hb.run σ H D g k pins s I)
end
end EC

set_option Elab.async false
set_option linter.all false
set_option maxRecDepth 100000
set_option maxHeartbeats 4000000
/-! EcF2: expressions and cells. -/
namespace EC
open PySem PySem.Spec PyProof.Rows L2

/-! plain facts -/
theorem valsOk_len : ∀ {cs : List Cell} {vs : List Int}, valsOk cs vs → vs.length = cs.length
  | [], [], _ => rfl
  | _ :: cs, _ :: vs, h => by simp [valsOk_len (cs := cs) (vs := vs) h.2]
theorem idx_lt {P : Prg} {x : Str} (h : x ∈ P.cells.map (·.name)) : P.idx x < P.cells.length := by
  obtain ⟨c, hc, rfl⟩ := List.mem_map.mp h
  exact List.findIdx_lt_length_of_exists ⟨c, hc, by simp⟩
theorem idx_at {P : Prg} {x : Str} (h : x ∈ P.cells.map (·.name)) : P.cells[P.idx x]? = some (P.cell x) ∧ (P.cell x).name = x := by
  have hl := idx_lt h
  have e : P.cells[P.idx x]? = some P.cells[P.idx x] := List.getElem?_eq_getElem hl
  have e2 : P.cell x = P.cells[P.idx x] := by
    unfold Prg.cell
    rw [List.getD_eq_getElem?_getD, e]
    rfl
  refine ⟨by rw [e2]; exact e, ?_⟩
  rw [e2]
  have q := List.findIdx_getElem (p := fun c : Cell => decide (c.name = x)) (xs := P.cells) (w := hl)
  exact of_decide_eq_true q
theorem idx_first {P : Prg} {x : Str} (m : Nat) (hm : m < P.idx x) (c : Cell) (hc : P.cells[m]? = some c) : c.name ≠ x := by
  intro e
  have hl : m < P.cells.length := (List.getElem?_eq_some_iff.mp hc).1
  have q := List.not_of_lt_findIdx (p := fun c : Cell => decide (c.name = x)) (xs := P.cells) hm
  have e2 : P.cells[m] = c := (List.getElem?_eq_some_iff.mp hc).2
  rw [e2] at q
  rw [decide_eq_true e] at q
  cases q
theorem idx_uniq {P : Prg} (hP : P.Ok) {i : Nat} {c : Cell} (h : P.cells[i]? = some c) : P.idx c.name = i := by
  have hm : c.name ∈ P.cells.map (·.name) := List.mem_map.mpr ⟨c, List.mem_of_getElem? h, rfl⟩
  obtain ⟨h1, h2⟩ := idx_at hm
  have a1 : (P.cells.map (·.name))[P.idx c.name]? = some c.name := by rw [List.getElem?_map, h1]; exact congrArg some h2
  have a2 : (P.cells.map (·.name))[i]? = some c.name := by rw [List.getElem?_map, h]; rfl
  exact nd_ix hP.names a1 a2
theorem ins_at {P : Prg} {p : Nat} (h : p < P.code.length) : P.code[p]? = some (P.ins p) := by
  unfold Prg.ins
  rw [List.getD_eq_getElem?_getD, List.getElem?_eq_getElem h]
  rfl
theorem ix_code {P : Prg} {p : Nat} (h : p < P.code.length) : atI (P.code.map Ins.d) (p : Int) = some (P.ins p).d := atI_nat (by rw [List.getElem?_map, ins_at h]; rfl)
theorem ix_cell {P : Prg} {x : Str} (h : x ∈ P.cells.map (·.name)) : atI (P.cells.map Cell.d) (P.idx x : Int) = some (P.cell x).d := atI_nat (by rw [List.getElem?_map, (idx_at h).1]; rfl)
theorem cell_ok {P : Prg} (hP : P.Ok) {x : Str} (h : x ∈ P.cells.map (·.name)) : (P.cell x).ok := hP.cell _ (List.mem_of_getElem? (idx_at h).1)
theorem getD_map {α : Type} {f : α → PyData} {l : List α} {k : Nat} {a : α} (h : l[k]? = some a) : (l.map f).getD k .none = f a := by
  rw [List.getD_eq_getElem?_getD, List.getElem?_map, h]
  rfl
theorem val_at {vs : List Int} {k : Nat} (h : k < vs.length) : vs[k]? = some (vs.getD k 0) := by
  rw [List.getD_eq_getElem?_getD, List.getElem?_eq_getElem h]
  rfl
theorem cell_at {cs : List Cell} {k : Nat} (h : k < cs.length) : cs[k]? = some (cs.getD k ⟨"", "", 0, 0⟩) := by
  rw [List.getD_eq_getElem?_getD, List.getElem?_eq_getElem h]
  rfl
theorem lf_cell (c : Cell) : lf c.d = true := rfl
theorem lf_atm (a : Atm) : lf a.d = true := by cases a <;> rfl
theorem lf_ex (e : Ex) : lf e.d = true := by cases e <;> simp [Ex.d, lf, lfs, lf_atm]
theorem lf_tst (e : Tst) : lf e.d = true := by cases e <;> simp [Tst.d, lf, lfs, lf_atm]
theorem lf_ins (i : Ins) : lf i.d = true := by cases i <;> simp [Ins.d, lf, lfs, lf_ex, lf_tst]
theorem lf_prg {P : Prg} (h : P.Ok) : lf P.d = true := by
  simp only [Prg.d, lf, lfs, h.told, Bool.and_true, Bool.and_eq_true]
  exact ⟨lfs_of fun d hd => by obtain ⟨c, _, rfl⟩ := List.mem_map.mp hd; exact lf_cell c, lfs_of fun d hd => by obtain ⟨c, _, rfl⟩ := List.mem_map.mp hd; exact lf_ins c⟩
theorem lf_mom (m : Mom) : lf m.d = true := by simp [Mom.d, intsD, lf, lfs, lfs_ints]

/-- the cells' values by their names -/
def envK (P : Prg) (vs : List Int) : List (Key × V) := dcD P.cells.length (fun i => .inr (P.cells.getD i ⟨"", "", 0, 0⟩).name) (fun i => .int (vs.getD i 0))
theorem envK_val {P : Prg} (hP : P.Ok) (vs : List Int) {x : Str} (h : x ∈ P.cells.map (·.name)) : valV (envK P vs) (.inr x) = some (.int (P.val vs x)) := by
  have hl := idx_lt h
  have e : ∀ i, i < P.cells.length → P.cells[i]? = some (P.cells.getD i ⟨"", "", 0, 0⟩) := fun i hi => cell_at hi
  have e2 : (P.cells.getD (P.idx x) ⟨"", "", 0, 0⟩).name = x := (idx_at h).2
  have q := dcD_val (fun i => Sum.inr (P.cells.getD i ⟨"", "", 0, 0⟩).name) (fun i => V.int (vs.getD i 0)) P.cells.length (P.idx x) hl fun i hi q => by
    have q' : (P.cells.getD i ⟨"", "", 0, 0⟩).name = x := by injection q with q; rw [e2] at q; exact q
    rw [← q']
    exact (idx_uniq hP (e i hi)).symm
  rw [show (Sum.inr (P.cells.getD (P.idx x) ⟨"", "", 0, 0⟩).name : Key) = Sum.inr x by rw [e2]] at q
  exact q

/-! lists by places -/
theorem range_getD {α : Type} (d : α) (l : List α) : (List.range l.length).map (fun i => l.getD i d) = l := by
  apply List.ext_getElem?
  intro k
  rw [List.getElem?_map]
  by_cases h : k < l.length
  · rw [List.getElem?_range h]
    simp [List.getD_eq_getElem?_getD, h]
  · rw [List.getElem?_eq_none (by simpa using h), List.getElem?_eq_none (by simpa using h)]
    rfl
theorem filter_congr' {α : Type} {q r : α → Bool} {l : List α} (h : ∀ x ∈ l, q x = r x) : l.filter q = l.filter r := by
  induction l with
  | nil => rfl
  | cons a l ih =>
    rw [List.filter_cons, List.filter_cons, h a (by simp), ih fun x hx => h x (by simp [hx])]
theorem lcD_congr {n : Nat} {b b' : Nat → Bool} {f f' : Nat → PyData} (hb : ∀ i, i < n → b i = b' i) (hf : ∀ i, i < n → b i = true → f i = f' i) : lcD n b f = lcD n b' f' := by
  unfold lcD
  rw [filter_congr' (r := b') fun x hx => hb x (List.mem_range.mp hx)]
  refine List.map_congr_left fun x hx => ?_
  obtain ⟨h1, h2⟩ := List.mem_filter.mp hx
  exact hf x (List.mem_range.mp h1) (by rw [hb x (List.mem_range.mp h1)]; exact h2)
theorem lcD_list {α : Type} (d : α) (l : List α) (q : α → Bool) (g : α → PyData) : lcD l.length (fun i => q (l.getD i d)) (fun i => g (l.getD i d)) = (l.filter q).map g := by
  have e := range_getD d l
  unfold lcD
  conv => rhs; rw [← e]
  rw [List.filter_map, List.map_map]
  rfl
theorem lcD_all {α : Type} (d : α) (l : List α) (g : α → PyData) : lcD l.length (fun _ => true) (fun i => g (l.getD i d)) = l.map g := by
  have h := lcD_list d l (fun _ => true) g
  rw [List.filter_eq_self.mpr (fun _ _ => rfl)] at h
  exact h
theorem zip_getD {α β : Type} (d : α) (e : β) {l : List α} {r : List β} (h : l.length = r.length) {k : Nat} (hk : k < l.length) : (l.zip r).getD k (d, e) = (l.getD k d, r.getD k e) := by
  have hk2 : k < r.length := by omega
  have h1 : (l.zip r)[k]? = some (l[k], r[k]) := by rw [List.getElem?_eq_getElem (by rw [List.length_zip]; omega), List.getElem_zip]
  rw [List.getD_eq_getElem?_getD, h1, List.getD_eq_getElem?_getD, List.getD_eq_getElem?_getD, List.getElem?_eq_getElem hk, List.getElem?_eq_getElem (by omega : k < r.length)]
  rfl
theorem lcD_zip {α β : Type} (d : α) (e : β) {l : List α} {r : List β} (h : l.length = r.length) (q : α → β → Bool) (g : α → β → PyData) : lcD l.length (fun i => q (l.getD i d) (r.getD i e)) (fun i => g (l.getD i d) (r.getD i e)) = ((l.zip r).filter fun p => q p.1 p.2).map fun p => g p.1 p.2 := by
  have hl : (l.zip r).length = l.length := by simp [h]
  rw [← lcD_list (d, e) (l.zip r), hl]
  refine lcD_congr (fun i hi => ?_) (fun i hi _ => ?_) <;> rw [zip_getD d e h hi]
theorem savedOf_zip : ∀ (cs : List Cell) (vs : List Int), ((cs.zip vs).filter fun p => p.1.sv).map (fun p => PyData.int p.2) = (savedOf cs vs).map PyData.int
  | [], vs => by cases vs <;> rfl
  | _ :: _, [] => rfl
  | c :: cs, v :: vs => by
    have ih := savedOf_zip cs vs
    rw [List.zip_cons_cons, List.filter_cons]
    unfold savedOf
    by_cases h : c.sv = true
    · rw [if_pos h, if_pos h, List.map_cons, List.map_cons, ih]
    · rw [if_neg h, if_neg h, ih]
theorem cut_take {ds : List PyData} {k : Nat} (h : k ≤ ds.length) : cutD ds none (some (k : Int)) = ds.take k := by
  unfold cutD
  rw [HT.sIx_none, HT.sIx_nat, Nat.min_eq_left h]
  simp
theorem cut_drop {ds : List PyData} {k : Nat} (h : k ≤ ds.length) : cutD ds (some (k : Int)) none = ds.drop k := by
  unfold cutD
  rw [HT.sIx_none, HT.sIx_nat, Nat.min_eq_left h]
  exact List.take_of_length_le (by simp)
theorem set_split {α : Type} (v : α) : ∀ (l : List α) (k : Nat), k < l.length → l.take k ++ v :: l.drop (k + 1) = l.set k v
  | _ :: _, 0, _ => rfl
  | a :: l, k + 1, h => by
    have ih := set_split v l k (by simpa using h)
    simp only [List.take_succ_cons, List.drop_succ_cons, List.set_cons_succ, List.cons_append, ih]

section
variable {P : Program} {w : World} {K : PySem.W.Frag} {mg : Str → Option Value} {base : Heap}

def RvalsBy (K : PySem.W.Frag) : List Ty → Ty → Prop := fun τs τ => ∃ (p : Prg) (vs : List Int), p.Ok ∧ vs.length = p.cells.length ∧ τs = [isD K p.d, isD K (intsD vs)] ∧ τ = isK (envK p vs)
theorem sc_valsBy : FnScope ["program", "values", "cell", "value"] ["program", "values"] (defScope (top 9)) := ⟨rfl, rfl, rfl, by decide +kernel, rfl, by decide +kernel, by decide +kernel⟩
theorem isD_int {K : PySem.W.Frag} {X : Cx} {Γ : List (Option Ty)} {e : Expr} {i : Int} (h : EV X Γ e (isD K (.int i))) : EV X Γ e (isV (.int i)) := ⟨fun σ H g => wE_mono (h.run σ H g) fun v H' ⟨s, q⟩ => ⟨s, dp_int q⟩⟩
theorem ok_valsBy {f : Addr} {fd : FuncData} (F : Fun K "values_by_name" "values_by_name" (top 9) f fd) (B : Bi mg) : FnOk P w K mg base CX0 1 f fd ["program", "values"] (spF (RvalsBy K)) := by
  refine fn_bd F sc_valsBy (fun τs τ ⟨_, _, _, _, h, _⟩ => by rw [h]; rfl) fun cdv A outer s H E τs τ hr ⟨p, vs, hp, hl, h1, h2⟩ => ?_
  subst h1 h2
  have nd := sc_valsBy.nd
  refine bd_ret ?_
  unfold envK
  rw [← List.length_map (as := p.cells) Cell.d]
  refine ev_dc [("cell", 2), ("value", 3)] rfl nd (blkOk_by (N := ["program", "values", "cell", "value"]) (sc := defScope (top 9)) (by decide +kernel)) (src_zipTT 2 3 B.zip (ev_ix (ev_name 0 rfl (.inl rfl) rfl) ev_int rfl) (ev_name 1 rfl (.inl rfl) rfl) (by simp [hl]) (fun _ _ _ _ _ => pg_tup rfl (pgs_cons (pg_name nd rfl (.inl rfl)) (pgs_cons (pg_name nd rfl (.inl rfl)) pgs_nil)))) (fun _ _ _ _ _ i hi => ?_) (fun _ _ _ _ _ i hi => ?_) (by have := hp.ncell; simp; omega)
  · rw [List.length_map] at hi
    refine ev_ix (ds := [.str (p.cells.getD i ⟨"", "", 0, 0⟩).name, .str (p.cells.getD i ⟨"", "", 0, 0⟩).kind, .int (p.cells.getD i ⟨"", "", 0, 0⟩).top, .int (p.cells.getD i ⟨"", "", 0, 0⟩).start]) (ev_name 2 rfl (.inl rfl) ?_) ev_int rfl
    exact congrArg (fun d => some (some (isD K d))) (getD_map (f := Cell.d) (cell_at hi))
  · rw [List.length_map] at hi
    refine isD_int (K := K) (ev_name 3 rfl (.inl rfl) ?_)
    exact congrArg (fun d => some (some (isD K d))) (getD_map (f := PyData.int) (val_at (by rw [hl]; exact hi)))

/-! sum_value -/
def RsumA (K : PySem.W.Frag) : List Ty → Ty → Prop := fun τs τ => ∃ (p : Prg) (vs : List Int) (a : Atm), p.Ok ∧ a.ok p ∧ τs = [isD K a.d, isK (envK p vs)] ∧ τ = isD K (.int (a.val p vs))
def Rsum (K : PySem.W.Frag) : List Ty → Ty → Prop := fun τs τ => ∃ (p : Prg) (vs : List Int) (a : Ex), p.Ok ∧ a.ok p ∧ τs = [isD K a.d, isK (envK p vs)] ∧ τ = isD K (.int (a.val p vs))
abbrev N10 : List Str := ["expression", "known", "word", "first", "second", "one", "other"]
theorem sc_sum : FnScope N10 ["expression", "known"] (defScope (top 10)) := ⟨rfl, rfl, rfl, by decide +kernel, rfl, by decide +kernel, by decide +kernel⟩
theorem ok_sumA {f : Addr} {fd : FuncData} (F : Fun K "sum_value" "sum_value" (top 10) f fd) (B : Bi mg) : FnOk P w K mg base CX0 1 f fd ["expression", "known"] (spF (RsumA K)) := by
  refine fn_bd F sc_sum (fun τs τ ⟨_, _, _, _, _, h, _⟩ => by rw [h]; rfl) fun cdv A outer s H E τs τ hr ⟨p, vs, a, hp, ha, h1, h2⟩ => ?_
  subst h1 h2
  have nd := sc_sum.nd
  cases a with
  | num n => exact bd_if (et_val (ev_isint (r := true) B (ev_name 0 rfl (.inl rfl) rfl))) (fun _ => bd_ret (ev_name 0 rfl (.inl rfl) rfl)) (fun h => nomatch h)
  | var x =>
    refine bd_if (et_val (ev_isint (r := false) B (ev_name 0 rfl (.inl rfl) rfl))) (fun h => nomatch h) fun _ => ?_
    refine bd_if (et_val (ev_isstr (r := true) B (ev_name 0 rfl (.inl rfl) rfl))) (fun _ => ?_) (fun h => nomatch h)
    exact bd_ret (ev_dget (hu_of hr) (ev_name 1 rfl (.inl rfl) rfl) (ev_name 0 rfl (.inl rfl) rfl) (envK_val hp vs ha))
theorem ok_sum {f : Addr} {fd : FuncData} (F : Fun K "sum_value" "sum_value" (top 10) f fd) (B : Bi mg) (c1 : FnS P w K mg base "sum_value" 2 1 (spF (RsumA K))) : FnOk P w K mg base CX0 2 f fd ["expression", "known"] (spF (Rsum K)) := by
  refine fn_bd F sc_sum (fun τs τ ⟨_, _, _, _, _, h, _⟩ => by rw [h]; rfl) fun cdv A outer s H E τs τ hr ⟨p, vs, a, hp, ha, h1, h2⟩ => ?_
  subst h1 h2
  have nd := sc_sum.nd
  cases a with
  | atm a =>
    cases a with
    | num n => exact bd_if (et_val (ev_isint (r := true) B (ev_name 0 rfl (.inl rfl) rfl))) (fun _ => bd_ret (ev_name 0 rfl (.inl rfl) rfl)) (fun h => nomatch h)
    | var x =>
      refine bd_if (et_val (ev_isint (r := false) B (ev_name 0 rfl (.inl rfl) rfl))) (fun h => nomatch h) fun _ => ?_
      refine bd_if (et_val (ev_isstr (r := true) B (ev_name 0 rfl (.inl rfl) rfl))) (fun _ => ?_) (fun h => nomatch h)
      exact bd_ret (ev_dget (hu_of hr) (ev_name 1 rfl (.inl rfl) rfl) (ev_name 0 rfl (.inl rfl) rfl) (envK_val hp vs ha))
  | plus a b =>
    refine bd_if (et_val (ev_isint (r := false) B (ev_name 0 rfl (.inl rfl) rfl))) (fun h => nomatch h) fun _ => ?_
    refine bd_if (et_val (ev_isstr (r := false) B (ev_name 0 rfl (.inl rfl) rfl))) (fun h => nomatch h) fun _ => ?_
    refine bd_unp3 2 3 4 rfl nd (ev_name 0 rfl (.inl rfl) rfl) ?_
    refine bd_par 5 6 rfl nd (by decide) (ev_call c1 hr (evs_cons (ev_name 3 rfl (.inl rfl) rfl) (evs_cons (ev_name 1 rfl (.inl rfl) rfl) evs_nil)) ⟨p, vs, a, hp, ha.1, rfl, rfl⟩)
      (ev_call c1 hr (evs_cons (ev_name 4 rfl (.inl rfl) rfl) (evs_cons (ev_name 1 rfl (.inl rfl) rfl) evs_nil)) ⟨p, vs, b, hp, ha.2, rfl, rfl⟩) ?_
    refine bd_if (et_eqT (ev_name 2 rfl (.inl rfl) rfl) ev_str) (fun _ => ?_) (fun h => absurd h (by decide +kernel))
    exact bd_ret (ev_add (ev_name 5 rfl (.inl rfl) rfl) (ev_name 6 rfl (.inl rfl) rfl))
  | minus a b =>
    refine bd_if (et_val (ev_isint (r := false) B (ev_name 0 rfl (.inl rfl) rfl))) (fun h => nomatch h) fun _ => ?_
    refine bd_if (et_val (ev_isstr (r := false) B (ev_name 0 rfl (.inl rfl) rfl))) (fun h => nomatch h) fun _ => ?_
    refine bd_unp3 2 3 4 rfl nd (ev_name 0 rfl (.inl rfl) rfl) ?_
    refine bd_par 5 6 rfl nd (by decide) (ev_call c1 hr (evs_cons (ev_name 3 rfl (.inl rfl) rfl) (evs_cons (ev_name 1 rfl (.inl rfl) rfl) evs_nil)) ⟨p, vs, a, hp, ha.1, rfl, rfl⟩)
      (ev_call c1 hr (evs_cons (ev_name 4 rfl (.inl rfl) rfl) (evs_cons (ev_name 1 rfl (.inl rfl) rfl) evs_nil)) ⟨p, vs, b, hp, ha.2, rfl, rfl⟩) ?_
    refine bd_if (et_eqT (ev_name 2 rfl (.inl rfl) rfl) ev_str) (fun h => absurd h (by decide +kernel)) (fun _ => ?_)
    exact bd_ret (ev_ifE (et_eqT (ev_name 2 rfl (.inl rfl) rfl) ev_str) (fun _ => ev_sub (ev_name 5 rfl (.inl rfl) rfl) (ev_name 6 rfl (.inl rfl) rfl)) (fun h => absurd h (by decide +kernel)))

/-! test_holds -/
def Rtest (K : PySem.W.Frag) : List Ty → Ty → Prop := fun τs τ => ∃ (p : Prg) (vs : List Int) (t : Tst), p.Ok ∧ t.ok p ∧ τs = [isD K t.d, isK (envK p vs)] ∧ τ = isD K (.bool (t.holds p vs))
abbrev N11 : List Str := ["test", "known", "one", "other"]
theorem sc_test : FnScope N11 ["test", "known"] (defScope (top 11)) := ⟨rfl, rfl, rfl, by decide +kernel, rfl, by decide +kernel, by decide +kernel⟩
theorem ok_test {f : Addr} {fd : FuncData} (F : Fun K "test_holds" "test_holds" (top 11) f fd) (B : Bi mg) (c1 : FnS P w K mg base "sum_value" 2 1 (spF (RsumA K))) : FnOk P w K mg base CX0 2 f fd ["test", "known"] (spF (Rtest K)) := by
  refine fn_bd F sc_test (fun τs τ ⟨_, _, _, _, _, h, _⟩ => by rw [h]; rfl) fun cdv A outer s H E τs τ hr ⟨p, vs, t, hp, ht, h1, h2⟩ => ?_
  subst h1 h2
  have nd := sc_test.nd
  cases t with
  | less a b =>
    refine bd_if (et_eqT (ev_ix (ev_name 0 rfl (.inl rfl) rfl) ev_int rfl) ev_str) (fun h => absurd h (by decide +kernel)) fun _ => ?_
    refine bd_par 2 3 rfl nd (by decide) (ev_call c1 hr (evs_cons (ev_ix (ev_name 0 rfl (.inl rfl) rfl) ev_int rfl) (evs_cons (ev_name 1 rfl (.inl rfl) rfl) evs_nil)) ⟨p, vs, a, hp, ht.1, rfl, rfl⟩)
      (ev_call c1 hr (evs_cons (ev_ix (ev_name 0 rfl (.inl rfl) rfl) ev_int rfl) (evs_cons (ev_name 1 rfl (.inl rfl) rfl) evs_nil)) ⟨p, vs, b, hp, ht.2, rfl, rfl⟩) ?_
    exact bd_ret (ev_ifE (et_eqT (ev_ix (ev_name 0 rfl (.inl rfl) rfl) ev_int rfl) ev_str) (fun _ => ev_lt (ev_name 2 rfl (.inl rfl) rfl) (ev_name 3 rfl (.inl rfl) rfl)) (fun h => absurd h (by decide +kernel)))
  | equal a b =>
    refine bd_if (et_eqT (ev_ix (ev_name 0 rfl (.inl rfl) rfl) ev_int rfl) ev_str) (fun h => absurd h (by decide +kernel)) fun _ => ?_
    refine bd_par 2 3 rfl nd (by decide) (ev_call c1 hr (evs_cons (ev_ix (ev_name 0 rfl (.inl rfl) rfl) ev_int rfl) (evs_cons (ev_name 1 rfl (.inl rfl) rfl) evs_nil)) ⟨p, vs, a, hp, ht.1, rfl, rfl⟩)
      (ev_call c1 hr (evs_cons (ev_ix (ev_name 0 rfl (.inl rfl) rfl) ev_int rfl) (evs_cons (ev_name 1 rfl (.inl rfl) rfl) evs_nil)) ⟨p, vs, b, hp, ht.2, rfl, rfl⟩) ?_
    exact bd_ret (ev_ifE (et_eqT (ev_ix (ev_name 0 rfl (.inl rfl) rfl) ev_int rfl) ev_str) (fun h => absurd h (by decide +kernel)) (fun _ => ev_eqI (ev_name 2 rfl (.inl rfl) rfl) (ev_name 3 rfl (.inl rfl) rfl)))

/-! cell_index, with_value, saved_values -/
def RcellIx (K : PySem.W.Frag) : List Ty → Ty → Prop := fun τs τ => ∃ (p : Prg) (x : Str), p.Ok ∧ x ∈ p.cells.map (·.name) ∧ τs = [isD K p.d, isD K (.str x)] ∧ τ = isD K (.int (p.idx x : Nat))
abbrev N12 : List Str := ["program", "name", "cell"]
theorem sc_cellIx : FnScope N12 ["program", "name"] (defScope (top 12)) := ⟨rfl, rfl, rfl, by decide +kernel, rfl, by decide +kernel, by decide +kernel⟩
theorem ok_cellIx {f : Addr} {fd : FuncData} (F : Fun K "cell_index" "cell_index" (top 12) f fd) : FnOk P w K mg base CX0 1 f fd ["program", "name"] (spF (RcellIx K)) := by
  refine fn_bd F sc_cellIx (fun τs τ ⟨_, _, _, _, h, _⟩ => by rw [h]; rfl) fun cdv A outer s H E τs τ hr ⟨p, x, hp, hx, h1, h2⟩ => ?_
  subst h1 h2
  have nd := sc_cellIx.nd
  obtain ⟨i1, i2⟩ := idx_at hx
  refine bd_ret (ev_index (ss := p.cells.map (·.name)) ?_ (ev_name 1 rfl (.inl rfl) rfl) (by rw [List.getElem?_map, i1]; exact congrArg some i2) (fun m z hm hz => ?_))
  · have e : (p.cells.map (·.name)).map PyData.str = lcD (p.cells.map Cell.d).length (fun _ => true) (fun i => .str (p.cells.getD i ⟨"", "", 0, 0⟩).name) := by
      rw [List.length_map, lcD_all ⟨"", "", 0, 0⟩ p.cells (fun c => .str c.name), List.map_map]
      rfl
    rw [e]
    refine ev_lc [("cell", 2)] rfl nd (blkOk_by (N := N12) (sc := defScope (top 12)) (by decide +kernel)) (src_tup 2 (ev_ix (ev_name 0 rfl (.inl rfl) rfl) ev_int rfl) (fun _ _ _ _ _ => pg_name nd rfl (.inl rfl))) (fun _ _ _ _ _ i hi => ets_nil) (fun _ _ _ _ _ i hi _ => ?_) (fun _ _ _ => rfl) (by have := hp.ncell; simp; omega)
    rw [List.length_map] at hi
    refine ev_ix (ds := [.str (p.cells.getD i ⟨"", "", 0, 0⟩).name, .str (p.cells.getD i ⟨"", "", 0, 0⟩).kind, .int (p.cells.getD i ⟨"", "", 0, 0⟩).top, .int (p.cells.getD i ⟨"", "", 0, 0⟩).start]) (ev_name 2 rfl (.inl rfl) ?_) ev_int rfl
    exact congrArg (fun d => some (some (isD K d))) (getD_map (f := Cell.d) (cell_at hi))
  · rw [List.getElem?_map] at hz
    cases e : p.cells[m]? with
    | none => rw [e] at hz; cases hz
    | some c =>
      rw [e] at hz
      cases hz
      exact idx_first m hm c e

def RwithVal (K : PySem.W.Frag) : List Ty → Ty → Prop := fun τs τ => ∃ (p : Prg) (vs : List Int) (x : Str) (v : Int), p.Ok ∧ vs.length = p.cells.length ∧ x ∈ p.cells.map (·.name) ∧ τs = [isD K p.d, isD K (intsD vs), isD K (.str x), isD K (.int v)] ∧ τ = isD K (intsD (vs.set (p.idx x) v))
abbrev N13 : List Str := ["program", "values", "name", "value", "at"]
theorem sc_withVal : FnScope N13 ["program", "values", "name", "value"] (defScope (top 13)) := ⟨rfl, rfl, rfl, by decide +kernel, rfl, by decide +kernel, by decide +kernel⟩
theorem ok_withVal {f : Addr} {fd : FuncData} (F : Fun K "with_value" "with_value" (top 13) f fd) (c1 : FnS P w K mg base "cell_index" 2 1 (spF (RcellIx K))) : FnOk P w K mg base CX0 2 f fd ["program", "values", "name", "value"] (spF (RwithVal K)) := by
  refine fn_bd F sc_withVal (fun τs τ ⟨_, _, _, _, _, _, _, h, _⟩ => by rw [h]; rfl) fun cdv A outer s H E τs τ hr ⟨p, vs, x, v, hp, hl, hx, h1, h2⟩ => ?_
  subst h1 h2
  have nd := sc_withVal.nd
  have hlt := idx_lt hx
  refine bd_set 4 nd (ev_call c1 hr (evs_cons (ev_name 0 rfl (.inl rfl) rfl) (evs_cons (ev_name 2 rfl (.inl rfl) rfl) evs_nil)) ⟨p, x, hp, hx, rfl, rfl⟩) (bd_ret ?_)
  have e : intsD (vs.set (p.idx x) v) = .tuple (cutD (vs.map PyData.int) none (some (p.idx x : Nat)) ++ .int v :: (cutD (vs.map PyData.int) (some ((p.idx x : Nat) + 1)) none ++ [])) := by
    have e1 : ((p.idx x : Nat) : Int) + 1 = ((p.idx x + 1 : Nat) : Int) := by omega
    rw [e1, cut_take (by rw [List.length_map]; omega), cut_drop (by rw [List.length_map]; omega), List.append_nil, set_split _ _ _ (by rw [List.length_map]; omega), ← List.map_set]
    rfl
  rw [e]
  refine ev_tup (eds_star (ev_sliceT (ev_name 1 rfl (.inl rfl) rfl) eo_none (eo_some (ev_name 4 rfl (.inl rfl) rfl))) (eds_cons (ev_name 3 rfl (.inl rfl) rfl) (eds_star (ev_sliceT (ev_name 1 rfl (.inl rfl) rfl) (eo_some (ev_add (ev_name 4 rfl (.inl rfl) rfl) ev_int)) eo_none) eds_nil))) ?_
  have e1 : ((p.idx x : Nat) : Int) + 1 = ((p.idx x + 1 : Nat) : Int) := by omega
  rw [e1, cut_take (by rw [List.length_map]; omega), cut_drop (by rw [List.length_map]; omega)]
  have := hp.ncell
  simp
  omega

def Rsaved (K : PySem.W.Frag) : List Ty → Ty → Prop := fun τs τ => ∃ (p : Prg) (vs : List Int), p.Ok ∧ vs.length = p.cells.length ∧ τs = [isD K p.d, isD K (intsD vs)] ∧ τ = isD K (intsD (savedOf p.cells vs))
abbrev N15 : List Str := ["program", "values", "cell", "value"]
theorem sc_saved : FnScope N15 ["program", "values"] (defScope (top 15)) := ⟨rfl, rfl, rfl, by decide +kernel, rfl, by decide +kernel, by decide +kernel⟩
theorem ok_saved {f : Addr} {fd : FuncData} (F : Fun K "saved_values" "saved_values" (top 15) f fd) (B : Bi mg) : FnOk P w K mg base CX0 1 f fd ["program", "values"] (spF (Rsaved K)) := by
  refine fn_bd F sc_saved (fun τs τ ⟨_, _, _, _, h, _⟩ => by rw [h]; rfl) fun cdv A outer s H E τs τ hr ⟨p, vs, hp, hl, h1, h2⟩ => ?_
  subst h1 h2
  have nd := sc_saved.nd
  have e : intsD (savedOf p.cells vs) = .tuple (lcD (p.cells.map Cell.d).length (fun i => (p.cells.getD i ⟨"", "", 0, 0⟩).sv) (fun i => .int (vs.getD i 0))) := by
    rw [List.length_map, lcD_zip ⟨"", "", 0, 0⟩ 0 hl.symm (fun c _ => c.sv) (fun _ v => .int v), savedOf_zip]
    rfl
  rw [e]
  refine bd_ret (ev_tupleL B (ev_lc [("cell", 2), ("value", 3)] rfl nd (blkOk_by (N := N15) (sc := defScope (top 15)) (by decide +kernel)) (src_zipTT 2 3 B.zip (ev_ix (ev_name 0 rfl (.inl rfl) rfl) ev_int rfl) (ev_name 1 rfl (.inl rfl) rfl) (by simp [hl]) (fun _ _ _ _ _ => pg_tup rfl (pgs_cons (pg_name nd rfl (.inl rfl)) (pgs_cons (pg_name nd rfl (.inl rfl)) pgs_nil)))) (fun _ _ _ _ _ i hi => ?_) (fun _ _ _ _ _ i hi _ => ?_) (fun _ _ _ => rfl) (by have := hp.ncell; simp; omega)))
  · rw [List.length_map] at hi
    refine ets_one (et_eqT (ev_ix (ds := [.str (p.cells.getD i ⟨"", "", 0, 0⟩).name, .str (p.cells.getD i ⟨"", "", 0, 0⟩).kind, .int (p.cells.getD i ⟨"", "", 0, 0⟩).top, .int (p.cells.getD i ⟨"", "", 0, 0⟩).start]) (ev_name 2 rfl (.inl rfl) ?_) ev_int rfl) ev_str)
    exact congrArg (fun d => some (some (isD K d))) (getD_map (f := Cell.d) (cell_at hi))
  · rw [List.length_map] at hi
    refine ev_name 3 rfl (.inl rfl) ?_
    exact congrArg (fun d => some (some (isD K d))) (getD_map (f := PyData.int) (val_at (by rw [hl]; exact hi)))
end
end EC

set_option Elab.async false
set_option linter.all false
set_option maxRecDepth 100000
set_option maxHeartbeats 4000000
/-! EcF3: moments: kinds, steps, costs. -/
namespace EC
open PySem PySem.Spec PyProof.Rows L2

/-! plain facts -/
theorem steps_ask {P : Prg} {m : Mom} {x : Str} {c : Int} (h : P.ins m.pl = .ask x c) {s : Option Int} (hs : s ∈ P.steps m) : ∃ k : Int, s = some k ∧ 0 ≤ k ∧ k ≤ (P.cell x).top := by
  unfold Prg.steps at hs
  rw [h] at hs
  obtain ⟨k, hk, rfl⟩ := List.mem_map.mp hs
  exact ⟨k, rfl, by omega, by have := List.mem_range.mp hk; omega⟩
theorem valsOk_get : ∀ {cs : List Cell} {vs : List Int}, valsOk cs vs → ∀ {k : Nat}, k < cs.length → 0 ≤ vs.getD k 0 ∧ vs.getD k 0 ≤ (cs.getD k ⟨"", "", 0, 0⟩).top
  | [], _, _, k, hk => by simp at hk
  | c :: cs, [], h, _, _ => h.elim
  | c :: cs, v :: vs, h, 0, _ => h.1
  | c :: cs, v :: vs, h, k + 1, hk => by
    have := valsOk_get h.2 (k := k) (by simpa using hk)
    simpa using this
theorem all_range (n : Nat) (b : Nat → Bool) (h : ∀ i, i < n → b i = true) : (((List.range n).filter fun _ => true).map b).all id = true := by
  rw [List.all_eq_true]
  intro x hx
  obtain ⟨i, hi, rfl⟩ := List.mem_map.mp hx
  exact h i (List.mem_range.mp (List.mem_filter.mp hi).1)
theorem lcD_bools (n : Nat) (b : Nat → Bool) : lcD n (fun _ => true) (fun i => .bool (b i)) = (((List.range n).filter fun _ => true).map b).map PyData.bool := by
  unfold lcD
  rw [List.map_map]
  rfl

section
variable {P : Program} {w : World} {K : PySem.W.Frag} {mg : Str → Option Value} {base : Heap}

/-- a def with defaults -/
structure FnSd (P : Program) (w : World) (K : PySem.W.Frag) (mg : Str → Option Value) (base : Heap) (x : Str) (dvs : List V) (k : Nat) (sp : Sp) : Prop where
  ex : ∃ (f : Addr) (fd : FuncData) (ps : List Str) (ds : List Value), FnOk P w K mg base CX0 k f fd ps sp ∧ mg x = some (.ref f) ∧ PySem.W.keepIn K (.ref f) = true ∧ Vals dvs ds ∧ Binds K fd ps ds
theorem ev_callD {X : Cx} {Γ : List (Option Ty)} {e : Expr} {es : List Expr} {p pos : Pos} {τ : Ty} {x : Str} {k : Nat} {dvs : List V} {R : List Ty → Ty → Prop} {τs τd : List Ty} (F : FnSd X.prog X.w X.K X.mg X.base x dvs k (spF R)) (hr : Room k X.A) (ha : EVs X Γ (e :: es) τs) (hd : ∀ H, AllT H dvs τd) (h : R (τs ++ τd) τ)
    (hg : Gl X x := by rfl) (hdb : (x == ("__debug__" : Str)) = false := by decide) (he : starEach (e :: es) X.env = (false, eval e X.env) :: starEach es X.env := by rfl) (hpl : (backTo pos (starEach es X.env)).any (·.1) = false := by rfl) : EV X Γ (.Call (.Name x p) (e :: es) [] pos) τ := by
  obtain ⟨f, fd, ps, ds, F, hm, hk, hv, hb⟩ := F.ex
  refine .of (pe_call F hr hg hm hk hb hv pass0 pa_w hdb he hpl) fun σ H g => ha.use g fun vs H1 s1 q1 => ⟨τs ++ τd, τ, h, ?_, fun v H' s2 q => ⟨s1.trans s2, q⟩⟩
  have key : ∀ {vs ws : List V} {τs τd : List Ty} {H : Hp}, AllT H vs τs → AllT H ws τd → AllT H (vs ++ ws) (τs ++ τd) := by
    intro vs ws τs τd H h1 h2
    induction h1 with
    | nil => exact h2
    | cons a _ ih => exact .cons a ih
  exact key q1 (hd H1)

/-! require_usable, require_place, cost_at -/
def RreqUse (K : PySem.W.Frag) : List Ty → Ty → Prop := fun τs τ => ∃ (s : Str) (i : Int), τs = [isD K (.bool true), isD K (.str s), isD K (.int i)] ∧ τ = isV .non
abbrev N27 : List Str := ["is_usable", "word", "at"]
theorem sc_reqUse : FnScope N27 N27 (defScope (top 27)) := ⟨rfl, rfl, rfl, by decide +kernel, rfl, by decide +kernel, by decide +kernel⟩
theorem ok_reqUse {f : Addr} {fd : FuncData} (F : FunD K "require_usable" "require_usable" (defArgs (top 27)) (defBody (top 27)) (defScope (top 27)) [.int (-1)] [] f fd) : FnOk P w K mg base CX0 1 f fd N27 (spF (RreqUse K)) := by
  refine F.ok sc_reqUse (fun vs H Q E h => ?_) (fun cdv A outer s H vs Q E hr h => ?_)
  · obtain ⟨τs, τ, ⟨_, _, rfl, _⟩, a, _⟩ := h
    exact (Paired.length a : _ = 3)
  · obtain ⟨τs, τ, ⟨s1, i1, rfl, rfl⟩, a, q⟩ := h
    refine ⟨_, (pss_w (X := cx P w K mg base N27 "require_usable" (top 27) f cdv A outer s H E)).nox, ?_⟩
    have hb : BN (cx P w K mg base N27 "require_usable" (top 27) f cdv A outer s H E) (startΓ N27 [isD K (.bool true), isD K (.str s1), isD K (.int i1)]) (defBody (top 27)) := bn_skip (et_not (k := true) (et_val (ev_name 0 rfl (.inl rfl) rfl))) bn_nil
    exact hb.run _ H _ (env_start a) fun σ' H' s1 => q .non H' s1 rfl
def RreqPl (K : PySem.W.Frag) : List Ty → Ty → Prop := fun τs τ => ∃ (p : Prg) (i : Nat), p.Ok ∧ i < p.code.length ∧ τs = [isD K p.d, isD K (.int (i : Nat))] ∧ τ = isV .non
abbrev N28 : List Str := ["program", "place"]
theorem sc_reqPl : FnScope N28 N28 (defScope (top 28)) := ⟨rfl, rfl, rfl, by decide +kernel, rfl, by decide +kernel, by decide +kernel⟩
theorem ok_reqPl {f : Addr} {fd : FuncData} (F : Fun K "require_place" "require_place" (top 28) f fd) (B : Bi mg) (c1 : FnS P w K mg base "is_number" 1 2 (spF (RisNum K))) (c2 : FnSd P w K mg base "require_usable" [.int (-1)] 1 (spF (RreqUse K))) : FnOk P w K mg base CX0 3 f fd N28 (spF (RreqPl K)) := by
  refine fn_bn F sc_reqPl (fun τs τ ⟨_, _, _, _, h, _⟩ => by rw [h]; rfl) fun cdv A outer s H E τs τ hr ⟨p, i, hp, hi, h1, h2⟩ => ?_
  subst h1 h2
  refine ⟨rfl, bn_expr (ev_callD c2 (hr.mono (by decide)) (evs_cons ?_ (evs_cons ev_str evs_nil)) (τd := [isD K (.int (-1))]) (fun _ => .cons (.int _) .nil) ⟨_, _, rfl, rfl⟩) bn_nil⟩
  have e : isD K (.bool true) = isD K (.bool (decide (0 ≤ (i : Int)) && decide ((i : Int) < ((p.code.map Ins.d).length : Nat)))) := by
    rw [decide_eq_true (by omega : (0 : Int) ≤ (i : Int)), decide_eq_true (by rw [List.length_map]; omega : (i : Int) < ((p.code.map Ins.d).length : Nat))]
    rfl
  rw [e]
  exact ev_and (ev_call c1 hr (evs_cons (ev_name 1 rfl (.inl rfl) rfl) evs_nil) ⟨_, rfl, rfl⟩) fun _ => ev_one (ev_lt (ev_name 1 rfl (.inl rfl) rfl) (ev_lenT B (ev_ix (ev_name 0 rfl (.inl rfl) rfl) ev_int rfl)))
def RcostAt (K : PySem.W.Frag) : List Ty → Ty → Prop := fun τs τ => ∃ (p : Prg) (i : Nat), p.Ok ∧ i < p.code.length ∧ τs = [isD K p.d, isD K (.int (i : Nat))] ∧ τ = isD K (.int (p.ins i).due)
theorem sc_costAt : FnScope N28 N28 (defScope (top 30)) := ⟨rfl, rfl, rfl, by decide +kernel, rfl, by decide +kernel, by decide +kernel⟩
theorem ok_costAt {f : Addr} {fd : FuncData} (F : Fun K "cost_at" "cost_at" (top 30) f fd) (c1 : FnS P w K mg base "require_place" 2 3 (spF (RreqPl K))) (c2 : FnS P w K mg base "cost_due" 1 1 (spF (RcostDue K))) : FnOk P w K mg base CX0 4 f fd N28 (spF (RcostAt K)) := by
  refine fn_bd F sc_costAt (fun τs τ ⟨_, _, _, _, h, _⟩ => by rw [h]; rfl) fun cdv A outer s H E τs τ hr ⟨p, i, hp, hi, h1, h2⟩ => ?_
  subst h1 h2
  refine bd_expr (ev_call c1 hr (evs_cons (ev_name 0 rfl (.inl rfl) rfl) (evs_cons (ev_name 1 rfl (.inl rfl) rfl) evs_nil)) ⟨p, i, hp, hi, rfl, rfl⟩) ?_
  exact bd_ret (ev_call c2 (hr.mono (by decide)) (evs_cons (ev_ix (ev_ix (ev_name 0 rfl (.inl rfl) rfl) ev_int rfl) (ev_name 1 rfl (.inl rfl) rfl) (ix_code hi)) evs_nil) ⟨p.ins i, rfl, rfl⟩)

/-! does_fit -/
def RdoesFit (K : PySem.W.Frag) : List Ty → Ty → Prop := fun τs τ => ∃ (p : Prg) (m : Mom) (s : Option Int), p.Ok ∧ p.MomOk m ∧ s ∈ p.steps m ∧ τs = [isD K p.d, isD K m.d, isD K (stepD s)] ∧ τ = isD K (.bool true)
abbrev N14 : List Str := ["program", "moment", "step", "instruction", "top"]
theorem sc_doesFit : FnScope N14 ["program", "moment", "step"] (defScope (top 14)) := ⟨rfl, rfl, rfl, by decide +kernel, rfl, by decide +kernel, by decide +kernel⟩
theorem ok_doesFit {f : Addr} {fd : FuncData} (F : Fun K "does_fit" "does_fit" (top 14) f fd) (B : Bi mg) (c1 : FnS P w K mg base "is_number" 1 2 (spF (RisNum K))) (c2 : FnS P w K mg base "cell_index" 2 1 (spF (RcellIx K))) : FnOk P w K mg base CX0 3 f fd ["program", "moment", "step"] (spF (RdoesFit K)) := by
  refine fn_bd F sc_doesFit (fun τs τ ⟨_, _, _, _, _, _, h, _⟩ => by rw [h]; rfl) fun cdv A outer s H E τs τ hr ⟨p, m, s, hp, hm, hs, h1, h2⟩ => ?_
  subst h1 h2
  have nd := sc_doesFit.nd
  have hc := hp.code _ _ (ins_at hm.pl)
  have e := ix_code hm.pl
  cases hi : p.ins m.pl with
  | fin =>
    unfold Prg.steps at hs
    rw [hi] at hs
    cases hs
  | ask x c =>
    obtain ⟨k, rfl, k0, k1⟩ := steps_ask hi hs
    rw [hi] at e hc
    refine bd_set 3 nd (ev_ix (ev_ix (ev_name 0 rfl (.inl rfl) rfl) ev_int rfl) (ev_ix (ev_name 1 rfl (.inl rfl) rfl) ev_int rfl) e) ?_
    refine bd_if (et_w (ew_or (et_not (et_val (ev_istuple (r := true) B (ev_name 2 rfl (.inl rfl) rfl)))) fun _ => ew_or1 (et_eqT (ev_ix (ev_name 3 rfl (.inl rfl) rfl) ev_int rfl) ev_str))) (fun h => absurd h (by decide +kernel)) fun _ => ?_
    refine bd_if (et_neT (ev_ix (ev_name 3 rfl (.inl rfl) rfl) ev_int rfl) ev_str) (fun h => absurd h (by decide +kernel)) fun _ => ?_
    refine bd_set 4 nd (ev_ix (ev_ix (ev_ix (ev_name 0 rfl (.inl rfl) rfl) ev_int rfl) (ev_call c2 (hr.mono (by decide)) (evs_cons (ev_name 0 rfl (.inl rfl) rfl) (evs_cons (ev_ix (ev_name 3 rfl (.inl rfl) rfl) ev_int rfl) evs_nil)) ⟨p, x, hp, hc.1, rfl, rfl⟩) (ix_cell hc.1)) ev_int rfl) ?_
    have e2 : isD K (.bool true) = isD K (.bool (decide ((([PyData.int k] : List PyData).length : Nat) = (1 : Int)) && (decide (0 ≤ k) && decide (k ≤ (p.cell x).top)))) := by
      rw [decide_eq_true k0, decide_eq_true k1]
      rfl
    rw [e2]
    exact bd_ret (ev_and (ev_eqI (ev_lenT B (ev_name 2 rfl (.inl rfl) rfl)) ev_int) fun _ => ev_and (ev_call c1 hr (evs_cons (ev_ix (ev_name 2 rfl (.inl rfl) rfl) ev_int rfl) evs_nil) ⟨_, rfl, rfl⟩) fun _ => ev_one (ev_le (ev_ix (ev_name 2 rfl (.inl rfl) rfl) ev_int rfl) (ev_name 4 rfl (.inl rfl) rfl)))
  | _ =>
    have hs' : s = none := by
      unfold Prg.steps at hs
      rw [hi] at hs
      simpa using hs
    subst hs'
    rw [hi] at e
    refine bd_set 3 nd (ev_ix (ev_ix (ev_name 0 rfl (.inl rfl) rfl) ev_int rfl) (ev_ix (ev_name 1 rfl (.inl rfl) rfl) ev_int rfl) e) ?_
    refine bd_if (et_w (ew_or (et_not (et_val (ev_istuple (r := true) B (ev_name 2 rfl (.inl rfl) rfl)))) fun _ => ew_or1 (et_eqT (ev_ix (ev_name 3 rfl (.inl rfl) rfl) ev_int rfl) ev_str))) (fun h => absurd h (by decide +kernel)) fun _ => ?_
    refine bd_if (et_neT (ev_ix (ev_name 3 rfl (.inl rfl) rfl) ev_int rfl) ev_str) (fun _ => ?_) (fun h => absurd h (by decide +kernel))
    have e2 : isD K (.bool true) = isD K (.bool (decide ((([] : List PyData).length : Nat) = (0 : Int)))) := rfl
    rw [e2]
    exact bd_ret (ev_eqI (ev_lenT B (ev_name 2 rfl (.inl rfl) rfl)) ev_int)

/-! are_values, is_place, is_moment, need_moment -/
/-- the cells as a tuple or as a list -/
def RareVals (K : PySem.W.Frag) : List Ty → Ty → Prop := fun τs τ => ∃ (cs : List Cell) (vs : List Int) (d : PyData), valsOk cs vs ∧ cs.length ≤ 16 ∧ (d = .tuple (cs.map Cell.d) ∨ d = .list (cs.map Cell.d)) ∧ τs = [isD K (intsD vs), isD K d] ∧ τ = isD K (.bool true)
abbrev N19 : List Str := ["thing", "cells", "cell", "value"]
theorem sc_areVals : FnScope N19 ["thing", "cells"] (defScope (top 19)) := ⟨rfl, rfl, rfl, by decide +kernel, rfl, by decide +kernel, by decide +kernel⟩
theorem ok_areVals {f : Addr} {fd : FuncData} (F : Fun K "are_values" "are_values" (top 19) f fd) (B : Bi mg) (c1 : FnS P w K mg base "is_number" 1 2 (spF (RisNum K))) : FnOk P w K mg base CX0 3 f fd ["thing", "cells"] (spF (RareVals K)) := by
  refine fn_bd F sc_areVals (fun τs τ ⟨_, _, _, _, _, _, h, _⟩ => by rw [h]; rfl) fun cdv A outer s H E τs τ hr ⟨cs, vs, d, hv, hl, hd, h1, h2⟩ => ?_
  subst h1 h2
  have nd := sc_areVals.nd
  have hlen := valsOk_len hv
  have e1 : decide ((((vs.map PyData.int).length : Nat) : Int) = (((cs.map Cell.d).length : Nat) : Int)) = true := decide_eq_true (by rw [List.length_map, List.length_map, hlen])
  have fin : ∀ n, n = (cs.map Cell.d).length → ∀ i, i < n → (decide (0 ≤ vs.getD i 0) && decide (vs.getD i 0 ≤ (cs.getD i ⟨"", "", 0, 0⟩).top)) = true := fun n hn i hi => by
    obtain ⟨q1, q2⟩ := valsOk_get hv (k := i) (by rw [hn, List.length_map] at hi; exact hi)
    rw [decide_eq_true q1, decide_eq_true q2]
    rfl
  rcases hd with rfl | rfl
  · refine bd_if (et_w (ew_or (et_not (et_val (ev_istuple (r := true) B (ev_name 0 rfl (.inl rfl) rfl)))) fun _ => ew_or1 (et_neI (ev_lenT B (ev_name 0 rfl (.inl rfl) rfl)) (ev_lenT B (ev_name 1 rfl (.inl rfl) rfl))))) (fun h => ?_) fun _ => ?_
    · rw [e1] at h
      exact absurd h (by decide)
    refine bd_ret (ev_all rfl B (bs := ((List.range (cs.map Cell.d).length).filter fun _ => true).map fun i => decide (0 ≤ vs.getD i 0) && decide (vs.getD i 0 ≤ (cs.getD i ⟨"", "", 0, 0⟩).top)) ?_ (all_range _ _ (fin _ rfl)))
    rw [← lcD_bools]
    refine ev_lc [("cell", 2), ("value", 3)] rfl nd (blkOk_by (N := N19) (sc := defScope (top 19)) (by decide +kernel)) (src_zipTT 2 3 B.zip (ev_name 1 rfl (.inl rfl) rfl) (ev_name 0 rfl (.inl rfl) rfl) (by simp [hlen]) (fun _ _ _ _ _ => pg_tup rfl (pgs_cons (pg_name nd rfl (.inl rfl)) (pgs_cons (pg_name nd rfl (.inl rfl)) pgs_nil)))) (fun _ _ _ _ _ i hi => ets_nil) (fun _ _ _ _ _ i hi _ => ?_) (fun _ _ _ => rfl) (by simp; omega)
    rw [List.length_map] at hi
    have g1 := congrArg (fun d => some (some (isD K d))) (getD_map (f := Cell.d) (cell_at hi))
    have g2 := congrArg (fun d => some (some (isD K d))) (getD_map (f := PyData.int) (val_at (vs := vs) (by rw [hlen]; exact hi)))
    exact ev_and (ev_call c1 hr (evs_cons (ev_name 3 rfl (.inl rfl) g2) evs_nil) ⟨_, rfl, rfl⟩) fun _ => ev_one (ev_le (ev_name 3 rfl (.inl rfl) g2) (ev_ix (ds := [.str (cs.getD i ⟨"", "", 0, 0⟩).name, .str (cs.getD i ⟨"", "", 0, 0⟩).kind, .int (cs.getD i ⟨"", "", 0, 0⟩).top, .int (cs.getD i ⟨"", "", 0, 0⟩).start]) (ev_name 2 rfl (.inl rfl) g1) ev_int rfl))
  · refine bd_if (et_w (ew_or (et_not (et_val (ev_istuple (r := true) B (ev_name 0 rfl (.inl rfl) rfl)))) fun _ => ew_or1 (et_neI (ev_lenT B (ev_name 0 rfl (.inl rfl) rfl)) (ev_lenL B (ev_name 1 rfl (.inl rfl) rfl))))) (fun h => ?_) fun _ => ?_
    · rw [e1] at h
      exact absurd h (by decide)
    refine bd_ret (ev_all rfl B (bs := ((List.range (cs.map Cell.d).length).filter fun _ => true).map fun i => decide (0 ≤ vs.getD i 0) && decide (vs.getD i 0 ≤ (cs.getD i ⟨"", "", 0, 0⟩).top)) ?_ (all_range _ _ (fin _ rfl)))
    rw [← lcD_bools]
    refine ev_lc [("cell", 2), ("value", 3)] rfl nd (blkOk_by (N := N19) (sc := defScope (top 19)) (by decide +kernel)) (src_zipLT 2 3 B.zip (ev_name 1 rfl (.inl rfl) rfl) (ev_name 0 rfl (.inl rfl) rfl) (by simp [hlen]) (fun _ _ _ _ _ => pg_tup rfl (pgs_cons (pg_name nd rfl (.inl rfl)) (pgs_cons (pg_name nd rfl (.inl rfl)) pgs_nil)))) (fun _ _ _ _ _ i hi => ets_nil) (fun _ _ _ _ _ i hi _ => ?_) (fun _ _ _ => rfl) (by simp; omega)
    rw [List.length_map] at hi
    have g1 := congrArg (fun d => some (some (isD K d))) (getD_map (f := Cell.d) (cell_at hi))
    have g2 := congrArg (fun d => some (some (isD K d))) (getD_map (f := PyData.int) (val_at (vs := vs) (by rw [hlen]; exact hi)))
    exact ev_and (ev_call c1 hr (evs_cons (ev_name 3 rfl (.inl rfl) g2) evs_nil) ⟨_, rfl, rfl⟩) fun _ => ev_one (ev_le (ev_name 3 rfl (.inl rfl) g2) (ev_ix (ds := [.str (cs.getD i ⟨"", "", 0, 0⟩).name, .str (cs.getD i ⟨"", "", 0, 0⟩).kind, .int (cs.getD i ⟨"", "", 0, 0⟩).top, .int (cs.getD i ⟨"", "", 0, 0⟩).start]) (ev_name 2 rfl (.inl rfl) g1) ev_int rfl))

def RisPl (K : PySem.W.Frag) : List Ty → Ty → Prop := fun τs τ => ∃ (p : Prg) (i : Nat), p.Ok ∧ i < p.code.length ∧ τs = [isD K p.d, isD K (.int (i : Nat))] ∧ τ = isD K (.bool true)
abbrev N20 : List Str := ["program", "thing"]
theorem sc_isPl : FnScope N20 N20 (defScope (top 20)) := ⟨rfl, rfl, rfl, by decide +kernel, rfl, by decide +kernel, by decide +kernel⟩
theorem ok_isPl {f : Addr} {fd : FuncData} (F : Fun K "is_place" "is_place" (top 20) f fd) (B : Bi mg) (c1 : FnS P w K mg base "is_number" 1 2 (spF (RisNum K))) : FnOk P w K mg base CX0 3 f fd N20 (spF (RisPl K)) := by
  refine fn_bd F sc_isPl (fun τs τ ⟨_, _, _, _, h, _⟩ => by rw [h]; rfl) fun cdv A outer s H E τs τ hr ⟨p, i, hp, hi, h1, h2⟩ => ?_
  subst h1 h2
  have e : isD K (.bool true) = isD K (.bool (decide (0 ≤ (i : Int)) && decide ((i : Int) < ((p.code.map Ins.d).length : Nat)))) := by
    rw [decide_eq_true (by omega : (0 : Int) ≤ (i : Int)), decide_eq_true (by rw [List.length_map]; omega : (i : Int) < ((p.code.map Ins.d).length : Nat))]
    rfl
  rw [e]
  exact bd_ret (ev_and (ev_call c1 hr (evs_cons (ev_name 1 rfl (.inl rfl) rfl) evs_nil) ⟨_, rfl, rfl⟩) fun _ => ev_one (ev_lt (ev_name 1 rfl (.inl rfl) rfl) (ev_lenT B (ev_ix (ev_name 0 rfl (.inl rfl) rfl) ev_int rfl))))

def RisMom (K : PySem.W.Frag) : List Ty → Ty → Prop := fun τs τ => ∃ (p : Prg) (m : Mom), p.Ok ∧ p.MomOk m ∧ τs = [isD K p.d, isD K m.d] ∧ τ = isD K (.bool true)
abbrev N21 : List Str := ["program", "thing", "copy", "place", "values", "saved", "cell"]
theorem sc_isMom : FnScope N21 ["program", "thing"] (defScope (top 21)) := ⟨rfl, rfl, rfl, by decide +kernel, rfl, by decide +kernel, by decide +kernel⟩
theorem ok_isMom {f : Addr} {fd : FuncData} (F : Fun K "is_moment" "is_moment" (top 21) f fd) (B : Bi mg) (c1 : FnS P w K mg base "is_place" 2 3 (spF (RisPl K))) (c2 : FnS P w K mg base "are_values" 2 3 (spF (RareVals K))) : FnOk P w K mg base CX0 4 f fd ["program", "thing"] (spF (RisMom K)) := by
  refine fn_bd F sc_isMom (fun τs τ ⟨_, _, _, _, h, _⟩ => by rw [h]; rfl) fun cdv A outer s H E τs τ hr ⟨p, m, hp, hm, h1, h2⟩ => ?_
  subst h1 h2
  have nd := sc_isMom.nd
  refine bd_if (et_w (ew_or (et_not (k := true) (et_val (ev_istuple (r := true) B (ev_name 1 rfl (.inl rfl) rfl)))) fun _ => ew_or1 (et_neI (ev_lenT B (ev_name 1 rfl (.inl rfl) rfl)) ev_int))) (fun h => absurd h (by simp)) fun _ => ?_
  refine bd_unp3 2 3 4 rfl nd (ev_name 1 rfl (.inl rfl) rfl) ?_
  refine bd_if (et_w (ew_or (et_not (k := true) (et_val (ev_istuple (r := true) B (ev_name 2 rfl (.inl rfl) rfl)))) fun _ => ew_or (et_neI (ev_lenT B (ev_name 2 rfl (.inl rfl) rfl)) ev_int) fun _ =>
    ew_or (et_not (k := true) (et_val (ev_call c1 hr (evs_cons (ev_name 0 rfl (.inl rfl) rfl) (evs_cons (ev_ix (ev_name 2 rfl (.inl rfl) rfl) ev_int rfl) evs_nil)) ⟨p, m.cp, hp, hm.cp, rfl, rfl⟩))) fun _ => ew_or1 (et_not (k := true) (et_val (ev_call c1 hr (evs_cons (ev_name 0 rfl (.inl rfl) rfl) (evs_cons (ev_name 3 rfl (.inl rfl) rfl) evs_nil)) ⟨p, m.pl, hp, hm.pl, rfl, rfl⟩))))) (fun h => absurd h (by simp)) fun _ => ?_
  refine bd_setLc (b := fun i => (p.cells.getD i ⟨"", "", 0, 0⟩).sv) (f := fun i => (p.cells.getD i ⟨"", "", 0, 0⟩).d) 5 [("cell", 6)] rfl nd (blkOk_by (N := N21) (sc := defScope (top 21)) (by decide +kernel)) (src_tup 6 (ev_ix (ev_name 0 rfl (.inl rfl) rfl) ev_int rfl) (fun _ _ _ _ _ => pg_name nd rfl (.inl rfl))) (fun _ _ _ _ _ i hi => ?_) (fun _ _ _ _ _ i hi _ => ?_) (fun _ _ _ => rfl) (by have := hp.ncell; simp; omega) ?_
  · rw [List.length_map] at hi
    have g1 := congrArg (fun d => some (some (isD K d))) (getD_map (f := Cell.d) (cell_at hi))
    exact ets_one (et_eqT (ev_ix (ds := [.str (p.cells.getD i ⟨"", "", 0, 0⟩).name, .str (p.cells.getD i ⟨"", "", 0, 0⟩).kind, .int (p.cells.getD i ⟨"", "", 0, 0⟩).top, .int (p.cells.getD i ⟨"", "", 0, 0⟩).start]) (ev_name 6 rfl (.inl rfl) g1) ev_int rfl) ev_str)
  · rw [List.length_map] at hi
    exact ev_name 6 rfl (.inl rfl) (congrArg (fun d => some (some (isD K d))) (getD_map (f := Cell.d) (cell_at hi)))
  · have e := lcD_list ⟨"", "", 0, 0⟩ p.cells Cell.sv Cell.d
    rw [List.length_map, e]
    have hn := hp.ncell
    have hf := List.length_filter_le Cell.sv p.cells
    exact bd_ret (ev_and (p := true) (q := true) (ev_call c2 hr (evs_cons (ev_ix (ev_name 2 rfl (.inl rfl) rfl) ev_int rfl) (evs_cons (ev_name 5 rfl (.inl rfl) rfl) evs_nil)) ⟨_, m.cs, _, hm.cs, by omega, .inr rfl, rfl, rfl⟩) fun _ => ev_one (ev_call c2 hr (evs_cons (ev_name 4 rfl (.inl rfl) rfl) (evs_cons (ev_ix (ev_name 0 rfl (.inl rfl) rfl) ev_int rfl) evs_nil)) ⟨p.cells, m.vs, _, hm.vs, hn, .inl rfl, rfl, rfl⟩))

def RneedMom (K : PySem.W.Frag) : List Ty → Ty → Prop := fun τs τ => ∃ (p : Prg) (m : Mom), p.Ok ∧ p.MomOk m ∧ τs = [isD K p.d, isD K m.d] ∧ τ = isV .non
abbrev N22 : List Str := ["program", "moment"]
theorem sc_needMom : FnScope N22 N22 (defScope (top 22)) := ⟨rfl, rfl, rfl, by decide +kernel, rfl, by decide +kernel, by decide +kernel⟩
theorem ok_needMom {f : Addr} {fd : FuncData} (F : Fun K "need_moment" "need_moment" (top 22) f fd) (c1 : FnS P w K mg base "is_moment" 2 4 (spF (RisMom K))) : FnOk P w K mg base CX0 5 f fd N22 (spF (RneedMom K)) := by
  refine fn_bn F sc_needMom (fun τs τ ⟨_, _, _, _, h, _⟩ => by rw [h]; rfl) fun cdv A outer s H E τs τ hr ⟨p, m, hp, hm, h1, h2⟩ => ?_
  subst h1 h2
  exact ⟨rfl, bn_skip (et_not (k := true) (et_val (ev_call c1 hr (evs_cons (ev_name 0 rfl (.inl rfl) rfl) (evs_cons (ev_name 1 rfl (.inl rfl) rfl) evs_nil)) ⟨p, m, hp, hm, rfl, rfl⟩))) bn_nil⟩
end
end EC

set_option Elab.async false
set_option linter.all false
set_option maxRecDepth 100000
set_option maxHeartbeats 4000000
/-! EcF4: steps and wakings of the program. -/
namespace EC
open PySem PySem.Spec PyProof.Rows L2

/-! moments stay well formed -/
theorem valsOk_set : ∀ {cs : List Cell} {vs : List Int} {k : Nat} {v : Int}, valsOk cs vs → (k < cs.length → 0 ≤ v ∧ v ≤ (cs.getD k ⟨"", "", 0, 0⟩).top) → valsOk cs (vs.set k v)
  | [], [], _, _, _, _ => trivial
  | c :: cs, v :: vs, 0, u, h, g => ⟨g (by simp), h.2⟩
  | c :: cs, v :: vs, k + 1, u, h, g => ⟨h.1, valsOk_set h.2 fun hk => by simpa using g (by simpa using hk)⟩
theorem savedOf_ok : ∀ {cs : List Cell} {vs : List Int}, valsOk cs vs → valsOk (cs.filter Cell.sv) (savedOf cs vs)
  | [], [], _ => trivial
  | c :: cs, v :: vs, h => by
    rw [List.filter_cons]
    unfold savedOf
    by_cases hc : c.sv = true
    · rw [if_pos hc, if_pos hc]
      exact ⟨h.1, savedOf_ok h.2⟩
    · rw [if_neg hc, if_neg hc]
      exact savedOf_ok h.2
theorem wakeVals_ok : ∀ {cs : List Cell} {vs ss : List Int}, (∀ c ∈ cs, c.ok) → valsOk cs vs → valsOk (cs.filter Cell.sv) ss → valsOk cs (wakeVals cs vs ss)
  | [], [], _, _, _, _ => by unfold wakeVals; trivial
  | c :: cs, v :: vs, ss, hc, h, g => by
    rw [List.filter_cons] at g
    unfold wakeVals
    by_cases hs : c.sv = true
    · rw [if_pos hs] at g ⊢
      cases ss with
      | nil => exact g.elim
      | cons s ss => exact ⟨g.1, wakeVals_ok (fun c h => hc c (by simp [h])) h.2 g.2⟩
    · rw [if_neg hs] at g ⊢
      refine ⟨?_, wakeVals_ok (fun c h => hc c (by simp [h])) h.2 g⟩
      by_cases hk : c.kind = "kept"
      · rw [if_pos hk]; exact h.1
      · rw [if_neg hk]
        have := hc c (by simp)
        exact ⟨this.2.1, this.2.2.1⟩
theorem after_ok {P : Prg} (hP : P.Ok) {m : Mom} (hm : P.MomOk m) {s : Option Int} (hs : s ∈ P.steps m) : P.MomOk (P.after m s) := by
  have hc := hP.code _ _ (ins_at hm.pl)
  unfold Prg.after
  cases hi : P.ins m.pl with
  | set x e c =>
    rw [hi] at hc
    refine ⟨hm.cp, hc.2.2.2, hm.cs, valsOk_set hm.vs fun _ => ?_⟩
    have ho := cell_ok hP hc.1
    have h0 : 0 < (P.cell x).top + 1 := by have := ho.2; omega
    have h1 := Int.emod_nonneg (e.val P m.vs) (by omega : (P.cell x).top + 1 ≠ 0)
    have h2 := Int.emod_lt_of_pos (e.val P m.vs) h0
    exact ⟨h1, by show _ ≤ (P.cell x).top; omega⟩
  | ask x c =>
    rw [hi] at hc
    obtain ⟨k, rfl, k0, k1⟩ := steps_ask hi hs
    exact ⟨hm.cp, hc.2.2, hm.cs, valsOk_set hm.vs fun _ => ⟨k0, k1⟩⟩
  | jump q c =>
    rw [hi] at hc
    exact ⟨hm.cp, hc.1, hm.cs, hm.vs⟩
  | unl t q c =>
    rw [hi] at hc
    refine ⟨hm.cp, ?_, hm.cs, hm.vs⟩
    show (if t.holds P m.vs = true then m.pl + 1 else q) < _
    split
    · exact hc.2.2.2
    · exact hc.2.1
  | mark c =>
    rw [hi] at hc
    exact ⟨hc.2, hc.2, savedOf_ok hm.vs, hm.vs⟩
  | off c =>
    rw [hi] at hc
    exact ⟨hm.cp, hc.2, hm.cs, hm.vs⟩
  | fin =>
    unfold Prg.steps at hs
    rw [hi] at hs
    cases hs
theorem wake_ok {P : Prg} (hP : P.Ok) {m : Mom} (hm : P.MomOk m) : P.MomOk (P.wake m) := ⟨hm.cp, hm.cp, hm.cs, wakeVals_ok hP.cell hm.vs hm.cs⟩

/-! after, case by case -/
section
variable {P : Prg} {m : Mom} {s : Option Int}
theorem after_set {x : Str} {e : Ex} {c : Int} (h : P.ins m.pl = .set x e c) : P.after m s = { cp := m.cp, cs := m.cs, pl := m.pl + 1, vs := m.vs.set (P.idx x) (e.val P m.vs % ((P.cell x).top + 1)) } := by unfold Prg.after; rw [h]
theorem after_ask {x : Str} {c : Int} (h : P.ins m.pl = .ask x c) : P.after m s = { cp := m.cp, cs := m.cs, pl := m.pl + 1, vs := m.vs.set (P.idx x) (s.getD 0) } := by unfold Prg.after; rw [h]
theorem after_jump {q : Nat} {c : Int} (h : P.ins m.pl = .jump q c) : P.after m s = { cp := m.cp, cs := m.cs, pl := q, vs := m.vs } := by unfold Prg.after; rw [h]
theorem after_unl {t : Tst} {q : Nat} {c : Int} (h : P.ins m.pl = .unl t q c) : P.after m s = { cp := m.cp, cs := m.cs, pl := if t.holds P m.vs = true then m.pl + 1 else q, vs := m.vs } := by unfold Prg.after; rw [h]
theorem after_mark {c : Int} (h : P.ins m.pl = .mark c) : P.after m s = { cp := m.pl + 1, cs := savedOf P.cells m.vs, pl := m.pl + 1, vs := m.vs } := by unfold Prg.after; rw [h]
theorem after_off {c : Int} (h : P.ins m.pl = .off c) : P.after m s = { cp := m.cp, cs := m.cs, pl := m.pl + 1, vs := m.vs } := by unfold Prg.after; rw [h]
end

/-! places of saved cells -/
theorem filter_rank (q : Nat → Bool) {i : Nat} (hq : q i = true) : ∀ {n : Nat}, i < n → ((List.range n).filter q)[((List.range i).filter q).length]? = some i
  | 0, h => by omega
  | n + 1, h => by
    rw [List.range_succ, List.filter_append]
    by_cases e : i = n
    · subst e
      rw [List.getElem?_append_right (Nat.le_refl _), List.filter_cons, if_pos hq]
      simp
    · have ih := filter_rank q hq (n := n) (by omega)
      rw [List.getElem?_append_left (List.getElem?_eq_some_iff.mp ih).1]
      exact ih
theorem filter_range_len {α : Type} (d : α) (q : α → Bool) (l : List α) : ∀ {i : Nat}, i ≤ l.length → ((List.range i).filter fun j => q (l.getD j d)).length = ((l.take i).filter q).length
  | 0, _ => by simp
  | i + 1, h => by
    have ih := filter_range_len d q l (i := i) (by omega)
    have e : l.take (i + 1) = l.take i ++ [l.getD i d] := by
      have hl : i < l.length := by omega
      rw [List.take_succ, List.getElem?_eq_getElem hl, List.getD_eq_getElem?_getD, List.getElem?_eq_getElem hl]
      rfl
    rw [List.range_succ, List.filter_append, e, List.filter_append, List.length_append, List.length_append, ih]
    congr 1
    rw [List.filter_cons, List.filter_cons]
    split <;> rfl
theorem wakeVals_len : ∀ (cs : List Cell) (vs ss : List Int), vs.length = cs.length → (wakeVals cs vs ss).length = cs.length
  | [], [], _, _ => by unfold wakeVals; rfl
  | [], _ :: _, _, h => by simp at h
  | _ :: _, [], _, h => by simp at h
  | c :: cs, v :: vs, ss, h => by
    have h' : vs.length = cs.length := by simpa using h
    unfold wakeVals
    split
    · cases ss with
      | nil => simp [wakeVals_len cs vs [] h']
      | cons s ss => simp [wakeVals_len cs vs ss h']
    · simp [wakeVals_len cs vs ss h']
theorem wakeVals_get : ∀ (cs : List Cell) (vs ss : List Int), vs.length = cs.length → ss.length = (cs.filter Cell.sv).length → ∀ i, i < cs.length →
    (wakeVals cs vs ss).getD i 0 = if (cs.getD i ⟨"", "", 0, 0⟩).sv = true then ss.getD ((cs.take i).filter Cell.sv).length 0 else if (cs.getD i ⟨"", "", 0, 0⟩).kind = "kept" then vs.getD i 0 else (cs.getD i ⟨"", "", 0, 0⟩).start
  | [], _, _, _, _, i, hi => by simp at hi
  | _ :: _, [], _, h, _, _, _ => by simp at h
  | c :: cs, v :: vs, ss, h, hs, i, hi => by
    have h' : vs.length = cs.length := by simpa using h
    unfold wakeVals
    by_cases hc : c.sv = true
    · rw [List.filter_cons, if_pos hc] at hs
      rw [if_pos hc]
      cases ss with
      | nil => simp at hs
      | cons s ss =>
        cases i with
        | zero => simp [hc]
        | succ i =>
          have ih := wakeVals_get cs vs ss h' (by simpa using hs) i (by simpa using hi)
          simp only [List.getD_cons_succ, List.take_succ_cons, List.filter_cons, if_pos hc, List.length_cons]
          exact ih
    · rw [List.filter_cons, if_neg hc] at hs
      rw [if_neg hc]
      cases i with
      | zero => simp [hc]
      | succ i =>
        have ih := wakeVals_get cs vs ss h' hs i (by simpa using hi)
        simp only [List.getD_cons_succ, List.take_succ_cons, List.filter_cons, if_neg hc]
        exact ih

section
variable {P : Program} {w : World} {K : PySem.W.Frag} {mg : Str → Option Value} {base : Heap}

/-! steps_for -/
def RstepsFor (K : PySem.W.Frag) : List Ty → Ty → Prop := fun τs τ => ∃ (p : Prg) (m : Mom), p.Ok ∧ p.MomOk m ∧ τs = [isD K p.d, isD K m.d] ∧ τ = isD K (.tuple ((p.steps m).map stepD))
abbrev N23 : List Str := ["program", "moment", "instruction", "top", "value"]
theorem sc_stepsFor : FnScope N23 ["program", "moment"] (defScope (top 23)) := ⟨rfl, rfl, rfl, by decide +kernel, rfl, by decide +kernel, by decide +kernel⟩
theorem ok_stepsFor {f : Addr} {fd : FuncData} (F : Fun K "steps_for" "steps_for" (top 23) f fd) (B : Bi mg) (c1 : FnS P w K mg base "need_moment" 2 5 (spF (RneedMom K))) (c2 : FnS P w K mg base "cell_index" 2 1 (spF (RcellIx K))) : FnOk P w K mg base CX0 6 f fd ["program", "moment"] (spF (RstepsFor K)) := by
  refine fn_bd F sc_stepsFor (fun τs τ ⟨_, _, _, _, h, _⟩ => by rw [h]; rfl) fun cdv A outer s H E τs τ hr ⟨p, m, hp, hm, h1, h2⟩ => ?_
  subst h1 h2
  have nd := sc_stepsFor.nd
  have hc := hp.code _ _ (ins_at hm.pl)
  have e := ix_code hm.pl
  refine bd_expr (ev_call c1 hr (evs_cons (ev_n 0 rfl) (evs_cons (ev_n 1 rfl) evs_nil)) ⟨p, m, hp, hm, rfl, rfl⟩) ?_
  unfold Prg.steps
  cases hi : p.ins m.pl with
  | fin =>
    rw [hi] at e
    refine bd_set 2 nd (ev_ix (ev_ix (ev_n 0 rfl) ev_int rfl) (ev_ix (ev_n 1 rfl) ev_int rfl) e) ?_
    exact bd_if (et_eqT (ev_ix (ev_n 2 rfl) ev_int rfl) ev_str) (fun _ => bd_ret (ev_tup eds_nil)) (fun h => absurd h (by decide +kernel))
  | ask x c =>
    rw [hi] at e hc
    have ho := cell_ok hp hc.1
    refine bd_set 2 nd (ev_ix (ev_ix (ev_n 0 rfl) ev_int rfl) (ev_ix (ev_n 1 rfl) ev_int rfl) e) ?_
    refine bd_if (et_eqT (ev_ix (ev_n 2 rfl) ev_int rfl) ev_str) (fun h => absurd h (by decide +kernel)) fun _ => ?_
    refine bd_if (et_eqT (ev_ix (ev_n 2 rfl) ev_int rfl) ev_str) (fun _ => ?_) (fun h => absurd h (by decide +kernel))
    refine bd_set 3 nd (ev_ix (ev_ix (ev_ix (ev_n 0 rfl) ev_int rfl) (ev_call c2 (hr.mono (by decide)) (evs_cons (ev_n 0 rfl) (evs_cons (ev_ix (ev_n 2 rfl) ev_int rfl) evs_nil)) ⟨p, x, hp, hc.1, rfl, rfl⟩) (ix_cell hc.1)) ev_int rfl) ?_
    have e3 : ((List.range ((p.cell x).top + 1).toNat).map fun k => some ((k : Nat) : Int)).map stepD = lcD ((p.cell x).top + 1).toNat (fun _ => true) (fun k => .tuple [.int ((k : Nat) : Int)]) := by
      unfold lcD
      rw [List.filter_eq_self.mpr (fun _ _ => rfl), List.map_map]
      rfl
    show BD _ _ _ (isD K (.tuple (((List.range ((p.cell x).top + 1).toNat).map fun k => some ((k : Nat) : Int)).map stepD)))
    rw [e3]
    refine bd_ret (ev_tupleL B (ev_lc [("value", 4)] rfl nd (blkOk_by (N := N23) (sc := defScope (top 23)) (by decide +kernel)) (src_range 4 B.range (ev_add (ev_n 3 rfl) ev_int) (by have := ho.2; omega) (by have := ho.2; omega) (fun _ _ _ _ _ => pg_name nd rfl (.inl rfl))) (fun _ _ _ _ _ i hi => ets_nil) (fun _ _ _ _ _ i hi _ => ?_) (fun _ _ _ => rfl) (by have := ho.2; omega)))
    exact ev_tup (eds_cons (ev_n 4 rfl) eds_nil)
  | _ =>
    rw [hi] at e
    refine bd_set 2 nd (ev_ix (ev_ix (ev_n 0 rfl) ev_int rfl) (ev_ix (ev_n 1 rfl) ev_int rfl) e) ?_
    refine bd_if (et_eqT (ev_ix (ev_n 2 rfl) ev_int rfl) ev_str) (fun h => absurd h (by decide +kernel)) fun _ => ?_
    refine bd_if (et_eqT (ev_ix (ev_n 2 rfl) ev_int rfl) ev_str) (fun h => absurd h (by decide +kernel)) fun _ => ?_
    exact bd_ret (ev_tup (ds := [.tuple []]) (eds_cons (ev_tup eds_nil (by decide)) eds_nil))

/-! stepped -/
def Rstepped (K : PySem.W.Frag) : List Ty → Ty → Prop := fun τs τ => ∃ (p : Prg) (m : Mom) (s : Option Int), p.Ok ∧ p.MomOk m ∧ s ∈ p.steps m ∧ τs = [isD K p.d, isD K m.d, isD K (stepD s)] ∧ τ = isD K (p.after m s).d
abbrev N16 : List Str := ["program", "moment", "step", "copy", "place", "values", "instruction", "top", "value", "holds"]
theorem sc_stepped : FnScope N16 ["program", "moment", "step"] (defScope (top 16)) := ⟨rfl, rfl, rfl, by decide +kernel, rfl, by decide +kernel, by decide +kernel⟩
theorem ok_stepped {f : Addr} {fd : FuncData} (F : Fun K "stepped" "stepped" (top 16) f fd) (cIx : FnS P w K mg base "cell_index" 2 1 (spF (RcellIx K))) (cSum : FnS P w K mg base "sum_value" 2 2 (spF (Rsum K))) (cBy : FnS P w K mg base "values_by_name" 2 1 (spF (RvalsBy K)))
    (cWith : FnS P w K mg base "with_value" 4 2 (spF (RwithVal K))) (cTest : FnS P w K mg base "test_holds" 2 2 (spF (Rtest K))) (cSav : FnS P w K mg base "saved_values" 2 1 (spF (Rsaved K))) : FnOk P w K mg base CX0 3 f fd ["program", "moment", "step"] (spF (Rstepped K)) := by
  refine fn_bd F sc_stepped (fun τs τ ⟨_, _, _, _, _, _, h, _⟩ => by rw [h]; rfl) fun cdv A outer s H E τs τ hr ⟨p, m, s, hp, hm, hs, h1, h2⟩ => ?_
  subst h1 h2
  have nd := sc_stepped.nd
  have hc := hp.code _ _ (ins_at hm.pl)
  have e := ix_code hm.pl
  have hl := valsOk_len hm.vs
  refine bd_unp3 3 4 5 rfl nd (ev_n 1 rfl) ?_
  cases hi : p.ins m.pl with
  | set x ex c =>
    rw [hi] at e hc
    have ho := cell_ok hp hc.1
    rw [after_set hi]
    refine bd_set 6 nd (ev_ix (ev_ix (ev_n 0 rfl) ev_int rfl) (ev_n 4 rfl) e) ?_
    refine bd_match (ev_ix (ev_n 6 rfl) ev_int rfl) (bc_hit ?_ rfl)
    refine bd_set 7 nd (ev_ix (ev_ix (ev_ix (ev_n 0 rfl) ev_int rfl) (ev_call cIx (hr.mono (by decide)) (evs_cons (ev_n 0 rfl) (evs_cons (ev_ix (ev_n 6 rfl) ev_int rfl) evs_nil)) ⟨p, x, hp, hc.1, rfl, rfl⟩) (ix_cell hc.1)) ev_int rfl) ?_
    refine bd_set 8 nd (ev_mod (ev_call cSum hr (evs_cons (ev_ix (ev_n 6 rfl) ev_int rfl) (evs_cons (ev_call cBy (hr.mono (by decide)) (evs_cons (ev_n 0 rfl) (evs_cons (ev_n 5 rfl) evs_nil)) ⟨p, m.vs, hp, hl, rfl, rfl⟩) evs_nil)) ⟨p, m.vs, ex, hp, hc.2.1, rfl, rfl⟩) (ev_add (ev_n 7 rfl) ev_int) (by have := ho.2; omega)) ?_
    refine bd_ret (ev_tup (eds_cons (ev_n 3 rfl) (eds_cons (ev_suc (ev_n 4 rfl)) (eds_cons (ev_call cWith hr (evs_cons (ev_n 0 rfl) (evs_cons (ev_n 5 rfl) (evs_cons (ev_ix (ev_n 6 rfl) ev_int rfl) (evs_cons (ev_n 8 rfl) evs_nil)))) ⟨p, m.vs, x, _, hp, hl, hc.1, rfl, rfl⟩) eds_nil))))
  | ask x c =>
    rw [hi] at e hc
    obtain ⟨k, rfl, k0, k1⟩ := steps_ask hi hs
    rw [after_ask hi]
    refine bd_set 6 nd (ev_ix (ev_ix (ev_n 0 rfl) ev_int rfl) (ev_n 4 rfl) e) ?_
    refine bd_match (ev_ix (ev_n 6 rfl) ev_int rfl) (bc_miss (bc_hit ?_ rfl) (by decide +kernel))
    exact bd_ret (ev_tup (eds_cons (ev_n 3 rfl) (eds_cons (ev_suc (ev_n 4 rfl)) (eds_cons (ev_call cWith hr (evs_cons (ev_n 0 rfl) (evs_cons (ev_n 5 rfl) (evs_cons (ev_ix (ev_n 6 rfl) ev_int rfl) (evs_cons (ev_ix (ev_n 2 rfl) ev_int rfl) evs_nil)))) ⟨p, m.vs, x, k, hp, hl, hc.1, rfl, rfl⟩) eds_nil))))
  | jump q c =>
    rw [hi] at e hc
    rw [after_jump hi]
    refine bd_set 6 nd (ev_ix (ev_ix (ev_n 0 rfl) ev_int rfl) (ev_n 4 rfl) e) ?_
    refine bd_match (ev_ix (ev_n 6 rfl) ev_int rfl) (bc_miss (bc_miss (bc_hit ?_ rfl) (by decide +kernel)) (by decide +kernel))
    exact bd_ret (ev_tup (eds_cons (ev_n 3 rfl) (eds_cons (ev_ix (ev_n 6 rfl) ev_int rfl) (eds_cons (ev_n 5 rfl) eds_nil))))
  | unl t q c =>
    rw [hi] at e hc
    rw [after_unl hi]
    refine bd_set 6 nd (ev_ix (ev_ix (ev_n 0 rfl) ev_int rfl) (ev_n 4 rfl) e) ?_
    refine bd_match (ev_ix (ev_n 6 rfl) ev_int rfl) (bc_miss (bc_miss (bc_miss (bc_hit ?_ rfl) (by decide +kernel)) (by decide +kernel)) (by decide +kernel))
    refine bd_set 9 nd (ev_call cTest hr (evs_cons (ev_ix (ev_n 6 rfl) ev_int rfl) (evs_cons (ev_call cBy (hr.mono (by decide)) (evs_cons (ev_n 0 rfl) (evs_cons (ev_n 5 rfl) evs_nil)) ⟨p, m.vs, hp, hl, rfl, rfl⟩) evs_nil)) ⟨p, m.vs, t, hp, hc.1, rfl, rfl⟩) ?_
    cases ht : t.holds p m.vs with
    | true => exact bd_ret (ev_tup (eds_cons (ev_n 3 rfl) (eds_cons (ev_ifE (et_val (ev_n 9 rfl)) (fun _ => ev_suc (ev_n 4 rfl)) (fun h => nomatch h)) (eds_cons (ev_n 5 rfl) eds_nil))))
    | false => exact bd_ret (ev_tup (eds_cons (ev_n 3 rfl) (eds_cons (ev_ifE (et_val (ev_n 9 rfl)) (fun h => nomatch h) (fun _ => ev_ix (ev_n 6 rfl) ev_int rfl)) (eds_cons (ev_n 5 rfl) eds_nil))))
  | mark c =>
    rw [hi] at e hc
    rw [after_mark hi]
    refine bd_set 6 nd (ev_ix (ev_ix (ev_n 0 rfl) ev_int rfl) (ev_n 4 rfl) e) ?_
    refine bd_match (ev_ix (ev_n 6 rfl) ev_int rfl) (bc_miss (bc_miss (bc_miss (bc_miss (bc_hit ?_ rfl) (by decide +kernel)) (by decide +kernel)) (by decide +kernel)) (by decide +kernel))
    exact bd_ret (ev_tup (eds_cons (ev_tup (eds_cons (ev_suc (ev_n 4 rfl)) (eds_cons (ev_call cSav (hr.mono (by decide)) (evs_cons (ev_n 0 rfl) (evs_cons (ev_n 5 rfl) evs_nil)) ⟨p, m.vs, hp, hl, rfl, rfl⟩) eds_nil))) (eds_cons (ev_suc (ev_n 4 rfl)) (eds_cons (ev_n 5 rfl) eds_nil))))
  | off c =>
    rw [hi] at e hc
    rw [after_off hi]
    refine bd_set 6 nd (ev_ix (ev_ix (ev_n 0 rfl) ev_int rfl) (ev_n 4 rfl) e) ?_
    refine bd_match (ev_ix (ev_n 6 rfl) ev_int rfl) (bc_miss (bc_miss (bc_miss (bc_miss (bc_miss (bc_any ?_) (by decide +kernel)) (by decide +kernel)) (by decide +kernel)) (by decide +kernel)) (by decide +kernel))
    exact bd_ret (ev_tup (eds_cons (ev_n 3 rfl) (eds_cons (ev_suc (ev_n 4 rfl)) (eds_cons (ev_n 5 rfl) eds_nil))))
  | fin =>
    unfold Prg.steps at hs
    rw [hi] at hs
    cases hs

/-! moment_after_step -/
def RafterStep (K : PySem.W.Frag) : List Ty → Ty → Prop := Rstepped K
abbrev N24 : List Str := ["program", "moment", "step"]
theorem sc_afterStep : FnScope N24 N24 (defScope (top 24)) := ⟨rfl, rfl, rfl, by decide +kernel, rfl, by decide +kernel, by decide +kernel⟩
theorem ok_afterStep {f : Addr} {fd : FuncData} (F : Fun K "moment_after_step" "moment_after_step" (top 24) f fd) (c1 : FnS P w K mg base "need_moment" 2 5 (spF (RneedMom K))) (c2 : FnS P w K mg base "does_fit" 3 3 (spF (RdoesFit K))) (c3 : FnS P w K mg base "stepped" 3 3 (spF (Rstepped K))) : FnOk P w K mg base CX0 6 f fd N24 (spF (Rstepped K)) := by
  refine fn_bd F sc_afterStep (fun τs τ ⟨_, _, _, _, _, _, h, _⟩ => by rw [h]; rfl) fun cdv A outer s H E τs τ hr ⟨p, m, s, hp, hm, hs, h1, h2⟩ => ?_
  subst h1 h2
  refine bd_expr (ev_call c1 hr (evs_cons (ev_n 0 rfl) (evs_cons (ev_n 1 rfl) evs_nil)) ⟨p, m, hp, hm, rfl, rfl⟩) ?_
  refine bd_if (k := false) (et_not (k := true) (et_val (ev_call c2 (hr.mono (by decide)) (evs_cons (ev_n 0 rfl) (evs_cons (ev_n 1 rfl) (evs_cons (ev_n 2 rfl) evs_nil))) ⟨p, m, s, hp, hm, hs, rfl, rfl⟩))) (fun h => nomatch h) fun _ => ?_
  exact bd_ret (ev_call c3 (hr.mono (by decide)) (evs_cons (ev_n 0 rfl) (evs_cons (ev_n 1 rfl) (evs_cons (ev_n 2 rfl) evs_nil))) ⟨p, m, s, hp, hm, hs, rfl, rfl⟩)

/-! steps_of -/
def RstepsOf (K : PySem.W.Frag) : List Ty → Ty → Prop := fun τs τ => ∃ (p : Prg) (m : Mom), p.Ok ∧ p.MomOk m ∧ τs = [isD K p.d, isD K m.d] ∧ τ = isD K (.list ((p.steps m).map fun s => .tuple [stepD s, (p.after m s).d]))
abbrev N35 : List Str := ["program", "moment", "step"]
theorem sc_stepsOf : FnScope N35 ["program", "moment"] (defScope (top 35)) := ⟨rfl, rfl, rfl, by decide +kernel, rfl, by decide +kernel, by decide +kernel⟩
theorem steps_le {p : Prg} (hp : p.Ok) {m : Mom} (hm : p.MomOk m) : (p.steps m).length ≤ 10 := by
  have hc := hp.code _ _ (ins_at hm.pl)
  unfold Prg.steps
  cases hi : p.ins m.pl with
  | ask x c =>
    rw [hi] at hc
    have ho := cell_ok hp hc.1
    simp
    have := ho.2
    omega
  | fin => simp
  | _ => simp
theorem lf_step (s : Option Int) : lf (stepD s) = true := by cases s <;> rfl
theorem ok_stepsOf {f : Addr} {fd : FuncData} (F : Fun K "steps_of" "steps_of" (top 35) f fd) (c1 : FnS P w K mg base "steps_for" 2 6 (spF (RstepsFor K))) (c2 : FnS P w K mg base "moment_after_step" 3 6 (spF (Rstepped K))) : FnOk P w K mg base CX0 7 f fd ["program", "moment"] (spF (RstepsOf K)) := by
  refine fn_bd F sc_stepsOf (fun τs τ ⟨_, _, _, _, h, _⟩ => by rw [h]; rfl) fun cdv A outer s H E τs τ hr ⟨p, m, hp, hm, h1, h2⟩ => ?_
  subst h1 h2
  have nd := sc_stepsOf.nd
  have e : (p.steps m).map (fun s => PyData.tuple [stepD s, (p.after m s).d]) = lcD ((p.steps m).map stepD).length (fun _ => true) (fun i => .tuple [stepD ((p.steps m).getD i none), (p.after m ((p.steps m).getD i none)).d]) := by
    rw [List.length_map, lcD_all none (p.steps m) (fun s => .tuple [stepD s, (p.after m s).d])]
  rw [e]
  have hl := steps_le hp hm
  refine bd_ret (ev_lc [("step", 2)] rfl nd (blkOk_by (N := N35) (sc := defScope (top 35)) (by decide +kernel)) (src_tup 2 (ev_call c1 hr (evs_cons (ev_n 0 rfl) (evs_cons (ev_n 1 rfl) evs_nil)) ⟨p, m, hp, hm, rfl, rfl⟩) (fun _ _ _ _ _ => pg_name nd rfl (.inl rfl))) (fun _ _ _ _ _ i hi => ets_nil) (fun _ _ _ _ _ i hi _ => ?_) (fun _ _ _ => by simp [lf, lfs, lf_step, lf_mom]) (by simp; omega))
  rw [List.length_map] at hi
  have hg : (p.steps m)[i]? = some ((p.steps m).getD i none) := by rw [List.getD_eq_getElem?_getD, List.getElem?_eq_getElem hi]; rfl
  have g1 := congrArg (fun d => some (some (isD K d))) (getD_map (f := stepD) hg)
  exact ev_tup (eds_cons (ev_n 2 g1) (eds_cons (ev_call c2 hr (evs_cons (ev_n 0 rfl) (evs_cons (ev_n 1 rfl) (evs_cons (ev_n 2 g1) evs_nil))) ⟨p, m, _, hp, hm, List.mem_of_getElem? hg, rfl, rfl⟩) eds_nil))
end
end EC

set_option Elab.async false
set_option linter.all false
set_option maxRecDepth 100000
set_option maxHeartbeats 4000000
/-! EcF5: wakings, keys; the law's own pure defs. -/
namespace EC
open PySem PySem.Spec PyProof.Rows L2

/-! a block that runs through -/
structure BS (X : Cx) (Γ : List (Option Ty)) (sts : List Stmt) (Γ' : List (Option Ty)) : Prop where
  run : ∀ σ H (D : Ends), Env Γ σ H → (∀ σ' H', Same H H' → Env Γ' σ' H' → D.nx σ' H') → wB X sts D σ H
section
variable {X : Cx} {Γ Γ' : List (Option Ty)} {e a b c : Expr} {es : List Expr} {pos p p2 : Pos} {τ τ1 : Ty} {x : Str} {rest body : List Stmt}
theorem bs_nil : BS X Γ [] Γ := ⟨fun σ H D g k => wB_nil (k σ H (fun _ _ h => h) g)⟩
theorem bs_set (i : Nat) (hN : X.N.Nodup) (h : EV X Γ e τ1) (hr : BS X (Γ.set i (some τ1)) rest Γ') (hi : X.N[i]? = some x := by rfl) (hx : Loc X.env.scope x := by first | exact .inl rfl | exact .inr rfl) (hs : swapsWith e (some (.Name x p)) pos.line X.env = pure false := by rfl)
    (hf : X.fn x = true ∨ X.env.scope.names.lookup x = some .local := by first | exact .inl rfl | exact .inr rfl) : BS X Γ (.Assign [.Name x p] e pos :: rest) Γ' :=
  ⟨fun σ H D g k => wB_cons (wS_of (ps_set hN hi hx pe_w hs hf) (h.use g fun v H1 s1 q1 => hr.run _ H1 D ((g.up s1).set i q1) fun σ' H2 s2 g2 => k σ' H2 (s1.trans s2) g2))⟩
/-- if c: body, c known, body runs through -/
theorem bd_ifT (hc : ET X Γ c true) (hb : BS X Γ body Γ') (hr : BD X Γ' rest τ) : BD X Γ (.If c body [] pos :: rest) τ :=
  ⟨fun σ H D g q => wB_cons (wS_of (ps_if pt_w pss_w pss_nil) (hc.use g fun H1 s1 => iteT (hb.run σ H1 _ (g.up s1) fun σ' H2 s2 g2 => hr.run σ' H2 _ g2 fun v H3 s3 q3 => q v H3 (s1.trans (s2.trans s3)) q3)))⟩
theorem bd_ifF (hc : ET X Γ c false) (hr : BD X Γ rest τ) : BD X Γ (.If c body [] pos :: rest) τ :=
  ⟨fun σ H D g q => wB_cons (wS_of (ps_if pt_w pss_w pss_nil) (hc.use g fun H1 s1 => iteF (hr.run σ H1 _ (g.up s1) fun v H3 s3 q3 => q v H3 (s1.trans s3) q3)))⟩
theorem ev_vstr {K : PySem.W.Frag} {s : Str} (h : EV X Γ e (isV (.str s))) : EV X Γ e (isD K (.str s)) := ⟨fun σ H g => wE_mono (h.run σ H g) fun v H' ⟨q1, q2⟩ => ⟨q1, by cases q2; exact .str s⟩⟩
end

section
variable {P : Program} {w : World} {K : PySem.W.Frag} {mg : Str → Option Value} {base : Heap}

/-! woken -/
def Rwoken (K : PySem.W.Frag) : List Ty → Ty → Prop := fun τs τ => ∃ (p : Prg) (m : Mom), p.Ok ∧ p.MomOk m ∧ τs = [isD K p.d, isD K m.d] ∧ τ = isD K (p.wake m).d
abbrev N17 : List Str := ["program", "moment", "copy", "place", "values", "spots", "known", "plain", "at", "cell", "value"]
theorem sc_woken : FnScope N17 ["program", "moment"] (defScope (top 17)) := ⟨rfl, rfl, rfl, by decide +kernel, rfl, by decide +kernel, by decide +kernel⟩
theorem known_val {cs : List Cell} {vs ss : List Int} (h : vs.length = cs.length) (hs : ss.length = (cs.filter Cell.sv).length) {i : Nat} (hi : i < cs.length) :
    (valV (dcD (lcD cs.length (fun i => (cs.getD i ⟨"", "", 0, 0⟩).sv) (fun i => .int ((i : Nat) : Int))).length (fun j => .inl ((((List.range cs.length).filter fun i => (cs.getD i ⟨"", "", 0, 0⟩).sv).getD j 0 : Nat) : Int)) (fun j => .int (ss.getD j 0))) (.inl ((i : Nat) : Int))).getD
      (.int (if (cs.getD i ⟨"", "", 0, 0⟩).kind = "kept" then vs.getD i 0 else (cs.getD i ⟨"", "", 0, 0⟩).start)) = .int ((wakeVals cs vs ss).getD i 0) := by
  rw [wakeVals_get cs vs ss h hs i hi]
  have hlen : (lcD cs.length (fun i => (cs.getD i ⟨"", "", 0, 0⟩).sv) (fun i => .int ((i : Nat) : Int))).length = ((List.range cs.length).filter fun i => (cs.getD i ⟨"", "", 0, 0⟩).sv).length := by
    unfold lcD
    rw [List.length_map]
  rw [hlen]
  have nd : ((List.range cs.length).filter fun i => (cs.getD i ⟨"", "", 0, 0⟩).sv).Nodup := List.nodup_range.filter _
  have gd : ∀ {j : Nat}, j < ((List.range cs.length).filter fun i => (cs.getD i ⟨"", "", 0, 0⟩).sv).length → ((List.range cs.length).filter fun i => (cs.getD i ⟨"", "", 0, 0⟩).sv)[j]? = some (((List.range cs.length).filter fun i => (cs.getD i ⟨"", "", 0, 0⟩).sv).getD j 0) := fun hj => by
    rw [List.getD_eq_getElem?_getD, List.getElem?_eq_getElem hj]
    rfl
  by_cases hc : (cs.getD i ⟨"", "", 0, 0⟩).sv = true
  · rw [if_pos hc]
    have hr := filter_rank (fun i => (cs.getD i ⟨"", "", 0, 0⟩).sv) hc hi
    have hlt := (List.getElem?_eq_some_iff.mp hr).1
    have hj := gd hlt
    rw [hr] at hj
    have e := Option.some.inj hj
    have q := dcD_val (fun j => Sum.inl ((((List.range cs.length).filter fun i => (cs.getD i ⟨"", "", 0, 0⟩).sv).getD j 0 : Nat) : Int)) (fun j => V.int (ss.getD j 0)) _ _ hlt fun a ha ea => by
      have ea' : ((List.range cs.length).filter fun i => (cs.getD i ⟨"", "", 0, 0⟩).sv).getD a 0 = i := by
        have z := Sum.inl.inj ea
        rw [← e] at z
        omega
      have h1 := gd ha
      rw [ea'] at h1
      exact nd_ix nd h1 hr
    have e2 : (Sum.inl ((((List.range cs.length).filter fun i => (cs.getD i ⟨"", "", 0, 0⟩).sv).getD ((List.range i).filter fun i => (cs.getD i ⟨"", "", 0, 0⟩).sv).length 0 : Nat) : Int) : Key) = Sum.inl ((i : Nat) : Int) := by rw [← e]
    simp only [e2] at q
    rw [q, filter_range_len ⟨"", "", 0, 0⟩ Cell.sv cs (by omega)]
    rfl
  · rw [if_neg hc, dcD_none]
    · split <;> rfl
    · intro a ha ea
      have z := Sum.inl.inj ea
      have h1 := List.mem_of_getElem? (gd ha)
      have h2 := (List.mem_filter.mp h1).2
      have z' : ((List.range cs.length).filter fun i => (cs.getD i ⟨"", "", 0, 0⟩).sv).getD a 0 = i := by omega
      rw [z'] at h2
      exact hc h2
theorem ok_woken {f : Addr} {fd : FuncData} (F : Fun K "woken" "woken" (top 17) f fd) (B : Bi mg) : FnOk P w K mg base CX0 1 f fd ["program", "moment"] (spF (Rwoken K)) := by
  refine fn_bd F sc_woken (fun τs τ ⟨_, _, _, _, h, _⟩ => by rw [h]; rfl) fun cdv A outer s H E τs τ hr ⟨p, m, hp, hm, h1, h2⟩ => ?_
  subst h1 h2
  have nd := sc_woken.nd
  have hn := hp.ncell
  have hl := valsOk_len hm.vs
  have hs := valsOk_len hm.cs
  have cellG : ∀ {i : Nat}, i < (p.cells.map Cell.d).length → (p.cells.map Cell.d).getD i .none = .tuple [.str (p.cells.getD i ⟨"", "", 0, 0⟩).name, .str (p.cells.getD i ⟨"", "", 0, 0⟩).kind, .int (p.cells.getD i ⟨"", "", 0, 0⟩).top, .int (p.cells.getD i ⟨"", "", 0, 0⟩).start] := fun hi => getD_map (f := Cell.d) (cell_at (by rw [List.length_map] at hi; exact hi))
  refine bd_unp3 2 3 4 rfl nd (ev_n 1 rfl) ?_
  refine bd_setLc (b := fun i => (p.cells.getD i ⟨"", "", 0, 0⟩).sv) (f := fun i => .int ((i : Nat) : Int)) 5 [("at", 8), ("cell", 9)] rfl nd (blkOk_by (N := N17) (sc := defScope (top 17)) (by decide +kernel)) (src_enumT 8 9 B.enumerate (ev_ix (ev_n 0 rfl) ev_int rfl) (fun _ _ _ _ _ => pg_tup rfl (pgs_cons (pg_name nd rfl (.inl rfl)) (pgs_cons (pg_name nd rfl (.inl rfl)) pgs_nil)))) (fun _ _ _ _ _ i hi => ?_) (fun _ _ _ _ _ i hi _ => ev_n 8 rfl) (fun _ _ _ => rfl) (by simp; omega) ?_
  · exact ets_one (et_eqT (ev_ix (ev_n 9 (congrArg (fun d => some (some (isD K d))) (cellG hi))) ev_int rfl) ev_str)
  rw [List.length_map]
  refine bd_set 6 nd (ev_dc (k := fun j => .inl ((((List.range p.cells.length).filter fun i => (p.cells.getD i ⟨"", "", 0, 0⟩).sv).getD j 0 : Nat) : Int)) (v := fun j => .int (m.cs.getD j 0)) [("at", 8), ("value", 10)] rfl nd (blkOk_by (N := N17) (sc := defScope (top 17)) (by decide +kernel)) (src_zipLT 8 10 B.zip (ev_n 5 rfl) (ev_ix (ev_n 2 rfl) ev_int rfl) ?_ (fun _ _ _ _ _ => pg_tup rfl (pgs_cons (pg_name nd rfl (.inl rfl)) (pgs_cons (pg_name nd rfl (.inl rfl)) pgs_nil)))) (fun _ _ _ _ _ j hj => ?_) (fun _ _ _ _ _ j hj => ?_) ?_) ?_
  · unfold lcD
    rw [List.length_map, List.length_map, hs, filter_range_len ⟨"", "", 0, 0⟩ Cell.sv p.cells (Nat.le_refl _), List.take_length]
  · refine ev_n 8 (congrArg (fun d => some (some (isD K d))) ?_)
    unfold lcD at hj ⊢
    rw [List.length_map] at hj
    exact getD_map (f := fun i : Nat => PyData.int ((i : Nat) : Int)) (by rw [List.getD_eq_getElem?_getD, List.getElem?_eq_getElem hj]; rfl)
  · refine isD_int (K := K) (ev_n 10 (congrArg (fun d => some (some (isD K d))) (getD_map (f := PyData.int) (val_at ?_))))
    unfold lcD at hj
    rw [List.length_map, filter_range_len ⟨"", "", 0, 0⟩ Cell.sv p.cells (Nat.le_refl _), List.take_length] at hj
    rw [hs]
    exact hj
  · have := lcD_len p.cells.length (fun i => (p.cells.getD i ⟨"", "", 0, 0⟩).sv) (fun i => .int ((i : Nat) : Int))
    omega
  refine bd_setLc (b := fun _ => true) (f := fun i => .int (if (p.cells.getD i ⟨"", "", 0, 0⟩).kind = "kept" then m.vs.getD i 0 else (p.cells.getD i ⟨"", "", 0, 0⟩).start)) 7 [("cell", 9), ("value", 10)] rfl nd (blkOk_by (N := N17) (sc := defScope (top 17)) (by decide +kernel)) (src_zipTT 9 10 B.zip (ev_ix (ev_n 0 rfl) ev_int rfl) (ev_n 4 rfl) (by simp [hl]) (fun _ _ _ _ _ => pg_tup rfl (pgs_cons (pg_name nd rfl (.inl rfl)) (pgs_cons (pg_name nd rfl (.inl rfl)) pgs_nil)))) (fun _ _ _ _ _ i hi => ets_nil) (fun _ _ _ _ _ i hi _ => ?_) (fun _ _ _ => rfl) (by simp; omega) ?_
  · have g1 := congrArg (fun d => some (some (isD K d))) (cellG hi)
    have g2 := congrArg (fun d => some (some (isD K d))) (getD_map (f := PyData.int) (val_at (vs := m.vs) (k := i) (by rw [List.length_map] at hi; omega)))
    by_cases hk : (p.cells.getD i ⟨"", "", 0, 0⟩).kind = "kept"
    · rw [if_pos hk]
      exact ev_ifE (et_eqT (ev_ix (ev_n 9 g1) ev_int rfl) ev_str) (fun _ => ev_n 10 g2) (fun h => absurd hk (of_decide_eq_false h))
    · rw [if_neg hk]
      exact ev_ifE (et_eqT (ev_ix (ev_n 9 g1) ev_int rfl) ev_str) (fun h => absurd (of_decide_eq_true h) hk) (fun _ => ev_ix (ev_n 9 g1) ev_int rfl)
  rw [List.length_map]
  have e : (p.wake m).d = .tuple [.tuple [.int (m.cp : Nat), intsD m.cs], .int (m.cp : Nat), .tuple (lcD (lcD p.cells.length (fun _ => true) (fun i => .int (if (p.cells.getD i ⟨"", "", 0, 0⟩).kind = "kept" then m.vs.getD i 0 else (p.cells.getD i ⟨"", "", 0, 0⟩).start))).length (fun _ => true) (fun i => .int ((wakeVals p.cells m.vs m.cs).getD i 0)))] := by
    have e1 : (lcD p.cells.length (fun _ => true) (fun i => PyData.int (if (p.cells.getD i ⟨"", "", 0, 0⟩).kind = "kept" then m.vs.getD i 0 else (p.cells.getD i ⟨"", "", 0, 0⟩).start))).length = (wakeVals p.cells m.vs m.cs).length := by
      rw [wakeVals_len _ _ _ hl]
      unfold lcD
      rw [List.filter_eq_self.mpr (fun _ _ => rfl), List.length_map, List.length_range]
    rw [e1, lcD_all 0 (wakeVals p.cells m.vs m.cs) (fun v => .int v)]
    rfl
  rw [e]
  refine bd_ret (ev_tup (eds_cons (ev_n 2 rfl) (eds_cons (ev_ix (ev_n 2 rfl) ev_int rfl) (eds_cons (ev_tupleL B (ev_lc [("at", 8), ("value", 10)] rfl nd (blkOk_by (N := N17) (sc := defScope (top 17)) (by decide +kernel)) (src_enumL 8 10 B.enumerate (ev_n 7 rfl) (fun _ _ _ _ _ => pg_tup rfl (pgs_cons (pg_name nd rfl (.inl rfl)) (pgs_cons (pg_name nd rfl (.inl rfl)) pgs_nil)))) (fun _ _ _ _ _ i hi => ets_nil) (fun _ _ _ _ _ i hi _ => ?_) (fun _ _ _ => rfl) ?_)) eds_nil))))
  · have hi' : i < p.cells.length := by
      have := lcD_len p.cells.length (fun _ => true) (fun i => PyData.int (if (p.cells.getD i ⟨"", "", 0, 0⟩).kind = "kept" then m.vs.getD i 0 else (p.cells.getD i ⟨"", "", 0, 0⟩).start))
      omega
    refine ev_dgetOr (hu_of hr) (ev_n 6 rfl) (ev_n 8 rfl) (ev_n 10 (congrArg (fun d => some (some (isD K d))) ?_)) (known_val hl hs hi')
    unfold lcD
    rw [List.filter_eq_self.mpr (fun _ _ => rfl)]
    exact getD_map (f := fun i => PyData.int (if (p.cells.getD i ⟨"", "", 0, 0⟩).kind = "kept" then m.vs.getD i 0 else (p.cells.getD i ⟨"", "", 0, 0⟩).start)) (by rw [List.getElem?_range hi'])
  · have := lcD_len p.cells.length (fun _ => true) (fun i => PyData.int (if (p.cells.getD i ⟨"", "", 0, 0⟩).kind = "kept" then m.vs.getD i 0 else (p.cells.getD i ⟨"", "", 0, 0⟩).start))
    omega
theorem sc_wakingOf : FnScope N22 N22 (defScope (top 25)) := ⟨rfl, rfl, rfl, by decide +kernel, rfl, by decide +kernel, by decide +kernel⟩
theorem ok_wakingOf {f : Addr} {fd : FuncData} (F : Fun K "waking_of" "waking_of" (top 25) f fd) (c1 : FnS P w K mg base "need_moment" 2 5 (spF (RneedMom K))) (c2 : FnS P w K mg base "woken" 2 1 (spF (Rwoken K))) : FnOk P w K mg base CX0 6 f fd N22 (spF (Rwoken K)) := by
  refine fn_bd F sc_wakingOf (fun τs τ ⟨_, _, _, _, h, _⟩ => by rw [h]; rfl) fun cdv A outer s H E τs τ hr ⟨p, m, hp, hm, h1, h2⟩ => ?_
  subst h1 h2
  refine bd_expr (ev_call c1 hr (evs_cons (ev_n 0 rfl) (evs_cons (ev_n 1 rfl) evs_nil)) ⟨p, m, hp, hm, rfl, rfl⟩) ?_
  exact bd_ret (ev_call c2 (hr.mono (by decide)) (evs_cons (ev_n 0 rfl) (evs_cons (ev_n 1 rfl) evs_nil)) ⟨p, m, hp, hm, rfl, rfl⟩)

/-! keys -/
def keyD : Option Int → PyData
  | none => .tuple [.int 1, .int 0]
  | some n => .tuple [.int 0, .int n]
def widthD : Option Int → PyData
  | none => .str "endless"
  | some n => .int n
def RkeyOf (K : PySem.W.Frag) : List Ty → Ty → Prop := fun τs τ => τs = [isD K (.str "endless")] ∧ τ = isD K (keyD none)
abbrev N33 : List Str := ["width"]
theorem sc_keyOf : FnScope N33 N33 (defScope (top 33)) := ⟨rfl, rfl, rfl, by decide +kernel, rfl, by decide +kernel, by decide +kernel⟩
theorem ok_keyOf {f : Addr} {fd : FuncData} {t : Tok} (F : Fun K "key_of" "key_of" (top 33) f fd) (hE : mg "ENDLESS" = some (.str "endless" t)) : FnOk P w K mg base CX0 1 f fd N33 (spF (RkeyOf K)) := by
  refine fn_bd F sc_keyOf (fun τs τ ⟨h, _⟩ => by rw [h]; rfl) fun cdv A outer s H E τs τ hr ⟨h1, h2⟩ => ?_
  subst h1 h2
  exact bd_ret (ev_ifE (et_eqT (ev_n 0 rfl) (ev_vstr (ev_glob (v := .str "endless") rfl hE ⟨t, rfl⟩))) (fun _ => ev_tup (eds_cons ev_int (eds_cons ev_int eds_nil))) (fun h => absurd h (by decide +kernel)))
def RwidthOf (K : PySem.W.Frag) : List Ty → Ty → Prop := fun τs τ => ∃ o : Option Int, τs = [isD K (keyD o)] ∧ τ = isD K (widthD o)
abbrev N34 : List Str := ["key"]
theorem sc_widthOf : FnScope N34 N34 (defScope (top 34)) := ⟨rfl, rfl, rfl, by decide +kernel, rfl, by decide +kernel, by decide +kernel⟩
theorem ok_widthOf {f : Addr} {fd : FuncData} {t : Tok} (F : Fun K "width_of_key" "width_of_key" (top 34) f fd) (hE : mg "ENDLESS" = some (.str "endless" t)) : FnOk P w K mg base CX0 1 f fd N34 (spF (RwidthOf K)) := by
  refine fn_bd F sc_widthOf (fun τs τ ⟨_, h, _⟩ => by rw [h]; rfl) fun cdv A outer s H E τs τ hr ⟨o, h1, h2⟩ => ?_
  subst h1 h2
  cases o with
  | none => exact bd_ret (ev_ifE (et_eqI (ev_ix (ev_n 0 rfl) ev_int rfl) ev_int) (fun _ => ev_vstr (ev_glob (v := .str "endless") rfl hE ⟨t, rfl⟩)) (fun h => absurd h (by decide)))
  | some n => exact bd_ret (ev_ifE (et_eqI (ev_ix (ev_n 0 rfl) ev_int rfl) ev_int) (fun h => absurd h (by decide)) (fun _ => ev_ix (ev_n 0 rfl) ev_int rfl))
end
end EC

set_option Elab.async false
set_option linter.all false
set_option maxRecDepth 100000
set_option maxHeartbeats 4000000
/-! EcF6: the law's own pure defs. -/
namespace EC
open PySem PySem.Spec PyProof.Rows L2

def namesD (p : Prg) : PyData := .list ((p.cells.map (·.name)).map PyData.str)
theorem name_at {p : Prg} {x : Str} (hx : x ∈ p.cells.map (·.name)) : (p.cells.map (·.name))[p.idx x]? = some x := by
  obtain ⟨i1, i2⟩ := idx_at hx
  rw [List.getElem?_map, i1]
  exact congrArg some i2
theorem name_first {p : Prg} {x : Str} (m : Nat) (z : Str) (hm : m < p.idx x) (hz : (p.cells.map (·.name))[m]? = some z) : z ≠ x := by
  rw [List.getElem?_map] at hz
  cases e : p.cells[m]? with
  | none => rw [e] at hz; cases hz
  | some c =>
    rw [e] at hz
    cases hz
    exact idx_first m hm c e
theorem ix_val {p : Prg} {vs : List Int} {x : Str} (hl : vs.length = p.cells.length) (hx : x ∈ p.cells.map (·.name)) : atI (vs.map PyData.int) (p.idx x : Int) = some (.int (p.val vs x)) :=
  atI_nat (by rw [List.getElem?_map, val_at (by rw [hl]; exact idx_lt hx)]; rfl)
theorem cell_first {p : Prg} {x : Str} (hx : x ∈ p.cells.map (·.name)) : (p.cells.filter fun c => decide (c.name = x))[0]? = some (p.cell x) := by
  obtain ⟨i1, i2⟩ := idx_at hx
  rw [← List.head?_eq_getElem?, List.head?_filter]
  have e : p.cells.find? (fun c => decide (c.name = x)) = p.cells[p.cells.findIdx fun c => decide (c.name = x)]? := by
    rw [List.find?_eq_getElem?_findIdx]
  rw [e]
  exact i1

section
variable {P : Program} {w : World} {K : PySem.W.Frag} {mg : Str → Option Value} {base : Heap}

def RlvalA (K : PySem.W.Frag) : List Ty → Ty → Prop := fun τs τ => ∃ (p : Prg) (vs : List Int) (a : Atm), vs.length = p.cells.length ∧ a.ok p ∧ τs = [isD K (namesD p), isD K (intsD vs), isD K a.d] ∧ τ = isD K (.int (a.val p vs))
def Rlval (K : PySem.W.Frag) : List Ty → Ty → Prop := fun τs τ => ∃ (p : Prg) (vs : List Int) (a : Ex), vs.length = p.cells.length ∧ a.ok p ∧ τs = [isD K (namesD p), isD K (intsD vs), isD K a.d] ∧ τ = isD K (.int (a.val p vs))
abbrev N48 : List Str := ["_law_names", "_law_values", "_law_part", "_law_left", "_law_right"]
abbrev P48 : List Str := ["_law_names", "_law_values", "_law_part"]
theorem sc_lval : FnScope N48 P48 (defScope (top 48)) := ⟨rfl, rfl, rfl, by decide +kernel, rfl, by decide +kernel, by decide +kernel⟩
theorem ok_lvalA {f : Addr} {fd : FuncData} (F : Fun K "_law_value" "_law_value" (top 48) f fd) (B : Bi mg) : FnOk P w K mg base CX0 1 f fd P48 (spF (RlvalA K)) := by
  refine fn_bd F sc_lval (fun τs τ ⟨_, _, _, _, _, h, _⟩ => by rw [h]; rfl) fun cdv A outer s H E τs τ hr ⟨p, vs, a, hl, ha, h1, h2⟩ => ?_
  subst h1 h2
  cases a with
  | num n =>
    refine bd_if (et_val (ev_isstr (r := false) B (ev_n 2 rfl))) (fun h => nomatch h) fun _ => ?_
    exact bd_if (k := true) (et_not (k := false) (et_val (ev_istuple (r := false) B (ev_n 2 rfl)))) (fun _ => bd_ret (ev_n 2 rfl)) (fun h => nomatch h)
  | var x => exact bd_if (et_val (ev_isstr (r := true) B (ev_n 2 rfl))) (fun _ => bd_ret (ev_ix (ev_n 1 rfl) (ev_index (ev_n 0 rfl) (ev_n 2 rfl) (name_at ha) name_first) (ix_val hl ha))) (fun h => nomatch h)
theorem ok_lval {f : Addr} {fd : FuncData} (F : Fun K "_law_value" "_law_value" (top 48) f fd) (B : Bi mg) (c1 : FnS P w K mg base "_law_value" 3 1 (spF (RlvalA K))) : FnOk P w K mg base CX0 2 f fd P48 (spF (Rlval K)) := by
  refine fn_bd F sc_lval (fun τs τ ⟨_, _, _, _, _, h, _⟩ => by rw [h]; rfl) fun cdv A outer s H E τs τ hr ⟨p, vs, a, hl, ha, h1, h2⟩ => ?_
  subst h1 h2
  have nd := sc_lval.nd
  cases a with
  | atm a =>
    cases a with
    | num n =>
      refine bd_if (et_val (ev_isstr (r := false) B (ev_n 2 rfl))) (fun h => nomatch h) fun _ => ?_
      exact bd_if (k := true) (et_not (k := false) (et_val (ev_istuple (r := false) B (ev_n 2 rfl)))) (fun _ => bd_ret (ev_n 2 rfl)) (fun h => nomatch h)
    | var x => exact bd_if (et_val (ev_isstr (r := true) B (ev_n 2 rfl))) (fun _ => bd_ret (ev_ix (ev_n 1 rfl) (ev_index (ev_n 0 rfl) (ev_n 2 rfl) (name_at ha) name_first) (ix_val hl ha))) (fun h => nomatch h)
  | plus a b =>
    refine bd_if (et_val (ev_isstr (r := false) B (ev_n 2 rfl))) (fun h => nomatch h) fun _ => ?_
    refine bd_if (k := false) (et_not (k := true) (et_val (ev_istuple (r := true) B (ev_n 2 rfl)))) (fun h => nomatch h) fun _ => ?_
    refine bd_par 3 4 rfl nd (by decide) (ev_call c1 hr (evs_cons (ev_n 0 rfl) (evs_cons (ev_n 1 rfl) (evs_cons (ev_ix (ev_n 2 rfl) ev_int rfl) evs_nil))) ⟨p, vs, a, hl, ha.1, rfl, rfl⟩)
      (ev_call c1 hr (evs_cons (ev_n 0 rfl) (evs_cons (ev_n 1 rfl) (evs_cons (ev_ix (ev_n 2 rfl) ev_int rfl) evs_nil))) ⟨p, vs, b, hl, ha.2, rfl, rfl⟩) ?_
    exact bd_if (et_eqT (ev_ix (ev_n 2 rfl) ev_int rfl) ev_str) (fun _ => bd_ret (ev_add (ev_n 3 rfl) (ev_n 4 rfl))) (fun h => absurd h (by decide +kernel))
  | minus a b =>
    refine bd_if (et_val (ev_isstr (r := false) B (ev_n 2 rfl))) (fun h => nomatch h) fun _ => ?_
    refine bd_if (k := false) (et_not (k := true) (et_val (ev_istuple (r := true) B (ev_n 2 rfl)))) (fun h => nomatch h) fun _ => ?_
    refine bd_par 3 4 rfl nd (by decide) (ev_call c1 hr (evs_cons (ev_n 0 rfl) (evs_cons (ev_n 1 rfl) (evs_cons (ev_ix (ev_n 2 rfl) ev_int rfl) evs_nil))) ⟨p, vs, a, hl, ha.1, rfl, rfl⟩)
      (ev_call c1 hr (evs_cons (ev_n 0 rfl) (evs_cons (ev_n 1 rfl) (evs_cons (ev_ix (ev_n 2 rfl) ev_int rfl) evs_nil))) ⟨p, vs, b, hl, ha.2, rfl, rfl⟩) ?_
    refine bd_if (et_eqT (ev_ix (ev_n 2 rfl) ev_int rfl) ev_str) (fun h => absurd h (by decide +kernel)) fun _ => ?_
    exact bd_ret (ev_ifE (et_eqT (ev_ix (ev_n 2 rfl) ev_int rfl) ev_str) (fun _ => ev_sub (ev_n 3 rfl) (ev_n 4 rfl)) (fun h => absurd h (by decide +kernel)))

def Rlholds (K : PySem.W.Frag) : List Ty → Ty → Prop := fun τs τ => ∃ (p : Prg) (vs : List Int) (t : Tst), vs.length = p.cells.length ∧ t.ok p ∧ τs = [isD K (namesD p), isD K (intsD vs), isD K t.d] ∧ τ = isD K (.bool (t.holds p vs))
abbrev N49 : List Str := ["_law_names", "_law_values", "_law_test", "_law_left", "_law_right"]
abbrev P49 : List Str := ["_law_names", "_law_values", "_law_test"]
theorem sc_lholds : FnScope N49 P49 (defScope (top 49)) := ⟨rfl, rfl, rfl, by decide +kernel, rfl, by decide +kernel, by decide +kernel⟩
theorem ok_lholds {f : Addr} {fd : FuncData} (F : Fun K "_law_holds" "_law_holds" (top 49) f fd) (c1 : FnS P w K mg base "_law_value" 3 1 (spF (RlvalA K))) : FnOk P w K mg base CX0 2 f fd P49 (spF (Rlholds K)) := by
  refine fn_bd F sc_lholds (fun τs τ ⟨_, _, _, _, _, h, _⟩ => by rw [h]; rfl) fun cdv A outer s H E τs τ hr ⟨p, vs, t, hl, ht, h1, h2⟩ => ?_
  subst h1 h2
  have nd := sc_lholds.nd
  cases t with
  | less a b =>
    refine bd_if (et_eqT (ev_ix (ev_n 2 rfl) ev_int rfl) ev_str) (fun h => absurd h (by decide +kernel)) fun _ => ?_
    refine bd_par 3 4 rfl nd (by decide) (ev_call c1 hr (evs_cons (ev_n 0 rfl) (evs_cons (ev_n 1 rfl) (evs_cons (ev_ix (ev_n 2 rfl) ev_int rfl) evs_nil))) ⟨p, vs, a, hl, ht.1, rfl, rfl⟩)
      (ev_call c1 hr (evs_cons (ev_n 0 rfl) (evs_cons (ev_n 1 rfl) (evs_cons (ev_ix (ev_n 2 rfl) ev_int rfl) evs_nil))) ⟨p, vs, b, hl, ht.2, rfl, rfl⟩) ?_
    exact bd_ret (ev_ifE (et_eqT (ev_ix (ev_n 2 rfl) ev_int rfl) ev_str) (fun _ => ev_lt (ev_n 3 rfl) (ev_n 4 rfl)) (fun h => absurd h (by decide +kernel)))
  | equal a b =>
    refine bd_if (et_eqT (ev_ix (ev_n 2 rfl) ev_int rfl) ev_str) (fun h => absurd h (by decide +kernel)) fun _ => ?_
    refine bd_par 3 4 rfl nd (by decide) (ev_call c1 hr (evs_cons (ev_n 0 rfl) (evs_cons (ev_n 1 rfl) (evs_cons (ev_ix (ev_n 2 rfl) ev_int rfl) evs_nil))) ⟨p, vs, a, hl, ht.1, rfl, rfl⟩)
      (ev_call c1 hr (evs_cons (ev_n 0 rfl) (evs_cons (ev_n 1 rfl) (evs_cons (ev_ix (ev_n 2 rfl) ev_int rfl) evs_nil))) ⟨p, vs, b, hl, ht.2, rfl, rfl⟩) ?_
    exact bd_ret (ev_ifE (et_eqT (ev_ix (ev_n 2 rfl) ev_int rfl) ev_str) (fun h => absurd h (by decide +kernel)) (fun _ => ev_eqI (ev_n 3 rfl) (ev_n 4 rfl)))

/-! _law_first -/
def Rlfirst (K : PySem.W.Frag) : List Ty → Ty → Prop := fun τs τ => ∃ p : Prg, p.Ok ∧ τs = [isD K p.d] ∧ τ = isD K p.first.d
abbrev N50 : List Str := ["_law_program_here", "_law_starts", "_law_cell"]
theorem sc_lfirst : FnScope N50 ["_law_program_here"] (defScope (top 50)) := ⟨rfl, rfl, rfl, by decide +kernel, rfl, by decide +kernel, by decide +kernel⟩
theorem savedOf_starts : ∀ cs : List Cell, savedOf cs (cs.map (·.start)) = (cs.filter Cell.sv).map (·.start)
  | [] => rfl
  | c :: cs => by
    have ih := savedOf_starts cs
    rw [List.map_cons, List.filter_cons]
    unfold savedOf
    split <;> simp [ih]
theorem ok_lfirst {f : Addr} {fd : FuncData} (F : Fun K "_law_first" "_law_first" (top 50) f fd) (B : Bi mg) : FnOk P w K mg base CX0 1 f fd ["_law_program_here"] (spF (Rlfirst K)) := by
  refine fn_bd F sc_lfirst (fun τs τ ⟨_, _, h, _⟩ => by rw [h]; rfl) fun cdv A outer s H E τs τ hr ⟨p, hp, h1, h2⟩ => ?_
  subst h1 h2
  have nd := sc_lfirst.nd
  have hn := hp.ncell
  have cellG : ∀ {i : Nat}, i < (p.cells.map Cell.d).length → (p.cells.map Cell.d).getD i .none = .tuple [.str (p.cells.getD i ⟨"", "", 0, 0⟩).name, .str (p.cells.getD i ⟨"", "", 0, 0⟩).kind, .int (p.cells.getD i ⟨"", "", 0, 0⟩).top, .int (p.cells.getD i ⟨"", "", 0, 0⟩).start] := fun hi => getD_map (f := Cell.d) (cell_at (by rw [List.length_map] at hi; exact hi))
  refine bd_set 1 nd (ev_tupleL B (ev_lc (b := fun _ => true) (f := fun i => .int (p.cells.getD i ⟨"", "", 0, 0⟩).start) [("_law_cell", 2)] rfl nd (blkOk_by (N := N50) (sc := defScope (top 50)) (by decide +kernel)) (src_tup 2 (ev_ix (ev_n 0 rfl) ev_int rfl) (fun _ _ _ _ _ => pg_name nd rfl (.inl rfl))) (fun _ _ _ _ _ i hi => ets_nil) (fun _ _ _ _ _ i hi _ => ?_) (fun _ _ _ => rfl) (by simp; omega))) ?_
  · exact ev_ix (ev_n 2 (congrArg (fun d => some (some (isD K d))) (cellG hi))) ev_int rfl
  have e : p.first.d = .tuple [.tuple [.int 0, .tuple (lcD (p.cells.map Cell.d).length (fun i => (p.cells.getD i ⟨"", "", 0, 0⟩).sv) (fun i => .int (p.cells.getD i ⟨"", "", 0, 0⟩).start))], .int 0, .tuple (lcD (p.cells.map Cell.d).length (fun _ => true) (fun i => .int (p.cells.getD i ⟨"", "", 0, 0⟩).start))] := by
    rw [List.length_map, lcD_list ⟨"", "", 0, 0⟩ p.cells Cell.sv (fun c => .int c.start), lcD_all ⟨"", "", 0, 0⟩ p.cells (fun c => .int c.start)]
    unfold Prg.first Mom.d intsD
    rw [savedOf_starts, List.map_map, List.map_map]
    rfl
  rw [e]
  refine bd_ret (ev_tup (eds_cons (ev_tup (eds_cons ev_int (eds_cons (ev_tupleL B (ev_lc [("_law_cell", 2)] rfl nd (blkOk_by (N := N50) (sc := defScope (top 50)) (by decide +kernel)) (src_tup 2 (ev_ix (ev_n 0 rfl) ev_int rfl) (fun _ _ _ _ _ => pg_name nd rfl (.inl rfl))) (fun _ _ _ _ _ i hi => ?_) (fun _ _ _ _ _ i hi _ => ?_) (fun _ _ _ => rfl) (by simp; omega))) eds_nil))) (eds_cons ev_int (eds_cons (ev_n 1 rfl) eds_nil))))
  · exact ets_one (et_eqT (ev_ix (ev_n 2 (congrArg (fun d => some (some (isD K d))) (cellG hi))) ev_int rfl) ev_str)
  · exact ev_ix (ev_n 2 (congrArg (fun d => some (some (isD K d))) (cellG hi))) ev_int rfl

/-! _law_due -/
def Rldue (K : PySem.W.Frag) : List Ty → Ty → Prop := fun τs τ => ∃ (p : Prg) (m : Mom), p.Ok ∧ p.MomOk m ∧ τs = [isD K p.d, isD K m.d] ∧ τ = isD K (.int (p.due m))
abbrev N51 : List Str := ["_law_program_here", "_law_moment", "_law_instruction"]
theorem sc_ldue : FnScope N51 ["_law_program_here", "_law_moment"] (defScope (top 51)) := ⟨rfl, rfl, rfl, by decide +kernel, rfl, by decide +kernel, by decide +kernel⟩
theorem ok_ldue {f : Addr} {fd : FuncData} (F : Fun K "_law_due" "_law_due" (top 51) f fd) : FnOk P w K mg base CX0 1 f fd ["_law_program_here", "_law_moment"] (spF (Rldue K)) := by
  refine fn_bd F sc_ldue (fun τs τ ⟨_, _, _, _, h, _⟩ => by rw [h]; rfl) fun cdv A outer s H E τs τ hr ⟨p, m, hp, hm, h1, h2⟩ => ?_
  subst h1 h2
  have nd := sc_ldue.nd
  have e := ix_code hm.pl
  refine bd_set 2 nd (ev_ix (ev_ix (ev_n 0 rfl) ev_int rfl) (ev_ix (ev_n 1 rfl) ev_int rfl) e) ?_
  unfold Prg.due
  cases p.ins m.pl <;>
    refine bd_ret (ev_ifE (et_inT (ss := ["end", "off"]) (ev_ix (ev_n 2 rfl) ev_int rfl) (ev_tup (eds_cons ev_str (eds_cons ev_str eds_nil))) rfl rfl) (fun h => ?_) (fun h => ?_)) <;>
    first
      | exact absurd h (by decide +kernel)
      | exact ev_int
      | exact ev_ix (ev_n 2 rfl) (ev_neg ev_int) rfl

/-! _law_steps -/
def Rlsteps (K : PySem.W.Frag) : List Ty → Ty → Prop := fun τs τ => ∃ (p : Prg) (m : Mom), p.Ok ∧ p.MomOk m ∧ τs = [isD K p.d, isD K m.d] ∧ τ = isD K (.list ((p.steps m).map stepD))
abbrev N52 : List Str := ["_law_program_here", "_law_moment", "_law_instruction", "_law_top", "_law_cell", "_law_value_here"]
theorem sc_lsteps : FnScope N52 ["_law_program_here", "_law_moment"] (defScope (top 52)) := ⟨rfl, rfl, rfl, by decide +kernel, rfl, by decide +kernel, by decide +kernel⟩
theorem ok_lsteps {f : Addr} {fd : FuncData} (F : Fun K "_law_steps" "_law_steps" (top 52) f fd) (B : Bi mg) : FnOk P w K mg base CX0 1 f fd ["_law_program_here", "_law_moment"] (spF (Rlsteps K)) := by
  refine fn_bd F sc_lsteps (fun τs τ ⟨_, _, _, _, h, _⟩ => by rw [h]; rfl) fun cdv A outer s H E τs τ hr ⟨p, m, hp, hm, h1, h2⟩ => ?_
  subst h1 h2
  have nd := sc_lsteps.nd
  have hc := hp.code _ _ (ins_at hm.pl)
  have e := ix_code hm.pl
  have hn := hp.ncell
  have cellG : ∀ {i : Nat}, i < (p.cells.map Cell.d).length → (p.cells.map Cell.d).getD i .none = .tuple [.str (p.cells.getD i ⟨"", "", 0, 0⟩).name, .str (p.cells.getD i ⟨"", "", 0, 0⟩).kind, .int (p.cells.getD i ⟨"", "", 0, 0⟩).top, .int (p.cells.getD i ⟨"", "", 0, 0⟩).start] := fun hi => getD_map (f := Cell.d) (cell_at (by rw [List.length_map] at hi; exact hi))
  refine bd_set 2 nd (ev_ix (ev_ix (ev_n 0 rfl) ev_int rfl) (ev_ix (ev_n 1 rfl) ev_int rfl) e) ?_
  unfold Prg.steps
  cases hi : p.ins m.pl with
  | fin =>
    refine bd_if (et_eqT (ev_ix (ev_n 2 rfl) ev_int rfl) ev_str) (fun h => absurd h (by decide +kernel)) fun _ => ?_
    exact bd_ret (ev_ifE (et_eqT (ev_ix (ev_n 2 rfl) ev_int rfl) ev_str) (fun _ => ev_lst (ds := []) eds_nil (by decide)) (fun h => absurd h (by decide +kernel)))
  | ask x c =>
    rw [hi] at hc
    have ho := cell_ok hp hc.1
    refine bd_if (et_eqT (ev_ix (ev_n 2 rfl) ev_int rfl) ev_str) (fun _ => ?_) (fun h => absurd h (by decide +kernel))
    refine bd_set 3 nd (ev_ixL (ds := lcD (p.cells.map Cell.d).length (fun i => decide ((p.cells.getD i ⟨"", "", 0, 0⟩).name = x)) (fun i => .int (p.cells.getD i ⟨"", "", 0, 0⟩).top)) (d := .int (p.cell x).top) (ev_lc [("_law_cell", 4)] rfl nd (blkOk_by (N := N52) (sc := defScope (top 52)) (by decide +kernel)) (src_tup 4 (ev_ix (ev_n 0 rfl) ev_int rfl) (fun _ _ _ _ _ => pg_name nd rfl (.inl rfl))) (fun _ _ _ _ _ i hi => ?_) (fun _ _ _ _ _ i hi _ => ?_) (fun _ _ _ => rfl) (by simp; omega)) ev_int ?_) ?_
    · exact ets_one (et_eqT (ev_ix (ev_n 4 (congrArg (fun d => some (some (isD K d))) (cellG hi))) ev_int rfl) (ev_ix (ev_n 2 rfl) ev_int rfl))
    · exact ev_ix (ev_n 4 (congrArg (fun d => some (some (isD K d))) (cellG hi))) ev_int rfl
    · rw [List.length_map, lcD_list ⟨"", "", 0, 0⟩ p.cells (fun c => decide (c.name = x)) (fun c => .int c.top)]
      exact atI_nat (j := 0) (by rw [List.getElem?_map, cell_first hc.1]; rfl)
    have e3 : ((List.range ((p.cell x).top + 1).toNat).map fun k => some ((k : Nat) : Int)).map stepD = lcD ((p.cell x).top + 1).toNat (fun _ => true) (fun k => .tuple [.int ((k : Nat) : Int)]) := by
      unfold lcD
      rw [List.filter_eq_self.mpr (fun _ _ => rfl), List.map_map]
      rfl
    show BD _ _ _ (isD K (.list (((List.range ((p.cell x).top + 1).toNat).map fun k => some ((k : Nat) : Int)).map stepD)))
    rw [e3]
    exact bd_ret (ev_lc [("_law_value_here", 5)] rfl nd (blkOk_by (N := N52) (sc := defScope (top 52)) (by decide +kernel)) (src_range 5 B.range (ev_add (ev_n 3 rfl) ev_int) (by have := ho.2; omega) (by have := ho.2; omega) (fun _ _ _ _ _ => pg_name nd rfl (.inl rfl))) (fun _ _ _ _ _ i hi => ets_nil) (fun _ _ _ _ _ i hi _ => ev_tup (eds_cons (ev_n 5 rfl) eds_nil)) (fun _ _ _ => rfl) (by have := ho.2; omega))
  | _ =>
    refine bd_if (et_eqT (ev_ix (ev_n 2 rfl) ev_int rfl) ev_str) (fun h => absurd h (by decide +kernel)) fun _ => ?_
    exact bd_ret (ev_ifE (et_eqT (ev_ix (ev_n 2 rfl) ev_int rfl) ev_str) (fun h => absurd h (by decide +kernel)) (fun _ => ev_lst (ds := [.tuple []]) (eds_cons (ev_tup eds_nil) eds_nil) (by decide)))

/-! _law_told -/
def Rltold (K : PySem.W.Frag) : List Ty → Ty → Prop := fun τs τ => ∃ n : Int, τs = [isD K (.int n)] ∧ τ = isD K (widthD (if 9999 ≤ n then none else some n))
abbrev N58 : List Str := ["_law_number"]
theorem sc_ltold : FnScope N58 N58 (defScope (top 58)) := ⟨rfl, rfl, rfl, by decide +kernel, rfl, by decide +kernel, by decide +kernel⟩
theorem ok_ltold {f : Addr} {fd : FuncData} (F : Fun K "_law_told" "_law_told" (top 58) f fd) : FnOk P w K mg base CX0 1 f fd N58 (spF (Rltold K)) := by
  refine fn_bd F sc_ltold (fun τs τ ⟨_, h, _⟩ => by rw [h]; rfl) fun cdv A outer s H E τs τ hr ⟨n, h1, h2⟩ => ?_
  subst h1 h2
  by_cases h : 9999 ≤ n
  · rw [if_pos h]
    exact bd_ret (ev_ifE (et_ge (ev_n 0 rfl) ev_int) (fun _ => ev_str) (fun q => absurd h (of_decide_eq_false q)))
  · rw [if_neg h]
    exact bd_ret (ev_ifE (et_ge (ev_n 0 rfl) ev_int) (fun q => absurd (of_decide_eq_true q) h) (fun _ => ev_n 0 rfl))

/-! _law_after -/
abbrev N53 : List Str := ["_law_program_here", "_law_moment", "_law_step", "_law_copy", "_law_place", "_law_values", "_law_instruction", "_law_names", "_law_word", "_law_saved", "_law_later", "_law_at", "_law_value_here", "_law_cell"]
abbrev P53 : List Str := ["_law_program_here", "_law_moment", "_law_step"]
theorem sc_lafter : FnScope N53 P53 (defScope (top 53)) := ⟨rfl, rfl, rfl, by decide +kernel, rfl, by decide +kernel, by decide +kernel⟩
theorem cut_set {vs : List Int} {k : Nat} {v : Int} (h : k < vs.length) : cutD (vs.map PyData.int) none (some (k : Nat)) ++ [.int v] ++ cutD (vs.map PyData.int) (some ((k : Nat) + 1)) none = (vs.set k v).map PyData.int := by
  have e1 : ((k : Nat) : Int) + 1 = ((k + 1 : Nat) : Int) := by omega
  rw [e1, cut_take (by rw [List.length_map]; omega), cut_drop (by rw [List.length_map]; omega), List.append_assoc, List.singleton_append, set_split _ _ _ (by rw [List.length_map]; omega), ← List.map_set]
theorem ok_lafter {f : Addr} {fd : FuncData} (F : Fun K "_law_after" "_law_after" (top 53) f fd) (B : Bi mg) (c1 : FnS P w K mg base "_law_value" 3 2 (spF (Rlval K))) (c2 : FnS P w K mg base "_law_holds" 3 2 (spF (Rlholds K))) : FnOk P w K mg base CX0 3 f fd P53 (spF (Rstepped K)) := by
  refine fn_bd F sc_lafter (fun τs τ ⟨_, _, _, _, _, _, h, _⟩ => by rw [h]; rfl) fun cdv A outer s H E τs τ hr ⟨p, m, s, hp, hm, hs, h1, h2⟩ => ?_
  subst h1 h2
  have nd := sc_lafter.nd
  have hc := hp.code _ _ (ins_at hm.pl)
  have e := ix_code hm.pl
  have hn := hp.ncell
  have hl := valsOk_len hm.vs
  have cellG : ∀ {i : Nat}, i < (p.cells.map Cell.d).length → (p.cells.map Cell.d).getD i .none = .tuple [.str (p.cells.getD i ⟨"", "", 0, 0⟩).name, .str (p.cells.getD i ⟨"", "", 0, 0⟩).kind, .int (p.cells.getD i ⟨"", "", 0, 0⟩).top, .int (p.cells.getD i ⟨"", "", 0, 0⟩).start] := fun hi => getD_map (f := Cell.d) (cell_at (by rw [List.length_map] at hi; exact hi))
  refine bd_unp3 3 4 5 rfl nd (ev_n 1 rfl) ?_
  refine bd_par 6 7 rfl nd (by decide) (ev_ix (ev_ix (ev_n 0 rfl) ev_int rfl) (ev_n 4 rfl) e) (ev_lc (b := fun _ => true) (f := fun i => .str (p.cells.getD i ⟨"", "", 0, 0⟩).name) [("_law_cell", 13)] rfl nd (blkOk_by (N := N53) (sc := defScope (top 53)) (by decide +kernel)) (src_tup 13 (ev_ix (ev_n 0 rfl) ev_int rfl) (fun _ _ _ _ _ => pg_name nd rfl (.inl rfl))) (fun _ _ _ _ _ i hi => ets_nil) (fun _ _ _ _ _ i hi _ => ?_) (fun _ _ _ => rfl) (by simp; omega)) ?_
  · exact ev_ix (ev_n 13 (congrArg (fun d => some (some (isD K d))) (cellG hi))) ev_int rfl
  have en : PyData.list (lcD (p.cells.map Cell.d).length (fun _ => true) (fun i => .str (p.cells.getD i ⟨"", "", 0, 0⟩).name)) = namesD p := by
    rw [List.length_map, lcD_all ⟨"", "", 0, 0⟩ p.cells (fun c => .str c.name)]
    unfold namesD
    rw [List.map_map]
    rfl
  rw [en]
  cases hi : p.ins m.pl with
  | set x ex c =>
    rw [hi] at hc
    have ho := cell_ok hp hc.1
    have hx := idx_lt hc.1
    rw [after_set hi]
    refine bd_set 8 nd (ev_ix (ev_n 6 rfl) ev_int rfl) ?_
    refine bd_if (et_eqT (ev_n 8 rfl) ev_str) (fun h => absurd h (by decide +kernel)) fun _ => ?_
    refine bd_if (et_eqT (ev_n 8 rfl) ev_str) (fun h => absurd h (by decide +kernel)) fun _ => ?_
    refine bd_if (et_eqT (ev_n 8 rfl) ev_str) (fun h => absurd h (by decide +kernel)) fun _ => ?_
    refine bd_ifT (et_inT (ss := ["set", "ask"]) (ev_n 8 rfl) (ev_tup (eds_cons ev_str (eds_cons ev_str eds_nil))) rfl (by decide +kernel)) (bs_set 11 nd (ev_index (ev_n 7 rfl) (ev_ix (ev_n 6 rfl) ev_int rfl) (name_at hc.1) name_first)
      (bs_set 12 nd (ev_ifE (et_eqT (ev_n 8 rfl) ev_str) (fun h => absurd h (by decide +kernel)) (fun _ => ev_call c1 hr (evs_cons (ev_n 7 rfl) (evs_cons (ev_n 5 rfl) (evs_cons (ev_ix (ev_n 6 rfl) ev_int rfl) evs_nil))) ⟨p, m.vs, ex, hl, hc.2.1, rfl, rfl⟩))
      (bs_set 12 nd (ev_mod (ev_int1 B (ev_n 12 rfl)) (ev_int1 B (ev_add (ev_ix (ev_ix (ev_ix (ev_n 0 rfl) ev_int rfl) (ev_n 11 rfl) (ix_cell hc.1)) ev_int rfl) ev_int)) (by have := ho.2; omega))
      (bs_set 5 nd (ev_catT (ev_catT (ev_sliceT (ev_n 5 rfl) eo_none (eo_some (ev_n 11 rfl))) (ev_tup (eds_cons (ev_n 12 rfl) eds_nil)) ?_) (ev_sliceT (ev_n 5 rfl) (eo_some (ev_add (ev_n 11 rfl) ev_int)) eo_none) ?_) bs_nil)))) ?_
    · rw [cut_take (by rw [List.length_map]; omega)]
      simp
      omega
    · have q := congrArg List.length (cut_set (v := Ex.val p m.vs ex % ((p.cell x).top + 1)) (by omega : p.idx x < m.vs.length))
      rw [List.length_append] at q
      rw [q]
      simp
      omega
    · rw [cut_set (by omega)]
      exact bd_ret (ev_tup (eds_cons (ev_n 3 rfl) (eds_cons (ev_suc (ev_n 4 rfl)) (eds_cons (ev_n 5 rfl) eds_nil))))
  | ask x c =>
    rw [hi] at hc
    have ho := cell_ok hp hc.1
    have hx := idx_lt hc.1
    obtain ⟨k, rfl, k0, k1⟩ := steps_ask hi hs
    have ek : k % ((p.cell x).top + 1) = k := Int.emod_eq_of_lt k0 (by omega)
    rw [after_ask hi]
    refine bd_set 8 nd (ev_ix (ev_n 6 rfl) ev_int rfl) ?_
    refine bd_if (et_eqT (ev_n 8 rfl) ev_str) (fun h => absurd h (by decide +kernel)) fun _ => ?_
    refine bd_if (et_eqT (ev_n 8 rfl) ev_str) (fun h => absurd h (by decide +kernel)) fun _ => ?_
    refine bd_if (et_eqT (ev_n 8 rfl) ev_str) (fun h => absurd h (by decide +kernel)) fun _ => ?_
    refine bd_ifT (et_inT (ss := ["set", "ask"]) (ev_n 8 rfl) (ev_tup (eds_cons ev_str (eds_cons ev_str eds_nil))) rfl (by decide +kernel)) (bs_set 11 nd (ev_index (ev_n 7 rfl) (ev_ix (ev_n 6 rfl) ev_int rfl) (name_at hc.1) name_first)
      (bs_set 12 nd (ev_ifE (et_eqT (ev_n 8 rfl) ev_str) (fun _ => ev_ix (ev_n 2 rfl) ev_int rfl) (fun h => absurd h (by decide +kernel)))
      (bs_set 12 nd (ev_mod (ev_int1 B (ev_n 12 rfl)) (ev_int1 B (ev_add (ev_ix (ev_ix (ev_ix (ev_n 0 rfl) ev_int rfl) (ev_n 11 rfl) (ix_cell hc.1)) ev_int rfl) ev_int)) (by have := ho.2; omega))
      (bs_set 5 nd (ev_catT (ev_catT (ev_sliceT (ev_n 5 rfl) eo_none (eo_some (ev_n 11 rfl))) (ev_tup (eds_cons (ev_n 12 rfl) eds_nil)) ?_) (ev_sliceT (ev_n 5 rfl) (eo_some (ev_add (ev_n 11 rfl) ev_int)) eo_none) ?_) bs_nil)))) ?_
    · rw [cut_take (by rw [List.length_map]; omega)]
      simp
      omega
    · have q := congrArg List.length (cut_set (v := k % ((p.cell x).top + 1)) (by omega : p.idx x < m.vs.length))
      rw [List.length_append] at q
      rw [q]
      simp
      omega
    · rw [cut_set (by omega), ek]
      exact bd_ret (ev_tup (eds_cons (ev_n 3 rfl) (eds_cons (ev_suc (ev_n 4 rfl)) (eds_cons (ev_n 5 rfl) eds_nil))))
  | jump q c =>
    rw [after_jump hi]
    refine bd_set 8 nd (ev_ix (ev_n 6 rfl) ev_int rfl) ?_
    refine bd_if (et_eqT (ev_n 8 rfl) ev_str) (fun h => absurd h (by decide +kernel)) fun _ => ?_
    exact bd_if (et_eqT (ev_n 8 rfl) ev_str) (fun _ => bd_ret (ev_tup (eds_cons (ev_n 3 rfl) (eds_cons (ev_ix (ev_n 6 rfl) ev_int rfl) (eds_cons (ev_n 5 rfl) eds_nil))))) (fun h => absurd h (by decide +kernel))
  | unl t q c =>
    rw [hi] at hc
    rw [after_unl hi]
    refine bd_set 8 nd (ev_ix (ev_n 6 rfl) ev_int rfl) ?_
    refine bd_if (et_eqT (ev_n 8 rfl) ev_str) (fun h => absurd h (by decide +kernel)) fun _ => ?_
    refine bd_if (et_eqT (ev_n 8 rfl) ev_str) (fun h => absurd h (by decide +kernel)) fun _ => ?_
    refine bd_if (et_eqT (ev_n 8 rfl) ev_str) (fun _ => ?_) (fun h => absurd h (by decide +kernel))
    cases ht : t.holds p m.vs with
    | true =>
      refine bd_set 10 nd (ev_ifE (k := true) (et_val (ev_call c2 hr (evs_cons (ev_n 7 rfl) (evs_cons (ev_n 5 rfl) (evs_cons (ev_ix (ev_n 6 rfl) ev_int rfl) evs_nil))) ⟨p, m.vs, t, hl, hc.1, rfl, by rw [ht]; rfl⟩)) (fun _ => ev_suc (ev_n 4 rfl)) (fun h => nomatch h)) ?_
      exact bd_ret (ev_tup (eds_cons (ev_n 3 rfl) (eds_cons (ev_n 10 rfl) (eds_cons (ev_n 5 rfl) eds_nil))))
    | false =>
      refine bd_set 10 nd (ev_ifE (k := false) (et_val (ev_call c2 hr (evs_cons (ev_n 7 rfl) (evs_cons (ev_n 5 rfl) (evs_cons (ev_ix (ev_n 6 rfl) ev_int rfl) evs_nil))) ⟨p, m.vs, t, hl, hc.1, rfl, by rw [ht]; rfl⟩)) (fun h => nomatch h) (fun _ => ev_ix (ev_n 6 rfl) ev_int rfl)) ?_
      exact bd_ret (ev_tup (eds_cons (ev_n 3 rfl) (eds_cons (ev_n 10 rfl) (eds_cons (ev_n 5 rfl) eds_nil))))
  | mark c =>
    rw [after_mark hi]
    refine bd_set 8 nd (ev_ix (ev_n 6 rfl) ev_int rfl) ?_
    refine bd_if (et_eqT (ev_n 8 rfl) ev_str) (fun _ => ?_) (fun h => absurd h (by decide +kernel))
    refine bd_setLc (b := fun i => (p.cells.getD i ⟨"", "", 0, 0⟩).sv) (f := fun i => .int (m.vs.getD i 0)) 9 [("_law_cell", 13), ("_law_value_here", 12)] rfl nd (blkOk_by (N := N53) (sc := defScope (top 53)) (by decide +kernel)) (src_zipTT 13 12 B.zip (ev_ix (ev_n 0 rfl) ev_int rfl) (ev_n 5 rfl) (by simp [hl]) (fun _ _ _ _ _ => pg_tup rfl (pgs_cons (pg_name nd rfl (.inl rfl)) (pgs_cons (pg_name nd rfl (.inl rfl)) pgs_nil)))) (fun _ _ _ _ _ i hi => ?_) (fun _ _ _ _ _ i hi _ => ?_) (fun _ _ _ => rfl) (by simp; omega) ?_
    · exact ets_one (et_eqT (ev_ix (ev_n 13 (congrArg (fun d => some (some (isD K d))) (cellG hi))) ev_int rfl) ev_str)
    · exact ev_n 12 (congrArg (fun d => some (some (isD K d))) (getD_map (f := PyData.int) (val_at (by rw [List.length_map] at hi; omega))))
    rw [List.length_map, lcD_zip ⟨"", "", 0, 0⟩ 0 hl.symm (fun c _ => c.sv) (fun _ v => .int v), savedOf_zip]
    exact bd_ret (ev_tup (eds_cons (ev_tup (eds_cons (ev_suc (ev_n 4 rfl)) (eds_cons (ev_tupleL B (ev_n 9 rfl)) eds_nil))) (eds_cons (ev_suc (ev_n 4 rfl)) (eds_cons (ev_n 5 rfl) eds_nil))))
  | off c =>
    rw [after_off hi]
    refine bd_set 8 nd (ev_ix (ev_n 6 rfl) ev_int rfl) ?_
    refine bd_if (et_eqT (ev_n 8 rfl) ev_str) (fun h => absurd h (by decide +kernel)) fun _ => ?_
    refine bd_if (et_eqT (ev_n 8 rfl) ev_str) (fun h => absurd h (by decide +kernel)) fun _ => ?_
    refine bd_if (et_eqT (ev_n 8 rfl) ev_str) (fun h => absurd h (by decide +kernel)) fun _ => ?_
    refine bd_ifF (et_inT (ss := ["set", "ask"]) (ev_n 8 rfl) (ev_tup (eds_cons ev_str (eds_cons ev_str eds_nil))) rfl (by decide +kernel)) ?_
    exact bd_ret (ev_tup (eds_cons (ev_n 3 rfl) (eds_cons (ev_suc (ev_n 4 rfl)) (eds_cons (ev_n 5 rfl) eds_nil))))
  | fin =>
    unfold Prg.steps at hs
    rw [hi] at hs
    cases hs
end
end EC

set_option Elab.async false
set_option linter.all false
set_option maxRecDepth 100000
set_option maxHeartbeats 4000000
/-! EcN1: dicts whose keys are moments: the kind of key, the object, its reading. -/
namespace EC
open PySem PySem.Spec PyProof.Rows L2

/-! ### keys -/
mutual
def nk : PyData → NestedKey
  | .none => .none
  | .bool b => .num (if b = true then 1 else 0)
  | .int i => .num i
  | .str x => .text x
  | .tuple ds => .tup (nks ds)
  | .list _ => .none
  | .dict _ => .none
def nks : List PyData → List NestedKey
  | [] => []
  | d :: ds => nk d :: nks ds
end
mutual
theorem nk_of {h : Heap} : ∀ (d : PyData) (u : Value) (as : List Addr), lf d = true → Reads h u d as → NestedIs h (nk d) u
  | .none, _, _, _, r => by cases r; exact .none
  | .bool b, _, _, _, r => by cases r; exact .bool rfl
  | .int i, _, _, _, r => by cases r; exact .int _ _
  | .str x, _, _, _, r => by cases r; exact .text _ _
  | .list ds, _, _, z, _ => by simp [lf] at z
  | .dict ds, _, _, z, _ => by simp [lf] at z
  | .tuple ds, _, _, z, r => by
    cases r with
    | tuple h1 h2 h3 h4 => exact .tup h1 h2 h3 (nks_of ds _ _ (by simpa [lf] using z) h4)
theorem nks_of {h : Heap} : ∀ (ds : List PyData) (us : List Value) (as : List Addr), lfs ds = true → ReadsAll h us ds as → NestedAll h (nks ds) us
  | [], _, _, _, r => by cases r; exact .nil
  | d :: ds, _, _, z, r => by
    have z' : lf d = true ∧ lfs ds = true := by simpa [lfs] using z
    cases r with
    | cons h1 h2 => exact .cons (nk_of d _ _ z'.1 h1) (nks_of ds _ _ z'.2 h2)
end
theorem nks_ints : ∀ ns : List Int, nks (ns.map PyData.int) = ns.map NestedKey.num
  | [] => rfl
  | n :: r => by
    show NestedKey.num n :: nks (r.map PyData.int) = _
    rw [nks_ints r]
    rfl
theorem nums_inj : ∀ {a b : List Int}, a.map NestedKey.num = b.map NestedKey.num → a = b
  | [], [], _ => rfl
  | [], _ :: _, e => by simp at e
  | _ :: _, [], e => by simp at e
  | x :: xs, y :: ys, e => by
    rw [List.map_cons, List.map_cons] at e
    injection e with e1 e2
    injection e1 with e1
    rw [e1, nums_inj e2]
def Mom.k (m : Mom) : NestedKey := .tup [.tup [.num (m.cp : Nat), .tup (m.cs.map .num)], .num (m.pl : Nat), .tup (m.vs.map .num)]
theorem Mom.k_eq (m : Mom) : nk m.d = m.k := by
  simp [Mom.d, Mom.k, nk, nks, intsD, nks_ints]
theorem Mom.k_inj {m n : Mom} (e : m.k = n.k) : m = n := by
  obtain ⟨a, b, c, d⟩ := m
  obtain ⟨a', b', c', d'⟩ := n
  unfold Mom.k at e
  injection e with e
  injection e with e1 e
  injection e with e2 e
  injection e with e3 _
  injection e1 with e1
  injection e1 with e1 e4
  injection e4 with e4 _
  injection e1 with e1
  injection e2 with e2
  injection e3 with e3
  injection e4 with e4
  have h1 : a = a' := by exact_mod_cast e1
  have h2 : c = c' := by exact_mod_cast e2
  have h3 := nums_inj e3
  have h4 := nums_inj e4
  subst h1 h2 h3 h4
  rfl
theorem nums_depth : ∀ l : List Int, NestedKey.depthAll (l.map NestedKey.num) = 0
  | [] => rfl
  | x :: r => by
    show max 0 (NestedKey.depthAll (r.map NestedKey.num)) = 0
    rw [nums_depth r]
    rfl
theorem Mom.k_depth (m : Mom) : m.k.depth ≤ 8 := by
  simp [Mom.k, NestedKey.depth, NestedKey.depthAll, nums_depth]
/-- moments as keys -/
def momKind (P : Program) (w : World) : HeapKind P w Mom where
  is := fun h m a => (nestedKind P w).is h m.k a
  hash := fun m => (nestedKind P w).hash m.k
  draws := fun m => (nestedKind P w).draws m.k
  room := (nestedKind P w).room
  inj := fun h1 h2 => Mom.k_inj ((nestedKind P w).inj h1 h2)
  keeps := fun h1 h2 h3 h4 => (nestedKind P w).keeps h1 h2 h3 h4
  pyHash := fun h1 h2 h3 => (nestedKind P w).pyHash h1 h2 h3
  eqBool := fun {A E s x y a b Q} h1 h2 h3 q => (nestedKind P w).eqBool h1 h2 h3 (by
    have e : decide (x.k = y.k) = decide (x = y) := by
      by_cases z : x = y
      · subst z; simp
      · rw [decide_eq_false z, decide_eq_false (fun q => z (Mom.k_inj q))]
    rw [e]
    exact q)
  quiet := fun h1 h2 => (nestedKind P w).quiet h1 h2
theorem momKind_stays {P : Program} {w : World} : (momKind P w).Stays where
  stays := fun hk x => nestedKind_stays.stays (knd := nestedKind P w) hk x
  tuple := fun x => nestedKind_stays.tuple (knd := nestedKind P w) x

/-! ### tables by moments, in the order of their keys' coming -/
section
variable {β : Type}
def look (l : List (Mom × β)) (m : Mom) : Option β := (l.find? fun x => decide (x.1 = m)).map (·.2)
/-- in its place (changed by f), or at the end -/
def putW (l : List (Mom × β)) (m : Mom) (f : β → β) (y : β) : List (Mom × β) :=
  if (look l m).isSome = true then l.map (fun x => if x.1 = m then (x.1, f x.2) else x) else l ++ [(m, y)]
def put (l : List (Mom × β)) (m : Mom) (y : β) : List (Mom × β) := putW l m (fun _ => y) y
theorem look_nil {m : Mom} : look ([] : List (Mom × β)) m = none := rfl
theorem look_pos {p : Mom × β} {r : List (Mom × β)} {m : Mom} (e : p.1 = m) : look (p :: r) m = some p.2 := by simp [look, List.find?_cons, e]
theorem look_neg {p : Mom × β} {r : List (Mom × β)} {m : Mom} (e : ¬ p.1 = m) : look (p :: r) m = look r m := by simp [look, List.find?_cons, e]
theorem look_mem {m : Mom} {y : β} : ∀ {l : List (Mom × β)}, look l m = some y → (m, y) ∈ l
  | [], h => by cases h
  | p :: r, h => by
    by_cases e : p.1 = m
    · rw [look_pos e] at h
      cases h
      subst e
      exact List.mem_cons_self
    · rw [look_neg e] at h
      exact List.mem_cons_of_mem _ (look_mem h)
theorem look_isSome {m : Mom} : ∀ {l : List (Mom × β)}, (look l m).isSome = true ↔ m ∈ l.map (·.1)
  | [] => by simp [look]
  | p :: r => by
    by_cases e : p.1 = m
    · rw [look_pos e]; simp [e]
    · rw [look_neg e, look_isSome (l := r)]
      simp [Ne.symm e]
theorem look_none {l : List (Mom × β)} {m : Mom} : look l m = none ↔ m ∉ l.map (·.1) := by
  rw [← look_isSome]
  cases look l m <;> simp
theorem look_dec (l : List (Mom × β)) (m : Mom) : (look l m).isSome = decide (m ∈ l.map (·.1)) := by
  by_cases h : m ∈ l.map (·.1)
  · rw [decide_eq_true h]; exact look_isSome.mpr h
  · rw [decide_eq_false h, look_none.mpr h]; rfl
theorem look_of_mem {m : Mom} {y : β} : ∀ {l : List (Mom × β)}, (l.map (·.1)).Nodup → (m, y) ∈ l → look l m = some y
  | p :: r, hn, h => by
    rw [List.map_cons, List.nodup_cons] at hn
    rcases List.mem_cons.mp h with e | h
    · subst e
      exact look_pos rfl
    · have hne : ¬ p.1 = m := fun z => hn.1 (z ▸ List.mem_map.mpr ⟨(m, y), h, rfl⟩)
      rw [look_neg hne]
      exact look_of_mem hn.2 h
theorem look_app_none {m : Mom} {q : List (Mom × β)} : ∀ {l : List (Mom × β)}, look l m = none → look (l ++ q) m = look q m
  | [], _ => rfl
  | p :: r, h => by
    have hk : ¬ p.1 = m := fun z => by rw [look_pos z] at h; cases h
    rw [look_neg hk] at h
    rw [List.cons_append, look_neg hk]
    exact look_app_none h
theorem look_app_some {m : Mom} {q : List (Mom × β)} {y : β} : ∀ {l : List (Mom × β)}, look l m = some y → look (l ++ q) m = some y
  | [], h => by cases h
  | p :: r, h => by
    rw [List.cons_append]
    by_cases hk : p.1 = m
    · rw [look_pos hk] at h ⊢
      exact h
    · rw [look_neg hk] at h ⊢
      exact look_app_some h
theorem look_mapk {γ : Type} (f : Mom → β → γ) (m : Mom) : ∀ l : List (Mom × β), look (l.map fun x => (x.1, f x.1 x.2)) m = (look l m).map (f m)
  | [] => rfl
  | p :: r => by
    rw [List.map_cons]
    by_cases e : p.1 = m
    · rw [look_pos (p := (p.1, f p.1 p.2)) e, look_pos e]
      subst e
      rfl
    · rw [look_neg (p := (p.1, f p.1 p.2)) e, look_neg e]
      exact look_mapk f m r
theorem look_self {γ : Type} (f : Mom → γ) {m : Mom} {l : List Mom} (h : m ∈ l) : look (l.map fun x => (x, f x)) m = some (f m) := by
  have e := look_mapk (β := Unit) (fun m _ => f m) m (l.map fun x => (x, ()))
  rw [List.map_map] at e
  have e2 : (look (l.map fun x => (x, ())) m) = some () := by
    have : (look (l.map fun x => (x, ())) m).isSome = true := look_isSome.mpr (by simpa using h)
    cases q : look (l.map fun x => (x, ())) m with
    | none => rw [q] at this; cases this
    | some u => rfl
  rw [e2] at e
  exact e
theorem putW_keys {l : List (Mom × β)} {m : Mom} {f : β → β} {y : β} : (putW l m f y).map (·.1) = if m ∈ l.map (·.1) then l.map (·.1) else l.map (·.1) ++ [m] := by
  unfold putW
  by_cases h : m ∈ l.map (·.1)
  · rw [if_pos (look_isSome.mpr h), if_pos h, List.map_map]
    refine List.map_congr_left fun x _ => ?_
    by_cases e : x.1 = m <;> simp [e]
  · rw [if_neg (fun z => h (look_isSome.mp z)), if_neg h]
    simp
theorem put_keys {l : List (Mom × β)} {m : Mom} {y : β} : (put l m y).map (·.1) = if m ∈ l.map (·.1) then l.map (·.1) else l.map (·.1) ++ [m] := putW_keys
theorem put_len {l : List (Mom × β)} {m : Mom} {y : β} : (put l m y).length ≤ l.length + 1 := by
  unfold put putW
  split <;> simp
theorem look_put {l : List (Mom × β)} {m n : Mom} {y : β} : look (put l m y) n = if n = m then some y else look l n := by
  unfold put putW
  by_cases h : (look l m).isSome = true
  · rw [if_pos h]
    have e : (l.map fun x => if x.1 = m then (x.1, y) else x) = l.map fun x => (x.1, (fun k b => if k = m then y else b) x.1 x.2) := by
      refine List.map_congr_left fun x _ => ?_
      by_cases e : x.1 = m <;> simp [e]
    rw [e, look_mapk (fun k b => if k = m then y else b) n l]
    by_cases z : n = m
    · subst z
      obtain ⟨b, hb⟩ := Option.isSome_iff_exists.mp h
      rw [hb]
      simp
    · simp [z]
  · rw [if_neg h]
    have hn : look l m = none := by
      cases q : look l m with
      | none => rfl
      | some x => rw [q] at h; exact (h rfl).elim
    by_cases z : n = m
    · subst z
      rw [look_app_none hn, if_pos rfl, look_pos rfl]
    · rw [if_neg z]
      cases q : look l n with
      | none => rw [look_app_none q, look_neg (fun e => z e.symm)]; rfl
      | some b => exact look_app_some q
theorem put_new {l : List (Mom × β)} {m : Mom} {y : β} (h : m ∉ l.map (·.1)) : put l m y = l ++ [(m, y)] := by
  unfold put putW
  rw [if_neg (fun z => h (look_isSome.mp z))]
theorem mem_put {l : List (Mom × β)} {m n : Mom} {y z : β} (h : (n, z) ∈ put l m y) : (n = m ∧ z = y) ∨ (n, z) ∈ l := by
  unfold put putW at h
  split at h
  · obtain ⟨x, hx, e⟩ := List.mem_map.mp h
    by_cases q : x.1 = m
    · rw [if_pos q] at e
      cases e
      exact .inl ⟨q, rfl⟩
    · rw [if_neg q] at e
      subst e
      exact .inr hx
  · rcases List.mem_append.mp h with h | h
    · exact .inr h
    · cases (List.mem_singleton.mp h)
      exact .inl ⟨rfl, rfl⟩
end

/-! ### the object -/
abbrev NX := List (Mom × Addr × V)
abbrev NRel : NX → List (Mom × Addr × Value) → Prop := Paired fun p q => p.1 = q.1 ∧ p.2.1 = q.2.1 ∧ RelV p.2.2 q.2.2
def nDP (P : Program) (w : World) (a : Addr) (xs : NX) (ep : Nat) (h : Heap) : Prop :=
  (a == sysModules) = false ∧ xs.length ≤ sizeLine ∧ ∃ ys, NRel xs ys ∧ (∃ o es, h.get? a = some o ∧ o.ExactDict ∧ o.data = .dict es ep ∧ es.toList = ys.map (entryOfKey (momKind P w))) ∧ (ys.map (·.1)).Nodup
def nD (P : Program) (w : World) (a : Addr) (xs : NX) (ep : Nat) : HO := .ext (nDP P w a xs ep)
def NKeys (K : PySem.W.Frag) (H : Hp) (xs : NX) : Prop := ∀ x ∈ xs, Dp K H (.ref x.2.1) x.1.d
theorem nDP_at {P : Program} {w : World} {a : Addr} {xs : NX} {ep : Nat} {h h' : Heap} (x : nDP P w a xs ep h) (k : ∀ o, h.get? a = some o → h'.get? a = some o) : nDP P w a xs ep h' := by
  obtain ⟨h1, h2, ys, r, ⟨o, es, h3, h4⟩, h5⟩ := x
  exact ⟨h1, h2, ys, r, ⟨o, es, k _ h3, h4⟩, h5⟩
theorem nD_ok {P : Program} {w : World} {H : Hp} {a : Addr} {xs : NX} {ep : Nat} {h : Heap} (x : nDP P w a xs ep h) : ObjOk P w H h a (nD P w a xs ep) := by
  refine ⟨x, ?_, fun h1 h2 q k => nDP_at q k⟩
  obtain ⟨_, _, _, _, ⟨o, es, h3, _⟩, _⟩ := x
  exact ⟨o, h3⟩
theorem nd_rd {P : Program} {w : World} {H : Hp} {h : Heap} {a : Addr} {xs : NX} {ep : Nat} (ok : HOk P w H h) (e : Rd H a (nD P w a xs ep)) : nDP P w a xs ep h := (rd_of ok e).1
theorem NRel.len {xs : NX} {ys : List (Mom × Addr × Value)} (r : NRel xs ys) : xs.length = ys.length := Paired.length r
theorem NRel.at {xs : NX} {ys : List (Mom × Addr × Value)} (r : NRel xs ys) (m : Mom) :
    (look xs m = none ∧ atKey ys m = none) ∨ ∃ b v u, look xs m = some (b, v) ∧ atKey ys m = some (b, u) ∧ RelV v u := by
  induction r with
  | nil => exact .inl ⟨rfl, rfl⟩
  | @cons p q ps qs h t ih =>
    obtain ⟨h1, h2, h3⟩ := h
    by_cases e : p.1 = m
    · have e' : q.1 = m := h1.symm.trans e
      have z : atKey (q :: qs) m = some q.2 := by simp [atKey, List.find?_cons, e']
      refine .inr ⟨p.2.1, p.2.2, q.2.2, look_pos e, ?_, h3⟩
      rw [z, h2]
    · have e' : ¬ q.1 = m := fun z => e (h1.trans z)
      have z : atKey (q :: qs) m = atKey qs m := by simp [atKey, List.find?_cons, e']
      rw [look_neg e, z]
      exact ih
theorem NRel.some_ {xs : NX} {ys : List (Mom × Addr × Value)} (r : NRel xs ys) {m : Mom} {b : Addr} {v : V} (e : look xs m = some (b, v)) : ∃ u, atKey ys m = some (b, u) ∧ RelV v u := by
  rcases r.at m with ⟨h, _⟩ | ⟨b', v', u, h1, h2, h3⟩
  · rw [e] at h; cases h
  · rw [e] at h1; cases h1; exact ⟨u, h2, h3⟩
theorem NRel.isSome {xs : NX} {ys : List (Mom × Addr × Value)} (r : NRel xs ys) (m : Mom) : (atKey ys m).isSome = (look xs m).isSome := by
  rcases r.at m with ⟨h, h'⟩ | ⟨b', v', u, h1, h2, h3⟩
  · rw [h, h']; rfl
  · rw [h1, h2]; rfl
/-- d[m] = v where the key stands at b -/
def putX (xs : NX) (m : Mom) (b : Addr) (v : V) : NX := putW xs m (fun p => (p.1, v)) (b, v)
theorem NRel.put {xs : NX} {ys : List (Mom × Addr × Value)} (r : NRel xs ys) (m : Mom) (b : Addr) {v : V} {u : Value} (rv : RelV v u) : NRel (putX xs m b v) (storedH ys m b u) := by
  unfold putX putW storedH
  rw [← r.isSome m]
  by_cases h : (atKey ys m).isSome = true
  · rw [if_pos h, if_pos h]
    have key : ∀ {xs : NX} {ys : List (Mom × Addr × Value)}, NRel xs ys → NRel (xs.map fun x => if x.1 = m then (x.1, x.2.1, v) else x) (ys.map (putAt m u)) := by
      intro xs ys r
      induction r with
      | nil => exact .nil
      | @cons p q ps qs h t ih =>
        refine .cons ?_ ih
        obtain ⟨h1, h2, h3⟩ := h
        unfold putAt
        show (if p.1 = m then (p.1, p.2.1, v) else p).1 = _ ∧ (if p.1 = m then (p.1, p.2.1, v) else p).2.1 = _ ∧ RelV (if p.1 = m then (p.1, p.2.1, v) else p).2.2 _
        by_cases e : p.1 = m
        · rw [if_pos e, if_pos (h1.symm.trans e)]; exact ⟨h1, h2, rv⟩
        · rw [if_neg e, if_neg (fun z => e (h1.trans z))]; exact ⟨h1, h2, h3⟩
    exact key r
  · rw [if_neg h, if_neg h]
    exact Paired.snoc r ⟨rfl, rfl, rv⟩
theorem putX_len (xs : NX) (m : Mom) (b : Addr) (v : V) : (putX xs m b v).length ≤ xs.length + 1 := by
  unfold putX putW
  split <;> simp
theorem NKeys.put {K : PySem.W.Frag} {H : Hp} {xs : NX} {m : Mom} {b : Addr} {v : V} (k : NKeys K H xs) (hb : Dp K H (.ref b) m.d) : NKeys K H (putX xs m b v) := by
  intro x hx
  unfold putX putW at hx
  split at hx
  · obtain ⟨y, hy, e⟩ := List.mem_map.mp hx
    have := k y hy
    by_cases q : y.1 = m
    · rw [if_pos q] at e; subst e; exact this
    · rw [if_neg q] at e; subst e; exact this
  · rcases List.mem_append.mp hx with hx | hx
    · exact k x hx
    · cases List.mem_singleton.mp hx
      exact hb
theorem NKeys.imm {K : PySem.W.Frag} {H H' : Hp} {xs : NX} (k : NKeys K H xs) (e : TupSub H H') : NKeys K H' xs := fun x hx => dp_imm e _ _ (lf_mom _) (k x hx)

section
variable {X : Cx} {pins : List (Addr × Obj)} {σ : L2.St} {H : Hp} {s : Shared} {a b : Addr} {xs : NX} {ep : Nat} {m : Mom} {v : V} {u r : Value} {A : Around} {E : Value → Shared → Prop}
theorem key_is (I : Inv X pins σ H s) (hb : Dp X.K H (.ref b) m.d) : (momKind X.prog X.w).is s.heap m b := by
  obtain ⟨as, q⟩ := Dp.reads I m.d (.ref b) (.ref b) hb rfl
  have z := nk_of m.d _ _ (lf_mom m) q
  rw [m.k_eq] at z
  exact ⟨z, m.k_depth⟩
/-- the dict as the library's rules want it -/
theorem nd_dict (I : Inv X pins σ H s) (e : Rd H a (nD X.prog X.w a xs ep)) (k : NKeys X.K H xs) : (a == sysModules) = false ∧ xs.length ≤ sizeLine ∧ ∃ ys, NRel xs ys ∧ s.heap.DictOfH (momKind X.prog X.w) a ys := by
  obtain ⟨h1, h2, ys, r, ⟨o, es, h3, h4, h5, h6⟩, h7⟩ := nd_rd I.hok e
  refine ⟨h1, h2, ys, r, o, es, ep, h3, h4, h5, h6, ?_, h7⟩
  intro y hy
  have all : ∀ {xs : NX} {ys : List (Mom × Addr × Value)}, NRel xs ys → NKeys X.K H xs → ∀ y ∈ ys, (momKind X.prog X.w).is s.heap y.1 y.2.1 := by
    intro xs ys r
    induction r with
    | nil => intro _ y hy; cases hy
    | @cons p q ps qs h t ih =>
      intro k y hy
      rcases List.mem_cons.mp hy with e | hy
      · subst e
        rw [← h.1, ← h.2.1]
        exact key_is I (k p List.mem_cons_self)
      · exact ih (fun x hx => k x (List.mem_cons_of_mem _ hx)) y hy
  exact all r k y hy
theorem nd_get {Q : Value → Shared → Prop} (hu : A.units + 9 < cLine) (I : Inv X pins σ H s) (e : Rd H a (nD X.prog X.w a xs ep)) (k : NKeys X.K H xs) (hb : Dp X.K H (.ref b) m.d) {b' : Addr} (l : look xs m = some (b', v)) (h : ∀ w' s', Inv X pins σ H s' → RelV v w' → Q w' s') :
    wpAny (model X.prog X.w) A (getItem (.ref a) (.ref b)) Q E s := by
  obtain ⟨h1, h2, ys, rel, dd⟩ := nd_dict I e k
  obtain ⟨u, hu', ru⟩ := rel.some_ l
  exact wpAny_getItem_heap (knd := momKind X.prog X.w) (show A.units + 1 + 8 < cLine by omega) (key_is I hb) dd hu' (h u _ (I.tok _) ru)
theorem nd_in {Q : Value → Shared → Prop} (hu : A.units + 9 < cLine) (I : Inv X pins σ H s) (e : Rd H a (nD X.prog X.w a xs ep)) (k : NKeys X.K H xs) (hb : Dp X.K H (.ref b) m.d) (h : ∀ s', Inv X pins σ H s' → Q (.bool (look xs m).isSome) s') :
    wpAny (model X.prog X.w) A (compareOp .In (.ref b) (.ref a)) Q E s := by
  obtain ⟨h1, h2, ys, rel, dd⟩ := nd_dict I e k
  refine wpAny_in_heap (knd := momKind X.prog X.w) (show A.units + 1 + 8 < cLine by omega) (key_is I hb) h1 dd ?_
  rw [rel.isSome]
  exact h _ (I.tok _)
theorem nd_notIn {Q : Value → Shared → Prop} (hu : A.units + 9 < cLine) (I : Inv X pins σ H s) (e : Rd H a (nD X.prog X.w a xs ep)) (k : NKeys X.K H xs) (hb : Dp X.K H (.ref b) m.d) (h : ∀ s', Inv X pins σ H s' → Q (.bool (!(look xs m).isSome)) s') :
    wpAny (model X.prog X.w) A (compareOp .NotIn (.ref b) (.ref a)) Q E s := by
  obtain ⟨h1, h2, ys, rel, dd⟩ := nd_dict I e k
  refine wpAny_notIn_heap (knd := momKind X.prog X.w) (show A.units + 1 + 8 < cLine by omega) (key_is I hb) h1 dd ?_
  rw [rel.isSome]
  exact h _ (I.tok _)
theorem nd_after {h' : Heap} {t' : Nat} {xs' : NX} {ys' : List (Mom × Addr × Value)} (I : Inv X pins σ H s) (e : H a = some (nD X.prog X.w a xs ep)) (h1 : (a == sysModules) = false) (hl : xs'.length ≤ sizeLine) (rel : NRel xs' ys')
    (dd : h'.DictOfH (momKind X.prog X.w) a ys') (hs : Heap.SameBut a s.heap h') : ∃ ep', Inv X pins σ (upd H a (nD X.prog X.w a xs' ep')) { s with heap := h', toks := t' } := by
  obtain ⟨o, es, ep', g1, g2, g3, g4, _, g5⟩ := dd
  exact ⟨ep', d_write I (by rw [e]; exact True.intro) hs ⟨o, g1⟩ (nD_ok ⟨h1, hl, ys', rel, ⟨o, es, g1, g2, g3, g4⟩, g5⟩)⟩
theorem nd_set {Q : Unit → Shared → Prop} (hu : A.units + 9 < cLine) (I : Inv X pins σ H s) (e : H a = some (nD X.prog X.w a xs ep)) (k : NKeys X.K H xs) (hb : Dp X.K H (.ref b) m.d) (hl : xs.length < sizeLine) (rv : RelV v r)
    (h : ∀ ep' s', Inv X pins σ (upd H a (nD X.prog X.w a (putX xs m b v) ep')) s' → Q () s') : wpAny (model X.prog X.w) A (setItem (.ref a) (.ref b) r) Q E s := by
  obtain ⟨h1, h2, ys, rel, dd⟩ := nd_dict I (.inl e) k
  refine wpAny_setItem_heap (knd := momKind X.prog X.w) (hsz := by rw [← rel.len]; exact h2) (show A.units + 1 + 8 < cLine by omega) (key_is I hb) dd fun h' dd' hs => ?_
  obtain ⟨ep', I'⟩ := nd_after (t' := s.toks + (momKind X.prog X.w).draws m) I e h1 (by have := putX_len xs m b v; omega) (rel.put m b rv) dd' hs
  exact h ep' _ I'
theorem nd_dset {Q : Unit → Shared → Prop} (hu : A.units + 8 < cLine) (I : Inv X pins σ H s) (e : H a = some (nD X.prog X.w a xs ep)) (k : NKeys X.K H xs) (hb : Dp X.K H (.ref b) m.d) (hl : xs.length < sizeLine) (rv : RelV v r)
    (h : ∀ ep' s', Inv X pins σ (upd H a (nD X.prog X.w a (putX xs m b v) ep')) s' → Q () s') : wpAny (model X.prog X.w) A (dictSet a (.ref b) r) Q E s := by
  obtain ⟨h1, h2, ys, rel, dd⟩ := nd_dict I (.inl e) k
  refine wpAny_dictSet_heap (knd := momKind X.prog X.w) (hsz := by rw [← rel.len]; exact h2) (show A.units + 8 < cLine from hu) (key_is I hb) dd fun h' dd' hs => ?_
  obtain ⟨ep', I'⟩ := nd_after (t' := s.toks + (momKind X.prog X.w).draws m) I e h1 (by have := putX_len xs m b v; omega) (rel.put m b rv) dd' hs
  exact h ep' _ I'
theorem nd_new {P : Program} {w : World} (h : Heap) (hb : sysModules < h.objs.size) : nDP P w h.objs.size [] 0 (h.push { cls := .type "dict", data := .dict #[] }) :=
  ⟨beq_eq_false_iff_ne.mpr (Ne.symm (Nat.ne_of_lt hb)), Nat.zero_le _, [], .nil, ⟨_, #[], Heap.get?_push_size _ rfl, ⟨rfl, rfl, rfl⟩, rfl, rfl⟩, List.nodup_nil⟩
theorem nd_typeIs (I : Inv X pins σ H s) (e : Rd H a (nD X.prog X.w a xs ep)) : s.TypeIs (.ref a) "dict" := by
  obtain ⟨h1, h2, ys, r, ⟨o, es, h3, h4, h5, h6⟩, h7⟩ := nd_rd I.hok e
  exact ⟨o, h3, h4.1⟩
theorem nd_noDict (I : Inv X pins σ H s) (e : Rd H a (nD X.prog X.w a xs ep)) : ∀ b, Value.ref a = .ref b → ∃ ob, s.heap.get? b = some ob ∧ ob.dict = none := fun b q => by
  cases q
  obtain ⟨h1, h2, ys, r, ⟨o, es, h3, h4, h5, h6⟩, h7⟩ := nd_rd I.hok e
  exact ⟨o, h3, h4.2.1⟩
/-- its entries, raw -/
theorem nd_raw (I : Inv X pins σ H s) (e : Rd H a (nD X.prog X.w a xs ep)) : (a == sysModules) = false ∧ xs.length ≤ sizeLine ∧ ∃ es, s.heap.DictRaw a es ep ∧ es.size = xs.length ∧ ∀ i (hi : i < es.size), ∃ x, xs[i]? = some x ∧ es[i].key = .ref x.2.1 := by
  obtain ⟨h1, h2, ys, r, ⟨o, es, h3, h4, h5, h6⟩, h7⟩ := nd_rd I.hok e
  have hl : es.size = ys.length := by rw [← Array.length_toList, h6, List.length_map]
  refine ⟨h1, h2, es, ⟨o, h3, h4, h5⟩, by rw [hl, r.len], fun i hi => ?_⟩
  have hx : i < xs.length := by rw [r.len, ← hl]; exact hi
  obtain ⟨y, hy, q1, q2, q3⟩ := paired_get r (List.getElem?_eq_getElem hx)
  refine ⟨xs[i], List.getElem?_eq_getElem hx, ?_⟩
  have he : es.toList[i]? = some es[i] := by rw [Array.getElem?_toList, Array.getElem?_eq_getElem hi]
  rw [h6, List.getElem?_map, hy] at he
  have he' : entryOfKey (momKind X.prog X.w) y = es[i] := Option.some.inj he
  rw [← he']
  show Value.ref y.2.1 = _
  rw [q2]
end
end EC

set_option Elab.async false
set_option linter.all false
set_option maxRecDepth 100000
set_option maxHeartbeats 4000000
/-! EcN2: rules of expressions over dicts with moment keys. -/
namespace EC
open PySem PySem.Spec PyProof.Rows L2

/-- the values of a dict, each of its type -/
abbrev NVals (H : Hp) : NX → List (Mom × Ty) → Prop := Paired fun x q => x.1 = q.1 ∧ q.2.p H x.2.2
theorem nvals_up {H H' : Hp} (e : Same H H') {xs : NX} {l : List (Mom × Ty)} (h : NVals H xs l) : NVals H' xs l := Paired.mapP h fun _ q z => ⟨z.1, q.2.up e z.2⟩
theorem nkeys_up {K : PySem.W.Frag} {H H' : Hp} {xs : NX} (e : Same H H') (h : NKeys K H xs) : NKeys K H' xs := fun x hx => dp_up e _ _ (h x hx)
/-- a dict of moments with values of these types -/
def isN (K : PySem.W.Frag) (P : Program) (w : World) (l : List (Mom × Ty)) : Ty :=
  ⟨fun H v => ∃ a xs ep, v = .ref a ∧ Rd H a (nD P w a xs ep) ∧ NKeys K H xs ∧ NVals H xs l, fun e ⟨a, xs, ep, h1, h2, h3, h4⟩ => ⟨a, xs, ep, h1, rd_up e h2, nkeys_up e h3, nvals_up e h4⟩⟩
abbrev isNX (X : Cx) (l : List (Mom × Ty)) : Ty := isN X.K X.prog X.w l
theorem NVals.keys {H : Hp} {xs : NX} {l : List (Mom × Ty)} (h : NVals H xs l) : xs.map (·.1) = l.map (·.1) := by
  induction h with
  | nil => rfl
  | cons h _ ih => rw [List.map_cons, List.map_cons, ih, h.1]
theorem NVals.some_ {H : Hp} {xs : NX} {l : List (Mom × Ty)} {m : Mom} {τ : Ty} (h : NVals H xs l) (e : look l m = some τ) : ∃ b v, look xs m = some (b, v) ∧ τ.p H v := by
  induction h with
  | nil => cases e
  | @cons p q ps qs h t ih =>
    by_cases z : q.1 = m
    · rw [look_pos z] at e
      cases e
      exact ⟨p.2.1, p.2.2, look_pos (h.1.trans z), h.2⟩
    · rw [look_neg z] at e
      obtain ⟨b, v, h1, h2⟩ := ih e
      exact ⟨b, v, by rw [look_neg (fun y => z (h.1.symm.trans y))]; exact h1, h2⟩
theorem NVals.isSome {H : Hp} {xs : NX} {l : List (Mom × Ty)} (h : NVals H xs l) (m : Mom) : (look xs m).isSome = (look l m).isSome := by
  rw [look_dec, look_dec, h.keys]
theorem NVals.len {H : Hp} {xs : NX} {l : List (Mom × Ty)} (h : NVals H xs l) : xs.length = l.length := Paired.length h
theorem NVals.put_ {H : Hp} {xs : NX} {l : List (Mom × Ty)} {m : Mom} {b : Addr} {v : V} {τ : Ty} (h : NVals H xs l) (hv : τ.p H v) : NVals H (putX xs m b v) (EC.put l m τ) := by
  unfold putX EC.put putW
  rw [h.isSome m]
  by_cases q : (look l m).isSome = true
  · rw [if_pos q, if_pos q]
    clear q
    induction h with
    | nil => exact .nil
    | @cons p q ps qs h t ih =>
      refine .cons ?_ ih
      show (if p.1 = m then (p.1, p.2.1, v) else p).1 = (if q.1 = m then (q.1, τ) else q).1 ∧ (if q.1 = m then (q.1, τ) else q).2.p H (if p.1 = m then (p.1, p.2.1, v) else p).2.2
      by_cases e : p.1 = m
      · rw [if_pos e, if_pos (h.1.symm.trans e)]; exact ⟨h.1, hv⟩
      · rw [if_neg e, if_neg (fun z => e (h.1.trans z))]; exact h
  · rw [if_neg q, if_neg q]
    exact Paired.snoc h ⟨rfl, hv⟩

theorem mom_ref {K : PySem.W.Frag} {H : Hp} {v : V} {m : Mom} (h : Dp K H v m.d) : ∃ b, v = .ref b := by
  obtain ⟨b, xs, e, _⟩ := dp_tup h
  exact ⟨b, e⟩

section
variable {X : Cx} {Γ : List (Option Ty)} {e a b c o i value : Expr} {pos pos' : Pos} {τ : Ty} {l : List (Mom × Ty)} {m : Mom}
/-! d[m] -/
def rIxN (X : Cx) : R2 := fun x y H Q => ∃ a xs ep b m b' v, x = .ref a ∧ y = .ref b ∧ Rd H a (nD X.prog X.w a xs ep) ∧ NKeys X.K H xs ∧ Dp X.K H (.ref b) (Mom.d m) ∧ look xs m = some (b', v) ∧ Q v H
theorem ix_n (hu : X.A.units + 9 < cLine) : IxR X (rIxN X) := by
  intro value slice pins s σ H x y v u Q I rx ry h hs
  obtain ⟨a, xs, ep, b, m, b', z, rfl, rfl, hr, hk, hb, hl, q⟩ := h
  cases rx
  cases ry
  obtain ⟨h1, h2, ys, rel, dd⟩ := nd_dict I hr hk
  obtain ⟨u, hu', ru⟩ := rel.some_ hl
  refine subscriptTail_builtinR (x := u) (nd_typeIs I hr) PySem.F.slot_dict_getitem.lookup (wpAny_getItem_heap (knd := momKind X.prog X.w) (show X.A.units + 1 + 8 < cLine by omega) (key_is I hb) dd hu' ⟨rfl, z, H, I.tok _, ru, q⟩) hs
theorem ev_nget (hu : X.A.units + 9 < cLine) (ha : EV X Γ a (isNX X l)) (hb : EV X Γ b (isD X.K m.d)) (hl : look l m = some τ) (hs : PlainIx b := by intro _ _; rfl) : EV X Γ (.Subscript a b pos) τ :=
  .of (pe_ix (ix_n hu) pe_w pe_w hs) fun σ H g => ha.use g fun v H1 s1 q1 => hb.use (g.up s1) fun u H2 s2 q2 => by
    obtain ⟨d, xs, ep, rfl, hr, hk, hv⟩ := (isNX X l).up s2 q1
    obtain ⟨k, rfl⟩ := mom_ref q2
    obtain ⟨b', v, h1, h2⟩ := hv.some_ hl
    exact ⟨d, xs, ep, k, m, b', v, rfl, rfl, hr, hk, q2, h1, s1.trans s2, h2⟩

/-! m in d -/
def rInN (X : Cx) (neg : Bool) : R2 := fun x y H Q => ∃ a xs ep b m, x = .ref b ∧ y = .ref a ∧ Rd H a (nD X.prog X.w a xs ep) ∧ NKeys X.K H xs ∧ Dp X.K H (.ref b) (Mom.d m) ∧ Q (.bl (neg ^^ (look xs m).isSome)) H
theorem op_inN (hu : X.A.units + 9 < cLine) : OpR X (compareOp .In) (rInN X false) := by
  intro pins s σ H x y v u Q I rx ry h
  obtain ⟨a, xs, ep, b, m, rfl, rfl, hr, hk, hb, q⟩ := h
  cases rx
  cases ry
  exact nd_in hu I hr hk hb fun s' I' => ⟨.bl _, H, I', rfl, by simpa using q⟩
theorem op_notInN (hu : X.A.units + 9 < cLine) : OpR X (compareOp .NotIn) (rInN X true) := by
  intro pins s σ H x y v u Q I rx ry h
  obtain ⟨a, xs, ep, b, m, rfl, rfl, hr, hk, hb, q⟩ := h
  cases rx
  cases ry
  exact nd_notIn hu I hr hk hb fun s' I' => ⟨.bl _, H, I', rfl, by simpa using q⟩
theorem inN_of {σ : L2.St} {H : Hp} {neg : Bool} {v u : V} (hq1 : (isD X.K m.d).p H v) (hq2 : (isNX X l).p H u) {Q : VK} (k : Q (.bl (neg ^^ decide (m ∈ l.map (·.1)))) H) : rInN X neg v u H Q := by
  obtain ⟨d, xs, ep, rfl, hr, hk, hv⟩ := hq2
  obtain ⟨k', rfl⟩ := mom_ref hq1
  refine ⟨d, xs, ep, k', m, rfl, rfl, hr, hk, hq1, ?_⟩
  rw [look_dec, hv.keys]
  exact k
theorem ev_nin (hu : X.A.units + 9 < cLine) (ha : EV X Γ a (isD X.K m.d)) (hb : EV X Γ b (isNX X l)) (hm : behindInMarks .In b = false := by rfl) : EV X Γ (.Compare a [.In] [b] pos) (isD X.K (.bool (decide (m ∈ l.map (·.1))))) :=
  .of (pe_cmpR (op_inN hu) pe_w pe_w hm) fun σ H g => ha.use g fun v H1 s1 q1 => hb.use (g.up s1) fun u H2 s2 q2 => inN_of (σ := σ) ((isD X.K m.d).up s2 q1) q2 ⟨s1.trans s2, by rw [Bool.false_xor]; exact .bl _⟩
theorem et_nin (hu : X.A.units + 9 < cLine) (ha : EV X Γ a (isD X.K m.d)) (hb : EV X Γ b (isNX X l)) (hm : behindInMarks .In b = false := by rfl) : ET X Γ (.Compare a [.In] [b] pos) (decide (m ∈ l.map (·.1))) :=
  .of (pt_cmpR (op_inN hu) pe_w pe_w hm) fun σ H g => ha.use g fun v H1 s1 q1 => hb.use (g.up s1) fun u H2 s2 q2 => inN_of (σ := σ) ((isD X.K m.d).up s2 q1) q2 ⟨_, rfl, s1.trans s2, Bool.false_xor _⟩
theorem et_nnotin (hu : X.A.units + 9 < cLine) (ha : EV X Γ a (isD X.K m.d)) (hb : EV X Γ b (isNX X l)) (hm : behindInMarks .NotIn b = false := by rfl) : ET X Γ (.Compare a [.NotIn] [b] pos) (!decide (m ∈ l.map (·.1))) :=
  .of (pt_cmpR (op_notInN hu) pe_w pe_w hm) fun σ H g => ha.use g fun v H1 s1 q1 => hb.use (g.up s1) fun u H2 s2 q2 => inN_of (σ := σ) ((isD X.K m.d).up s2 q1) q2 ⟨_, rfl, s1.trans s2, Bool.true_xor _⟩

/-! len(d) -/
theorem call_lenN : CallR X (.builtin "len") (fun vs H Q => ∃ a xs ep, vs = [.ref a] ∧ Rd H a (nD X.prog X.w a xs ep) ∧ NKeys X.K H xs ∧ Q (.int (xs.length : Nat)) H) := by
  intro pins s σ H vs us Q I r h
  obtain ⟨a, xs, ep, rfl, hr, hk, q⟩ := h
  obtain ⟨u, rfl, rx⟩ := vals1 r
  obtain rfl : u = .ref a := rx
  obtain ⟨h1, h2, ys, rel, dd⟩ := nd_dict I hr hk
  refine call_len_dictH h1 dd (by rw [← rel.len]; rw [sizeLine_eq] at h2; omega) ?_
  rw [← rel.len]
  exact ⟨.int (xs.length : Nat), H, I.tok _, ⟨_, rfl⟩, q⟩
theorem ev_nlen {p : Pos} (hmg : X.mg "len" = none) (ha : EV X Γ a (isNX X l)) (hg : Gl X "len" := by rfl) (hs : starEach [a] X.env = [(false, eval a X.env)] := by rfl) : EV X Γ (.Call (.Name "len" p) [a] [] pos) (isD X.K (.int (l.length : Nat))) :=
  .of (pe_callB call_lenN hg hmg rfl (pa_cons pe_w pa_nil hs) (he := hs)) fun σ H g => ha.use g fun v H1 s1 q1 => by
    obtain ⟨d, xs, ep, rfl, hr, hk, hv⟩ := q1
    refine ⟨d, xs, ep, rfl, hr, hk, s1, ?_⟩
    rw [hv.len]
    exact .int _

/-! list(d) -/
theorem refs_vals : ∀ bs : List Addr, Vals (bs.map V.ref) (bs.map Value.ref)
  | [] => .nil
  | _ :: r => .cons rfl (refs_vals r)
theorem nkeys_all {K : PySem.W.Frag} {H : Hp} : ∀ {xs : NX}, NKeys K H xs → DpAll K H (xs.map fun x => V.ref x.2.1) (xs.map fun x => x.1.d)
  | [], _ => .nil
  | x :: r, h => .cons (h x List.mem_cons_self) (nkeys_all fun y hy => h y (List.mem_cons_of_mem _ hy))
theorem raw_list {h : Heap} {es : Array DictEntry} {xs : NX} {acc : Array Value} (hl : es.size = xs.length) (hx : ∀ i (hi : i < es.size), ∃ x, xs[i]? = some x ∧ es[i].key = .ref x.2.1) (it : ItemsOf (fun i v => ∃ hi : i < es.size, v = es[i].key) acc es.size) :
    acc.toList = (xs.map fun x => x.2.1).map Value.ref := by
  have hn : acc.toList.length = xs.length := by rw [Array.length_toList, it.1, hl]
  apply List.ext_getElem?
  intro j
  rw [List.getElem?_map, List.getElem?_map]
  cases hj : acc.toList[j]? with
  | none =>
    have h1 := List.getElem?_eq_none_iff.mp hj
    rw [List.getElem?_eq_none (by omega)]
    rfl
  | some v =>
    obtain ⟨hi, hv⟩ := it.2 j v (by rw [← Array.getElem?_toList]; exact hj)
    obtain ⟨x, h1, h2⟩ := hx j hi
    rw [h1, hv, h2]
    rfl
theorem call_listN (hc : X.calm = true) : CallR X (.type "list") (fun vs H Q => ∃ a xs ep, vs = [.ref a] ∧ Rd H a (nD X.prog X.w a xs ep) ∧ ∀ p, H p = none → Q (.ref p) (upd H p (.lst (xs.map fun x => V.ref x.2.1)))) := by
  intro pins s σ H vs us Q I r h
  obtain ⟨a, xs, ep, rfl, hr, q⟩ := h
  obtain ⟨u, rfl, rx⟩ := vals1 r
  obtain rfl : u = .ref a := rx
  obtain ⟨h1, h2, es, hd, hn, hx⟩ := nd_raw I hr
  refine PySem.W.kdl_call (KdlSrc.rawDict h1) (I.ok.hd hc) hd (by omega) fun h' tk acc' c' kp e it => ?_
  have ea := raw_list (h := s.heap) hn hx it
  have rv : Vals (xs.map fun x => V.ref x.2.1) acc'.toList := by
    rw [ea]
    have := refs_vals (xs.map fun x => x.2.1)
    rw [List.map_map] at this
    exact this
  refine ⟨.ref s.heap.objs.size, _, I.laid (t' := tk) (o := .lst (xs.map fun x => V.ref x.2.1)) kp (Nat.le_refl _) ?_, rfl, q _ (I.hok.fresh (Nat.le_refl _))⟩
  exact ⟨by rw [List.length_map]; exact h2, acc'.toList, c', rv, by rw [Array.toArray_toList]; exact e⟩
theorem wE_nlist {σ : L2.St} {H : Hp} {Q : VK} {p : Pos} (hc : X.calm = true) (hmg : X.mg "list" = none) (ha : wE X a σ H fun v H1 => ∃ d xs ep, v = .ref d ∧ Rd H1 d (nD X.prog X.w d xs ep) ∧ ∀ q, H1 q = none → Q (.ref q) (upd H1 q (.lst (xs.map fun x => V.ref x.2.1))))
    (hg : Gl X "list" := by rfl) (hs : starEach [a] X.env = [(false, eval a X.env)] := by rfl) : wE X (.Call (.Name "list" p) [a] [] pos) σ H Q :=
  wE_of (pe_callTy (call_listN hc) hg hmg rfl (pa_cons pe_w pa_nil hs) (he := hs)) (wE_mono ha fun v H1 ⟨d, xs, ep, h1, h2, h3⟩ => ⟨d, xs, ep, by rw [h1], h2, h3⟩)
theorem ev_nlist {p : Pos} (hc : X.calm = true) (hmg : X.mg "list" = none) (ha : EV X Γ a (isNX X l)) (hg : Gl X "list" := by rfl) (hs : starEach [a] X.env = [(false, eval a X.env)] := by rfl) : EV X Γ (.Call (.Name "list" p) [a] [] pos) (isD X.K (.list ((l.map (·.1)).map Mom.d))) :=
  ⟨fun σ H g => wE_nlist hc hmg (ha.use g fun v H1 s1 q1 => by
    obtain ⟨d, xs, ep, rfl, hr, hk, hv⟩ := q1
    refine ⟨d, xs, ep, rfl, hr, fun q hq => ⟨s1.trans (same_new hq), ?_⟩⟩
    refine .lst (SqL.of upd_same) ?_
    have e : (l.map (·.1)).map Mom.d = xs.map fun x => x.1.d := by
      rw [← hv.keys, List.map_map]
      rfl
    rw [e]
    exact dpAll_up (same_new hq) _ _ (nkeys_all hk)) hg hs⟩

/-! for m in d, as a source of a comprehension -/
def Itn (X : Cx) (d : Addr) (xs : NX) (ep : Nat) : It :=
  ⟨fun i H => Rd H d (nD X.prog X.w d xs ep) ∧ i < xs.length, fun i H v H' => H' = H ∧ ∃ x, xs[i]? = some x ∧ v = .ref x.2.1, fun i H => Rd H d (nD X.prog X.w d xs ep) ∧ xs.length ≤ i⟩
theorem turn_nkeys {tg : Expr} {d : Addr} {xs : NX} {ep : Nat} (it : Addr) : Turn X.prog X.w X.K tg (Itn X d xs ep) [it] it (fun i h => h.IsKeyIter it d i xs.length ep) where
  mem := by simp
  obj := fun i h st b hb => by
    have e : b = it := by simpa using hb
    subst e
    obtain ⟨oi, e, c, dd⟩ := st
    exact ⟨oi, e, fun v z => by rw [dd] at z; cases z⟩
  keep := fun i h h' st k => st.at fun oi e => k it (by simp) oi e
  item := by
    intro X' hP hw hK hc i pins s σ H E I hf st hg
    obtain ⟨hr, hi⟩ := hg
    have hr' : Rd H d (nD X'.prog X'.w d xs ep) := by rw [hP, hw]; exact hr
    obtain ⟨f0, f1, f2, f3, f4, f5⟩ := hf it (by simp)
    obtain ⟨g1, g2, es, ⟨o, ho, hx, hdt⟩, hn, hent⟩ := nd_raw I hr'
    have hi' : i < es.size := by omega
    obtain ⟨x, hx1, hx2⟩ := hent i hi'
    rw [← hP]
    refine next_key_item st ho hdt hn (Array.getElem?_eq_getElem hi') fun h' st' sb => ?_
    have I1 : Inv X' pins σ H { s with heap := h' } := I.turned (t' := s.toks) (fun b ob hb e => (sb.2 b hb).trans e) f0 f1 f3 f4 f5
    obtain ⟨oi, e, c, dd⟩ := id st'
    exact ⟨es[i].key, rfl, go_of (s := { s with heap := h' }) e c dd (by decide) ⟨.ref x.2.1, H, I1, hx2, ⟨rfl, x, hx1, rfl⟩, st', fun b hb => (hf b hb).1⟩⟩
  done := by
    intro X' hP hw hK hc i pins s σ H E I hf st hg
    obtain ⟨hr, hi⟩ := hg
    have hr' : Rd H d (nD X'.prog X'.w d xs ep) := by rw [hP, hw]; exact hr
    obtain ⟨f0, f1, f2, f3, f4, f5⟩ := hf it (by simp)
    obtain ⟨g1, g2, es, ⟨o, ho, hx, hdt⟩, hn, hent⟩ := nd_raw I hr'
    exact next_key_end (I.ok.hd hc) st ho hdt hn hi fun h' eb => ⟨rfl, I.turned (t' := s.toks) (fun b ob hb e => eb b ob hb e) f0 f1 f3 f4 f5⟩
  self := fun A i s Q E st h => PySem.wpAny_pyIter_keyiter st h
def iN (X : Cx) (td : TE) : TI := fun σ H R => td σ H fun x H1 => ∃ d xs ep, x = .ref d ∧ Rd H1 d (nD X.prog X.w d xs ep) ∧ R (Itn X d xs ep) H1
theorem pi_n {tg e : Expr} {td : TE} (he : PE X e td) : PI X tg e (iN X td) := by
  refine ⟨fun pins s σ H R I h => ?_⟩
  refine thn (he.run pins s σ H _ I h) fun u s1 ⟨x, H1, I1, rx, d, xs, ep, ex, hr, q⟩ => ?_
  subst ex
  obtain rfl : u = Value.ref d := rx
  obtain ⟨g1, g2, es, ⟨o, ho, hx, hdt⟩, hn, hent⟩ := nd_raw I1 hr
  refine iter_keys g1 ho hx hdt (pi_one (tk := s1.toks) I1 _ (turn_nkeys _) ⟨_, Heap.get?_push_size _ rfl, rfl, ?_⟩ q)
  rw [hn] <;> rfl
theorem walk_n {d : Addr} {xs : NX} {ep : Nat} : Walk (Itn X d xs ep) xs.length (fun H => Rd H d (nD X.prog X.w d xs ep)) (fun i H v H' => H' = H ∧ ∃ x, xs[i]? = some x ∧ v = .ref x.2.1) :=
  ⟨fun _ _ hi q => ⟨q, hi⟩, fun _ q => ⟨q, Nat.le_refl _⟩, fun _ _ _ _ _ _ y => y⟩
theorem src_n {x : Str} {p : Pos} {iter : Expr} {scope : Scope} (i : Nat) (h : EV X Γ iter (isNX X l))
    (hg : ∀ s H C cl fp, PG (bx X scope s H C cl fp) (.Name x p) (gName i)) : Src X Γ (.Name x p) iter scope [i] l.length fun k => (wipeG Γ [i]).set i (some (isD X.K (((l.map (·.1)).map Mom.d).getD k .none))) := by
  refine ⟨_, _, pi_n pe_w, hg, fun σ H g R q => h.use g fun v H1 s1 r1 => ?_⟩
  obtain ⟨a, xs, ep, rfl, hr, hk, hv⟩ := r1
  refine ⟨a, xs, ep, rfl, hr, q _ H1 _ _ s1 (by rw [← hv.len]; exact walk_n) (fun H' s' => rd_up s' hr) ?_⟩
  rintro k y Ha Hb hk' s2 ⟨rfl, z, hz, rfl⟩
  refine ⟨fun _ _ h => h, fun Q hQ => hQ _ ?_ (wipe_set1 σ i _)⟩
  refine (((g.up s1).up s2).wipe [i]).set i ?_
  have e : ((l.map (·.1)).map Mom.d).getD k .none = z.1.d := by
    rw [← hv.keys, List.getD_eq_getElem?_getD, List.getElem?_map, List.getElem?_map, hz]
    rfl
  rw [e]
  exact dp_up s2 _ _ (hk z (List.mem_of_getElem? hz))
end
end EC

set_option Elab.async false
set_option linter.all false
set_option maxRecDepth 100000
set_option maxHeartbeats 4000000
/-! EcN3: sorted moments. -/
namespace EC
open PySem PySem.Spec PyProof.Rows L2

/-- moments in Python's order -/
def msort (ms : List Mom) : List Mom := ms.mergeSort (PySem.W.dataLe false Mom.d)
theorem mom_alike (m n : Mom) : PySem.W.alike m.d n.d = true := by
  have h : ∀ xs ys : List PyData, PySem.W.alikeAll [] ys = true := fun _ ys => by cases ys <;> simp [PySem.W.alikeAll]
  simp [Mom.d, intsD, PySem.W.alike, PySem.W.alikeAll, PySem.W.alike_ints]
theorem mom_depth (m : Mom) : m.d.depth ≤ 4 := by
  simp [Mom.d, intsD, PyData.depth, PyData.depthAll, PySem.W.depth_ints]
theorem moms_alike (ms : List Mom) : PySem.W.AllAlike (ms.map Mom.d) := PySem.W.AllAlike.of mom_alike
theorem moms_sortable (ms : List Mom) : PySem.W.Sortable (ms.map Mom.d) := PySem.W.Sortable.tuples fun m => ⟨_, _, rfl⟩
theorem dataLe_total : ∀ a b : Mom, (PySem.W.dataLe false Mom.d a b || PySem.W.dataLe false Mom.d b a) = true := by
  intro a b
  have h := (PySem.W.sortLe_total (PyProof.Rows.listOrd PyProof.Rows.itemOrd) false fun m : Mom => PySem.W.keyToks m.d).total a b
  have h' : PySem.W.dataLe false Mom.d a b = true ∨ PySem.W.dataLe false Mom.d b a = true := h
  simpa using h'
theorem dataLe_trans : ∀ a b c : Mom, PySem.W.dataLe false Mom.d a b = true → PySem.W.dataLe false Mom.d b c = true → PySem.W.dataLe false Mom.d a c = true :=
  fun a b c => (PySem.W.sortLe_total (PyProof.Rows.listOrd PyProof.Rows.itemOrd) false fun m : Mom => PySem.W.keyToks m.d).trans a b c
theorem eqv_ints : ∀ xs ys : List Int, PyData.eqvAll (xs.map PyData.int) (ys.map PyData.int) = true → xs = ys
  | [], [], _ => rfl
  | [], _ :: _, h => by simp [PyData.eqvAll] at h
  | _ :: _, [], h => by simp [PyData.eqvAll] at h
  | x :: xs, y :: ys, h => by
    have h' : PyData.eqv (.int x) (.int y) = true ∧ PyData.eqvAll (xs.map PyData.int) (ys.map PyData.int) = true := by
      simpa [PyData.eqvAll] using h
    have e : x = y := by simpa [PyData.eqv] using h'.1
    rw [e, eqv_ints xs ys h'.2]
theorem mom_eqv {m n : Mom} (h : PyData.eqv m.d n.d = true) : m = n := by
  obtain ⟨a, b, c, d⟩ := m
  obtain ⟨a', b', c', d'⟩ := n
  simp [Mom.d, intsD, PyData.eqv, PyData.eqvAll] at h
  obtain ⟨⟨h1, h2⟩, h3, h4⟩ := h
  have e1 : a = a' := by omega
  have e3 : c = c' := by omega
  have e2 := eqv_ints b b' h2
  have e4 := eqv_ints d d' h4
  subst e1 e2 e3 e4
  rfl
theorem mom_eqv_self (m : Mom) : PyData.eqv m.d m.d = true := PySem.W.eqv_refl_alike _ (mom_alike m m)
theorem dataLe_anti {a b : Mom} (h : PySem.W.dataLe false Mom.d a b = true) (h' : PySem.W.dataLe false Mom.d b a = true) : a = b := by
  have h1 : PyProof.Rows.lexLt PyProof.Rows.itemOrd (PySem.W.keyToks b.d) (PySem.W.keyToks a.d) = false := by
    have : (!PyProof.Rows.lexLt PyProof.Rows.itemOrd (PySem.W.keyToks b.d) (PySem.W.keyToks a.d)) = true := h
    simpa using this
  have h2 : PyProof.Rows.lexLt PyProof.Rows.itemOrd (PySem.W.keyToks a.d) (PySem.W.keyToks b.d) = false := by
    have : (!PyProof.Rows.lexLt PyProof.Rows.itemOrd (PySem.W.keyToks a.d) (PySem.W.keyToks b.d)) = true := h'
    simpa using this
  have e : PySem.W.keyToks a.d = PySem.W.keyToks b.d := (PyProof.Rows.listOrd PyProof.Rows.itemOrd).total (PySem.W.keyToks a.d) (PySem.W.keyToks b.d) h2 h1
  by_cases q : PyData.eqv a.d b.d = true
  · exact mom_eqv q
  · have q' : PyData.eqv a.d b.d = false := by simpa using q
    have z := (PySem.W.toks_eqv a.d b.d (mom_alike a b)).2 q'
    exfalso
    have k1 := z [Sum.inl 0] [Sum.inl 1]
    have k2 := z [Sum.inl 1] [Sum.inl 0]
    rw [e] at k1 k2
    rw [PySem.W.lex_pre] at k1 k2
    rw [← k2] at k1
    have : PyProof.Rows.lexLt PyProof.Rows.itemOrd [Sum.inl 0] [Sum.inl 1] ≠ PyProof.Rows.lexLt PyProof.Rows.itemOrd [Sum.inl 1] [Sum.inl 0] := by
      rw [PySem.W.lex_one, PySem.W.lex_one]
      decide
    exact this k1
theorem msort_perm (ms : List Mom) : (msort ms).Perm ms := List.mergeSort_perm _ _
theorem msort_pw (ms : List Mom) : (msort ms).Pairwise fun a b => PySem.W.dataLe false Mom.d a b = true :=
  List.pairwise_mergeSort (fun a b c => dataLe_trans a b c) (fun a b => by have := dataLe_total a b; simpa using this) ms
theorem msort_eq {a b : List Mom} (h : a.Perm b) : msort a = msort b :=
  List.Perm.eq_of_pairwise (le := fun x y => PySem.W.dataLe false Mom.d x y = true) (fun _ _ _ _ h1 h2 => dataLe_anti h1 h2) (msort_pw a) (msort_pw b) ((msort_perm a).trans (h.trans (msort_perm b).symm))
theorem mem_msort {m : Mom} {ms : List Mom} : m ∈ msort ms ↔ m ∈ ms := (msort_perm ms).mem_iff
theorem msort_len (ms : List Mom) : (msort ms).length = ms.length := (msort_perm ms).length_eq

section
variable {X : Cx} {Γ : List (Option Ty)} {e a b c : Expr} {pos : Pos} {l : List (Mom × Ty)}
/-- values and what they stand for -/
theorem each_of {pins : List (Addr × Obj)} {σ : L2.St} {H : Hp} {s : Shared} (I : Inv X pins σ H s) : ∀ {xs : List V} {us : List Value} {ms : List Mom}, Vals xs us → DpAll X.K H xs (ms.map Mom.d) → PySem.W.EachIs (fun u m => ∃ x, RelV x u ∧ Dp X.K H x (Mom.d m)) us ms
  | _, _, [], r, h => by
    have h' : DpAll X.K H _ [] := h
    cases h'
    cases r
    exact .nil
  | _, _, m :: ms, r, h => by
    have h' : DpAll X.K H _ (m.d :: ms.map Mom.d) := h
    cases h' with
    | cons h1 h2 =>
      cases r with
      | cons r1 r2 => exact .cons ⟨_, r1, h1⟩ (each_of I r2 h2)
theorem each_back {H : Hp} : ∀ {us : List Value} {ms : List Mom}, PySem.W.EachIs (fun u m => ∃ x, RelV x u ∧ Dp X.K H x (Mom.d m)) us ms → ∃ xs, Vals xs us ∧ DpAll X.K H xs (ms.map Mom.d)
  | _, _, .nil => ⟨[], .nil, .nil⟩
  | _, _, .cons ⟨x, r, d⟩ t => by
    obtain ⟨xs, h1, h2⟩ := each_back t
    exact ⟨x :: xs, .cons r h1, .cons d h2⟩
theorem call_sortM (hu : X.A.units + 8 < cLine) : CallR X (.builtin "sorted") (fun vs H Q => ∃ a xs ms, vs = [.ref a] ∧ SqL X.K H a xs ∧ DpAll X.K H xs (ms.map Mom.d) ∧ ∀ p ys, H p = none → DpAll X.K H ys ((msort ms).map Mom.d) → Q (.ref p) (upd H p (.lst ys))) := by
  intro pins s σ H vs us Q I r h
  obtain ⟨a, xs, ms, rfl, hq, hd, q⟩ := h
  obtain ⟨u, rfl, rx⟩ := vals1 r
  obtain rfl : u = .ref a := rx
  obtain ⟨its, rv, pl, hz⟩ := I.list hq
  have hE := each_of I rv hd
  have hl : ms.length = its.length := hE.length.symm
  have hl2 := rv.length
  refine PySem.W.sorted_data (enc := Mom.d) pl.isList hE (hE.mono fun u m ⟨x, r1, d1⟩ => Dp.reads I _ _ _ d1 r1) (moms_alike ms) (moms_sortable ms) (by omega) (fun m _ => by have := mom_depth m; omega) fun out ho hout => ?_
  obtain ⟨ys, v1, v2⟩ := each_back hout
  obtain ⟨e, he⟩ := sortedAll_at s.heap its out.toArray
  have hly := v1.length
  refine ⟨.ref (s.heap.objs.size + 1), _, I.laid (t' := s.toks) (a := s.heap.objs.size + 1) (o := .lst ys) (fun b u eb => sortedAll_old eb) (Nat.le_succ _) ?_, rfl, q _ ys (I.hok.fresh (Nat.le_succ _)) v2⟩
  exact ⟨by omega, out, e, v1, he⟩
theorem call_sortN (hc : X.calm = true) (hu : X.A.units + 8 < cLine) : CallR X (.builtin "sorted") (fun vs H Q => ∃ a xs ep, vs = [.ref a] ∧ Rd H a (nD X.prog X.w a xs ep) ∧ NKeys X.K H xs ∧ ∀ p ys, H p = none → DpAll X.K H ys ((msort (xs.map (·.1))).map Mom.d) → Q (.ref p) (upd H p (.lst ys))) := by
  intro pins s σ H vs us Q I r h
  obtain ⟨a, xs, ep, rfl, hr, hk, q⟩ := h
  obtain ⟨u, rfl, rx⟩ := vals1 r
  obtain rfl : u = .ref a := rx
  obtain ⟨h1, h2, es, hd, hn, hx⟩ := nd_raw I hr
  refine Calls.call_function_entry PyProof.Rows.kind_sorted PyProof.Rows.plain_sorted PyProof.Rows.entry_sorted (PyProof.Rows.args_sorted1 _) ?_
  unfold Builtin.«sorted»
  refine wpAny_bind (m := checkCount "sorted" 1 1 _) (wpAny_pure ?_)
  refine wpAny_bind (PySem.W.kdu_collect (A := X.A.in1) (KdlSrc.rawDict h1) (I.ok.hd hc) hd (by omega) fun h' tk acc kp it => ?_)
  have ea := raw_list (h := s.heap) hn hx it
  have hal : acc.toList.length = xs.length := by rw [ea, List.length_map, List.length_map]
  have I1 : Inv X pins σ H { s with heap := h', toks := tk } := I.kept kp
  have rv : Vals (xs.map fun x => V.ref x.2.1) acc.toList := by
    rw [ea]
    have := refs_vals (xs.map fun x => x.2.1)
    rw [List.map_map] at this
    exact this
  refine wpAny_bind (wpAny_newList ?_ (by rw [hal]; exact h2))
  have hoL : (h'.push (seqObj "list" acc.toList.toArray 0)).get? h'.objs.size = some (seqObj "list" acc.toList.toArray 0) := Heap.get?_push_size _ rfl
  have kb : ∀ b o, h'.get? b = some o → (h'.push (seqObj "list" acc.toList.toArray 0)).get? b = some o := fun b o e => Heap.get?_push_of_some _ e
  have I2 : Inv X pins σ H { s with heap := h'.push (seqObj "list" acc.toList.toArray 0), toks := tk } := I1.kept (t' := tk) kb
  show wpAny _ _ _ _ _ { s with heap := h'.push (seqObj "list" acc.toList.toArray 0), toks := tk }
  have ne : ∀ b o, h'.get? b = some o → b ≠ h'.objs.size := fun b o e => Nat.ne_of_lt (Heap.lt_size e)
  have hdp : DpAll X.K H (xs.map fun x => V.ref x.2.1) ((xs.map (·.1)).map Mom.d) := by
    rw [List.map_map]
    exact nkeys_all hk
  have hE := each_of I1 rv hdp
  have kS : ∀ b o, h'.get? b = some o → (PySem.W.sortingHeap (h'.push (seqObj "list" acc.toList.toArray 0)) h'.objs.size acc.toList).get? b = some o := fun b o e => PySem.W.sortingHeap_old (ne b o e) (kb b o e)
  have I3 : Inv X pins σ H { s with heap := PySem.W.sortingHeap (h'.push (seqObj "list" acc.toList.toArray 0)) h'.objs.size acc.toList, toks := tk } := I1.kept (t' := tk) kS
  have hE3 : PySem.W.EachIs (fun v m => ∃ as, Reads (PySem.W.sortingHeap (h'.push (seqObj "list" acc.toList.toArray 0)) h'.objs.size acc.toList) v (Mom.d m) as) acc.toList (xs.map (·.1)) := hE.mono fun u m ⟨x, r1, d1⟩ => Dp.reads I3 _ _ _ d1 r1
  refine wpAny_bind (wpAny_holding (wpAny_call_entry PyProof.Rows.slot_list_sort ⟨_, hoL, rfl⟩ PyProof.Rows.entry_list_sort
    (PySem.W.list_sort_vals (s := { s with heap := h'.push (seqObj "list" acc.toList.toArray 0), toks := tk }) (κ := PySem.W.dataKind (PySem.W.sortingHeap (h'.push (seqObj "list" acc.toList.toArray 0)) h'.objs.size acc.toList) ((xs.map (·.1)).map Mom.d)) hoL
      (PySem.W.SortsAt.data (s := { s with heap := PySem.W.sortingHeap (h'.push (seqObj "list" acc.toList.toArray 0)) h'.objs.size acc.toList, toks := tk }) (PySem.W.each_map (R := fun v d => ∃ as, Reads (PySem.W.sortingHeap (h'.push (seqObj "list" acc.toList.toArray 0)) h'.objs.size acc.toList) v d as) Mom.d hE3) (moms_alike _) (moms_sortable _)
        (fun d hd => by
          obtain ⟨m, _, rfl⟩ := List.mem_map.mp hd
          have := mom_depth m
          show X.A.units + 1 + 1 + m.d.depth < cLine
          omega)) (by rw [hal]; exact h2) ⟨_, rfl, ?_⟩)
    (PyProof.Rows.args_list_sort _)))
  have hout := PySem.W.sortVals_data false hE hE3 (moms_alike (xs.map (·.1)))
  obtain ⟨ys, v1, v2⟩ := each_back hout
  obtain ⟨e', he'⟩ := PyProof.Rows.sortedHeap_at (vs := acc.toList) (out := (PySem.W.sortVals (PySem.W.dataKind (PySem.W.sortingHeap (h'.push (seqObj "list" acc.toList.toArray 0)) h'.objs.size acc.toList) ((xs.map (·.1)).map Mom.d)) false acc.toList acc.toList).toArray) hoL
  have hly := v1.length
  have hol := PySem.W.sortVals_length (κ := PySem.W.dataKind (PySem.W.sortingHeap (h'.push (seqObj "list" acc.toList.toArray 0)) h'.objs.size acc.toList) ((xs.map (·.1)).map Mom.d)) (ks := acc.toList) (vs := acc.toList) false rfl
  refine wpAny_pure ⟨_, rfl, .ref h'.objs.size, upd H h'.objs.size (.lst ys), I1.laid (t' := tk) (fun b u e => ?_) (Nat.le_refl _) ?_, rfl, q _ ys (I1.hok.fresh (Nat.le_refl _)) v2⟩
  · exact (PyProof.Rows.sortedHeap_old (ne b u e) (Heap.lt_size (kb b u e))).trans (kb b u e)
  · exact ⟨by omega, _, e', v1, he'⟩
theorem ev_sortM {p : Pos} {ms : List Mom} (hu : X.A.units + 8 < cLine) (hmg : X.mg "sorted" = none) (ha : EV X Γ a (isD X.K (.list (ms.map Mom.d)))) (hg : Gl X "sorted" := by rfl) (hs : starEach [a] X.env = [(false, eval a X.env)] := by rfl) :
    EV X Γ (.Call (.Name "sorted" p) [a] [] pos) (isD X.K (.list ((msort ms).map Mom.d))) :=
  .of (pe_callB (call_sortM hu) hg hmg rfl (pa_cons pe_w pa_nil hs) (he := hs)) fun σ H g => ha.use g fun v H1 s1 q1 => by
    obtain ⟨q, xs, rfl, h1, h2⟩ := dp_lst q1
    exact ⟨q, xs, ms, rfl, h1, h2, fun p ys hp hy => ⟨s1.trans (same_new hp), .lst (SqL.of upd_same) (dpAll_up (same_new hp) _ _ hy)⟩⟩
theorem ev_sortN {p : Pos} (hc : X.calm = true) (hu : X.A.units + 8 < cLine) (hmg : X.mg "sorted" = none) (ha : EV X Γ a (isNX X l)) (hg : Gl X "sorted" := by rfl) (hs : starEach [a] X.env = [(false, eval a X.env)] := by rfl) :
    EV X Γ (.Call (.Name "sorted" p) [a] [] pos) (isD X.K (.list ((msort (l.map (·.1))).map Mom.d))) :=
  .of (pe_callB (call_sortN hc hu) hg hmg rfl (pa_cons pe_w pa_nil hs) (he := hs)) fun σ H g => ha.use g fun v H1 s1 q1 => by
    obtain ⟨d, xs, ep, rfl, hr, hk, hv⟩ := q1
    refine ⟨d, xs, ep, rfl, hr, hk, fun p ys hp hy => ⟨s1.trans (same_new hp), .lst (SqL.of upd_same) ?_⟩⟩
    rw [← hv.keys]
    exact dpAll_up (same_new hp) _ _ hy
end
end EC

set_option Elab.async false
set_option linter.all false
set_option maxRecDepth 100000
set_option maxHeartbeats 4000000
/-! EcN4: dict comprehensions with moment keys. -/
namespace EC
open PySem PySem.Spec PyProof.Rows L2

section
variable {X : Cx}
/-- {k: v for target in iter if ..}: D the new dict, its keys moments -/
def tDcN (X : Cx) (wi : TI) (g : TG) (tt : TT) (tk tv : TE) (vs : List Nat) : TE := fun σ H Q => wi σ H fun J H1 => ∀ D, H1 D = none → ∃ W : Nat → Nat → Hp → Prop, (∃ m, W 0 m (upd H1 D (nD X.prog X.w D [] 0))) ∧ ∀ i m H, W i m H →
  (J.stop i H ∧ Q (.ref D) H) ∨ (J.go i H ∧ ∃ Nx : Hp → Prop, (∀ H', Nx H' → ∃ m', m' < m ∧ W (i + 1) m' H') ∧ ∀ x H', J.yld i H x H' → g x (wipe σ vs) H' fun σ2 H2 => wipe σ2 vs = wipe σ vs ∧ tt σ2 H2 fun b H3 =>
    if b = true then tk σ2 H3 fun y H4 => tv σ2 H4 fun z H5 => ∃ xs ep mo a, y = .ref a ∧ H5 D = some (nD X.prog X.w D xs ep) ∧ NKeys X.K H5 xs ∧ Dp X.K H5 (.ref a) (Mom.d mo) ∧ xs.length < sizeLine ∧ ∀ ep', Nx (upd H5 D (nD X.prog X.w D (putX xs mo a z) ep')) else Nx H3)
set_option maxHeartbeats 16000000 in
theorem dcN_core (hu : X.A.units + 8 < cLine) {kx vx tg iter : Expr} {ifs : List Expr} {scope : Scope} {own : List (Str × Nat)} {pos pos' : Pos} {wi : TI} {g : TG} {tt : TT} {tk tv : TE} {use : Option (Value → Sem Unit)} {Qf : Value → Shared → Prop} {pins : List (Addr × Obj)} {s : Shared} {σ : L2.St} {H : Hp} {Q : VK} (hc : X.calm = true) (hN : X.N.Nodup) (I0 : Inv X pins σ H s) (hi : PI X tg iter wi) (ok : BlkOk X.N X.env.scope scope own)
    (hg : ∀ s H C cl fp, PG (bx X scope s H C cl fp) tg g) (ht : ∀ s H C cl fp, PTs (bx X scope s H C cl fp) ifs tt) (hk : ∀ s H C cl fp, PE (bx X scope s H C cl fp) kx tk) (he : ∀ s H C cl fp, PE (bx X scope s H C cl fp) vx tv) (hs : ∀ x, foldedSetIterable iter X.env x = pure x)
    (h0 : tDcN X wi g tt tk tv (own.map (·.2)) σ H Q) (hEnd : ∀ D C s' m H', Inv X pins σ H' s' → Q (.ref D) H' → s'.heap.Ns C m → FpOk X pins H' C → compPost (model X.prog X.w) X.A X.xe use Qf (.ref D) C (.ok .next) s') :
    wpAny (model X.prog X.w) X.A (comprehension (.DictComp kx vx [⟨tg, iter, ifs, 0⟩] scope pos) scope X.env pos' newDict false (eval iter X.env) use) Qf X.xe s := by
  have hfree : ∀ y ∈ scope.names, y.2 = .free → ∃ c, X.env.cells.lookup y.1 = some c := by
    intro y hy e
    rcases ok.free y hy e with z | z
    · exact I0.ok.has _ (.inl z)
    · exact I0.ok.has _ (.inr z)
  refine wpAny_comprehension_free (use := use) rfl hs (closure_ok hfree) ok.kind (fun y hy e => by rw [ok.uniq y hy, e]) (thn (hi.run pins s σ H _ I0 h0) fun xv sa ha => thn ha fun itv sb hb => ?_)
  obtain ⟨it, fp, tn, J, Hb, rfl, Ib, T, st0, ff, q⟩ := hb
  refine wpAny_newObj_type (newEnv_comp ?_)
  generalize hD : sb.heap.objs.size = D
  have hnew : Hb D = none := Ib.hok.fresh (Nat.le_of_eq hD)
  obtain ⟨W, ⟨n0, w0⟩, turn⟩ := q D hnew
  generalize hsc : ({ sb with heap := sb.heap.push { cls := .type "dict", data := .dict #[] } } : Shared) = sc
  have hpush : sc.heap = sb.heap.push { cls := .type "dict", data := .dict #[] } := by rw [← hsc]
  have Ic : Inv X pins σ (upd Hb D (nD X.prog X.w D [] 0)) sc := by
    rw [← hsc]
    refine Ib.laid (t' := sb.toks) (fun a o e => Heap.get?_push_of_some _ e) (Nat.le_of_eq hD) (nD_ok ?_)
    rw [← hD]
    exact nd_new sb.heap Ib.big
  have hlow : ∀ a ∈ fp, a < sb.heap.objs.size := by
    intro a z
    obtain ⟨o, e, _⟩ := T.obj _ _ st0 a z
    exact Heap.lt_size e
  have fc : ∀ a ∈ fp, FpOk X pins (upd Hb D (nD X.prog X.w D [] 0)) a ∧ a < sc.heap.objs.size := by
    intro a z
    have lt := hlow a z
    refine ⟨⟨?_, (ff a z).2⟩, by rw [hpush, Heap.size_push]; exact Nat.lt_succ_of_lt lt⟩
    rw [upd_ne (by rw [← hD]; exact Nat.ne_of_lt lt)]
    exact (ff a z).1
  have stc : tn 0 sc.heap := T.keep _ _ _ st0 fun a _ o e => by rw [hpush]; exact Heap.get?_push_of_some _ e
  have Id := block_start Ic ok hN fc
  have pg := hg sc (upd Hb D (nD X.prog X.w D [] 0)) sc.heap.objs.size (cellsFrom (sc.heap.objs.size + 1) scope.names (cloFrom X.env.cells scope.names [])) fp
  have pt := ht sc (upd Hb D (nD X.prog X.w D [] 0)) sc.heap.objs.size (cellsFrom (sc.heap.objs.size + 1) scope.names (cloFrom X.env.cells scope.names [])) fp
  have pk := hk sc (upd Hb D (nD X.prog X.w D [] 0)) sc.heap.objs.size (cellsFrom (sc.heap.objs.size + 1) scope.names (cloFrom X.env.cells scope.names [])) fp
  have pv := he sc (upd Hb D (nD X.prog X.w D [] 0)) sc.heap.objs.size (cellsFrom (sc.heap.objs.size + 1) scope.names (cloFrom X.env.cells scope.names [])) fp
  dsimp only [bx] at pg pt pk pv
  show codeAny _ _ (.compStart (.DictComp kx vx [⟨tg, iter, ifs, 0⟩] scope pos) 0 (.ref it) (.ref D) (compEnvC scope (cellsFrom (sc.heap.objs.size + 1) scope.names (cloFrom X.env.cells scope.names [])) sc.heap.objs.size X.env)) (compPost (model X.prog X.w) X.A X.xe use Qf (.ref D) sc.heap.objs.size) { sc with heap := pushCells (sc.heap.push { cls := .type "dict", data := .dict #[] }) scope.names }
  have nfp : ∀ a ∈ fp, (upd Hb D (nD X.prog X.w D [] 0)) a = none := fun a z => (fc a z).1.1
  generalize hce : compEnvC scope (cellsFrom (sc.heap.objs.size + 1) scope.names (cloFrom X.env.cells scope.names [])) sc.heap.objs.size X.env = ce at Id pg pt pk pv ⊢
  have cL : ce.locals = sc.heap.objs.size := by subst hce; rfl
  generalize hHc : upd Hb D (nD X.prog X.w D [] 0) = Hc at Ic Id pg pt pk pv w0 nfp fc
  generalize hsd : ({ sc with heap := pushCells (sc.heap.push { cls := .type "dict", data := .dict #[] }) scope.names } : Shared) = sd at Id ⊢
  have std : tn 0 sd.heap := T.keep _ _ _ stc fun a _ o e => by rw [← hsd]; exact pushCells_keeps _ _ _ _ (Heap.get?_push_of_some _ e)
  have stat : ∀ {σ' : L2.St} {H' : Hp} {s' : Shared}, Inv (X.blk sc Hc scope ce fp) [] σ' H' s' → (∀ a ∈ fp, H' a = none) → ∀ a ∈ fp, FpOk (X.blk sc Hc scope ce fp) [] H' a := fun {σ' H' s'} I' hn a z =>
    ⟨hn a z, (I'.ok.exf a z).1, I'.ok.exfs a z, .inl z, fun x c e => (I'.ok.exf a z).2 x c e, fun p hp => absurd (show p ∈ ([] : List (Addr × Obj)) ++ [] from hp) (by simp)⟩
  have loop : codeAny (model X.prog X.w) X.A (.compLoop (.DictComp kx vx [⟨tg, iter, ifs, 0⟩] scope pos) 0 (.ref it) (.ref D) ce) (compPost (model X.prog X.w) X.A X.xe use Qf (.ref D) sc.heap.objs.size) sd := by
    refine compLoop_anyD (fun n s' => ∃ i H', Inv (X.blk sc Hc scope ce fp) [] (wipe σ (own.map (·.2))) H' s' ∧ tn i s'.heap ∧ (∀ a ∈ fp, H' a = none) ∧ W i n H') ?_ n0 ⟨0, Hc, Id, std, nfp, w0⟩
    rintro n s5 ⟨i, H5, I5, st5, n5, w5⟩
    rcases turn i n H5 w5 with ⟨stop, fin⟩ | ⟨go, Nx, hNx, step⟩
    · refine thnF (T.done (X.blk sc Hc scope ce fp) rfl rfl rfl hc i [] s5 _ H5 (fun _ _ => False) I5 (stat I5 n5) st5 stop) fun r s6 ⟨hr, I6⟩ => ?_
      subst hr
      have I7 : Inv X pins σ H5 s6 := Ic.call' (ch := fp) I6.os I6.base I6.hok I6.bare fun a z => ⟨(fc a z).1.2.2.2.1, (fc a z).1.2.1, (fc a z).1.2.2.2.2.1, (fc a z).1.2.2.2.2.2⟩
      have nC : H5 sc.heap.objs.size = none := by
        have z : H5 ce.locals = none := I6.free
        rw [cL] at z
        exact z
      obtain ⟨m, hn, _⟩ := I6.loc
      have hn' : s6.heap.Ns ce.locals m := hn
      rw [cL] at hn'
      exact hEnd D sc.heap.objs.size s6 m H5 I7 fin hn' (Ic.fpOk (Nat.le_refl _) nC)
    · refine thnF (T.item (X.blk sc Hc scope ce fp) rfl rfl rfl hc i [] s5 _ H5 (fun _ _ => False) I5 (stat I5 n5) st5 go) fun r s6 ⟨u, hr, h6⟩ => ?_
      subst hr
      refine thnF h6 fun _ s7 ⟨x, H7, I7, r7, y7, st7, n7⟩ => ?_
      refine thnF (pg.run _ s7 _ H7 x u _ (I7.pinned (stat I7 n7) (T.obj _ _ st7)) r7 (step x H7 y7)) fun _ s8 ⟨σ8, H8, I8, hw8, q8⟩ => ?_
      refine thnF (pt.run _ s8 σ8 H8 _ I8 q8) fun b s9 ⟨H9, I9, q9⟩ => ?_
      have close : ∀ {s' : Shared} {H' : Hp}, Inv (X.blk sc Hc scope ce fp) ([] ++ pinsAt fp s7.heap) σ8 H' s' → Nx H' → ∃ m, m < n ∧ ∃ i H', Inv (X.blk sc Hc scope ce fp) [] (wipe σ (own.map (·.2))) H' s' ∧ tn i s'.heap ∧ (∀ a ∈ fp, H' a = none) ∧ W i m H' := fun {s' H'} I' nx => by
        obtain ⟨m', hm, w'⟩ := hNx H' nx
        have kept : ∀ a ∈ fp, ∀ o, s7.heap.get? a = some o → s'.heap.get? a = some o ∧ H' a = none := fun a z o e =>
          let y := I'.pin (a, o) (List.mem_append_right _ (List.mem_append_right _ (mem_pinsAt z e)))
          ⟨y.1, y.2.1⟩
        have hl : (wipe σ (own.map (·.2))).length = σ8.length := by rw [← hw8, wipe_length]
        refine ⟨m', hm, i + 1, H', (I'.unpinned (pins := [])).weak hl (fun j v e => ?_), T.keep _ _ _ st7 fun a z o e => (kept a z o e).1, fun a z => ?_, w'⟩
        · rw [← hw8] at e
          exact (wipe_some e).1
        · obtain ⟨o, e, _⟩ := T.obj _ _ st7 a z
          exact (kept a z o e).2
      cases b with
      | false =>
        simp only [Bool.false_eq_true, if_false] at q9 ⊢
        exact close I9 q9
      | true =>
        simp only [if_true] at q9 ⊢
        refine thnF (pk.run _ s9 σ8 H9 _ I9 q9) fun z s10 ⟨yk, H10, I10, r10, q10⟩ => ?_
        refine thnF (pv.run _ s10 σ8 H10 _ I10 q10) fun z2 s11 ⟨yv, H11, I11, r11, xs, ep, mo, a, ek, hD11, hk11, hb11, hz11, nx⟩ => ?_
        subst ek
        obtain rfl : z = Value.ref a := r10
        exact nd_dset (X := X.blk sc Hc scope ce fp) (show X.A.units + 8 < cLine from hu) I11 hD11 hk11 hb11 hz11 r11 fun ep' s12 I12 => close I12 (nx ep')
  exact codeAny_compStart_dict loop (T.self X.A 0 _ _ _ std loop)
theorem pe_dcN (hu : X.A.units + 8 < cLine) {kx vx tg iter : Expr} {ifs : List Expr} {scope : Scope} {own : List (Str × Nat)} {pos : Pos} {wi : TI} {g : TG} {tt : TT} {tk tv : TE} (hc : X.calm = true) (hN : X.N.Nodup) (hi : PI X tg iter wi) (ok : BlkOk X.N X.env.scope scope own)
    (hg : ∀ s H C cl fp, PG (bx X scope s H C cl fp) tg g) (ht : ∀ s H C cl fp, PTs (bx X scope s H C cl fp) ifs tt) (hk : ∀ s H C cl fp, PE (bx X scope s H C cl fp) kx tk) (he : ∀ s H C cl fp, PE (bx X scope s H C cl fp) vx tv) (hs : ∀ x, foldedSetIterable iter X.env x = pure x := by intro _; rfl) :
    PE X (.DictComp kx vx [⟨tg, iter, ifs, 0⟩] scope pos) (tDcN X wi g tt tk tv (own.map (·.2))) := by
  refine ⟨fun pins s σ H Q I h => ?_⟩
  rw [arm_eval_DictComp]
  refine dcN_core hu hc hN I hi ok hg ht hk he hs h fun D C s' m H' I' q hn f => ⟨m, hn, fun h2 sb => ?_⟩
  obtain ⟨f0, f1, f2, f3, f4, f5⟩ := f
  exact ⟨.ref D, H', I'.turned (t' := s'.toks) (fun a o z e => (sb.2 a z).trans e) f0 f1 f3 f4 f5, rfl, q⟩
theorem sw_dict {kx vx : Expr} {gs : List Comprehension} {scope : Scope} {pos py : Pos} {y : Str} {l : Nat} {env : PySem.Env} (hk : env.scope.kind = .function) (hy : env.scope.names.lookup y = some .local) (hl : (py.line == pos.line) = true)
    (ha : (scope.names.any fun (n, k) => n == y && (k == .local || k == .cell)) = false) : swapsWith (.DictComp kx vx gs scope pos) (some (.Name y py)) l env = pure true := by
  have e1 : env.kindOf y = some .local := hy
  have e2 : env.blockKind = .function := by unfold Env.blockKind; rw [hk]; rfl
  unfold swapsWith
  simp only [e2, e1, ha, Expr.pos, hl]
  rfl
theorem ps_setDcN (hu : X.A.units + 8 < cLine) {i : Nat} {y : Str} {py spos : Pos} {kx vx tg iter : Expr} {ifs : List Expr} {scope : Scope} {own : List (Str × Nat)} {pos : Pos} {wi : TI} {g : TG} {tt : TT} {tk tv : TE} (hc : X.calm = true) (hN : X.N.Nodup) (hy : X.N[i]? = some y) (hyl : X.env.scope.names.lookup y = some .local)
    (hsw : swapsWith (.DictComp kx vx [⟨tg, iter, ifs, 0⟩] scope pos) (some (.Name y py)) spos.line X.env = pure true) (hi : PI X tg iter wi) (ok : BlkOk X.N X.env.scope scope own)
    (hg : ∀ s H C cl fp, PG (bx X scope s H C cl fp) tg g) (ht : ∀ s H C cl fp, PTs (bx X scope s H C cl fp) ifs tt) (hk : ∀ s H C cl fp, PE (bx X scope s H C cl fp) kx tk) (he : ∀ s H C cl fp, PE (bx X scope s H C cl fp) vx tv) (hs : ∀ x, foldedSetIterable iter X.env x = pure x := by intro _; rfl) :
    PS X (.Assign [.Name y py] (.DictComp kx vx [⟨tg, iter, ifs, 0⟩] scope pos) spos) (tAsg (tDcN X wi g tt tk tv (own.map (·.2))) (gName i)) := by
  refine ⟨fun pins s σ H D I h => ?_⟩
  rw [exec_Assign_Name_used _ _ _ _ hsw]
  refine wpAny_bind (wpAny_standAt (wpAny_bind ?_))
  show wpAny _ X.A (do let _ ← comprehension (.DictComp kx vx [⟨tg, iter, ifs, 0⟩] scope pos) scope X.env (firstIterPos [⟨tg, iter, ifs, 0⟩] pos) newDict false (eval iter X.env) (some (assign (.Name y py) X.env))) _ _ s
  have h' : tDcN X wi g tt tk tv (own.map (·.2)) σ H (fun x H1 => gName i x σ H1 D.nx) := h
  refine wpAny_bind (thn (dcN_core (Qf := fun _ s' => SP X pins D .next s') hu hc hN I hi ok hg ht hk he hs h' fun L C s' m H' I' q hn f => ?_) fun _ s' hq => wpAny_pure (wpAny_pure hq))
  show wpAny _ _ (assign (.Name y py) X.env (.ref L)) _ _ _
  refine wpAny_assign_Name (store_ok2 (v := V.ref L) I' hN hy (.inl hyl) rfl (fun s2 J ⟨a, sb, ha⟩ => ?_) (.inr hyl))
  obtain ⟨f0, f1, f2, f3, f4, f5⟩ := f
  have hne : C ≠ a := by
    rcases ha with z | z
    · rw [z]; exact f1
    · exact fun e => f4 y a z e.symm
  exact ⟨m, hn.sameBut sb hne, fun h3 sb3 => ⟨_, H', J.turned (t' := s2.toks) (fun b o hb e => (sb3.2 b hb).trans e) f0 f1 f3 f4 f5, q⟩⟩
end
end EC

set_option Elab.async false
set_option linter.all false
set_option maxRecDepth 100000
set_option maxHeartbeats 4000000
/-! EcN5: statements; lists and dicts that change. -/
namespace EC
open PySem PySem.Spec PyProof.Rows L2

/-- an address forgotten -/
def cut (p : Addr) (H : Hp) : Hp := fun b => if b = p then none else H b
theorem cut_same {p : Addr} {H : Hp} : Same (cut p H) H := fun b u e => by
  unfold cut at e
  split at e
  · cases e
  · exact e
theorem cut_ne {p b : Addr} {H : Hp} (h : b ≠ p) : cut p H b = H b := by unfold cut; rw [if_neg h]
theorem cut_upd {p : Addr} {H : Hp} {o : HO} : cut p (upd H p o) = cut p H := by
  funext b
  unfold cut upd
  split
  · rfl
  · rfl
theorem cut_mono {p : Addr} {H H' : Hp} (e : Same H H') : Same (cut p H) (cut p H') := fun b u z => by
  unfold cut at z ⊢
  split at z
  · cases z
  · rename_i hb
    rw [if_neg hb]
    exact e b u z
/-- what is no tuple may be forgotten -/
theorem cut_tup {p : Addr} {H : Hp} (h1 : ∀ xs, H p ≠ some (.tup xs)) (h2 : ∀ o xs, H p ≠ some (.frz o (.tup xs))) : TupSub H (cut p H) := fun b xs r => by
  have hb : b ≠ p := by
    rintro rfl
    rcases r with r | ⟨o, r⟩
    · exact h1 _ r
    · exact h2 _ _ r
  rcases r with r | ⟨o, r⟩
  · exact .inl (by rw [cut_ne hb]; exact r)
  · exact .inr ⟨o, by rw [cut_ne hb]; exact r⟩
theorem cut_tupL {p : Addr} {H : Hp} {xs : List V} (h : H p = some (.lst xs)) : TupSub H (cut p H) := cut_tup (fun _ e => by rw [h] at e; cases e) (fun _ _ e => by rw [h] at e; cases e)
theorem cut_tupN {p : Addr} {H : Hp} {P : Program} {w : World} {xs : NX} {ep : Nat} (h : H p = some (nD P w p xs ep)) : TupSub H (cut p H) := cut_tup (fun _ e => by rw [h] at e; cases e) (fun _ _ e => by rw [h] at e; cases e)
theorem tupSub_nD {P : Program} {w : World} {H : Hp} {p : Addr} {xs : NX} {ep : Nat} {o' : HO} (h : H p = some (nD P w p xs ep)) : TupSub H (upd H p o') := tupSub_ext h
theorem same_upd {H0 H : Hp} {p : Addr} {o : HO} (s : Same H0 H) (h : H0 p = none) : Same H0 (upd H p o) := fun b u e => by
  rw [upd_ne (ne_of_none e h)]
  exact s b u e

/-! ### environments and changes -/
/-- types that bear any change but to tuples and to what was there ahead -/
def Stb (H0 : Hp) (τ : Ty) : Prop := ∀ (H H' : Hp) (v : V), Same H0 H' → TupSub H H' → τ.p H v → τ.p H' v
def fx (H0 : Hp) (τ : Ty) : Ty := ⟨fun H v => Same H0 H ∧ τ.p H0 v, fun e h => ⟨h.1.trans e, h.2⟩⟩
theorem stb_fx {H0 : Hp} {τ : Ty} : Stb H0 (fx H0 τ) := fun _ _ _ s _ h => ⟨s, h.2⟩
theorem stb_lf {H0 : Hp} {K : PySem.W.Frag} {d : PyData} (h : lf d = true) : Stb H0 (isD K d) := fun _ _ _ _ t q => dp_imm t _ _ h q
theorem stb_V {H0 : Hp} {x : V} : Stb H0 (isV x) := fun _ _ _ _ _ q => q
def StbG (H0 : Hp) (Γ : List (Option Ty)) : Prop := ∀ (i : Nat) (τ : Ty), Γ[i]? = some (some τ) → Stb H0 τ
theorem stbG_nil {H0 : Hp} : StbG H0 [] := fun i τ e => by simp at e
theorem stbG_none {H0 : Hp} {Γ : List (Option Ty)} (h : StbG H0 Γ) : StbG H0 (none :: Γ) := fun i τ e => by
  cases i with
  | zero => simp at e
  | succ j => exact h j τ (by simpa using e)
theorem stbG_some {H0 : Hp} {Γ : List (Option Ty)} {τ : Ty} (h1 : Stb H0 τ) (h : StbG H0 Γ) : StbG H0 (some τ :: Γ) := fun i τ' e => by
  cases i with
  | zero => simp at e; subst e; exact h1
  | succ j => exact h j τ' (by simpa using e)
theorem Env.mut {Γ : List (Option Ty)} {σ : L2.St} {H0 H H' : Hp} (g : Env Γ σ H) (st : StbG H0 Γ) (s : Same H0 H') (t : TupSub H H') : Env Γ σ H' :=
  ⟨g.len, fun i τ h => let ⟨v, h1, h2⟩ := g.at_ i τ h; ⟨v, h1, st i τ h _ _ _ s t h2⟩⟩
/-- a weaker table of the same slots -/
theorem Env.sub {Γ Γ' : List (Option Ty)} {σ : L2.St} {H : Hp} (g : Env Γ σ H) (hl : Γ'.length = Γ.length) (h : ∀ (i : Nat) (τ' : Ty), Γ'[i]? = some (some τ') → ∃ τ : Ty, Γ[i]? = some (some τ) ∧ ∀ v, τ.p H v → τ'.p H v) : Env Γ' σ H :=
  ⟨by rw [hl]; exact g.len, fun i τ' e => let ⟨τ, h1, h2⟩ := h i τ' e; let ⟨v, h3, h4⟩ := g.at_ i τ h1; ⟨v, h3, h2 v h4⟩⟩
theorem ev_fx {X : Cx} {Γ : List (Option Ty)} {e : Expr} {H0 : Hp} {τ : Ty} (h : EV X Γ e (fx H0 τ)) : EV X Γ e τ :=
  ⟨fun σ H g => wE_mono (h.run σ H g) fun v H' q => ⟨q.1, τ.up q.2.1 q.2.2⟩⟩

section
variable {X : Cx} {Γ : List (Option Ty)} {σ : L2.St} {H : Hp} {e a b c o i value iter : Expr} {es : List Expr} {pos pos' p p2 apos cpos : Pos} {τ : Ty} {D : Ends} {x : Str} {body els : List Stmt} {Q : VK}
/-! ### statements -/
theorem wS_set (j : Nat) (hN : X.N.Nodup) (he : wE X e σ H fun v H1 => D.nx (σ.set j (some v)) H1) (hi : X.N[j]? = some x := by rfl) (hx : Loc X.env.scope x := by first | exact .inl rfl | exact .inr rfl) (hs : swapsWith e (some (.Name x p)) pos.line X.env = pure false := by rfl)
    (hf : X.fn x = true ∨ X.env.scope.names.lookup x = some .local := by first | exact .inl rfl | exact .inr rfl) : wS X (.Assign [.Name x p] e pos) D σ H := wS_of (ps_set hN hi hx pe_w hs hf) he
theorem wS_if (h : wT X c σ H fun k H1 => if k = true then wB X body D σ H1 else wB X els D σ H1) : wS X (.If c body els pos) D σ H := wS_of (ps_if pt_w pss_w pss_w) h
theorem wS_expr (h : wE X e σ H fun _ H1 => D.nx σ H1) (hs : swapsWith e none pos.line X.env = pure false := by rfl) : wS X (.Expr e pos) D σ H := wS_of (ps_expr pe_w hs) h
theorem wS_ret (h : wE X e σ H fun v H1 => D.rt v H1) : wS X (.Return (some e) pos) D σ H := wS_of (ps_ret pe_w) h
theorem wS_while (h : tWhile (wT X c) (wB X body) D σ H) (hp : PassesOwn (model X.prog X.w) X.A X.env X.xe := by exact PassesOwn.never) : wS X (.While c body [] pos) D σ H := wS_of (ps_while hp pt_w pss_w) h
/-- a loop over a list whose items stay: Pv by the turn -/
theorem wS_forL {tg : Expr} {g : TG} (hg : PG X tg g) (hc : X.calm = true)
    (h : wE X iter σ H fun v H1 => ∃ (q : Addr) (xs : List V) (Pv : Nat → L2.St → Hp → Prop), v = .ref q ∧ Pv 0 σ H1 ∧ (∀ i σ H, i ≤ xs.length → Pv i σ H → SqL X.K H q xs) ∧
      (∀ i y σ H, xs[i]? = some y → Pv i σ H → g y σ H fun σ2 H2 => wB X body { D with nx := Pv (i + 1), ct := Pv (i + 1), bk := D.nx } σ2 H2) ∧ ∀ σ H, Pv xs.length σ H → D.nx σ H)
    (hp : PassesOwn (model X.prog X.w) X.A X.env X.xe := by exact PassesOwn.never) (hs : ∀ x, foldedSetIterable iter X.env x = pure x := by intro _; rfl) : wS X (.For tg iter body [] pos) D σ H := by
  refine wS_of (ps_for hp hc (pi_list pe_w) hg pss_w hs) (wE_mono h fun v H1 ⟨q, xs, Pv, e, p0, hl, st, dn⟩ => ⟨q, e, ?_⟩)
  refine ⟨⟨xs, hl 0 σ H1 (Nat.zero_le _) p0⟩, for_it walk_list Pv p0 (fun i σ H hi p => hl i σ H hi p) (fun i x σ H H' hi p y => ?_) dn⟩
  obtain ⟨rfl, y⟩ := y
  exact st i x σ _ y p
/-- a loop over the keys of a dict that stays -/
theorem wS_forN {tg : Expr} {g : TG} (hg : PG X tg g) (hc : X.calm = true)
    (h : wE X iter σ H fun v H1 => ∃ (q : Addr) (xs : NX) (ep : Nat) (Pv : Nat → L2.St → Hp → Prop), v = .ref q ∧ Pv 0 σ H1 ∧ (∀ i σ H, i ≤ xs.length → Pv i σ H → Rd H q (nD X.prog X.w q xs ep)) ∧
      (∀ i y σ H, xs[i]? = some y → Pv i σ H → g (.ref y.2.1) σ H fun σ2 H2 => wB X body { D with nx := Pv (i + 1), ct := Pv (i + 1), bk := D.nx } σ2 H2) ∧ ∀ σ H, Pv xs.length σ H → D.nx σ H)
    (hp : PassesOwn (model X.prog X.w) X.A X.env X.xe := by exact PassesOwn.never) (hs : ∀ x, foldedSetIterable iter X.env x = pure x := by intro _; rfl) : wS X (.For tg iter body [] pos) D σ H := by
  refine wS_of (ps_for hp hc (pi_n pe_w) hg pss_w hs) (wE_mono h fun v H1 ⟨q, xs, ep, Pv, e, p0, hl, st, dn⟩ => ⟨q, xs, ep, e, hl 0 σ H1 (Nat.zero_le _) p0, ?_⟩)
  refine for_it walk_n Pv p0 (fun i σ H hi p => hl i σ H hi p) (fun i x σ H H' hi p y => ?_) dn
  obtain ⟨rfl, z, hz, rfl⟩ := y
  exact st i z σ _ hz p
/-- for x in range(n) -/
theorem wS_forR {tg : Expr} {g : TG} (hg : PG X tg g) (hc : X.calm = true) (hm : X.mg "range" = none)
    (h : wE X a σ H fun v H1 => ∃ (n : Int) (Pv : Nat → L2.St → Hp → Prop), v = .int n ∧ 0 ≤ n ∧ n ≤ 100000 ∧ Pv 0 σ H1 ∧
      (∀ i σ H, i < n.toNat → Pv i σ H → g (.int (i : Nat)) σ H fun σ2 H2 => wB X body { D with nx := Pv (i + 1), ct := Pv (i + 1), bk := D.nx } σ2 H2) ∧ ∀ σ H, Pv n.toNat σ H → D.nx σ H)
    (hgl : Gl X "range" := by rfl) (hs : starEach [a] X.env = [(false, eval a X.env)] := by rfl)
    (hp : PassesOwn (model X.prog X.w) X.A X.env X.xe := by exact PassesOwn.never) (hsf : ∀ x, foldedSetIterable (.Call (.Name "range" p) [a] [] p2) X.env x = pure x := by intro _; rfl) : wS X (.For tg (.Call (.Name "range" p) [a] [] p2) body [] pos) D σ H := by
  refine wS_of (ps_for hp hc (pi_range1 hgl hm (pa_cons pe_w pa_nil hs) hs) hg pss_w hsf) (wE_mono h fun v H1 ⟨n, Pv, e, h0, h1, p0, st, dn⟩ => ⟨n, by rw [e], by omega, by omega, ?_⟩)
  refine for_it walk_range Pv p0 (fun i σ H hi p => trivial) (fun i x σ H H' hi p y => ?_) dn
  obtain ⟨rfl, rfl⟩ := y
  have z := st i σ _ hi p
  rw [← Int.zero_add ((i : Nat) : Int)] at z
  exact z

/-! ### lists that change -/
theorem wE_pop (h : wE X o σ H fun v H1 => ∃ l xs y, v = .ref l ∧ H1 l = some (.lst xs) ∧ xs[xs.length - 1]? = some y ∧ Q y (upd H1 l (.lst xs.dropLast)))
    (hb : attributeBase o "pop" X.env (eval o X.env) = eval o X.env := by rfl) (hl : (apos.endLine == cpos.line) = true := by rfl) : wE X (.Call (.Attribute o "pop" apos) [] [] cpos) σ H Q :=
  wE_of (pe_bm0 PySem.F.plainAttrs_list PySem.F.slot_list_pop PySem.F.type_list_pop mt_pop pe_w hb hl) (wE_mono h fun v H1 ⟨l, xs, y, e, h1, h2, h3⟩ => ⟨by rw [e]; exact .inl ⟨rfl, xs, SqL.of h1⟩, l, xs, y, e, rfl, h1, h2, h3⟩)
theorem wE_append (h : wE X o σ H fun v H1 => ∃ l, v = .ref l ∧ (∃ xs, H1 l = some (.lst xs)) ∧ wE X e σ H1 fun y H2 => ∃ xs, H2 l = some (.lst xs) ∧ xs.length < sizeLine ∧ Q .non (upd H2 l (.lst (xs ++ [y]))))
    (hb : attributeBase o "append" X.env (eval o X.env) = eval o X.env := by rfl) (hl : (apos.endLine == cpos.line) = true := by rfl)
    (hw : ((backTo cpos (starEach [e] X.env)).all (fun x => !x.1) && (backToKw cpos (keywordEach [] X.env)).all (fun x => x.1.isSome) && decide (([e] : List Expr).length + ([] : List Keyword).length + (if ([] : List Keyword).isEmpty then 0 else 1) < 30)) = true := by rfl)
    (hs : starEach [e] X.env = (false, eval e X.env) :: starEach [] X.env := by rfl) : wE X (.Call (.Attribute o "append" apos) [e] [] cpos) σ H Q :=
  wE_of (pe_bm PySem.F.plainAttrs_list PySem.F.slot_list_append PySem.F.type_list_append mt_append pe_w (pa_cons pe_w pa_nil hs) hb hw hl hs) (wE_mono h fun v H1 ⟨l, e, ⟨xs, h1⟩, h2⟩ => by
    subst e
    exact ⟨.inl ⟨rfl, xs, SqL.of h1⟩, wE_mono h2 fun y H2 ⟨xs, h3, h4, h5⟩ => ⟨l, xs, y, rfl, rfl, h3, h4, h5⟩⟩)
theorem wE_extend (h : wE X o σ H fun v H1 => ∃ l, v = .ref l ∧ (∃ xs, H1 l = some (.lst xs)) ∧ wE X e σ H1 fun y H2 => ∃ q xs zs, y = .ref q ∧ H2 l = some (.lst xs) ∧ H2 q = some (.lst zs) ∧ xs.length + zs.length ≤ sizeLine ∧ Q .non (upd H2 l (.lst (xs ++ zs))))
    (hb : attributeBase o "extend" X.env (eval o X.env) = eval o X.env := by rfl) (hl : (apos.endLine == cpos.line) = true := by rfl)
    (hw : ((backTo cpos (starEach [e] X.env)).all (fun x => !x.1) && (backToKw cpos (keywordEach [] X.env)).all (fun x => x.1.isSome) && decide (([e] : List Expr).length + ([] : List Keyword).length + (if ([] : List Keyword).isEmpty then 0 else 1) < 30)) = true := by rfl)
    (hs : starEach [e] X.env = (false, eval e X.env) :: starEach [] X.env := by rfl) : wE X (.Call (.Attribute o "extend" apos) [e] [] cpos) σ H Q :=
  wE_of (pe_bm PySem.F.plainAttrs_list PySem.F.slot_list_extend PySem.F.type_list_extend mt_extend pe_w (pa_cons pe_w pa_nil hs) hb hw hl hs) (wE_mono h fun v H1 ⟨l, e, ⟨xs, h1⟩, h2⟩ => by
    subst e
    exact ⟨.inl ⟨rfl, xs, SqL.of h1⟩, wE_mono h2 fun y H2 ⟨q, xs, zs, e2, h3, h4, h5, h6⟩ => ⟨l, q, xs, zs, rfl, by rw [e2], h3, h4, h5, h6⟩⟩)
theorem wE_catL (h : wE X a σ H fun v H1 => wE X b σ H1 fun u H2 => ∃ l q xs zs, v = .ref l ∧ u = .ref q ∧ H2 l = some (.lst xs) ∧ H2 q = some (.lst zs) ∧ xs.length + zs.length ≤ sizeLine ∧ ∀ r, H2 r = none → Q (.ref r) (upd H2 r (.lst (xs ++ zs)))) : wE X (.BinOp a .Add b pos) σ H Q :=
  wE_of (pe_op op_cat pe_w pe_w) h
theorem wE_lst (h : wA X es σ H fun vs H1 => vs.length ≤ sizeLine ∧ ∀ q, H1 q = none → Q (.ref q) (upd H1 q (.lst vs))) (hl : es.length ≤ 1000 := by decide) : wE X (.List es pos) σ H Q :=
  wE_of (pe_lst pa_w) (wA_mono h fun vs H1 z => ⟨z.1, z.2⟩)

/-! ### dicts that change -/
theorem wE_nnew (h : ∀ q, H q = none → Q (.ref q) (upd H q (nD X.prog X.w q [] 0))) : wE X (.Dict [] [] pos) σ H Q := fun pins s I =>
  wpAny_Dict_empty ⟨.ref s.heap.objs.size, _, I.laid (a := s.heap.objs.size) (o := nD X.prog X.w s.heap.objs.size [] 0) (t' := s.toks) (fun _ _ q => Heap.get?_push_of_some _ q) (Nat.le_refl _) (nD_ok (nd_new s.heap I.big)), rfl, h _ (I.hok.fresh (Nat.le_refl _))⟩
theorem wS_nput (hu : X.A.units + 9 < cLine) (h : wE X value σ H fun v H1 => wE X o σ H1 fun u H2 => wE X i σ H2 fun y H3 => ∃ d xs ep m k, u = .ref d ∧ y = .ref k ∧ H3 d = some (nD X.prog X.w d xs ep) ∧ NKeys X.K H3 xs ∧ Dp X.K H3 (.ref k) (Mom.d m) ∧ xs.length < sizeLine ∧
      ∀ ep', D.nx σ (upd H3 d (nD X.prog X.w d (putX xs m k v) ep'))) (hs : swapsWith value (some (.Subscript o i pos')) pos.line X.env = pure false := by rfl) : wS X (.Assign [.Subscript o i pos'] value pos) D σ H := fun pins s I => by
  refine wpAny_Assign_Subscript (thn (h pins s I) fun r s1 ⟨v, H1, I1, rv, q1⟩ => thn (q1 pins s1 I1) fun u s2 ⟨z, H2, I2, rx, q2⟩ => thn (q2 pins s2 I2) fun iv s3 ⟨y, H3, I3, ry, d, xs, ep, m, k, e1, e2, h1, h2, h3, h4, q3⟩ => ?_) hs
  subst e1 e2
  obtain rfl : u = Value.ref d := rx
  obtain rfl : iv = Value.ref k := ry
  exact nd_set hu I3 h1 h2 h3 h4 rv fun ep' s4 I4 => ⟨σ, _, I4, q3 ep'⟩
/-- d.update(d2) -/
theorem storedAll_rel {xs : NX} {ys zs : List (Mom × Addr × Value)} {us : NX} (r : NRel xs ys) (r2 : NRel us zs) : NRel (us.foldl (fun acc p => putX acc p.1 p.2.1 p.2.2) xs) (storedAllH ys zs) := by
  induction r2 generalizing xs ys with
  | nil => exact r
  | @cons p q ps qs h t ih =>
    have e : NRel (putX xs p.1 p.2.1 p.2.2) (storedH ys q.1 q.2.1 q.2.2) := by
      rw [← h.1, ← h.2.1]
      exact r.put p.1 p.2.1 h.2.2
    exact ih e
def putAllX (xs us : NX) : NX := us.foldl (fun acc p => putX acc p.1 p.2.1 p.2.2) xs
theorem putAllX_len : ∀ (us xs : NX), (putAllX xs us).length ≤ xs.length + us.length
  | [], xs => Nat.le_refl _
  | p :: r, xs => by
    have h1 := putAllX_len r (putX xs p.1 p.2.1 p.2.2)
    have h2 := putX_len xs p.1 p.2.1 p.2.2
    show (putAllX (putX xs p.1 p.2.1 p.2.2) r).length ≤ _
    rw [List.length_cons]
    omega
theorem wE_nupdate (hu : X.A.units + 9 < cLine) (h : wE X o σ H fun v H1 => ∃ d, v = .ref d ∧ (∃ xs ep, H1 d = some (nD X.prog X.w d xs ep)) ∧ wE X e σ H1 fun y H2 => ∃ d2 xs us ep ep2, y = .ref d2 ∧ H2 d = some (nD X.prog X.w d xs ep) ∧ Rd H2 d2 (nD X.prog X.w d2 us ep2) ∧ d ≠ d2 ∧ NKeys X.K H2 xs ∧ NKeys X.K H2 us ∧
      xs ≠ [] ∧ xs.length + us.length ≤ sizeLine ∧ ∀ ep', Q .non (upd H2 d (nD X.prog X.w d (putAllX xs us) ep')))
    (hb : attributeBase o "update" X.env (eval o X.env) = eval o X.env := by rfl) (hl : (apos.endLine == cpos.line) = true := by rfl)
    (hw : ((backTo cpos (starEach [e] X.env)).all (fun x => !x.1) && (backToKw cpos (keywordEach [] X.env)).all (fun x => x.1.isSome) && decide (([e] : List Expr).length + ([] : List Keyword).length + (if ([] : List Keyword).isEmpty then 0 else 1) < 30)) = true := by rfl)
    (ht : backTo cpos (starEach [e] X.env) = [(false, eval e X.env)] := by rfl) : wE X (.Call (.Attribute o "update" apos) [e] [] cpos) σ H Q := fun pins s I => by
  refine wpAny_Call_method hb hw hl PySem.F.plainAttrs_dict PySem.F.slot_dict_update PySem.F.type_dict_update (thn (h pins s I) fun u s1 ⟨z, H1, I1, rx, d, ex, ⟨xs0, ep0, hd⟩, q1⟩ => ?_)
  subst ex
  obtain rfl : u = Value.ref d := rx
  refine ⟨nd_typeIs I1 (.inl hd), nd_noDict I1 (.inl hd), ?_⟩
  rw [ht]
  refine Calls.callWith_builtin rfl (Calls.evalArgs_plain (Calls.spliced_cons (thn (q1 pins s1 I1) fun iv s2 ⟨y, H2, I2, ry, d2, xs, us, ep, ep2, ey, h1, h2, hne, hk1, hk2, hnil, hz, q2⟩ => Calls.spliced_nil ?_)))
  subst ey
  obtain rfl : iv = Value.ref d2 := ry
  obtain ⟨g1, g2, ys, rel, dd⟩ := nd_dict I2 (.inl h1) hk1
  obtain ⟨f1, f2, zs, rel2, dd2⟩ := nd_dict I2 h2 hk2
  refine call_update_dictH (knd := momKind X.prog X.w) (show X.A.units + 1 + 8 < cLine by omega) hne f1 dd dd2 (.inl ?_) (by rw [← rel.len, ← rel2.len]; exact hz) fun h' dd' _ hs => ?_
  · intro z
    subst z
    cases rel
    exact hnil rfl
  · obtain ⟨ep', I'⟩ := nd_after (t' := s2.toks) I2 h1 g1 (Nat.le_trans (putAllX_len us xs) hz) (storedAll_rel rel rel2) dd' hs
    exact ⟨.non, _, I', rfl, q2 ep'⟩
end
end EC

set_option Elab.async false
set_option linter.all false
set_option maxRecDepth 100000
set_option maxHeartbeats 4000000
/-! EcN6: the frame: what an expression does not need to know stays. -/
namespace EC
open PySem PySem.Spec PyProof.Rows L2

/-- addresses forgotten -/
def cuts (M : List Addr) (H : Hp) : Hp := fun b => if b ∈ M then none else H b
theorem cuts_in {M : List Addr} {H : Hp} {b : Addr} (h : b ∈ M) : cuts M H b = none := by unfold cuts; rw [if_pos h]
theorem cuts_out {M : List Addr} {H : Hp} {b : Addr} (h : b ∉ M) : cuts M H b = H b := by unfold cuts; rw [if_neg h]
theorem cuts_nil {H : Hp} : cuts [] H = H := by funext b; unfold cuts; rw [if_neg (by simp)]
theorem cuts_same {M : List Addr} {H : Hp} : Same (cuts M H) H := fun b u e => by
  by_cases h : b ∈ M
  · rw [cuts_in h] at e; cases e
  · rw [cuts_out h] at e; exact e
theorem cuts_some {M : List Addr} {H : Hp} {b : Addr} {u : HO} (e : cuts M H b = some u) : b ∉ M ∧ H b = some u := by
  by_cases h : b ∈ M
  · rw [cuts_in h] at e; cases e
  · rw [cuts_out h] at e; exact ⟨h, e⟩
theorem cuts_mono {M : List Addr} {H H' : Hp} (s : Same H H') : Same (cuts M H) (cuts M H') := fun b u e => by
  obtain ⟨h, e⟩ := cuts_some e
  rw [cuts_out h]
  exact s b u e
theorem cuts_upd {M : List Addr} {H : Hp} {p : Addr} {o : HO} (h : p ∈ M) : cuts M (upd H p o) = cuts M H := by
  funext b
  by_cases hb : b ∈ M
  · rw [cuts_in hb, cuts_in hb]
  · rw [cuts_out hb, cuts_out hb, upd_ne (fun e => hb (by rw [e]; exact h))]
/-- a new thing joins what changes -/
theorem cuts_add {M : List Addr} {H : Hp} {p : Addr} {o : HO} (h : H p = none) : cuts (p :: M) (upd H p o) = cuts M H := by
  funext b
  by_cases hb : b ∈ p :: M
  · rw [cuts_in hb]
    by_cases hm : b ∈ M
    · rw [cuts_in hm]
    · rcases List.mem_cons.mp hb with e | e
      · subst e; rw [cuts_out hm]; exact h.symm
      · exact absurd e hm
  · have h1 : b ≠ p := fun e => hb (e ▸ List.mem_cons_self)
    have h2 : b ∉ M := fun e => hb (List.mem_cons_of_mem _ e)
    rw [cuts_out hb, cuts_out h2, upd_ne h1]
/-- what may be forgotten for a while -/
def Cutb (X : Cx) (p : Addr) (u : HO) : Prop := (∃ xs, u = .lst xs) ∨ (∃ xs ep, u = nD X.prog X.w p xs ep) ∨ ∃ kvs, u = .dK kvs
def Cutbs (X : Cx) (M : List Addr) (H : Hp) : Prop := ∀ p ∈ M, ∃ u, H p = some u ∧ Cutb X p u
section
variable {X : Cx} {pins : List (Addr × Obj)} {σ : L2.St} {H H' : Hp} {s s' : Shared} {M : List Addr} {p : Addr} {u : HO}
theorem Cutb.ntup {xs : List V} (c : Cutb X p u) : u ≠ .tup xs := by
  rintro rfl
  rcases c with ⟨_, e⟩ | ⟨_, _, e⟩ | ⟨_, e⟩ <;> cases e
theorem Cutb.nfrz {o : Obj} {v : HO} (c : Cutb X p u) : u ≠ .frz o v := by
  rintro rfl
  rcases c with ⟨_, e⟩ | ⟨_, _, e⟩ | ⟨_, e⟩ <;> cases e
theorem Cutb.ntbl {ps : Array Value} (c : Cutb X p u) : u ≠ .tbl ps := by
  rintro rfl
  rcases c with ⟨_, e⟩ | ⟨_, _, e⟩ | ⟨_, e⟩ <;> cases e
theorem Cutb.nown {x : Addr} (c : Cutb X p u) : u ≠ .own x := by
  rintro rfl
  rcases c with ⟨_, e⟩ | ⟨_, _, e⟩ | ⟨_, e⟩ <;> cases e
theorem Cutb.obj (c : Cutb X p u) {h : Heap} (x : ObjOk X.prog X.w H h p u) : ∃ o, h.get? p = some o ∧ (∀ v, o.data ≠ .cell v) ∧ ∀ (H2 : Hp) (h2 : Heap), h2.get? p = some o → ObjOk X.prog X.w H2 h2 p u := by
  rcases c with ⟨xs, rfl⟩ | ⟨xs, ep, rfl⟩ | ⟨kvs, rfl⟩
  · obtain ⟨z, its, n, r, e⟩ := x
    exact ⟨_, e, (fun v q => nomatch q), fun H2 h2 e2 => ⟨z, its, n, r, e2⟩⟩
  · obtain ⟨q, _, _⟩ := x
    obtain ⟨h1, h2, ys, r, ⟨o, es, h3, h4, h5, h6⟩, h7⟩ := id q
    exact ⟨o, h3, (fun v z => by rw [h5] at z; cases z), fun H2 g e2 => nD_ok (nDP_at q fun o' e' => by rw [h3] at e'; cases e'; exact e2)⟩
  · obtain ⟨z, y, vs, r, ob, es, ep, e, c1, c2, c3⟩ := x
    exact ⟨ob, e, (fun v q => by rw [c2] at q; cases q), fun H2 g e2 => ⟨z, y, vs, r, ob, es, ep, e2, c1, c2, c3⟩⟩
/-- what is forgotten, put back -/
def back (M : List Addr) (H H' : Hp) : Hp := fun b => if b ∈ M then H b else H' b
theorem back_in {b : Addr} (h : b ∈ M) : back M H H' b = H b := by unfold back; rw [if_pos h]
theorem back_out {b : Addr} (h : b ∉ M) : back M H H' b = H' b := by unfold back; rw [if_neg h]
theorem inv_hide (I : Inv X pins σ H s) (hm : Cutbs X M H) : Inv X (pins ++ pinsAt M s.heap) σ (cuts M H) s := by
  have nt : ∀ b u, (∀ q, ¬ Cutb X q u) → H b = some u → b ∉ M := fun b u hn e z => by
    obtain ⟨u', e', c⟩ := hm b z
    rw [e] at e'; cases e'
    exact hn b c
  have I1 : Inv X pins σ (cuts M H) s := by
    refine ⟨I.ok, I.os, I.bare, ⟨I.base.keep, I.base.slot, fun b o e n hx => ?_, I.base.there, fun b xs e => ?_, fun b o v e => ?_, fun b ps e => ?_⟩, I.loc, I.cell, ?_, fun x c e => ?_, fun q hq => ?_, fun b v e => ?_, I.len⟩
    · by_cases h : b ∈ M
      · exact cuts_in h
      · rw [cuts_out h]; exact I.base.free b o e n hx
    · have q := I.base.tups b xs e
      rw [cuts_out (nt b _ (fun _ c => c.ntup rfl) q)]; exact q
    · have q := I.base.frzs b o v e
      rw [cuts_out (nt b _ (fun _ c => c.nfrz rfl) q)]; exact q
    · obtain ⟨m, q⟩ := I.base.tbls b ps e
      exact ⟨m, by rw [cuts_out (nt b _ (fun _ c => c.ntbl rfl) q)]; exact q⟩
    · by_cases h : X.env.locals ∈ M
      · exact cuts_in h
      · rw [cuts_out h]; exact I.free
    · by_cases h : c ∈ M
      · exact cuts_in h
      · rw [cuts_out h]; exact I.freeC x c e
    · obtain ⟨h1, h2, h3⟩ := I.pin q hq
      refine ⟨h1, ?_, h3⟩
      by_cases h : q.1 ∈ M
      · exact cuts_in h
      · rw [cuts_out h]; exact h2
    · obtain ⟨hb, e⟩ := cuts_some e
      exact (I.hok b v e).stay (fun _ _ _ q => q) (fun c q => by rw [cuts_out (nt c _ (fun _ k => k.nown rfl) q)]; exact q) fun c xs q => by rw [cuts_out (nt c _ (fun _ k => k.ntup rfl) q)]; exact q
  refine I1.pins_of fun q hq => ?_
  rcases List.mem_append.mp hq with hq | hq
  · exact I1.pin q (List.mem_append_right _ hq)
  · obtain ⟨hM, hg⟩ := of_pinsAt hq
    obtain ⟨u, hu, c⟩ := hm q.1 hM
    obtain ⟨o, ho, hd, _⟩ := c.obj (I.hok q.1 u hu)
    have e : q.2 = o := Option.some.inj (hg.symm.trans ho)
    refine ⟨hg, cuts_in hM, fun z => ?_, fun z => ?_, by rw [e]; exact hd⟩
    · rw [z, I.free] at hu; cases hu
    · obtain ⟨_, o', ho', _⟩ := I.ok.funs.mem z
      have := I.base.free q.1 o' ho' (I.ok.frf q.1 z) fun y => I.ok.exfs q.1 y z
      rw [this] at hu; cases hu
theorem inv_show (I : Inv X pins σ H s) (hm : Cutbs X M H) {σ' : L2.St} (J : Inv X (pins ++ pinsAt M s.heap) σ' H' s') : Inv X pins σ' (back M H H') s' ∧ ∀ p ∈ M, H' p = none := by
  have hp : ∀ p ∈ M, ∀ o, s.heap.get? p = some o → s'.heap.get? p = some o ∧ H' p = none := fun p hp o e =>
    let z := J.pin (p, o) (List.mem_append_right _ (List.mem_append_right _ (mem_pinsAt hp e)))
    ⟨z.1, z.2.1⟩
  have hn : ∀ p ∈ M, H' p = none := fun p hpM => by
    obtain ⟨u, hu, c⟩ := hm p hpM
    obtain ⟨o, ho, _⟩ := c.obj (I.hok p u hu)
    exact (hp p hpM o ho).2
  have out : ∀ b u, H' b = some u → b ∉ M := fun b u e z => by rw [hn b z] at e; cases e
  refine ⟨⟨J.ok, J.os, J.bare, ⟨J.base.keep, J.base.slot, fun b o e n hx => ?_, J.base.there, fun b xs e => ?_, fun b o v e => ?_, fun b ps e => ?_⟩, J.loc, J.cell, ?_, fun x c e => ?_, fun q hq => ?_, fun b v e => ?_, J.len⟩, hn⟩
  · by_cases h : b ∈ M
    · rw [back_in h]; exact I.base.free b o e n hx
    · rw [back_out h]; exact J.base.free b o e n hx
  · have q := J.base.tups b xs e
    rw [back_out (out b _ q)]; exact q
  · have q := J.base.frzs b o v e
    rw [back_out (out b _ q)]; exact q
  · obtain ⟨m, q⟩ := J.base.tbls b ps e
    exact ⟨m, by rw [back_out (out b _ q)]; exact q⟩
  · by_cases h : X.env.locals ∈ M
    · rw [back_in h]; exact I.free
    · rw [back_out h]; exact J.free
  · by_cases h : c ∈ M
    · rw [back_in h]; exact I.freeC x c e
    · rw [back_out h]; exact J.freeC x c e
  · have hq' : q ∈ X.pn ++ (pins ++ pinsAt M s.heap) := by
      rcases List.mem_append.mp hq with z | z
      · exact List.mem_append_left _ z
      · exact List.mem_append_right _ (List.mem_append_left _ z)
    obtain ⟨h1, h2, h3⟩ := J.pin q hq'
    refine ⟨h1, ?_, h3⟩
    by_cases h : q.1 ∈ M
    · rw [back_in h]; exact (I.pin q hq).2.1
    · rw [back_out h]; exact h2
  · by_cases h : b ∈ M
    · rw [back_in h] at e
      obtain ⟨u, hu, c⟩ := hm b h
      have e' : u = v := Option.some.inj (hu.symm.trans e)
      subst e'
      obtain ⟨o, ho, _, k⟩ := c.obj (I.hok b u hu)
      exact k _ _ (hp b h o ho).1
    · rw [back_out h] at e
      exact (J.hok b v e).stay (fun _ _ _ q => q) (fun c q => by rw [back_out (out c _ q)]; exact q) fun c xs q => by rw [back_out (out c _ q)]; exact q
theorem cuts_back (h : ∀ p ∈ M, H' p = none) : cuts M (back M H H') = H' := by
  funext b
  by_cases hb : b ∈ M
  · rw [cuts_in hb, h b hb]
  · rw [cuts_out hb, back_out hb]
/-- the frame rule -/
theorem wE_frame {e : Expr} {Q Q' : VK} (M : List Addr) (hm : Cutbs X M H) (h : wE X e σ (cuts M H) Q') (k : ∀ v H1, (∀ p ∈ M, H1 p = H p) → Q' v (cuts M H1) → Q v H1) : wE X e σ H Q := fun pins s I =>
  thn (h _ s (inv_hide I hm)) fun v s' ⟨x, H', J, r, q⟩ => by
    obtain ⟨J', hn⟩ := inv_show I hm J
    refine ⟨x, _, J', r, k _ _ (fun p hp => back_in hp) ?_⟩
    rw [cuts_back hn]
    exact q
theorem wT_frame {e : Expr} {Q Q' : Bool → Hp → Prop} (M : List Addr) (hm : Cutbs X M H) (h : wT X e σ (cuts M H) Q') (k : ∀ v H1, (∀ p ∈ M, H1 p = H p) → Q' v (cuts M H1) → Q v H1) : wT X e σ H Q := fun pins s I =>
  thn (h _ s (inv_hide I hm)) fun v s' ⟨H', J, q⟩ => by
    obtain ⟨J', hn⟩ := inv_show I hm J
    refine ⟨_, J', k _ _ (fun p hp => back_in hp) ?_⟩
    rw [cuts_back hn]
    exact q
theorem wA_frame {es : List Expr} {Q Q' : List V → Hp → Prop} (M : List Addr) (hm : Cutbs X M H) (h : wA X es σ (cuts M H) Q') (k : ∀ v H1, (∀ p ∈ M, H1 p = H p) → Q' v (cuts M H1) → Q v H1) : wA X es σ H Q := fun pos pins s I =>
  thn (h pos _ s (inv_hide I hm)) fun v s' ⟨x, H', J, r, q⟩ => by
    obtain ⟨J', hn⟩ := inv_show I hm J
    refine ⟨x, _, J', r, k _ _ (fun p hp => back_in hp) ?_⟩
    rw [cuts_back hn]
    exact q
/-- what changes stays, what was known stays -/
theorem same_of_frame {H1 : Hp} (h1 : ∀ p ∈ M, H1 p = H p) (h2 : Same (cuts M H) (cuts M H1)) : Same H H1 := fun b u e => by
  by_cases h : b ∈ M
  · rw [h1 b h]; exact e
  · have z := h2 b u (by rw [cuts_out h]; exact e)
    exact (cuts_some z).2
variable {Γ : List (Option Ty)} {e : Expr} {τ : Ty}
/-- a pure expression beside what changes -/
theorem EV.useM {Q : VK} (M : List Addr) (h : EV X Γ e τ) (hm : Cutbs X M H) (g : Env Γ σ (cuts M H)) (k : ∀ v H1, (∀ p ∈ M, H1 p = H p) → Same (cuts M H) (cuts M H1) → Env Γ σ (cuts M H1) → τ.p (cuts M H1) v → Q v H1) : wE X e σ H Q :=
  wE_frame M hm (h.run σ _ g) fun v H1 h1 q => k v H1 h1 q.1 (g.up q.1) q.2
theorem ET.useM {Q : Bool → Hp → Prop} {b : Bool} (M : List Addr) (h : ET X Γ e b) (hm : Cutbs X M H) (g : Env Γ σ (cuts M H)) (k : ∀ H1, (∀ p ∈ M, H1 p = H p) → Same (cuts M H) (cuts M H1) → Env Γ σ (cuts M H1) → Q b H1) : wT X e σ H Q :=
  wT_frame M hm (h.run σ _ g) fun v H1 h1 q => by
    obtain ⟨s, rfl⟩ := q
    exact k H1 h1 s (g.up s)
theorem Cutbs.of {H1 : Hp} (hm : Cutbs X M H) (h : ∀ p ∈ M, H1 p = H p) : Cutbs X M H1 := fun p hp => by
  rw [h p hp]; exact hm p hp
end
end EC

set_option Elab.async false
set_option linter.all false
set_option maxRecDepth 100000
set_option maxHeartbeats 4000000
/-! EcN7: comprehensions whose results change later; dict comprehensions over moments. -/
namespace EC
open PySem PySem.Spec PyProof.Rows L2

section
variable {X : Cx} {Γ : List (Option Ty)} {tg iter elt kx vx : Expr} {ifs : List Expr} {scope : Scope} {pos p : Pos} {x : Str}
/-- a list comprehension as a list that may change -/
theorem wE_lc {n : Nat} {Γi : Nat → List (Option Ty)} {b : Nat → Bool} {f : Nat → PyData} {σ : L2.St} {H : Hp} {Q : VK} (own : List (Str × Nat)) (hc : X.calm = true) (hN : X.N.Nodup) (ok : BlkOk X.N X.env.scope scope own) (src : Src X Γ tg iter scope (own.map (·.2)) n Γi)
    (ht : ∀ s H C cl fp i, i < n → ETs (bx X scope s H C cl fp) (Γi i) ifs (b i))
    (he : ∀ s H C cl fp i, i < n → b i = true → EV (bx X scope s H C cl fp) (Γi i) elt (isD X.K (f i)))
    (hlf : ∀ i, i < n → b i = true → lf (f i) = true) (hn : n ≤ 100000) (g : Env Γ σ H) (hQ : ∀ D acc H', Same H H' → H D = none → H' D = some (.lst acc) → DpAll X.K H' acc (lcD n b f) → Q (.ref D) H') (hs : ∀ x, foldedSetIterable iter X.env x = pure x := by intro _; rfl) :
    wE X (.ListComp elt [⟨tg, iter, ifs, 0⟩] scope pos) σ H Q := by
  obtain ⟨wi, gg, hi, hg, run⟩ := lc_run own src ht he hlf hn
  exact wE_of (pe_lc hc hN hi ok hg (fun s H C cl fp => ⟨fun pins s' σ' H' Q I h => h s H C cl fp pins s' I⟩) (fun s H C cl fp => ⟨fun pins s' σ' H' Q I h => h s H C cl fp pins s' I⟩) hs) (run σ H g Q hQ)
theorem wS_setLc {D : Ends} {y : Str} {py spos : Pos} {n : Nat} {Γi : Nat → List (Option Ty)} {b : Nat → Bool} {f : Nat → PyData} {σ : L2.St} {H : Hp} (j : Nat) (own : List (Str × Nat)) (hc : X.calm = true) (hN : X.N.Nodup) (ok : BlkOk X.N X.env.scope scope own) (src : Src X Γ tg iter scope (own.map (·.2)) n Γi)
    (ht : ∀ s H C cl fp i, i < n → ETs (bx X scope s H C cl fp) (Γi i) ifs (b i))
    (he : ∀ s H C cl fp i, i < n → b i = true → EV (bx X scope s H C cl fp) (Γi i) elt (isD X.K (f i)))
    (hlf : ∀ i, i < n → b i = true → lf (f i) = true) (hn : n ≤ 100000) (g : Env Γ σ H) (hQ : ∀ L acc H', Same H H' → H L = none → H' L = some (.lst acc) → DpAll X.K H' acc (lcD n b f) → D.nx (σ.set j (some (.ref L))) H') (hy : X.N[j]? = some y := by rfl) (hyl : X.env.scope.names.lookup y = some .local := by rfl)
    (hsw : swapsWith (.ListComp elt [⟨tg, iter, ifs, 0⟩] scope pos) (some (.Name y py)) spos.line X.env = pure true := by exact sw_true rfl rfl rfl (by decide +kernel)) (hs : ∀ x, foldedSetIterable iter X.env x = pure x := by intro _; rfl) :
    wS X (.Assign [.Name y py] (.ListComp elt [⟨tg, iter, ifs, 0⟩] scope pos) spos) D σ H := by
  obtain ⟨wi, gg, hi, hg, run⟩ := lc_run own src ht he hlf hn
  exact wS_of (ps_setLc hc hN hy hyl hsw hi ok hg (fun s H C cl fp => ⟨fun pins s' σ' H' Q I h => h s H C cl fp pins s' I⟩) (fun s H C cl fp => ⟨fun pins s' σ' H' Q I h => h s H C cl fp pins s' I⟩) hs) (run σ H g _ hQ)
/-- items that are pairs, unpacked -/
theorem src_lst2 {x y : Str} {px py tp : Pos} {kk : Nat} {ds es : List PyData} (i j : Nat) (hl : ds.length = es.length) (h : EV X Γ iter (isD X.K (.list ((ds.zip es).map fun z => .tuple [z.1, z.2]))))
    (hg : ∀ s H C cl fp, PG (bx X scope s H C cl fp) (.Tuple [.Name x px, .Name y py] kk tp) (gTup X.K 2 (gCons (gName i) (gCons (gName j) gNil)))) :
    Src X Γ (.Tuple [.Name x px, .Name y py] kk tp) iter scope [i, j] ds.length fun k => Γ2 Γ i j (isD X.K (ds.getD k .none)) (isD X.K (es.getD k .none)) := by
  refine ⟨_, _, pi_list pe_w, hg, fun σ H g R q => h.use g fun v H1 s1 r1 => ?_⟩
  obtain ⟨a, xs, rfl, hq, hx⟩ := dp_lst r1
  have hn : ds.length = xs.length := by rw [dpAll_len hx, List.length_map, List.length_zip, hl, Nat.min_self]
  refine ⟨a, rfl, ⟨xs, hq⟩, q _ H1 _ _ s1 (by rw [hn]; exact walk_list) (fun H' s' => sqL_up s' hq) ?_⟩
  rintro k x Ha Hb hk s2 ⟨rfl, hx2⟩
  refine ⟨fun _ _ h => h, fun Q hQ => ?_⟩
  obtain ⟨d, hd, dd⟩ := dpAll_getV hx hx2
  have hk2 : k < es.length := by omega
  have e : d = .tuple [ds.getD k .none, es.getD k .none] := by
    rw [List.getElem?_map] at hd
    have ez : (ds.zip es)[k]? = some (ds[k], es[k]) := by
      rw [List.getElem?_zip_eq_some]
      exact ⟨List.getElem?_eq_getElem hk, List.getElem?_eq_getElem hk2⟩
    rw [ez] at hd
    have hd' := Option.some.inj hd
    rw [← hd', List.getD_eq_getElem?_getD, List.getD_eq_getElem?_getD, List.getElem?_eq_getElem hk, List.getElem?_eq_getElem hk2]
    rfl
  subst e
  obtain ⟨T, zs, rfl, hT, hz⟩ := dp_tup dd
  cases hz with
  | cons h1 hz =>
    cases hz with
    | cons h2 hz =>
      cases hz
      refine ⟨T, _, rfl, sqT_up s2 hT, rfl, _, _, rfl, _, _, rfl, rfl, hQ _ ?_ (wipe_set2 σ i j _ _)⟩
      exact ((((g.up s1).up s2).wipe [i, j]).set i (dp_up s2 _ _ h1)).set j (dp_up s2 _ _ h2)

/-! ### dict comprehensions over moments -/
structure MSrc (X : Cx) (Γ : List (Option Ty)) (tg iter : Expr) (ms : List Mom) : Prop where
  ex : ∃ wi : TI, PI X tg iter wi ∧ ∀ σ H, Env Γ σ H → ∀ R : It → Hp → Prop, (∀ (J : It) (H1 : Hp) (G : Hp → Prop), Same H H1 → Walk J ms.length G (fun i Ha v Hb => Hb = Ha ∧ ∃ m, ms[i]? = some m ∧ Dp X.K H1 v (Mom.d m)) → (∀ H', Same H1 H' → G H') → R J H1) → wi σ H R
theorem msrc_lst {ms : List Mom} (h : EV X Γ iter (isD X.K (.list (ms.map Mom.d)))) : MSrc X Γ tg iter ms := by
  refine ⟨_, pi_list pe_w, fun σ H g R q => h.use g fun v H1 s1 r1 => ?_⟩
  obtain ⟨a, xs, rfl, hq, hx⟩ := dp_lst r1
  have hl : ms.length = xs.length := by rw [dpAll_len hx, List.length_map]
  refine ⟨a, rfl, ⟨xs, hq⟩, q _ H1 (fun H => SqL X.K H a xs) s1 ?_ fun H' s' => sqL_up s' hq⟩
  rw [hl]
  refine walk_list.mono (fun _ h => h) fun i Ha v Hb hi hG y => ?_
  obtain ⟨e, y⟩ := y
  obtain ⟨d, hd, dd⟩ := dpAll_getV hx y
  rw [List.getElem?_map] at hd
  cases z : ms[i]? with
  | none => rw [z] at hd; cases hd
  | some m =>
    rw [z] at hd
    have e2 : m.d = d := Option.some.inj hd
    exact ⟨e, m, rfl, e2 ▸ dd⟩
theorem msrc_n {l : List (Mom × Ty)} (h : EV X Γ iter (isNX X l)) : MSrc X Γ tg iter (l.map (·.1)) := by
  refine ⟨_, pi_n pe_w, fun σ H g R q => h.use g fun v H1 s1 r1 => ?_⟩
  obtain ⟨a, xs, ep, rfl, hr, hk, hv⟩ := r1
  refine ⟨a, xs, ep, rfl, hr, q _ H1 (fun H => Rd H a (nD X.prog X.w a xs ep)) s1 ?_ fun H' s' => rd_up s' hr⟩
  rw [List.length_map, ← hv.len]
  refine walk_n.mono (fun _ h => h) fun i Ha v Hb hi hG y => ?_
  obtain ⟨e, z, hz, rfl⟩ := y
  refine ⟨e, z.1, ?_, hk z (List.mem_of_getElem? hz)⟩
  rw [← hv.keys, List.getElem?_map, hz]
  rfl
/-- the reading of a test that is not there -/
abbrev tYes : TT := fun σ H Q => Q true H
theorem dcN_run {ms : List Mom} {f : Mom → Ty} (j : Nat) (own : List (Str × Nat)) (ho : own.map (·.2) = [j]) (src : MSrc X Γ (.Name x p) iter ms)
    (hk : ∀ s H C cl fp m, m ∈ ms → EV (bx X scope s H C cl fp) ((wipeG Γ [j]).set j (some (isD X.K (Mom.d m)))) kx (isD X.K (Mom.d m)))
    (hv : ∀ s H C cl fp m, m ∈ ms → EV (bx X scope s H C cl fp) ((wipeG Γ [j]).set j (some (isD X.K (Mom.d m)))) vx (f m))
    (hnd : ms.Nodup) (hn : ms.length ≤ 100000) : ∃ wi : TI, PI X (.Name x p) iter wi ∧ ∀ σ H, Env Γ σ H → ∀ Q : VK,
    (∀ D xs ep H', Same H (cuts [D] H') → H D = none → H' D = some (nD X.prog X.w D xs ep) → NKeys X.K (cuts [D] H') xs → NVals (cuts [D] H') xs (ms.map fun m => (m, f m)) → Q (.ref D) H') →
    tDcN X wi (gName j) tYes (fun σ' H' Q => ∀ s H C cl fp, wE (bx X scope s H C cl fp) kx σ' H' Q) (fun σ' H' Q => ∀ s H C cl fp, wE (bx X scope s H C cl fp) vx σ' H' Q) (own.map (·.2)) σ H Q := by
  obtain ⟨wi, hi, run⟩ := src.ex
  refine ⟨wi, hi, fun σ H g Q hQ => run σ H g _ fun J H1 G s1 wk hG => ?_⟩
  intro D hD
  rw [ho]
  have hD0 : H D = none := s1.free hD
  let Pv : Nat → Hp → Prop := fun i H' => Same H1 (cuts [D] H') ∧ ∃ xs ep, H' D = some (nD X.prog X.w D xs ep) ∧ NKeys X.K (cuts [D] H') xs ∧ NVals (cuts [D] H') xs ((ms.take i).map fun m => (m, f m))
  have c0 : ∀ (o : HO), cuts [D] (upd H1 D o) = H1 := fun o => by rw [cuts_add (M := []) hD, cuts_nil]
  have P0 : Pv 0 (upd H1 D (nD X.prog X.w D [] 0)) := by
    refine ⟨by rw [c0]; exact Same.refl _, [], 0, upd_same, (fun x hx => by cases hx), .nil⟩
  have Pend : ∀ H', Pv ms.length H' → Q (.ref D) H' := by
    rintro H' ⟨h1, xs, ep, h2, h3, h4⟩
    rw [List.take_length] at h4
    exact hQ D xs ep H' (s1.trans h1) hD0 h2 h3 h4
  have PG_ : ∀ i H', Pv i H' → G H' := fun i H' h => hG H' (h.1.trans cuts_same)
  have step : ∀ i v Ha m, ms[i]? = some m → Dp X.K H1 v (Mom.d m) → Pv i Ha → ∀ s H C cl fp, wE (bx X scope s H C cl fp) kx ((wipe σ [j]).set j (some v)) Ha fun y H4 => ∀ s H C cl fp, wE (bx X scope s H C cl fp) vx ((wipe σ [j]).set j (some v)) H4 fun z H5 =>
      ∃ xs ep mo a, y = .ref a ∧ H5 D = some (nD X.prog X.w D xs ep) ∧ NKeys X.K H5 xs ∧ Dp X.K H5 (.ref a) (Mom.d mo) ∧ xs.length < sizeLine ∧ ∀ ep', Pv (i + 1) (upd H5 D (nD X.prog X.w D (putX xs mo a z) ep')) := by
    rintro i v Ha m hm hd ⟨sa, xs, ep, hDa, hka, hva⟩ s H C cl fp
    have hmem : m ∈ ms := List.mem_of_getElem? hm
    have hi' := (List.getElem?_eq_some_iff.mp hm).1
    have gE : Env ((wipeG Γ [j]).set j (some (isD X.K (Mom.d m)))) ((wipe σ [j]).set j (some v)) (cuts [D] Ha) :=
      (((g.up s1).up sa).wipe [j]).set j (show (isD X.K (Mom.d m)).p _ v from dp_up sa _ _ hd)
    have hcut : ∀ (s : Shared) (H : Hp) (C : Addr) (cl : List (Str × Addr)) (fp : List Addr) {H' : Hp}, H' D = some (nD X.prog X.w D xs ep) → Cutbs (bx X scope s H C cl fp) [D] H' := fun s H C cl fp H' e q hq => by
      cases List.mem_singleton.mp hq
      exact ⟨_, e, .inr (.inl ⟨xs, ep, rfl⟩)⟩
    refine EV.useM [D] (hk s H C cl fp m hmem) (hcut s H C cl fp hDa) gE fun y H4 h4 s4 g4 q4 => ?_
    intro s H C cl fp
    have hD4 : H4 D = some (nD X.prog X.w D xs ep) := (h4 D (by simp)).trans hDa
    refine EV.useM [D] (hv s H C cl fp m hmem) (hcut s H C cl fp hD4) g4 fun z H5 h5 s5 g5 q5 => ?_
    have hD5 : H5 D = some (nD X.prog X.w D xs ep) := (h5 D (by simp)).trans hD4
    have q4' : Dp X.K (cuts [D] H5) y (Mom.d m) := dp_up s5 _ _ q4
    obtain ⟨a, rfl⟩ := mom_ref q4'
    have hlen : xs.length = i := by
      rw [hva.len, List.length_map, List.length_take]
      omega
    have k5 : NKeys X.K (cuts [D] H5) xs := nkeys_up (s4.trans s5) hka
    have v5 : NVals (cuts [D] H5) xs ((ms.take i).map fun m => (m, f m)) := nvals_up (s4.trans s5) hva
    refine ⟨xs, ep, m, a, rfl, hD5, nkeys_up cuts_same k5, dp_up cuts_same _ _ q4', by rw [sizeLine_eq]; omega, fun ep' => ?_⟩
    have ec : cuts [D] (upd H5 D (nD X.prog X.w D (putX xs m a z) ep')) = cuts [D] H5 := cuts_upd (by simp)
    refine ⟨by rw [ec]; exact sa.trans (s4.trans s5), putX xs m a z, ep', upd_same, by rw [ec]; exact k5.put q4', ?_⟩
    rw [ec]
    have hnew : m ∉ ((ms.take i).map fun m => (m, f m)).map (·.1) := by
      rw [List.map_map]
      intro hz
      obtain ⟨m', hm', e⟩ := List.mem_map.mp hz
      have e' : m' = m := e
      subst e'
      obtain ⟨k, hk', ek⟩ := List.getElem_of_mem hm'
      have hki : k < i := by
        rw [List.length_take] at hk'
        omega
      rw [List.getElem_take] at ek
      have hkl : ms[k]? = some m' := by
        rw [List.getElem?_eq_getElem (by omega)]
        exact congrArg some ek
      have := (List.getElem?_inj hi' hnd).mp (hm.trans hkl.symm)
      omega
    have e : (ms.take (i + 1)).map (fun m => (m, f m)) = EC.put ((ms.take i).map fun m => (m, f m)) m (f m) := by
      rw [put_new hnew, List.take_succ, hm, List.map_append]
      rfl
    rw [e]
    exact NVals.put_ v5 q5
  refine ⟨fun i k H' => k = ms.length - i ∧ i ≤ ms.length ∧ Pv i H', ⟨_, rfl, Nat.zero_le _, P0⟩, ?_⟩
  rintro i k H' ⟨rfl, hi', hP⟩
  by_cases hlt : i < ms.length
  · refine .inr ⟨wk.goes i H' hlt (PG_ i H' hP), Pv (i + 1), fun H2 h2 => ⟨ms.length - (i + 1), by omega, rfl, hlt, h2⟩, fun v Hb y => ?_⟩
    obtain ⟨rfl, m, hm, hd⟩ := wk.yields i H' v Hb hlt (PG_ i H' hP) y
    refine ⟨wipe_set1 σ j v, ?_⟩
    refine iteT (B := Pv (i + 1) Hb) ?_
    exact step i v _ m hm hd hP
  · have e : i = ms.length := by omega
    subst e
    exact .inl ⟨wk.stops H' (PG_ _ H' hP), Pend H' hP⟩
theorem wE_dcN {ms : List Mom} {f : Mom → Ty} {σ : L2.St} {H : Hp} {Q : VK} (hu : X.A.units + 8 < cLine) (j : Nat) (own : List (Str × Nat)) (ho : own.map (·.2) = [j]) (hc : X.calm = true) (hN : X.N.Nodup) (ok : BlkOk X.N X.env.scope scope own) (src : MSrc X Γ (.Name x p) iter ms)
    (hg : ∀ s H C cl fp, PG (bx X scope s H C cl fp) (.Name x p) (gName j))
    (hk : ∀ s H C cl fp m, m ∈ ms → EV (bx X scope s H C cl fp) ((wipeG Γ [j]).set j (some (isD X.K (Mom.d m)))) kx (isD X.K (Mom.d m)))
    (hv : ∀ s H C cl fp m, m ∈ ms → EV (bx X scope s H C cl fp) ((wipeG Γ [j]).set j (some (isD X.K (Mom.d m)))) vx (f m))
    (hnd : ms.Nodup) (hn : ms.length ≤ 100000) (g : Env Γ σ H)
    (hQ : ∀ D xs ep H', Same H (cuts [D] H') → H D = none → H' D = some (nD X.prog X.w D xs ep) → NKeys X.K (cuts [D] H') xs → NVals (cuts [D] H') xs (ms.map fun m => (m, f m)) → Q (.ref D) H') (hs : ∀ x, foldedSetIterable iter X.env x = pure x := by intro _; rfl) :
    wE X (.DictComp kx vx [⟨.Name x p, iter, [], 0⟩] scope pos) σ H Q := by
  obtain ⟨wi, hi, run⟩ := dcN_run (kx := kx) (vx := vx) (scope := scope) j own ho src hk hv hnd hn
  exact wE_of (pe_dcN hu hc hN hi ok hg (fun _ _ _ _ _ => pts_nil) (fun s H C cl fp => ⟨fun pins s' σ' H' Q I h => h s H C cl fp pins s' I⟩) (fun s H C cl fp => ⟨fun pins s' σ' H' Q I h => h s H C cl fp pins s' I⟩) hs) (run σ H g Q hQ)
/-- y = {m: v for m in ..} on one line -/
theorem wS_setDcN {D : Ends} {y : Str} {py spos : Pos} {ms : List Mom} {f : Mom → Ty} {σ : L2.St} {H : Hp} (jj : Nat) (hu : X.A.units + 8 < cLine) (j : Nat) (own : List (Str × Nat)) (ho : own.map (·.2) = [j]) (hc : X.calm = true) (hN : X.N.Nodup) (ok : BlkOk X.N X.env.scope scope own) (src : MSrc X Γ (.Name x p) iter ms)
    (hg : ∀ s H C cl fp, PG (bx X scope s H C cl fp) (.Name x p) (gName j))
    (hk : ∀ s H C cl fp m, m ∈ ms → EV (bx X scope s H C cl fp) ((wipeG Γ [j]).set j (some (isD X.K (Mom.d m)))) kx (isD X.K (Mom.d m)))
    (hv : ∀ s H C cl fp m, m ∈ ms → EV (bx X scope s H C cl fp) ((wipeG Γ [j]).set j (some (isD X.K (Mom.d m)))) vx (f m))
    (hnd : ms.Nodup) (hn : ms.length ≤ 100000) (g : Env Γ σ H)
    (hQ : ∀ d xs ep H', Same H (cuts [d] H') → H d = none → H' d = some (nD X.prog X.w d xs ep) → NKeys X.K (cuts [d] H') xs → NVals (cuts [d] H') xs (ms.map fun m => (m, f m)) → D.nx (σ.set jj (some (.ref d))) H')
    (hy : X.N[jj]? = some y := by rfl) (hyl : X.env.scope.names.lookup y = some .local := by rfl)
    (hsw : swapsWith (.DictComp kx vx [⟨.Name x p, iter, [], 0⟩] scope pos) (some (.Name y py)) spos.line X.env = pure true := by exact sw_dict rfl rfl rfl (by decide +kernel)) (hs : ∀ x, foldedSetIterable iter X.env x = pure x := by intro _; rfl) :
    wS X (.Assign [.Name y py] (.DictComp kx vx [⟨.Name x p, iter, [], 0⟩] scope pos) spos) D σ H := by
  obtain ⟨wi, hi, run⟩ := dcN_run (kx := kx) (vx := vx) (scope := scope) j own ho src hk hv hnd hn
  exact wS_of (ps_setDcN hu hc hN hy hyl hsw hi ok hg (fun _ _ _ _ _ => pts_nil) (fun s H C cl fp => ⟨fun pins s' σ' H' Q I h => h s H C cl fp pins s' I⟩) (fun s H C cl fp => ⟨fun pins s' σ' H' Q I h => h s H C cl fp pins s' I⟩) hs) (run σ H g _ hQ)
/-- .. as a value that stays -/
theorem ev_dcN {ms : List Mom} {f : Mom → Ty} (hu : X.A.units + 8 < cLine) (j : Nat) (own : List (Str × Nat)) (ho : own.map (·.2) = [j]) (hc : X.calm = true) (hN : X.N.Nodup) (ok : BlkOk X.N X.env.scope scope own) (src : MSrc X Γ (.Name x p) iter ms)
    (hg : ∀ s H C cl fp, PG (bx X scope s H C cl fp) (.Name x p) (gName j))
    (hk : ∀ s H C cl fp m, m ∈ ms → EV (bx X scope s H C cl fp) ((wipeG Γ [j]).set j (some (isD X.K (Mom.d m)))) kx (isD X.K (Mom.d m)))
    (hv : ∀ s H C cl fp m, m ∈ ms → EV (bx X scope s H C cl fp) ((wipeG Γ [j]).set j (some (isD X.K (Mom.d m)))) vx (f m))
    (hnd : ms.Nodup) (hn : ms.length ≤ 100000) (hs : ∀ x, foldedSetIterable iter X.env x = pure x := by intro _; rfl) :
    EV X Γ (.DictComp kx vx [⟨.Name x p, iter, [], 0⟩] scope pos) (isNX X (ms.map fun m => (m, f m))) :=
  ⟨fun σ H g => wE_dcN hu j own ho hc hN ok src hg hk hv hnd hn g (fun D xs ep H' s hD h1 h2 h3 => ⟨s.trans cuts_same, D, xs, ep, rfl, .inl h1, nkeys_up cuts_same h2, nvals_up cuts_same h3⟩) hs⟩
end
end EC

set_option Elab.async false
set_option linter.all false
set_option maxRecDepth 100000
/-! EcG: walks with costs; the most that can be spent; plain. -/
namespace EC

section
variable {α : Type} [DecidableEq α]
inductive Rch (nx : α → List α) : α → α → Prop
  | refl (a : α) : Rch nx a a
  | snoc {a b c : α} : Rch nx a b → c ∈ nx b → Rch nx a c
variable {nx : α → List α} {cost : α → Nat} {w a b m v : α}
theorem Rch.trans (h : Rch nx a b) (k : Rch nx b m) : Rch nx a m := by
  induction k with
  | refl => exact h
  | snoc _ e ih => exact .snoc ih e
theorem Rch.head (e : b ∈ nx a) (k : Rch nx b m) : Rch nx a m := Rch.trans (.snoc (.refl a) e) k
theorem Rch.cases_head (h : Rch nx a m) : a = m ∨ ∃ c, c ∈ nx a ∧ Rch nx c m := by
  induction h with
  | refl => exact .inl rfl
  | snoc h e ih =>
    rcases ih with rfl | ⟨c, h1, h2⟩
    · exact .inr ⟨_, e, .refl _⟩
    · exact .inr ⟨c, h1, .snoc h2 e⟩
def Plus (nx : α → List α) (a b : α) : Prop := ∃ c, c ∈ nx a ∧ Rch nx c b
theorem plus_of (h : Rch nx b a) (e : b ∈ nx a) : Plus nx b b := by
  rcases h.cases_head with rfl | ⟨c, h1, h2⟩
  · exact ⟨_, e, .refl _⟩
  · exact ⟨c, h1, .snoc h2 e⟩
theorem Plus.rch (h : Plus nx a b) : Rch nx a b := let ⟨_, e, k⟩ := h; .head e k
inductive Wk (nx : α → List α) (cost : α → Nat) (w : α) : Nat → Nat → α → Prop
  | nil : Wk nx cost w 0 0 w
  | snoc {c k : Nat} {a b : α} : Wk nx cost w c k a → b ∈ nx a → Wk nx cost w (c + cost a) (k + 1) b
theorem Wk.rch {c k : Nat} (h : Wk nx cost w c k m) : Rch nx w m := by
  induction h with
  | nil => exact .refl _
  | snoc _ e ih => exact .snoc ih e
theorem Wk.app {c k : Nat} (h : Wk nx cost w c k a) (r : Rch nx a b) : ∃ c' k', c ≤ c' ∧ k ≤ k' ∧ Wk nx cost w c' k' b := by
  induction r with
  | refl => exact ⟨c, k, Nat.le_refl _, Nat.le_refl _, h⟩
  | snoc _ e ih =>
    obtain ⟨c', k', h1, h2, h3⟩ := ih
    exact ⟨_, _, by omega, by omega, .snoc h3 e⟩
theorem Rch.wk (r : Rch nx w m) : ∃ c k, Wk nx cost w c k m := let ⟨c, k, _, _, h⟩ := Wk.app .nil r; ⟨c, k, h⟩
/-- on or behind a round -/
def Endl (nx : α → List α) (w m : α) : Prop := ∃ v, Rch nx w v ∧ Plus nx v v ∧ Rch nx v m
theorem Endl.step (h : Endl nx w a) (e : b ∈ nx a) : Endl nx w b := let ⟨v, h1, h2, h3⟩ := h; ⟨v, h1, h2, .snoc h3 e⟩
theorem Endl.rch (h : Endl nx w a) : Rch nx w a := let ⟨_, h1, _, h3⟩ := h; h1.trans h3
theorem nodup_le : ∀ {vs L : List α}, vs.Nodup → (∀ x ∈ vs, x ∈ L) → vs.length ≤ L.length
  | [], _, _, _ => Nat.zero_le _
  | x :: vs, L, hn, hs => by
    rw [List.nodup_cons] at hn
    have hx : x ∈ L := hs x List.mem_cons_self
    have h := nodup_le (vs := vs) (L := L.erase x) hn.2 fun y hy => (List.mem_erase_of_ne (fun e => hn.1 (by rw [← e]; exact hy))).mpr (hs y (List.mem_cons_of_mem _ hy))
    rw [List.length_erase_of_mem hx] at h
    have : 0 < L.length := List.length_pos_of_mem hx
    rw [List.length_cons]
    omega
theorem Wk.verts {c k : Nat} (h : Wk nx cost w c k m) : ¬ Endl nx w m → ∃ vs : List α, vs.length = k + 1 ∧ vs.Nodup ∧ ∀ v ∈ vs, Rch nx w v ∧ Rch nx v m := by
  induction h with
  | nil => exact fun _ => ⟨[w], rfl, by simp, fun v hv => by cases List.mem_singleton.mp hv; exact ⟨.refl _, .refl _⟩⟩
  | @snoc c k a b h e ih =>
    intro hn
    obtain ⟨vs, h1, h2, h3⟩ := ih fun z => hn (z.step e)
    refine ⟨vs ++ [b], by simp [h1], ?_, fun v hv => ?_⟩
    · rw [List.nodup_append]
      refine ⟨h2, by simp, fun x hx y hy => ?_⟩
      cases List.mem_singleton.mp hy
      rintro rfl
      exact hn ⟨x, .snoc h.rch e, plus_of (h3 x hx).2 e, .refl _⟩
    · rcases List.mem_append.mp hv with hv | hv
      · exact ⟨(h3 v hv).1, .snoc (h3 v hv).2 e⟩
      · cases List.mem_singleton.mp hv
        exact ⟨.snoc h.rch e, .refl _⟩
theorem Wk.short {c k : Nat} {L : List α} (h : Wk nx cost w c k m) (hn : ¬ Endl nx w m) (hL : ∀ v, Rch nx w v → v ∈ L) : k < L.length := by
  obtain ⟨vs, h1, h2, h3⟩ := h.verts hn
  have := nodup_le h2 fun v hv => hL v (h3 v hv).1
  omega
theorem Wk.cost_le {c k B : Nat} (h : Wk nx cost w c k m) (hB : ∀ a, Rch nx w a → cost a ≤ B) : c ≤ B * k := by
  induction h with
  | nil => exact Nat.zero_le _
  | @snoc c k a b h e ih =>
    have := hB a h.rch
    rw [Nat.mul_succ]
    omega
theorem Wk.zero {c k : Nat} {pl : α → Nat} (hz : ∀ a b, Rch nx w a → b ∈ nx a → cost a = 0 → pl b = pl a + 1) (h : Wk nx cost w c k m) : c = 0 → pl m = pl w + k := by
  induction h with
  | nil => exact fun _ => rfl
  | @snoc c k a b h e ih =>
    intro hc
    have h1 := ih (by omega)
    have h2 := hz a b h.rch e (by omega)
    omega
/-- a round costs -/
theorem Plus.pos {pl : α → Nat} (hz : ∀ a b, Rch nx v a → b ∈ nx a → cost a = 0 → pl b = pl a + 1) (h : Plus nx v v) : ∃ c k, 0 < c ∧ Wk nx cost v c k v := by
  obtain ⟨x, e, r⟩ := h
  obtain ⟨c, k, _, h2, h3⟩ := Wk.app (cost := cost) (.snoc .nil e) r
  refine ⟨c, k, ?_, h3⟩
  rcases Nat.eq_zero_or_pos c with q | q
  · have := h3.zero hz q
    omega
  · exact q

/-! ### the most -/
def IsMost (nx : α → List α) (cost : α → Nat) (w m : α) : Option Nat → Prop
  | none => Endl nx w m
  | some n => ¬ Endl nx w m ∧ (∃ c k, Wk nx cost w c k m ∧ n ≤ c) ∧ ∀ c k, Wk nx cost w c k m → c ≤ n
theorem IsMost.uniq : ∀ {o o' : Option Nat}, IsMost nx cost w m o → IsMost nx cost w m o' → o = o'
  | none, none, _, _ => rfl
  | none, some _, h, h' => absurd h h'.1
  | some _, none, h, h' => absurd h' h.1
  | some n, some n', h, h' => by
    obtain ⟨c, k, h1, h2⟩ := h.2.1
    obtain ⟨c', k', h1', h2'⟩ := h'.2.1
    have q := h'.2.2 c k h1
    have q' := h.2.2 c' k' h1'
    have : n = n' := by omega
    rw [this]
theorem IsMost.small {n B N : Nat} {L : List α} (h : IsMost nx cost w m (some n)) (hL : ∀ v, Rch nx w v → v ∈ L) (hB : ∀ a, Rch nx w a → cost a ≤ B) (hN : L.length ≤ N + 1) : n ≤ B * N := by
  obtain ⟨c, k, h1, h2⟩ := h.2.1
  have h3 := h1.cost_le hB
  have h4 := h1.short h.1 hL
  have h5 : B * k ≤ B * N := Nat.mul_le_mul_left _ (by omega)
  omega
/-- endless stands for 9999 -/
def toO (n : Nat) : Option Nat := if 9999 ≤ n then none else some n
/-- the law's end: no edge wants more -/
theorem most_of_closed {f : α → Nat} {pl : α → Nat} (hz : ∀ a b, Rch nx w a → b ∈ nx a → cost a = 0 → pl b = pl a + 1) (hcl : ∀ a b, Rch nx w a → b ∈ nx a → min 9999 (f a + cost a) ≤ f b)
    (hup : ∀ m, Rch nx w m → ¬ Endl nx w m → (∃ c k, Wk nx cost w c k m ∧ f m ≤ c)) (hsm : ∀ m c k, Wk nx cost w c k m → ¬ Endl nx w m → c < 9999) (r : Rch nx w m) : IsMost nx cost w m (toO (f m)) := by
  have wk : ∀ {v m : α} {c k : Nat}, Rch nx w v → Wk nx cost v c k m → min 9999 (f v + c) ≤ f m := by
    intro v m c k hv h
    induction h with
    | nil => omega
    | @snoc c k a b h e ih =>
      have := hcl a b (hv.trans h.rch) e
      omega
  by_cases he : Endl nx w m
  · have : 9999 ≤ f m := by
      obtain ⟨v, h1, h2, h3⟩ := id he
      obtain ⟨c, k, hc, hw⟩ := h2.pos (cost := cost) (pl := pl) fun a b ra => hz a b (h1.trans ra)
      have e1 := wk h1 hw
      obtain ⟨c', k', hw'⟩ := h3.wk (cost := cost)
      have e2 := wk h1 hw'
      omega
    unfold toO
    rw [if_pos this]
    exact he
  · obtain ⟨c, k, h1, h2⟩ := hup m r he
    have h3 := hsm m c k h1 he
    unfold toO
    rw [if_neg (by omega)]
    refine ⟨he, ⟨c, k, h1, h2⟩, fun c' k' h' => ?_⟩
    have := wk (.refl w) h'
    have := hsm m c' k' h' he
    omega
/-- none is above all numbers -/
def oLe : Option Nat → Option Nat → Prop
  | _, none => True
  | none, some _ => False
  | some a, some b => a ≤ b
theorem oLe.anti : ∀ {o o' : Option Nat}, oLe o o' → oLe o' o → o = o'
  | none, none, _, _ => rfl
  | none, some _, h, _ => h.elim
  | some _, none, _, h => h.elim
  | some a, some b, h, h' => by
    have : a = b := Nat.le_antisymm h h'
    rw [this]
/-- the greatest of some values -/
def IsTop (vals : Option Nat → Prop) (o : Option Nat) : Prop := vals o ∧ ∀ o', vals o' → oLe o' o
theorem IsTop.uniq {vals : Option Nat → Prop} {o o' : Option Nat} (h : IsTop vals o) (h' : IsTop vals o') : o = o' := (h'.2 o h.1).anti (h.2 o' h'.1)

/-! ### a search: found, and waiting -/
structure Dfs (nx : α → List α) (S : List α) (held wait : List α) : Prop where
  nd : held.Nodup
  rh : ∀ m ∈ held, ∃ s ∈ S, Rch nx s m
  rw_ : ∀ m ∈ wait, ∃ s ∈ S, Rch nx s m
  st : ∀ s ∈ S, s ∈ held ∨ s ∈ wait
  cl : ∀ m ∈ held, ∀ a ∈ nx m, a ∈ held ∨ a ∈ wait
theorem Dfs.start (S : List α) : Dfs nx S [] S := ⟨List.nodup_nil, (fun _ h => by cases h), fun m h => ⟨m, h, .refl _⟩, fun s h => .inr h, (fun _ h => by cases h)⟩
theorem Dfs.skip {S held wait : List α} {m : α} (d : Dfs nx S held (wait ++ [m])) (h : m ∈ held) : Dfs nx S held wait := by
  refine ⟨d.nd, d.rh, fun x hx => d.rw_ x (by simp [hx]), fun s hs => ?_, fun x hx a ha => ?_⟩
  · rcases d.st s hs with q | q
    · exact .inl q
    · rcases List.mem_append.mp q with q | q
      · exact .inr q
      · cases List.mem_singleton.mp q; exact .inl h
  · rcases d.cl x hx a ha with q | q
    · exact .inl q
    · rcases List.mem_append.mp q with q | q
      · exact .inr q
      · cases List.mem_singleton.mp q; exact .inl h
theorem Dfs.visit {S held wait : List α} {m : α} (d : Dfs nx S held (wait ++ [m])) (h : m ∉ held) : Dfs nx S (held ++ [m]) (wait ++ nx m) := by
  obtain ⟨s0, hs0, r0⟩ := d.rw_ m (by simp)
  have mv : ∀ a, a ∈ held ∨ a ∈ wait ++ [m] → a ∈ held ++ [m] ∨ a ∈ wait ++ nx m := by
    intro a q
    rcases q with q | q
    · exact .inl (by simp [q])
    · rcases List.mem_append.mp q with q | q
      · exact .inr (by simp [q])
      · exact .inl (by simp [List.mem_singleton.mp q])
  refine ⟨?_, fun x hx => ?_, fun x hx => ?_, fun s hs => mv s (d.st s hs), fun x hx a ha => ?_⟩
  · rw [List.nodup_append]
    exact ⟨d.nd, by simp, fun x hx y hy => by cases List.mem_singleton.mp hy; rintro rfl; exact h hx⟩
  · rcases List.mem_append.mp hx with q | q
    · exact d.rh x q
    · cases List.mem_singleton.mp q; exact ⟨s0, hs0, r0⟩
  · rcases List.mem_append.mp hx with q | q
    · exact d.rw_ x (by simp [q])
    · exact ⟨s0, hs0, .snoc r0 q⟩
  · rcases List.mem_append.mp hx with q | q
    · exact mv a (d.cl x q a ha)
    · cases List.mem_singleton.mp q; exact .inr (by simp [ha])
theorem Dfs.done {S held : List α} (d : Dfs nx S held []) {m : α} : m ∈ held ↔ ∃ s ∈ S, Rch nx s m := by
  refine ⟨d.rh m, ?_⟩
  rintro ⟨s, hs, r⟩
  induction r with
  | refl =>
    rcases d.st s hs with q | q
    · exact q
    · cases q
  | snoc _ e ih =>
    rcases d.cl _ ih _ e with q | q
    · exact q
    · cases q
/-- how long it may go on -/
def dmeas (L : List α) (B : Nat) (held wait : List α) : Nat := (L.filter fun x => decide (x ∉ held)).length * (B + 1) + wait.length
theorem filt_lt {L held : List α} {m : α} (hm : m ∈ L) (h : m ∉ held) : (L.filter fun x => decide (x ∉ held ++ [m])).length < (L.filter fun x => decide (x ∉ held)).length := by
  induction L with
  | nil => cases hm
  | cons y L ih =>
    have le : (L.filter fun x => decide (x ∉ held ++ [m])).length ≤ (L.filter fun x => decide (x ∉ held)).length := by
      clear ih hm
      induction L with
      | nil => exact Nat.le_refl _
      | cons z L ih =>
        rw [List.filter_cons, List.filter_cons]
        by_cases h1 : z ∈ held
        · rw [if_neg (by simp [h1]), if_neg (by simp [h1])]; exact ih
        · by_cases h2 : z = m
          · rw [if_neg (by simp [h2]), if_pos (by simp [h1]), List.length_cons]; omega
          · rw [if_pos (by simp [h1, h2]), if_pos (by simp [h1]), List.length_cons, List.length_cons]; omega
    rw [List.filter_cons, List.filter_cons]
    by_cases e : y = m
    · subst e
      rw [if_neg (by simp), if_pos (by simp [h]), List.length_cons]
      omega
    · have hm' : m ∈ L := by
        rcases List.mem_cons.mp hm with q | q
        · exact absurd q.symm e
        · exact q
      have := ih hm'
      by_cases h1 : y ∈ held
      · rw [if_neg (by simp [h1]), if_neg (by simp [h1])]; exact this
      · rw [if_pos (by simp [h1, e]), if_pos (by simp [h1]), List.length_cons, List.length_cons]; omega
theorem dmeas_skip {L held wait : List α} {m : α} {B : Nat} : dmeas L B held wait < dmeas L B held (wait ++ [m]) := by
  unfold dmeas
  rw [List.length_append, List.length_singleton]
  omega
theorem dmeas_visit {L held wait more : List α} {m : α} {B : Nat} (hm : m ∈ L) (h : m ∉ held) (hB : more.length ≤ B) : dmeas L B (held ++ [m]) (wait ++ more) < dmeas L B held (wait ++ [m]) := by
  unfold dmeas
  have := filt_lt hm h
  have h2 : ((L.filter fun x => decide (x ∉ held ++ [m])).length + 1) * (B + 1) ≤ (L.filter fun x => decide (x ∉ held)).length * (B + 1) := Nat.mul_le_mul_right _ this
  rw [Nat.add_mul] at h2
  rw [List.length_append, List.length_append, List.length_singleton]
  omega
theorem dmeas_le {L held wait : List α} {B : Nat} : wait.length ≤ dmeas L B held wait := Nat.le_add_left _ _
end
end EC

set_option Elab.async false
set_option linter.all false
set_option maxRecDepth 100000
/-! EcH: a program's moments as a graph. -/
namespace EC
open PySem
def Prg.nx (P : Prg) (m : Mom) : List Mom := (P.steps m).map (P.after m)
def Prg.cst (P : Prg) (m : Mom) : Nat := (P.due m).toNat
theorem nx_ok {P : Prg} (hP : P.Ok) {m b : Mom} (hm : P.MomOk m) (h : b ∈ P.nx m) : P.MomOk b := by
  obtain ⟨s, hs, rfl⟩ := List.mem_map.mp h
  exact after_ok hP hm hs
theorem rch_ok {P : Prg} (hP : P.Ok) {w m : Mom} (hw : P.MomOk w) (h : Rch P.nx w m) : P.MomOk m := by
  induction h with
  | refl => exact hw
  | snoc _ e ih => exact nx_ok hP ih e
theorem steps_len {P : Prg} (hP : P.Ok) {m : Mom} (hm : P.MomOk m) : (P.steps m).length ≤ 10 := by
  have hc := hP.code _ _ (ins_at hm.pl)
  unfold Prg.steps
  cases hi : P.ins m.pl with
  | ask x c =>
    rw [hi] at hc
    have ho := cell_ok hP hc.1
    have h1 := ho.2.2.2
    simp only [List.length_map, List.length_range]
    omega
  | _ => simp
theorem nx_len {P : Prg} (hP : P.Ok) {m : Mom} (hm : P.MomOk m) : (P.nx m).length ≤ 10 := by
  unfold Prg.nx
  rw [List.length_map]
  exact steps_len hP hm
theorem due_ge {P : Prg} (hP : P.Ok) {m : Mom} (hm : P.MomOk m) : 0 ≤ P.due m ∧ P.due m ≤ 9 := by
  have hc := hP.code _ _ (ins_at hm.pl)
  unfold Prg.due
  cases hi : P.ins m.pl with
  | set x e c => rw [hi] at hc; have := hc.2.2.1; exact ⟨by have := this.1; show 0 ≤ c; omega, this.2⟩
  | ask x c => rw [hi] at hc; have := hc.2.1; exact ⟨by have := this.1; show 0 ≤ c; omega, this.2⟩
  | jump q c => rw [hi] at hc; have := hc.2; exact ⟨by have := this.1; show 0 ≤ c; omega, this.2⟩
  | unl t q c => rw [hi] at hc; have := hc.2.2.1; exact ⟨by have := this.1; show 0 ≤ c; omega, this.2⟩
  | mark c => rw [hi] at hc; have := hc.1; exact ⟨by have := this.1; show 0 ≤ c; omega, this.2⟩
  | off c => exact ⟨by show (0 : Int) ≤ 0; omega, by show (0 : Int) ≤ 9; omega⟩
  | fin => exact ⟨by show (0 : Int) ≤ 0; omega, by show (0 : Int) ≤ 9; omega⟩
theorem cst_le {P : Prg} (hP : P.Ok) {m : Mom} (hm : P.MomOk m) : P.cst m ≤ 9 := by
  have := due_ge hP hm
  unfold Prg.cst
  omega
theorem cst_eq {P : Prg} (hP : P.Ok) {m : Mom} (hm : P.MomOk m) : P.due m = (P.cst m : Nat) := by
  have := due_ge hP hm
  unfold Prg.cst
  omega
theorem cst_zero {P : Prg} (hP : P.Ok) {m b : Mom} (hm : P.MomOk m) (hb : b ∈ P.nx m) (h : P.cst m = 0) : b.pl = m.pl + 1 := by
  have hc := hP.code _ _ (ins_at hm.pl)
  have h0 : P.due m = 0 := by rw [cst_eq hP hm, h]; rfl
  obtain ⟨s, hs, rfl⟩ := List.mem_map.mp hb
  unfold Prg.due at h0
  unfold Prg.after
  cases hi : P.ins m.pl with
  | jump q c => rw [hi] at hc h0; have := hc.2.1; have h0' : c = 0 := h0; omega
  | unl t q c => rw [hi] at hc h0; have := hc.2.2.1.1; have h0' : c = 0 := h0; omega
  | _ => rfl
/-- all that is known of a waking whose moments are few -/
structure Few (P : Prg) (w : Mom) (L : List Mom) : Prop where
  ok : P.Ok
  wok : P.MomOk w
  all : ∀ v, Rch P.nx w v → v ∈ L
  len : L.length ≤ 30
theorem Few.mok {P : Prg} {w : Mom} {L : List Mom} (F : Few P w L) {m : Mom} (h : Rch P.nx w m) : P.MomOk m := rch_ok F.ok F.wok h
/-- the moments themselves, each once -/
structure Whole (P : Prg) (w : Mom) (ms : List Mom) : Prop where
  nd : ms.Nodup
  mem : ∀ m, m ∈ ms ↔ Rch P.nx w m
theorem Whole.perm {P : Prg} {w : Mom} {a b : List Mom} (h : Whole P w a) (k : Whole P w b) : a.Perm b :=
  (List.perm_ext_iff_of_nodup h.nd k.nd).mpr fun m => (h.mem m).trans (k.mem m).symm
theorem Whole.len {P : Prg} {w : Mom} {a L : List Mom} (h : Whole P w a) (F : Few P w L) : a.length ≤ 30 :=
  Nat.le_trans (nodup_le h.nd fun v hv => F.all v ((h.mem v).mp hv)) F.len
def keyO (o : Option Nat) : PyData := keyD (o.map Int.ofNat)
end EC

set_option Elab.async false
set_option linter.all false
set_option maxRecDepth 100000
/-! EcR: the table that is relaxed, plain. -/
namespace EC

abbrev Tb := List (Mom × Option Nat)
/-- what holds of the table all the time -/
structure Rel (p : Prg) (w : Mom) (ms en : List Mom) (t : Tb) : Prop where
  nd : (t.map (·.1)).Nodup
  sub : ∀ m ∈ t.map (·.1), m ∈ ms
  en1 : ∀ m, look t m = some none ↔ m ∈ en
  att : ∀ m n, look t m = some (some n) → m ∉ en ∧ ∃ k, Wk p.nx p.cst w n k m
  st : w ∉ en → ∃ n, look t w = some (some n)
def mval : Option (Option Nat) → Nat
  | some (some n) => n + 1
  | _ => 0
def rmeas (ms : List Mom) (t : Tb) : Nat := (ms.map fun m => 300 - mval (look t m)).sum
theorem sum_lt {f g : Mom → Nat} {a : Mom} : ∀ {ms : List Mom}, (∀ m ∈ ms, f m ≤ g m) → a ∈ ms → f a < g a → (ms.map f).sum < (ms.map g).sum
  | [], _, h, _ => by cases h
  | x :: ms, hle, h, hlt => by
    have le : ∀ {l : List Mom}, (∀ m ∈ l, f m ≤ g m) → (l.map f).sum ≤ (l.map g).sum := by
      intro l
      induction l with
      | nil => exact fun _ => Nat.le_refl _
      | cons y l ih =>
        intro hl
        have h1 := hl y List.mem_cons_self
        have h2 := ih fun m hm => hl m (List.mem_cons_of_mem _ hm)
        simp only [List.map_cons, List.sum_cons]
        omega
    simp only [List.map_cons, List.sum_cons]
    rcases List.mem_cons.mp h with e | h
    · subst e
      have := le fun m hm => hle m (List.mem_cons_of_mem _ hm)
      omega
    · have h1 := hle x List.mem_cons_self
      have h2 := sum_lt (fun m hm => hle m (List.mem_cons_of_mem _ hm)) h hlt
      omega
theorem rmeas_put {ms : List Mom} {t : Tb} {a : Mom} {n : Nat} (ha : a ∈ ms) (h1 : mval (look t a) < n + 1) (h2 : n < 300) : rmeas ms (put t a (some n)) < rmeas ms t := by
  unfold rmeas
  refine sum_lt (fun m _ => ?_) ha ?_
  · rw [look_put]
    by_cases e : m = a
    · subst e
      rw [if_pos rfl]
      show 300 - (n + 1) ≤ _
      omega
    · rw [if_neg e]
      exact Nat.le_refl _
  · rw [look_put, if_pos rfl]
    show 300 - (n + 1) < _
    omega
theorem rmeas_le (ms : List Mom) (t : Tb) : rmeas ms t ≤ 300 * ms.length := by
  unfold rmeas
  induction ms with
  | nil => exact Nat.le_refl _
  | cons m ms ih =>
    simp only [List.map_cons, List.sum_cons, List.length_cons]
    omega
/-- an edge that wants nothing -/
def Sat1 (p : Prg) (en : List Mom) (t : Tb) (m : Mom) (n : Nat) (a : Mom) : Prop := a ∈ en ∨ ∃ n', look t a = some (some n') ∧ n + p.cst m ≤ n'
def Sat (p : Prg) (en : List Mom) (t : Tb) (m : Mom) : Prop := ∀ n, look t m = some (some n) → ∀ a ∈ p.nx m, Sat1 p en t m n a
section
variable {p : Prg} {w : Mom} {ms en : List Mom} {t : Tb}
theorem Rel.put_ (r : Rel p w ms en t) {a : Mom} {n k : Nat} (ha : a ∈ ms) (hn : a ∉ en) (hw : Wk p.nx p.cst w n k a) : Rel p w ms en (put t a (some n)) := by
  refine ⟨?_, fun m hm => ?_, fun m => ?_, fun m n' h => ?_, fun hw' => ?_⟩
  · rw [put_keys]
    split
    · exact r.nd
    · rename_i h
      rw [List.nodup_append]
      exact ⟨r.nd, by simp, fun x hx y hy => by cases List.mem_singleton.mp hy; rintro rfl; exact h hx⟩
  · rw [put_keys] at hm
    split at hm
    · exact r.sub m hm
    · rcases List.mem_append.mp hm with h | h
      · exact r.sub m h
      · cases List.mem_singleton.mp h; exact ha
  · rw [look_put]
    by_cases e : m = a
    · subst e
      rw [if_pos rfl]
      exact ⟨fun h => (by cases h), fun h => absurd h hn⟩
    · rw [if_neg e]
      exact r.en1 m
  · rw [look_put] at h
    by_cases e : m = a
    · subst e
      rw [if_pos rfl] at h
      cases h
      exact ⟨hn, k, hw⟩
    · rw [if_neg e] at h
      exact r.att m n' h
  · rw [look_put]
    by_cases e : w = a
    · rw [if_pos e]; exact ⟨n, rfl⟩
    · rw [if_neg e]; exact r.st hw'
/-- at the end -/
theorem Rel.done (r : Rel p w ms en t) (hen : ∀ m, m ∈ en ↔ Endl p.nx w m) (hs : ∀ m ∈ t.map (·.1), Sat p en t m) :
    (∀ m o, look t m = some o → IsMost p.nx p.cst w m o) ∧ ∀ m, Rch p.nx w m → m ∈ t.map (·.1) := by
  have key : ∀ {c k : Nat} {m : Mom}, Wk p.nx p.cst w c k m → ¬ Endl p.nx w m → ∃ n, look t m = some (some n) ∧ c ≤ n := by
    intro c k m h
    induction h with
    | nil =>
      intro hn
      obtain ⟨n, h⟩ := r.st fun z => hn ((hen _).mp z)
      exact ⟨n, h, Nat.zero_le _⟩
    | @snoc c k a b h e ih =>
      intro hn
      obtain ⟨n, h1, h2⟩ := ih fun z => hn (z.step e)
      rcases hs a (look_isSome.mp (by rw [h1]; rfl)) n h1 b e with q | ⟨n', h3, h4⟩
      · exact absurd ((hen b).mp q) hn
      · exact ⟨n', h3, by omega⟩
  refine ⟨fun m o h => ?_, fun m h => ?_⟩
  · cases o with
    | none => exact (hen m).mp ((r.en1 m).mp h)
    | some n =>
      obtain ⟨h1, k, h2⟩ := r.att m n h
      refine ⟨fun z => h1 ((hen m).mpr z), ⟨n, k, h2, Nat.le_refl _⟩, fun c' k' hw => ?_⟩
      obtain ⟨n', h3, h4⟩ := key hw fun z => h1 ((hen m).mpr z)
      rw [h] at h3
      cases h3
      exact h4
  · by_cases he : Endl p.nx w m
    · exact look_isSome.mp (by rw [(r.en1 m).mpr ((hen m).mpr he)]; rfl)
    · obtain ⟨c, k, hw⟩ := h.wk (cost := p.cst)
      obtain ⟨n, h1, _⟩ := key hw he
      exact look_isSome.mp (by rw [h1]; rfl)
/-- the first table -/
theorem Rel.start1 (hnd : en.Nodup) (hsub : ∀ m ∈ en, m ∈ ms) (hw : w ∈ en) : Rel p w ms en (en.map fun m => (m, none)) := by
  have hk : (en.map fun m => (m, (none : Option Nat))).map (·.1) = en := by rw [List.map_map]; exact List.map_id' en
  have hl : ∀ m o, look (en.map fun m => (m, (none : Option Nat))) m = some o → o = none := fun m o h => by
    obtain ⟨x, _, e⟩ := List.mem_map.mp (look_mem h)
    cases e
    rfl
  refine ⟨by rw [hk]; exact hnd, by rw [hk]; exact hsub, fun m => ?_, fun m n h => ?_, fun h => absurd hw h⟩
  · constructor
    · intro h
      have := look_isSome.mp (show (look (en.map fun m => (m, (none : Option Nat))) m).isSome = true by rw [h]; rfl)
      rw [hk] at this
      exact this
    · exact fun h => look_self (fun _ => (none : Option Nat)) h
  · have := hl m _ h
    cases this
theorem Rel.start2 (hnd : en.Nodup) (hsub : ∀ m ∈ en, m ∈ ms) (hw : w ∉ en) (hwm : w ∈ ms) : Rel p w ms en (put (en.map fun m => (m, none)) w (some 0)) := by
  have hk : (en.map fun m => (m, (none : Option Nat))).map (·.1) = en := by rw [List.map_map]; exact List.map_id' en
  have hl : ∀ m o, look (en.map fun m => (m, (none : Option Nat))) m = some o → o = none := fun m o h => by
    obtain ⟨x, _, e⟩ := List.mem_map.mp (look_mem h)
    cases e
    rfl
  have hself : ∀ m, m ∈ en → look (en.map fun m => (m, (none : Option Nat))) m = some none := fun m h => look_self (fun _ => (none : Option Nat)) h
  refine ⟨?_, fun m hm => ?_, fun m => ?_, fun m n h => ?_, fun _ => ⟨0, by rw [look_put, if_pos rfl]⟩⟩
  · rw [put_keys, hk, if_neg hw, List.nodup_append]
    exact ⟨hnd, by simp, fun x hx y hy => by cases List.mem_singleton.mp hy; rintro rfl; exact hw hx⟩
  · rw [put_keys, hk, if_neg hw] at hm
    rcases List.mem_append.mp hm with h | h
    · exact hsub m h
    · cases List.mem_singleton.mp h; exact hwm
  · rw [look_put]
    by_cases e : m = w
    · subst e
      rw [if_pos rfl]
      exact ⟨fun h => (by cases h), fun h => absurd h hw⟩
    · rw [if_neg e]
      constructor
      · intro h
        have := look_isSome.mp (show (look (en.map fun m => (m, (none : Option Nat))) m).isSome = true by rw [h]; rfl)
        rw [hk] at this
        exact this
      · exact hself m
  · rw [look_put] at h
    by_cases e : m = w
    · subst e
      rw [if_pos rfl] at h
      cases h
      exact ⟨hw, 0, .nil⟩
    · rw [if_neg e] at h
      have := hl m _ h
      cases this
end
/-- a number attained where nothing is endless is small -/
theorem att_small {p : Prg} {w : Mom} {L : List Mom} (F : Few p w L) {m : Mom} {n k : Nat} (h : Wk p.nx p.cst w n k m) (hn : ¬ Endl p.nx w m) : n ≤ 261 := by
  have h1 := h.cost_le (B := 9) fun a ra => cst_le F.ok (F.mok ra)
  have h2 := h.short hn F.all
  have := F.len
  have : 9 * k ≤ 9 * 29 := Nat.mul_le_mul_left _ (by omega)
  omega
/-- members joined to a list -/
def joinL (en bs : List Mom) : List Mom := bs.foldl (fun acc b => if b ∈ acc then acc else acc ++ [b]) en
theorem joinL_nd : ∀ (bs en : List Mom), en.Nodup → (joinL en bs).Nodup
  | [], _, h => h
  | b :: bs, en, h => by
    show (joinL (if b ∈ en then en else en ++ [b]) bs).Nodup
    by_cases hb : b ∈ en
    · rw [if_pos hb]; exact joinL_nd bs en h
    · rw [if_neg hb]
      refine joinL_nd bs _ ?_
      rw [List.nodup_append]
      exact ⟨h, by simp, fun x hx y hy => by cases List.mem_singleton.mp hy; rintro rfl; exact hb hx⟩
theorem mem_joinL {m : Mom} : ∀ (bs en : List Mom), m ∈ joinL en bs ↔ m ∈ en ∨ m ∈ bs
  | [], _ => by simp [joinL]
  | b :: bs, en => by
    show m ∈ joinL (if b ∈ en then en else en ++ [b]) bs ↔ _
    by_cases hb : b ∈ en
    · rw [if_pos hb, mem_joinL bs en]
      constructor
      · rintro (h | h)
        · exact .inl h
        · exact .inr (List.mem_cons_of_mem _ h)
      · rintro (h | h)
        · exact .inl h
        · rcases List.mem_cons.mp h with e | h
          · exact .inl (e ▸ hb)
          · exact .inr h
    · rw [if_neg hb, mem_joinL bs _]
      rw [List.mem_append, List.mem_singleton, List.mem_cons]
      constructor
      · rintro ((h | h) | h)
        · exact .inl h
        · exact .inr (.inl h)
        · exact .inr (.inr h)
      · rintro (h | h | h)
        · exact .inl (.inl h)
        · exact .inl (.inr h)
        · exact .inr h
end EC

set_option Elab.async false
set_option linter.all false
set_option maxRecDepth 100000
set_option maxHeartbeats 4000000
/-! EcK1: instances with typed fields; methods; changing lists and dicts by their data. -/
namespace EC
open PySem PySem.Spec PyProof.Rows L2

/-! ### changing things by their data, beside the rest -/
def Lof (K : PySem.W.Frag) (M : List Addr) (H : Hp) (L : Addr) (ds : List PyData) : Prop := ∃ acc, H L = some (.lst acc) ∧ DpAll K (cuts M H) acc ds
def Nof (X : Cx) (M : List Addr) (H : Hp) (d : Addr) (l : List (Mom × Ty)) : Prop := ∃ xs ep, H d = some (nD X.prog X.w d xs ep) ∧ NKeys X.K (cuts M H) xs ∧ NVals (cuts M H) xs l
section
variable {X : Cx} {M : List Addr} {H H1 : Hp} {σ : L2.St} {Γ : List (Option Ty)} {L d p : Addr} {ds : List PyData} {l : List (Mom × Ty)}
theorem Lof.fr {K : PySem.W.Frag} (h : Lof K M H L ds) (e : H1 L = H L) (s : Same (cuts M H) (cuts M H1)) : Lof K M H1 L ds := let ⟨acc, h1, h2⟩ := h; ⟨acc, e.trans h1, dpAll_up s _ _ h2⟩
theorem Nof.fr (h : Nof X M H d l) (e : H1 d = H d) (s : Same (cuts M H) (cuts M H1)) : Nof X M H1 d l := let ⟨xs, ep, h1, h2, h3⟩ := h; ⟨xs, ep, e.trans h1, nkeys_up s h2, nvals_up s h3⟩
theorem Lof.cutb {K : PySem.W.Frag} (h : Lof K M H L ds) : ∃ u, H L = some u ∧ Cutb X L u := let ⟨acc, h1, _⟩ := h; ⟨_, h1, .inl ⟨acc, rfl⟩⟩
theorem Nof.cutb (h : Nof X M H d l) : ∃ u, H d = some u ∧ Cutb X d u := let ⟨xs, ep, h1, _⟩ := h; ⟨_, h1, .inr (.inl ⟨xs, ep, rfl⟩)⟩
theorem Lof.ty {K : PySem.W.Frag} (h : Lof K M H L ds) : (isD K (.list ds)).p H (.ref L) := let ⟨acc, h1, h2⟩ := h; .lst (SqL.of h1) (dpAll_up cuts_same _ _ h2)
theorem Nof.ty (h : Nof X M H d l) : (isNX X l).p H (.ref d) := let ⟨xs, ep, h1, h2, h3⟩ := h; ⟨d, xs, ep, rfl, .inl h1, nkeys_up cuts_same h2, nvals_up cuts_same h3⟩
theorem Cutbs.two {a b : Addr} (h1 : ∃ u, H a = some u ∧ Cutb X a u) (h2 : ∃ u, H b = some u ∧ Cutb X b u) : Cutbs X [a, b] H := fun p hp => by
  rcases List.mem_cons.mp hp with rfl | hp
  · exact h1
  · cases List.mem_singleton.mp hp; exact h2
theorem Cutbs.one {a : Addr} (h1 : ∃ u, H a = some u ∧ Cutb X a u) : Cutbs X [a] H := fun p hp => by
  cases List.mem_singleton.mp hp; exact h1
theorem Cutbs.add {a : Addr} (h1 : ∃ u, H a = some u ∧ Cutb X a u) (h2 : Cutbs X M H) : Cutbs X (a :: M) H := fun p hp => by
  rcases List.mem_cons.mp hp with rfl | hp
  · exact h1
  · exact h2 p hp
theorem cutbs_tup (h : Cutbs X M H) : TupSub H (cuts M H) := fun b xs r => by
  have hb : b ∉ M := fun z => by
    obtain ⟨u, h1, c⟩ := h b z
    rcases r with r | ⟨o, r⟩
    · rw [h1] at r; cases r; exact c.ntup rfl
    · rw [h1] at r; cases r; exact c.nfrz rfl
  rcases r with r | ⟨o, r⟩
  · exact .inl (by rw [cuts_out hb]; exact r)
  · exact .inr ⟨o, by rw [cuts_out hb]; exact r⟩
theorem lf_cuts {K : PySem.W.Frag} {v : V} {x : PyData} (h : Cutbs X M H) (z : lf x = true) (q : Dp K H v x) : Dp K (cuts M H) v x := dp_imm (cutbs_tup h) _ _ z q
theorem Env.re {τ : Ty} {x : V} (g : Env Γ σ H) (i : Nat) (e : Γ[i]? = some (some (isV x))) (h : τ.p H x) : Env (Γ.set i (some τ)) σ H := by
  obtain ⟨v, h1, h2⟩ := g.at_ i _ e
  have h3 : v = x := h2
  subst h3
  have z := g.set i h
  have e2 : σ.set i (some v) = σ := by
    apply List.ext_getElem?
    intro k
    rw [List.getElem?_set]
    split
    · rename_i hk
      subst hk
      split
      · exact h1.symm
      · rename_i hlt
        rw [List.getElem?_eq_none (by omega)]
    · rfl
  rw [e2] at z
  exact z
theorem same_cuts1 {H0 : Hp} (s : Same H0 H) (h : H0 p = none) : Same H0 (cuts [p] H) := fun b u e => by
  rw [cuts_out (fun z => by rw [List.mem_singleton.mp z, h] at e; cases e)]
  exact s b u e
theorem cuts_cons {H : Hp} : cuts (p :: M) H = cuts [p] (cuts M H) := by
  funext b
  by_cases h1 : b = p
  · subst h1
    rw [cuts_in (by simp), cuts_in (by simp)]
  · by_cases h2 : b ∈ M
    · rw [cuts_in (by simp [h2]), cuts_out (by simp [h1]), cuts_in h2]
    · rw [cuts_out (by simp [h1, h2]), cuts_out (by simp [h1]), cuts_out h2]
/-- the frame for a statement -/
theorem wS_frame {st : Stmt} {D D' : Ends} (M : List Addr) (hm : Cutbs X M H) (h : wS X st D' σ (cuts M H))
    (k1 : ∀ σ' H1, (∀ p ∈ M, H1 p = H p) → D'.nx σ' (cuts M H1) → D.nx σ' H1) (k2 : ∀ v H1, (∀ p ∈ M, H1 p = H p) → D'.rt v (cuts M H1) → D.rt v H1) (k3 : ∀ σ' H1, (∀ p ∈ M, H1 p = H p) → D'.bk σ' (cuts M H1) → D.bk σ' H1) (k4 : ∀ σ' H1, (∀ p ∈ M, H1 p = H p) → D'.ct σ' (cuts M H1) → D.ct σ' H1) : wS X st D σ H := fun pins s I =>
  thn (h _ s (inv_hide I hm)) fun f s' q => by
    cases f with
    | next =>
      obtain ⟨σ', H', J, q⟩ := q
      obtain ⟨J', hn⟩ := inv_show I hm J
      exact ⟨σ', _, J', k1 _ _ (fun p hp => back_in hp) (by rw [cuts_back hn]; exact q)⟩
    | brk =>
      obtain ⟨σ', H', J, q⟩ := q
      obtain ⟨J', hn⟩ := inv_show I hm J
      exact ⟨σ', _, J', k3 _ _ (fun p hp => back_in hp) (by rw [cuts_back hn]; exact q)⟩
    | cont =>
      obtain ⟨σ', H', J, q⟩ := q
      obtain ⟨J', hn⟩ := inv_show I hm J
      exact ⟨σ', _, J', k4 _ _ (fun p hp => back_in hp) (by rw [cuts_back hn]; exact q)⟩
    | ret v =>
      obtain ⟨x, σ', H', J, r, q⟩ := q
      obtain ⟨J', hn⟩ := inv_show I hm J
      exact ⟨x, σ', _, J', r, k2 _ _ (fun p hp => back_in hp) (by rw [cuts_back hn]; exact q)⟩
/-- .. one that just goes on -/
theorem wS_frameN {st : Stmt} {D : Ends} {N : L2.St → Hp → Prop} (M : List Addr) (hm : Cutbs X M H) (h : wS X st ⟨N, fun _ _ => False, fun _ _ => False, fun _ _ => False⟩ σ (cuts M H)) (k : ∀ σ' H1, (∀ p ∈ M, H1 p = H p) → N σ' (cuts M H1) → D.nx σ' H1) : wS X st D σ H :=
  wS_frame M hm h k (fun _ _ _ z => z.elim) (fun _ _ _ z => z.elim) fun _ _ _ z => z.elim
end

/-! ### instances -/
abbrev FldRel (H : Hp) : List (Str × V) → List (Str × Ty) → Prop := Paired fun x q => x.1 = q.1 ∧ q.2.p H x.2
theorem fldRel_up {H H' : Hp} (e : Same H H') {fs : List (Str × V)} {l : List (Str × Ty)} (h : FldRel H fs l) : FldRel H' fs l := Paired.mapP h fun _ q z => ⟨z.1, q.2.up e z.2⟩
/-- an instance of the class at C with these fields -/
def awT (C : Addr) (l : List (Str × Ty)) : Ty := ⟨fun H v => ∃ S dx fs, v = .ref S ∧ H S = some (.ins C dx fs) ∧ FldRel H fs l, fun e ⟨S, dx, fs, h1, h2, h3⟩ => ⟨S, dx, fs, h1, e _ _ h2, fldRel_up e h3⟩⟩
theorem FldRel.some_ {H : Hp} {fs : List (Str × V)} {l : List (Str × Ty)} {f : Str} {τ : Ty} (h : FldRel H fs l) (e : l.lookup f = some τ) : ∃ v, fs.lookup f = some v ∧ τ.p H v := by
  induction h with
  | nil => cases e
  | @cons p q ps qs h t ih =>
    obtain ⟨g, x⟩ := p
    obtain ⟨g', τ'⟩ := q
    obtain ⟨h1, h2⟩ := h
    have h1' : g = g' := h1
    subst h1'
    rw [List.lookup_cons] at e ⊢
    by_cases z : (f == g) = true
    · rw [z] at e ⊢
      cases e
      exact ⟨x, rfl, h2⟩
    · have z' : (f == g) = false := by simpa using z
      rw [z'] at e ⊢
      exact ih e
theorem FldRel.none_ {H : Hp} {fs : List (Str × V)} {l : List (Str × Ty)} {f : Str} (h : FldRel H fs l) (e : l.lookup f = none) : fs.lookup f = none := by
  induction h with
  | nil => rfl
  | @cons p q ps qs h t ih =>
    obtain ⟨g, x⟩ := p
    obtain ⟨g', τ'⟩ := q
    obtain ⟨h1, h2⟩ := h
    have h1' : g = g' := h1
    subst h1'
    rw [List.lookup_cons] at e ⊢
    by_cases z : (f == g) = true
    · rw [z] at e; cases e
    · have z' : (f == g) = false := by simpa using z
      rw [z'] at e ⊢
      exact ih e
theorem FldRel.put {H : Hp} {fs : List (Str × V)} {l : List (Str × Ty)} {f : Str} {v : V} {τ : Ty} (h : FldRel H fs l) (e : l.lookup f = none) (hv : τ.p H v) : FldRel H (putF f v fs) (l ++ [(f, τ)]) := by
  induction h with
  | nil => exact .cons ⟨rfl, hv⟩ .nil
  | @cons p q ps qs h t ih =>
    obtain ⟨g, x⟩ := p
    obtain ⟨g', τ'⟩ := q
    obtain ⟨h1, h2⟩ := h
    have h1' : g = g' := h1
    subst h1'
    rw [List.lookup_cons] at e
    by_cases z : (f == g) = true
    · rw [z] at e; cases e
    · have z' : (f == g) = false := by simpa using z
      rw [z'] at e
      have hne : ¬ g = f := fun q => by rw [q] at z; simp at z
      show FldRel H (if g = f then (g, v) :: ps else (g, x) :: putF f v ps) ((g, τ') :: (qs ++ [(f, τ)]))
      rw [if_neg hne]
      exact .cons ⟨rfl, h2⟩ (ih e)
theorem FldRel.len {H : Hp} {fs : List (Str × V)} {l : List (Str × Ty)} (h : FldRel H fs l) : fs.length = l.length := Paired.length h

/-- the method of the class at C keeps the promise sp -/
structure MetS (P : Program) (w : World) (K : PySem.W.Frag) (mg : Str → Option Value) (base : Heap) (C : Addr) (m : Str) (n : Nat) (k : Nat) (sp : Sp) : Prop where
  ex : ∃ (f : Addr) (fd : FuncData) (ps : List Str), ps.length = n ∧ FnOk P w K mg base CX0 k f fd ps sp ∧ Meth K C m f ∧ Binds K fd ps []
section
variable {X : Cx} {Γ : List (Option Ty)} {e o : Expr} {es : List Expr} {pos apos cpos : Pos} {τ : Ty} {C : Addr} {l : List (Str × Ty)} {f m : Str} {k n : Nat}
theorem ev_fld (ho : EV X Γ o (awT C l)) (c : Cls X.K C) (hn : NoAttr X.K C f) (h : l.lookup f = some τ) (hb : attributeBase o f X.env (eval o X.env) = eval o X.env := by rfl) : EV X Γ (.Attribute o f pos) τ :=
  .of (pe_fld pe_w hb) fun σ H g => ho.use g fun v H1 s1 q1 => by
    obtain ⟨S, dx, fs, rfl, h2, h3⟩ := q1
    obtain ⟨v, h4, h5⟩ := h3.some_ h
    exact ⟨S, C, dx, fs, v, rfl, h2, c, hn, h4, s1, h5⟩
theorem ev_meth {R : List Ty → Ty → Prop} {τs : List Ty} (ho : EV X Γ o (awT C l)) (c : Cls X.K C) (F : MetS X.prog X.w X.K X.mg X.base C m n k (spF R)) (hr : Room k X.A) (hm : l.lookup m = none) (ha : EVs X Γ (e :: es) τs) (h : R (awT C l :: τs) τ)
    (hst : starEach (e :: es) X.env = (false, eval e X.env) :: starEach es X.env := by rfl) (hpl : (backTo cpos (starEach es X.env)).any (·.1) = false := by rfl) {pl : Sem Bool}
    (ht : eval (.Call (.Attribute o m apos) (e :: es) [] cpos) X.env = (do
      let ov ← eval o X.env
      standAt apos.atName
      let (f, first) ← holding [ov] (getMethod ov m pl)
      callWith cpos f first (backTo cpos (starEach (e :: es) X.env)) (backToKw cpos (keywordEach [] X.env))) := by rfl) : EV X Γ (.Call (.Attribute o m apos) (e :: es) [] cpos) τ := by
  obtain ⟨f, fd, ps, _, F, hM, hb⟩ := F.ex
  refine .of (pe_meth pe_w c hM F hr hb .nil pass0 pa_w hst hpl ht) fun σ H g => ho.use g fun v H1 s1 q1 => ?_
  obtain ⟨S, dx, fs, rfl, h2, h3⟩ := id q1
  refine ⟨S, dx, fs, rfl, h2, h3.none_ hm, ha.use (g.up s1) fun vs H2 s2 q2 => ?_⟩
  exact ⟨_, τ, h, by rw [List.append_nil]; exact .cons ((awT C l).up s2 q1) q2, fun v H' s3 q => ⟨s1.trans (s2.trans s3), q⟩⟩
theorem ev_meth0 {R : List Ty → Ty → Prop} (ho : EV X Γ o (awT C l)) (c : Cls X.K C) (F : MetS X.prog X.w X.K X.mg X.base C m n k (spF R)) (hr : Room k X.A) (hm : l.lookup m = none) (h : R [awT C l] τ) {pl : Sem Bool}
    (ht : eval (.Call (.Attribute o m apos) [] [] cpos) X.env = (do
      let ov ← eval o X.env
      standAt apos.atName
      let (f, first) ← holding [ov] (getMethod ov m pl)
      callWith cpos f first (backTo cpos (starEach [] X.env)) (backToKw cpos (keywordEach [] X.env))) := by rfl) : EV X Γ (.Call (.Attribute o m apos) [] [] cpos) τ := by
  obtain ⟨f, fd, ps, _, F, hM, hb⟩ := F.ex
  refine .of (pe_meth0 pe_w c hM F hr hb .nil pass0 ht) fun σ H g => ho.use g fun v H1 s1 q1 => ?_
  obtain ⟨S, dx, fs, rfl, h2, h3⟩ := id q1
  refine ⟨S, dx, fs, rfl, h2, h3.none_ hm, ?_⟩
  exact ⟨_, τ, h, .cons q1 .nil, fun v H' s3 q => ⟨s1.trans s3, q⟩⟩
end
end EC

set_option Elab.async false
set_option linter.all false
set_option maxRecDepth 100000
set_option maxHeartbeats 4000000
/-! EcK2: moments, moments_behind, rounds. -/
namespace EC
open PySem PySem.Spec PyProof.Rows L2

section
variable {X : Cx} {Γ : List (Option Ty)} {σ : L2.St} {H H' H1 : Hp} {M : List Addr} {Q : VK} {pos : Pos} {x : Str} {v : V}
/-- a name whose value is known -/
theorem wE_nm (i : Nat) (g : Env Γ σ H') (hg : Γ[i]? = some (some (isV v))) (q : Q v H) (hN : X.N[i]? = some x := by rfl) (hv : Vis X.env.scope x := by first | exact .inl rfl | exact .inr (.inl rfl) | exact .inr (.inr rfl)) (hd : (x == ("__debug__" : Str)) = false := by decide)
    (hcd : (x == ("__classdict__" : Str)) = false := by decide) : wE X (.Name x pos) σ H Q := by
  obtain ⟨u, h1, h2⟩ := g.at_ i _ hg
  have e : u = v := h2
  subst e
  exact wE_of (pe_var hN hv hd hcd) ⟨u, h1, q⟩
theorem Env.forget (g : Env Γ σ H) (i : Nat) : Env (Γ.set i none) σ H := by
  refine ⟨by rw [List.length_set]; exact g.len, fun j τ e => ?_⟩
  by_cases h : i = j
  · subst h
    rw [List.getElem?_set] at e
    simp at e
  · rw [List.getElem?_set_ne h] at e
    exact g.at_ j τ e
theorem keepM (hm : Cutbs X M H) (s : Same H H1) : ∀ p ∈ M, H1 p = H p := fun p hp => by
  obtain ⟨u, h, _⟩ := hm p hp
  rw [h, s p u h]
end
theorem dpAll_snoc_inv {K : PySem.W.Frag} {H : Hp} : ∀ {acc : List V} {ds : List PyData} {d : PyData}, DpAll K H acc (ds ++ [d]) → ∃ acc' y, acc = acc' ++ [y] ∧ DpAll K H acc' ds ∧ Dp K H y d
  | _, [], d, h => by
    cases h with
    | cons h1 h2 => cases h2; exact ⟨[], _, rfl, .nil, h1⟩
  | _, e :: ds, d, h => by
    have h' : DpAll K H _ (e :: (ds ++ [d])) := h
    cases h' with
    | cons h1 h2 =>
      obtain ⟨acc', y, rfl, h3, h4⟩ := dpAll_snoc_inv h2
      exact ⟨_ :: acc', y, rfl, .cons h1 h3, h4⟩
theorem lcD_id (es : List PyData) : lcD es.length (fun _ => true) (fun k => es.getD k .none) = es := by
  unfold lcD
  rw [List.filter_eq_self.mpr (by simp)]
  apply List.ext_getElem?
  intro k
  rw [List.getElem?_map]
  by_cases h : k < es.length
  · rw [List.getElem?_range h]
    simp [List.getD_eq_getElem?_getD, h]
  · rw [List.getElem?_eq_none (by simpa using h), List.getElem?_eq_none (by simpa using h)]
    rfl

/-! ### types -/
def exT {β : Type} (S : β → Prop) (f : β → Ty) : Ty := ⟨fun H v => ∃ x, S x ∧ (f x).p H v, fun e ⟨x, h1, h2⟩ => ⟨x, h1, (f x).up e h2⟩⟩
def pairsOf (p : Prg) (m : Mom) : List PyData := (p.steps m).map fun s => .tuple [stepD s, (p.after m s).d]
def stepsT (K : PySem.W.Frag) (P : Program) (w : World) (p : Prg) (ms : List Mom) : Ty := isN K P w (ms.map fun m => (m, isD K (.list (pairsOf p m))))
def boolsT (K : PySem.W.Frag) (P : Program) (w : World) (bs : List Mom) : Ty := isN K P w (bs.map fun b => (b, isD K (.bool true)))
def behT (K : PySem.W.Frag) (P : Program) (w : World) (p : Prg) (a : Mom) : Ty := exT (fun bs : List Mom => bs.Nodup ∧ ∀ b, b ∈ bs ↔ Plus p.nx a b) (boolsT K P w)
def behsT (K : PySem.W.Frag) (P : Program) (w : World) (p : Prg) (ms : List Mom) : Ty := isN K P w (ms.map fun m => (m, behT K P w p m))
theorem pairs_zip (p : Prg) (m : Mom) : pairsOf p m = (((p.steps m).map stepD).zip ((p.nx m).map Mom.d)).map fun z => .tuple [z.1, z.2] := by
  unfold pairsOf Prg.nx
  generalize p.steps m = l
  induction l with
  | nil => rfl
  | cons s r ih =>
    simp only [List.map_cons, List.zip_cons_cons]
    rw [ih]
/-- the class -/
structure AwC (K : PySem.W.Frag) (C : Addr) : Prop where
  cls : Cls K C
  prog : NoAttr K C "held_program"
  wak : NoAttr K C "held_waking"
  steps : NoAttr K C "held_steps"
  beh : NoAttr K C "held_behind"
  most : NoAttr K C "held_most"

section
variable {P : Program} {w : World} {K : PySem.W.Frag} {mg : Str → Option Value} {base : Heap}
/-! ### moments -/
def Rmoments (K : PySem.W.Frag) (P : Program) (w : World) (C : Addr) : List Ty → Ty → Prop := fun τs τ => ∃ (l : List (Str × Ty)) (p : Prg) (ms : List Mom), l.lookup ("held_steps" : Str) = some (stepsT K P w p ms) ∧ τs = [awT C l] ∧ τ = isD K (.list ((msort ms).map Mom.d))
theorem keysOf_map {β : Type} (ms : List Mom) (f : Mom → β) : (ms.map fun m => (m, f m)).map (·.1) = ms := by
  rw [List.map_map]
  exact List.map_id' ms
theorem ev_nlistM {X : Cx} {Γ : List (Option Ty)} {a : Expr} {pos p : Pos} {ms : List Mom} {f : Mom → Ty} (hc : X.calm = true) (hmg : X.mg "list" = none) (ha : EV X Γ a (isNX X (ms.map fun m => (m, f m)))) (hg : Gl X "list" := by rfl) (hs : starEach [a] X.env = [(false, eval a X.env)] := by rfl) : EV X Γ (.Call (.Name "list" p) [a] [] pos) (isD X.K (.list (ms.map Mom.d))) := by
  have h := ev_nlist (pos := pos) (p := p) hc hmg ha hg hs
  rw [keysOf_map] at h
  exact h
abbrev NK1 : List Str := ["self"]
theorem sc_moments : FnScope NK1 ["self"] (defScope (inClass (top 36) 1)) := ⟨rfl, rfl, rfl, by decide +kernel, rfl, by decide +kernel, by decide +kernel⟩
theorem ok_moments {C : Addr} {f : Addr} {fd : FuncData} (F : Fun K "moments" "Awake.moments" (inClass (top 36) 1) f fd) (B : Bi mg) (c : AwC K C) : FnOk P w K mg base CX0 1 f fd ["self"] (spF (Rmoments K P w C)) := by
  refine fn_bd F sc_moments (fun τs τ h => by obtain ⟨_, _, _, _, rfl, _⟩ := h; rfl) fun cdv A outer s H E τs τ hr h => ?_
  obtain ⟨l, p, ms, hl, rfl, rfl⟩ := h
  have hu := hr.units
  exact bd_ret (ev_sortM (by omega) B.sorted (ev_nlistM rfl B.list (ev_fld (ev_n 0 rfl) c.cls c.steps hl)))
end
end EC

set_option Elab.async false
set_option linter.all false
set_option maxRecDepth 100000
set_option maxHeartbeats 4000000
/-! EcK3: moments_behind. -/
namespace EC
open PySem PySem.Spec PyProof.Rows L2

section
variable {X : Cx} {Γ : List (Option Ty)} {σ : L2.St} {H H' : Hp} {M : List Addr} {L d : Addr} {ds : List PyData} {m : Mom}
theorem lfs_moms (ms : List Mom) : lfs (ms.map Mom.d) = true := lfs_of fun d hd => by
  obtain ⟨m, _, rfl⟩ := List.mem_map.mp hd
  exact lf_mom m
/-- a search's loop test: anything waiting? -/
theorem wT_some {a : Expr} {Q : Bool → Hp → Prop} (ha : wE X a σ H fun v H1 => v = .ref L ∧ H1 = H) (h : Lof X.K M H L ds) (q : Q (!ds.isEmpty) H) (he : ∀ whole, isTrue a X.env whole = (do let v ← whole; standAt a.pos; holding [v] (truthy v)) := by intro _; rfl) : wT X a σ H Q := by
  refine wT_of (pt_truth pe_w he) (wE_mono ha fun v H1 ⟨e1, e2⟩ => ?_)
  subst e1 e2
  obtain ⟨acc, h1, h2⟩ := h
  refine ⟨!acc.isEmpty, .inl ⟨acc, SqL.of h1, rfl⟩, ?_⟩
  have : acc.isEmpty = ds.isEmpty := by cases h2 <;> rfl
  rw [this]
  exact q
/-- pop of what waits -/
theorem wE_popL {o : Expr} {Q : VK} {apos cpos : Pos} {x : PyData} (hL : L ∈ M) (ha : wE X o σ H fun v H1 => v = .ref L ∧ H1 = H) (h : Lof X.K M H L (ds ++ [x])) (k : ∀ y H1, cuts M H1 = cuts M H → (∀ p, p ≠ L → H1 p = H p) → Lof X.K M H1 L ds → Dp X.K (cuts M H) y x → Q y H1)
    (hb : attributeBase o "pop" X.env (eval o X.env) = eval o X.env := by rfl) (hl : (apos.endLine == cpos.line) = true := by rfl) : wE X (.Call (.Attribute o "pop" apos) [] [] cpos) σ H Q := by
  refine wE_pop (wE_mono ha fun v H1 ⟨e1, e2⟩ => ?_) hb hl
  subst e1 e2
  obtain ⟨acc, h1, h2⟩ := h
  obtain ⟨acc', y, rfl, h3, h4⟩ := dpAll_snoc_inv h2
  refine ⟨L, _, y, rfl, h1, by simp, k y _ (cuts_upd hL) (fun p hp => upd_ne hp) ⟨acc', by rw [upd_same]; simp, by rw [cuts_upd hL]; exact h3⟩ h4⟩
/-- more waits -/
theorem wE_extL {o e : Expr} {Q : VK} {apos cpos : Pos} {es : List PyData} (hm : Cutbs X M H) (hL : L ∈ M) (ha : wE X o σ H fun v H1 => v = .ref L ∧ H1 = H) (h : Lof X.K M H L ds)
    (he : wE X e σ (cuts M H) fun v H1 => Same (cuts M H) H1 ∧ ∃ q acc, v = .ref q ∧ H1 q = some (.lst acc) ∧ DpAll X.K H1 acc es) (hz : ds.length + es.length ≤ 100000)
    (k : ∀ H1, Same (cuts M H) (cuts M H1) → (∀ p ∈ M, p ≠ L → H1 p = H p) → Lof X.K M H1 L (ds ++ es) → Q .non H1)
    (hb : attributeBase o "extend" X.env (eval o X.env) = eval o X.env := by rfl) (hl : (apos.endLine == cpos.line) = true := by rfl)
    (hw : ((backTo cpos (starEach [e] X.env)).all (fun x => !x.1) && (backToKw cpos (keywordEach [] X.env)).all (fun x => x.1.isSome) && decide (([e] : List Expr).length + ([] : List Keyword).length + (if ([] : List Keyword).isEmpty then 0 else 1) < 30)) = true := by rfl)
    (hs : starEach [e] X.env = (false, eval e X.env) :: starEach [] X.env := by rfl) : wE X (.Call (.Attribute o "extend" apos) [e] [] cpos) σ H Q := by
  refine wE_extend (wE_mono ha fun v H1 ⟨e1, e2⟩ => ?_) hb hl hw hs
  subst e1 e2
  obtain ⟨acc, h1, h2⟩ := h
  refine ⟨L, rfl, ⟨acc, h1⟩, wE_frame M hm he fun y H2 h3 ⟨s, q, zs, e3, h4, h5⟩ => ?_⟩
  have hq := cuts_some h4
  have hl1 := dpAll_len h2
  have hl2 := dpAll_len h5
  have ec : cuts M (upd H2 L (.lst (acc ++ zs))) = cuts M H2 := cuts_upd hL
  refine ⟨q, acc, zs, e3, (h3 L hL).trans h1, hq.2, by rw [sizeLine_eq]; omega, k _ (by rw [ec]; exact s) (fun p hp hne => by rw [upd_ne hne]; exact h3 p hp) ⟨acc ++ zs, upd_same, ?_⟩⟩
  rw [ec]
  exact dpAll_app (dpAll_up s _ _ h2) h5
/-- d[m] = v for a typed value -/
theorem wS_putN {value o i : Expr} {D : Ends} {pos pos' : Pos} {l : List (Mom × Ty)} {τ : Ty} (hu : X.A.units + 9 < cLine) (hm : Cutbs X M H) (hd : d ∈ M) (g : Env Γ σ (cuts M H)) (hv : EV X Γ value τ) (ho : EV X Γ o (isV (.ref d))) (hi : EV X Γ i (isD X.K m.d)) (h : Nof X M H d l) (hz : l.length ≤ 100000)
    (k : ∀ H1, Same (cuts M H) (cuts M H1) → (∀ p ∈ M, p ≠ d → H1 p = H p) → Nof X M H1 d (EC.put l m τ) → Env Γ σ (cuts M H1) → D.nx σ H1) (hs : swapsWith value (some (.Subscript o i pos')) pos.line X.env = pure false := by rfl) : wS X (.Assign [.Subscript o i pos'] value pos) D σ H := by
  refine wS_nput hu (EV.useM M hv hm g fun v H1 h1 s1 g1 q1 => EV.useM M ho (hm.of h1) g1 fun u H2 h2 s2 g2 q2 => EV.useM M hi ((hm.of h1).of h2) g2 fun y H3 h3 s3 g3 q3 => ?_) hs
  have e2 : u = .ref d := q2
  subst e2
  obtain ⟨b, rfl⟩ := mom_ref q3
  have e3 : ∀ p ∈ M, H3 p = H p := fun p hp => (h3 p hp).trans ((h2 p hp).trans (h1 p hp))
  obtain ⟨xs, ep, n1, n2, n3⟩ := h.fr (e3 d hd) (s1.trans (s2.trans s3))
  refine ⟨d, xs, ep, m, b, rfl, rfl, n1, nkeys_up cuts_same n2, dp_up cuts_same _ _ q3, by rw [sizeLine_eq, n3.len]; omega, fun ep' => ?_⟩
  have ec : cuts M (upd H3 d (nD X.prog X.w d (putX xs m b v) ep')) = cuts M H3 := cuts_upd hd
  refine k _ (by rw [ec]; exact s1.trans (s2.trans s3)) (fun p hp hne => by rw [upd_ne hne]; exact e3 p hp) ⟨_, ep', upd_same, by rw [ec]; exact n2.put q3, ?_⟩ (by rw [ec]; exact g3)
  rw [ec]
  exact n3.put_ (τ.up (s2.trans s3) q1)
/-- the moments after the steps that a table tells -/
theorem wE_afters {p : Prg} {ms : List Mom} {e i : Expr} {x y z : Str} {px py tp ep ip pos : Pos} {kk : Nat} {scope : Scope} (hu : X.A.units + 9 < cLine) (hc : X.calm = true) (hN : X.N.Nodup) (j1 j2 : Nat) (own : List (Str × Nat)) (ho : own.map (·.2) = [j1, j2]) (ok : BlkOk X.N X.env.scope scope own)
    (hp : p.Ok) (hm : p.MomOk m) (hmem : m ∈ ms) (he : EV X Γ e (stepsT X.K X.prog X.w p ms)) (hi : EV X Γ i (isD X.K m.d)) (hix : PlainIx i) (g : Env Γ σ H) (hlt : j2 < Γ.length)
    (hg : ∀ s H C cl fp, PG (bx X scope s H C cl fp) (.Tuple [.Name x px, .Name y py] kk tp) (gTup X.K 2 (gCons (gName j1) (gCons (gName j2) gNil))))
    (hy : ∀ s H C cl fp (i : Nat), EV (bx X scope s H C cl fp) (Γ2 Γ j1 j2 (isD X.K (((p.steps m).map stepD).getD i .none)) (isD X.K (((p.nx m).map Mom.d).getD i .none))) (.Name z pos) (isD X.K (((p.nx m).map Mom.d).getD i .none)))
    {Q : VK} (k : ∀ D acc H', Same H H' → H D = none → H' D = some (.lst acc) → DpAll X.K H' acc ((p.nx m).map Mom.d) → Q (.ref D) H') (hs : ∀ x, foldedSetIterable (.Subscript e i ep) X.env x = pure x := by intro _; rfl) :
    wE X (.ListComp (.Name z pos) [⟨.Tuple [.Name x px, .Name y py] kk tp, .Subscript e i ep, [], 0⟩] scope ip) σ H Q := by
  have hl := nx_len hp hm
  have hl2 := steps_len hp hm
  have src : Src X Γ (.Tuple [.Name x px, .Name y py] kk tp) (.Subscript e i ep) scope (own.map (·.2)) ((p.steps m).map stepD).length fun k => Γ2 Γ j1 j2 (isD X.K (((p.steps m).map stepD).getD k .none)) (isD X.K (((p.nx m).map Mom.d).getD k .none)) := by
    rw [ho]
    refine src_lst2 j1 j2 (by simp [Prg.nx]) ?_ hg
    have h1 := ev_nget (pos := ep) hu he hi (look_self (fun m => isD X.K (.list (pairsOf p m))) hmem) hix
    rw [pairs_zip] at h1
    exact h1
  have eq : lcD ((p.steps m).map stepD).length (fun _ => true) (fun k => ((p.nx m).map Mom.d).getD k .none) = (p.nx m).map Mom.d := by
    have : ((p.steps m).map stepD).length = ((p.nx m).map Mom.d).length := by simp [Prg.nx]
    rw [this]
    exact lcD_id _
  refine wE_lc own hc hN ok src (fun _ _ _ _ _ _ _ => ets_nil) (b := fun _ => true) (f := fun k => ((p.nx m).map Mom.d).getD k .none) (fun s H C cl fp i _ _ => hy s H C cl fp i) (fun i hi' _ => ?_) (by simp; omega) g (fun D acc H' s1 s2 s3 s4 => k D acc H' s1 s2 s3 (by rw [← eq]; exact s4)) hs
  rw [List.getD_eq_getElem?_getD, List.getElem?_map]
  cases (p.nx m)[i]? with
  | none => rfl
  | some b => exact lf_mom b
/-! ### statements of a search, as they come -/
theorem Nof.fr2 {M' : List Addr} {H1 : Hp} {l : List (Mom × Ty)} (h : Nof X M H d l) (e : H1 d = H d) (s : Same (cuts M H) (cuts M' H1)) : Nof X M' H1 d l := let ⟨xs, ep, h1, h2, h3⟩ := h; ⟨xs, ep, e.trans h1, nkeys_up s h2, nvals_up s h3⟩
theorem Lof.fr2 {K : PySem.W.Frag} {M' : List Addr} {H1 : Hp} (h : Lof K M H L ds) (e : H1 L = H L) (s : Same (cuts M H) (cuts M' H1)) : Lof K M' H1 L ds := let ⟨acc, h1, h2⟩ := h; ⟨acc, e.trans h1, dpAll_up s _ _ h2⟩
/-- x = {} -/
theorem wS_newN {D : Ends} {x : Str} {p p2 pos : Pos} (j : Nat) (hN : X.N.Nodup) (hm : Cutbs X M H) (g : Env Γ σ (cuts M H))
    (k : ∀ d H1, d ∉ M → H d = none → cuts (d :: M) H1 = cuts M H → (∀ p ∈ M, H1 p = H p) → Nof X (d :: M) H1 d [] → Env (Γ.set j (some (isV (.ref d)))) (σ.set j (some (.ref d))) (cuts (d :: M) H1) → D.nx (σ.set j (some (.ref d))) H1)
    (hi : X.N[j]? = some x := by rfl) (hx : Loc X.env.scope x := by first | exact .inl rfl | exact .inr rfl) (hs : swapsWith (.Dict [] [] p2) (some (.Name x p)) pos.line X.env = pure false := by rfl)
    (hf : X.fn x = true ∨ X.env.scope.names.lookup x = some .local := by first | exact .inl rfl | exact .inr rfl) : wS X (.Assign [.Name x p] (.Dict [] [] p2) pos) D σ H := by
  refine wS_set j hN (wE_nnew fun d hd => ?_) hi hx hs hf
  have hdM : d ∉ M := fun z => by
    obtain ⟨u, h1, _⟩ := hm d z
    rw [hd] at h1; cases h1
  have ec : cuts (d :: M) (upd H d (nD X.prog X.w d [] 0)) = cuts M H := cuts_add hd
  refine k d _ hdM hd ec (fun p hp => upd_ne fun e => hdM (e ▸ hp)) ⟨[], 0, upd_same, (fun x hx => by cases hx), .nil⟩ ?_
  rw [ec]
  exact g.set j rfl
/-- y = [after for step, after in e[i]] -/
theorem wS_aftersL {D : Ends} {p : Prg} {ms : List Mom} {e i : Expr} {v x y z : Str} {pv px py tp ep ip pos spos : Pos} {kk : Nat} {scope : Scope} (jj : Nat) (hu : X.A.units + 9 < cLine) (hc : X.calm = true) (hN : X.N.Nodup) (j1 j2 : Nat) (own : List (Str × Nat)) (ho : own.map (·.2) = [j1, j2]) (ok : BlkOk X.N X.env.scope scope own)
    (hp : p.Ok) (hmo : p.MomOk m) (hmem : m ∈ ms) (he : EV X Γ e (stepsT X.K X.prog X.w p ms)) (hi : EV X Γ i (isD X.K m.d)) (hix : PlainIx i) (hm : Cutbs X M H) (g : Env Γ σ (cuts M H))
    (hg : ∀ s H C cl fp, PG (bx X scope s H C cl fp) (.Tuple [.Name x px, .Name y py] kk tp) (gTup X.K 2 (gCons (gName j1) (gCons (gName j2) gNil))))
    (hy : ∀ s H C cl fp (i : Nat), EV (bx X scope s H C cl fp) (Γ2 Γ j1 j2 (isD X.K (((p.steps m).map stepD).getD i .none)) (isD X.K (((p.nx m).map Mom.d).getD i .none))) (.Name z pos) (isD X.K (((p.nx m).map Mom.d).getD i .none)))
    (k : ∀ L H1, L ∉ M → H L = none → (∀ p ∈ M, H1 p = H p) → Same (cuts M H) (cuts (L :: M) H1) → Lof X.K (L :: M) H1 L ((p.nx m).map Mom.d) → Env (Γ.set jj (some (isV (.ref L)))) (σ.set jj (some (.ref L))) (cuts (L :: M) H1) → D.nx (σ.set jj (some (.ref L))) H1)
    (hyv : X.N[jj]? = some v := by rfl) (hyl : X.env.scope.names.lookup v = some .local := by rfl)
    (hsw : swapsWith (.ListComp (.Name z pos) [⟨.Tuple [.Name x px, .Name y py] kk tp, .Subscript e i ep, [], 0⟩] scope ip) (some (.Name v pv)) spos.line X.env = pure true := by exact sw_true rfl rfl rfl (by decide +kernel)) (hs : ∀ x, foldedSetIterable (.Subscript e i ep) X.env x = pure x := by intro _; rfl) :
    wS X (.Assign [.Name v pv] (.ListComp (.Name z pos) [⟨.Tuple [.Name x px, .Name y py] kk tp, .Subscript e i ep, [], 0⟩] scope ip) spos) D σ H := by
  have hl := nx_len hp hmo
  have hl2 := steps_len hp hmo
  have src : Src X Γ (.Tuple [.Name x px, .Name y py] kk tp) (.Subscript e i ep) scope (own.map (·.2)) ((p.steps m).map stepD).length fun k => Γ2 Γ j1 j2 (isD X.K (((p.steps m).map stepD).getD k .none)) (isD X.K (((p.nx m).map Mom.d).getD k .none)) := by
    rw [ho]
    refine src_lst2 j1 j2 (by simp [Prg.nx]) ?_ hg
    have h1 := ev_nget (pos := ep) hu he hi (look_self (fun m => isD X.K (.list (pairsOf p m))) hmem) hix
    rw [pairs_zip] at h1
    exact h1
  have eq : lcD ((p.steps m).map stepD).length (fun _ => true) (fun k => ((p.nx m).map Mom.d).getD k .none) = (p.nx m).map Mom.d := by
    have : ((p.steps m).map stepD).length = ((p.nx m).map Mom.d).length := by simp [Prg.nx]
    rw [this]
    exact lcD_id _
  refine wS_frameN (N := fun σ' H' => ∃ L acc, σ' = σ.set jj (some (.ref L)) ∧ Same (cuts M H) H' ∧ cuts M H L = none ∧ H' L = some (.lst acc) ∧ DpAll X.K H' acc ((p.nx m).map Mom.d)) M hm ?_ fun σ' H1 hM hn => ?_
  · refine wS_setLc jj own hc hN ok src (fun _ _ _ _ _ _ _ => ets_nil) (b := fun _ => true) (f := fun k => ((p.nx m).map Mom.d).getD k .none) (fun s H C cl fp i _ _ => hy s H C cl fp i) (fun i hi' _ => ?_) (by simp; omega) g (fun L acc H' s1 s2 s3 s4 => ⟨L, acc, rfl, s1, s2, s3, by rw [← eq]; exact s4⟩) hyv hyl hsw hs
    rw [List.getD_eq_getElem?_getD, List.getElem?_map]
    cases (p.nx m)[i]? with
    | none => rfl
    | some b => exact lf_mom b
  · obtain ⟨L, acc, rfl, s1, s2, s3, s4⟩ := hn
    obtain ⟨hLM, hL⟩ := cuts_some s3
    have hL0 : H L = none := (cuts_out (H := H) hLM).symm.trans s2
    have sx : Same (cuts M H) (cuts (L :: M) H1) := by rw [cuts_cons]; exact same_cuts1 s1 s2
    have hb : Cutbs X [L] (cuts M H1) := Cutbs.one ⟨_, s3, .inl ⟨acc, rfl⟩⟩
    refine k L H1 hLM hL0 hM sx ⟨acc, hL, ?_⟩ ((g.up sx).set jj rfl)
    rw [cuts_cons]
    exact dpAll_imm (cutbs_tup hb) _ _ (lfs_moms _) s4
/-- x = w.pop() -/
theorem wS_popL {D : Ends} {o : Expr} {x : Str} {pp apos cpos pos : Pos} {dx : PyData} (j : Nat) (hN : X.N.Nodup) (hL : L ∈ M) (ha : wE X o σ H fun v H1 => v = .ref L ∧ H1 = H) (h : Lof X.K M H L (ds ++ [dx])) (g : Env Γ σ (cuts M H))
    (k : ∀ y H1, cuts M H1 = cuts M H → (∀ p, p ≠ L → H1 p = H p) → Lof X.K M H1 L ds → Env (Γ.set j (some (isD X.K dx))) (σ.set j (some y)) (cuts M H1) → D.nx (σ.set j (some y)) H1)
    (hb : attributeBase o "pop" X.env (eval o X.env) = eval o X.env := by rfl) (hl : (apos.endLine == cpos.line) = true := by rfl)
    (hi : X.N[j]? = some x := by rfl) (hx : Loc X.env.scope x := by first | exact .inl rfl | exact .inr rfl) (hs : swapsWith (.Call (.Attribute o "pop" apos) [] [] cpos) (some (.Name x pp)) pos.line X.env = pure false := by rfl)
    (hf : X.fn x = true ∨ X.env.scope.names.lookup x = some .local := by first | exact .inl rfl | exact .inr rfl) : wS X (.Assign [.Name x pp] (.Call (.Attribute o "pop" apos) [] [] cpos) pos) D σ H := by
  refine wS_set j hN (wE_popL hL ha h (fun y H1 h1 h2 h3 h4 => k y H1 h1 h2 h3 ?_) hb hl) hi hx hs hf
  rw [h1]
  exact g.set j h4
end
end EC

set_option Elab.async false
set_option linter.all false
set_option maxRecDepth 100000
set_option maxHeartbeats 4000000
/-! EcK4: moments_behind. -/
namespace EC
open PySem PySem.Spec PyProof.Rows L2

/-- some moments, closed under steps -/
structure Clo (p : Prg) (ms : List Mom) : Prop where
  ok : p.Ok
  mom : ∀ m ∈ ms, p.MomOk m
  cl : ∀ m ∈ ms, ∀ a ∈ p.nx m, a ∈ ms
  len : ms.length ≤ 30
  nd : ms.Nodup
theorem Clo.rch {p : Prg} {ms : List Mom} (c : Clo p ms) {a b : Mom} (h : Rch p.nx a b) (ha : a ∈ ms) : b ∈ ms := by
  induction h with
  | refl => exact ha
  | snoc _ e ih => exact c.cl _ ih _ e
theorem Dfs.sub {p : Prg} {ms S held wait : List Mom} (c : Clo p ms) (d : Dfs p.nx S held wait) (hS : ∀ s ∈ S, s ∈ ms) : (∀ m ∈ held, m ∈ ms) ∧ ∀ m ∈ wait, m ∈ ms :=
  ⟨fun m h => let ⟨s, hs, r⟩ := d.rh m h; c.rch r (hS s hs), fun m h => let ⟨s, hs, r⟩ := d.rw_ m h; c.rch r (hS s hs)⟩
theorem dmeas_start {p : Prg} {ms S : List Mom} (c : Clo p ms) (hS : S.length ≤ 10) : dmeas ms 10 [] S ≤ 400 := by
  unfold dmeas
  have h1 : (ms.filter fun x => decide (x ∉ ([] : List Mom))).length ≤ ms.length := List.length_filter_le _ _
  have := c.len
  omega
section
variable {P : Program} {w : World} {K : PySem.W.Frag} {mg : Str → Option Value} {base : Heap}
def Rbehind (K : PySem.W.Frag) (P : Program) (w : World) (C : Addr) : List Ty → Ty → Prop := fun τs τ => ∃ (l : List (Str × Ty)) (p : Prg) (ms : List Mom) (a : Mom), l.lookup ("held_steps" : Str) = some (stepsT K P w p ms) ∧ Clo p ms ∧ a ∈ ms ∧ τs = [awT C l, isD K a.d] ∧ τ = behT K P w p a
abbrev NK2 : List Str := ["self", "first", "found", "waiting", "moment", "step", "after"]
theorem sc_behind : FnScope NK2 ["self", "first"] (defScope (inClass (top 36) 2)) := ⟨rfl, rfl, rfl, by decide +kernel, rfl, by decide +kernel, by decide +kernel⟩
theorem trues_put {β : Type} {held : List Mom} {m : Mom} {y : β} (h : m ∉ held) : EC.put (held.map fun b => (b, y)) m y = (held ++ [m]).map fun b => (b, y) := by
  rw [put_new (by rw [keysOf_map]; exact h), List.map_append]
  rfl
abbrev X2 (P : Program) (w : World) (K : PySem.W.Frag) (mg : Str → Option Value) (base : Heap) (f : Addr) (cdv : Value) (A : Around) (outer : List PySem.Env) (s : Shared) (H : Hp) (E : XK) : Cx := cx P w K mg base NK2 "Awake.moments_behind" (inClass (top 36) 2) f cdv A outer s H E
theorem ok_behind {C : Addr} {f : Addr} {fd : FuncData} (F : Fun K "moments_behind" "Awake.moments_behind" (inClass (top 36) 2) f fd) (c : AwC K C) : FnOk P w K mg base CX0 1 f fd ["self", "first"] (spF (Rbehind K P w C)) := by
  refine fn_bd F sc_behind (fun τs τ h => by obtain ⟨_, _, _, _, _, _, _, rfl, _⟩ := h; rfl) fun cdv A outer s H E τs τ hr h => ⟨fun σ H0 D g0 kD => ?_⟩
  obtain ⟨l, p, ms, a, hl, clo, ha, rfl, rfl⟩ := h
  have nd := sc_behind.nd
  have hu : (X2 P w K mg base f cdv A outer s H E).A.units + 64 < cLine := hr.units
  have hu9 : (X2 P w K mg base f cdv A outer s H E).A.units + 9 < cLine := by omega
  have hb0 : Cutbs (X2 P w K mg base f cdv A outer s H E) [] H0 := fun p hp => by cases hp
  have g0' : Env (startΓ NK2 [awT C l, isD K a.d]) σ (cuts [] H0) := by rw [cuts_nil]; exact g0
  refine wB_cons (wS_newN 2 nd hb0 g0' fun d H1 _ hd0 ec1 _ n1 g1 => ?_)
  have hbl : ∀ sH : Str → Bool, True := fun _ => trivial
  refine wB_cons (wS_aftersL (m := a) (ms := ms) (p := p) 3 hu9 rfl nd 5 6 [("step", 5), ("after", 6)] rfl (blkOk_by (N := NK2) (sc := defScope (inClass (top 36) 2)) (by decide +kernel)) clo.ok (clo.mom a ha) ha (ev_fld (ev_n 0 rfl) c.cls c.steps hl) (ev_n 1 rfl) (by intro _ _; rfl) (Cutbs.one n1.cutb) g1
    (fun _ _ _ _ _ => pg_tup rfl (pgs_cons (pg_name nd rfl (.inl rfl)) (pgs_cons (pg_name nd rfl (.inl rfl)) pgs_nil))) (fun _ _ _ _ _ i => ev_n 6 rfl) fun L H2 hLM hL0 h2 s2 l2 g2 => ?_)
  have n2 : Nof (X2 P w K mg base f cdv A outer s H E) [L, d] H2 d [] := n1.fr2 (h2 d (by simp)) s2
  have e12 : Same H0 (cuts [L, d] H2) := by
    have z : Same (cuts [d] H1) (cuts [L, d] H2) := s2
    rw [ec1, cuts_nil] at z
    exact z
  refine wB_cons (wS_while ⟨fun k σ' H' => ∃ held wait, k = dmeas ms 10 held wait ∧ k ≤ 400 ∧ Dfs p.nx (p.nx a) held wait ∧ Nof (X2 P w K mg base f cdv A outer s H E) [L, d] H' d (held.map fun b => (b, isD K (.bool true))) ∧ Lof K [L, d] H' L (wait.map Mom.d) ∧
    Env [some (awT C l), some (isD K a.d), some (isV (.ref d)), some (isV (.ref L)), none, none, none] σ' (cuts [L, d] H') ∧ Same H0 (cuts [L, d] H'), ⟨_, [], p.nx a, rfl, dmeas_start clo (nx_len clo.ok (clo.mom a ha)), Dfs.start _, n2, l2, g2, e12⟩, ?_⟩)
  rintro k σ' H' ⟨held, wait, rfl, hk, dfs, nn, ll, gg, ss⟩
  have hcut : Cutbs (X2 P w K mg base f cdv A outer s H E) [L, d] H' := Cutbs.two ll.cutb nn.cutb
  refine wT_some (wE_nm 3 gg rfl ⟨rfl, rfl⟩) ll ?_
  rcases List.eq_nil_or_concat wait with rfl | ⟨wait', m, rfl⟩
  · -- all found
    refine iteF (wB_one (wS_ret (wE_nm 2 gg rfl ?_)))
    refine kD _ _ (ss.trans cuts_same) ⟨held, ⟨dfs.nd, fun b => ?_⟩, nn.ty⟩
    rw [dfs.done]
    exact ⟨fun ⟨x, h1, h2⟩ => ⟨x, h1, h2⟩, fun ⟨x, h1, h2⟩ => ⟨x, h1, h2⟩⟩
  · rw [List.concat_eq_append] at *
    rw [List.map_append] at ll
    have em : (!(List.map Mom.d (wait' ++ [m])).isEmpty) = true := by simp
    rw [em]
    have sub := dfs.sub clo (fun x hx => clo.cl a ha x hx)
    have hmm : m ∈ ms := sub.2 m (by simp)
    refine iteT ⟨fun σ2 H2 => ∃ m', m' < dmeas ms 10 held (wait' ++ [m]) ∧ _, fun σ2 H2 h => h, ?_⟩
    refine wB_cons (wS_popL 4 nd (by simp) (wE_nm 3 gg rfl ⟨rfl, rfl⟩) ll gg fun y H3 c3 h3 l3 g3 => ?_)
    have hdL : d ≠ L := fun e => hLM (by rw [e]; simp)
    have n3 : Nof (X2 P w K mg base f cdv A outer s H E) [L, d] H3 d (held.map fun b => (b, isD K (.bool true))) := nn.fr2 (h3 d hdL) (by rw [c3]; exact Same.refl _)
    have ss3 : Same H0 (cuts [L, d] H3) := by rw [c3]; exact ss
    have hlen : held.length ≤ 30 := Nat.le_trans (nodup_le dfs.nd sub.1) clo.len
    have hw' : (wait' ++ [m]).length ≤ 400 := Nat.le_trans dmeas_le hk
    refine wB_one (wS_if ((et_nnotin hu9 (ev_n 4 rfl) (ev_n 2 rfl)).use ((g3.up cuts_same).re 2 rfl n3.ty) fun H4 s4 => ?_))
    have hc3 : Cutbs (X2 P w K mg base f cdv A outer s H E) [L, d] H3 := Cutbs.two l3.cutb n3.cutb
    have k4 := keepM hc3 s4
    have n4 := n3.fr (k4 d (by simp)) (cuts_mono s4)
    have l4 := l3.fr (k4 L (by simp)) (cuts_mono s4)
    have g4 := g3.up (cuts_mono s4)
    have ss4 := ss3.trans (cuts_mono s4)
    rw [keysOf_map]
    by_cases hmh : m ∈ held
    · rw [decide_eq_true hmh]
      refine iteF (wB_nil ?_)
      exact ⟨_, dmeas_skip, held, wait', rfl, Nat.le_trans (Nat.le_of_lt dmeas_skip) hk, dfs.skip hmh, n4, l4, g4.forget 4, ss4⟩
    · rw [decide_eq_false hmh]
      have hc4 : Cutbs (X2 P w K mg base f cdv A outer s H E) [L, d] H4 := hc3.of k4
      refine iteT (wB_cons (wS_putN hu9 hc4 (by simp) g4 ev_bl (ev_n 2 rfl) (ev_n 4 rfl) n4 (by simp; omega) fun H5 s5 h5 n5 g5 => ?_))
      have l5 : Lof K [L, d] H5 L (wait'.map Mom.d) := l4.fr (h5 L (by simp) (Ne.symm hdL)) s5
      have hlx := nx_len clo.ok (clo.mom m hmm)
      refine wB_one (wS_expr (wE_extL (Cutbs.two l5.cutb n5.cutb) (by simp) (wE_nm 3 g5 rfl ⟨rfl, rfl⟩) l5
        (wE_afters (m := m) (ms := ms) (p := p) hu9 rfl nd 5 6 [("step", 5), ("after", 6)] rfl (blkOk_by (N := NK2) (sc := defScope (inClass (top 36) 2)) (by decide +kernel)) clo.ok (clo.mom m hmm) hmm (ev_fld (ev_n 0 rfl) c.cls c.steps hl) (ev_n 4 rfl) (by intro _ _; rfl) g5 (by simp)
          (fun _ _ _ _ _ => pg_tup rfl (pgs_cons (pg_name nd rfl (.inl rfl)) (pgs_cons (pg_name nd rfl (.inl rfl)) pgs_nil))) (fun _ _ _ _ _ i => ev_n 6 rfl) (fun q acc H' q1 q2 q3 q4 => ⟨q1, q, acc, rfl, q3, q4⟩)) (by simp at hw' ⊢; omega) fun H6 s6 h6 l6 => ?_))
      have n5' : Nof (X2 P w K mg base f cdv A outer s H E) [L, d] H5 d ((held ++ [m]).map fun b => (b, isD K (.bool true))) := by rw [← trues_put hmh]; exact n5
      rw [← List.map_append] at l6
      exact ⟨_, dmeas_visit hmm hmh hlx, held ++ [m], wait' ++ p.nx m, rfl, Nat.le_trans (Nat.le_of_lt (dmeas_visit hmm hmh hlx)) hk, dfs.visit hmh, n5'.fr (h6 d (by simp) hdL) s6, l6, (g5.up s6).forget 4, ss4.trans (s5.trans s6)⟩
end
end EC

set_option Elab.async false
set_option linter.all false
set_option maxRecDepth 100000
set_option maxHeartbeats 4000000
/-! EcK5: rounds, most_key, fall_key. -/
namespace EC
open PySem PySem.Spec PyProof.Rows L2

section
variable {X : Cx} {Γ : List (Option Ty)} {a b : Expr} {pos : Pos} {τ : Ty} {m : Mom} {β : Type} {S : β → Prop} {f : β → Ty}
theorem ev_ngetX (hu : X.A.units + 9 < cLine) (ha : EV X Γ a (exT S f)) (hb : EV X Γ b (isD X.K m.d)) (hS : ∀ x, S x → ∃ l, f x = isNX X l ∧ look l m = some τ) (hs : PlainIx b := by intro _ _; rfl) : EV X Γ (.Subscript a b pos) τ :=
  .of (pe_ix (ix_n hu) pe_w pe_w hs) fun σ H g => ha.use g fun v H1 s1 q1 => hb.use (g.up s1) fun u H2 s2 q2 => by
    obtain ⟨x, h1, h2⟩ := q1
    obtain ⟨l, e, hl⟩ := hS x h1
    rw [e] at h2
    obtain ⟨d, xs, ep, rfl, hr, hk, hv⟩ := (isNX X l).up s2 h2
    obtain ⟨k, rfl⟩ := mom_ref q2
    obtain ⟨b', v, h3, h4⟩ := hv.some_ hl
    exact ⟨d, xs, ep, k, m, b', v, rfl, rfl, hr, hk, q2, h3, s1.trans s2, h4⟩
theorem ev_ixX {i : Int} {d : PyData} (ha : EV X Γ a (exT S f)) (hb : EV X Γ b (isD X.K (.int i))) (hS : ∀ x, S x → ∃ ds, f x = isD X.K (.tuple ds) ∧ atI ds i = some d) (hs : PlainIx b := by intro _ _; rfl) : EV X Γ (.Subscript a b pos) (isD X.K d) :=
  .of (pe_ix ix_tup pe_w pe_w hs) fun σ H g => ha.use g fun v H1 s1 q1 => hb.use (g.up s1) fun u H2 s2 q2 => by
    obtain ⟨x, h1, h2⟩ := q1
    obtain ⟨ds, e, hd⟩ := hS x h1
    rw [e] at h2
    obtain ⟨p, xs, rfl, hq, hx⟩ := dp_tup h2
    obtain ⟨v, h3, h4⟩ := dpAll_atI (dpAll_up s2 _ _ hx) hd
    exact ⟨p, xs, i, v, rfl, dp_int q2, sqT_up s2 hq, h3, s1.trans s2, h4⟩
theorem et_ninX {k : Bool} (hu : X.A.units + 9 < cLine) (ha : EV X Γ a (isD X.K m.d)) (hb : EV X Γ b (exT S f)) (hS : ∀ x, S x → ∃ l, f x = isNX X l ∧ decide (m ∈ l.map (·.1)) = k) (hm : behindInMarks .In b = false := by rfl) : ET X Γ (.Compare a [.In] [b] pos) k :=
  .of (pt_cmpR (op_inN hu) pe_w pe_w hm) fun σ H g => ha.use g fun v H1 s1 q1 => hb.use (g.up s1) fun u H2 s2 q2 => by
    obtain ⟨x, h1, h2⟩ := q2
    obtain ⟨l, e, hk⟩ := hS x h1
    rw [e] at h2
    exact inN_of (σ := σ) ((isD X.K m.d).up s2 q1) h2 ⟨_, rfl, s1.trans s2, by rw [Bool.false_xor]; exact hk⟩
end
open Classical in
noncomputable def plusB (p : Prg) (a b : Mom) : Bool := decide (Plus p.nx a b)
noncomputable def roundsOf (p : Prg) (ms : List Mom) : List Mom := (msort ms).filter fun m => plusB p m m
theorem plusB_iff {p : Prg} {a b : Mom} : plusB p a b = true ↔ Plus p.nx a b := by unfold plusB; simp
theorem mem_rounds {p : Prg} {ms : List Mom} {m : Mom} : m ∈ roundsOf p ms ↔ m ∈ ms ∧ Plus p.nx m m := by
  unfold roundsOf
  rw [List.mem_filter, mem_msort, plusB_iff]
def m0 : Mom := ⟨0, [], 0, []⟩
theorem momAt {ms : List Mom} {i : Nat} (h : i < ms.length) : ms[i]? = some (ms.getD i m0) := by rw [List.getD_eq_getElem?_getD, List.getElem?_eq_getElem h]; rfl
theorem momD {ms : List Mom} {i : Nat} (h : i < ms.length) : (ms.map Mom.d).getD i .none = (ms.getD i m0).d := by
  rw [List.getD_eq_getElem?_getD, List.getElem?_map, momAt h]
  rfl
def pairT (K : PySem.W.Frag) (o : Option Nat) : Ty := exT (fun pv : PyData => lf pv = true) fun pv => isD K (.tuple [keyO o, pv])
def mostsT (K : PySem.W.Frag) (P : Program) (w : World) (ms : List Mom) (mo : Mom → Option Nat) : Ty := exT (fun mk : List Mom => ∀ m ∈ ms, m ∈ mk) fun mk => isN K P w (mk.map fun m => (m, pairT K (mo m)))
/-- the key of the greatest width -/
def fallO (o : Option Nat) (c : Nat) : Option Nat := o.map fun n => n + c - 1
section
variable {P : Program} {w : World} {K : PySem.W.Frag} {mg : Str → Option Value} {base : Heap}
def Rrounds (K : PySem.W.Frag) (P : Program) (w : World) (C : Addr) : List Ty → Ty → Prop := fun τs τ => ∃ (l : List (Str × Ty)) (p : Prg) (ms : List Mom), l.lookup ("held_steps" : Str) = some (stepsT K P w p ms) ∧ l.lookup ("held_behind" : Str) = some (behsT K P w p ms) ∧ l.lookup ("moments" : Str) = none ∧ ms.length ≤ 30 ∧ τs = [awT C l] ∧ τ = isD K (.list ((roundsOf p ms).map Mom.d))
abbrev NK3 : List Str := ["self", "moment"]
theorem sc_rounds : FnScope NK3 ["self"] (defScope (inClass (top 36) 3)) := ⟨rfl, rfl, rfl, by decide +kernel, rfl, by decide +kernel, by decide +kernel⟩
theorem ok_rounds {C : Addr} {f : Addr} {fd : FuncData} (F : Fun K "rounds" "Awake.rounds" (inClass (top 36) 3) f fd) (c : AwC K C) (c1 : MetS P w K mg base C "moments" 1 1 (spF (Rmoments K P w C))) : FnOk P w K mg base CX0 2 f fd ["self"] (spF (Rrounds K P w C)) := by
  refine fn_bd F sc_rounds (fun τs τ h => by obtain ⟨_, _, _, _, _, _, _, rfl, _⟩ := h; rfl) fun cdv A outer s H E τs τ hr h => ?_
  obtain ⟨l, p, ms, hl, hl2, hl3, hlen, rfl, rfl⟩ := h
  have nd := sc_rounds.nd
  have hu9 := Nat.lt_of_le_of_lt (Nat.add_le_add_left (by decide : 9 ≤ 64) _) hr.units
  have hml := msort_len ms
  have e : (roundsOf p ms).map Mom.d = lcD ((msort ms).map Mom.d).length (fun i => plusB p ((msort ms).getD i m0) ((msort ms).getD i m0)) (fun i => ((msort ms).map Mom.d).getD i .none) := by
    rw [List.length_map]
    unfold roundsOf
    rw [← lcD_list m0 (msort ms) (fun m => plusB p m m) Mom.d]
    exact lcD_congr (fun i hi => rfl) (fun i hi _ => (momD hi).symm)
  rw [e]
  refine bd_ret (ev_lc [("moment", 1)] rfl nd (blkOk_by (N := NK3) (sc := defScope (inClass (top 36) 3)) (by decide +kernel)) (src_lst 1 (ev_meth0 (ev_n 0 rfl) c.cls c1 hr hl3 ⟨l, p, ms, hl, rfl, rfl⟩) (fun _ _ _ _ _ => pg_name nd rfl (.inl rfl))) (fun _ _ _ _ _ i hi => ?_) (fun _ _ _ _ _ i hi _ => ev_n 1 rfl) (fun i hi _ => ?_) (by simp; omega))
  · rw [List.length_map] at hi
    have hmem : (msort ms).getD i m0 ∈ ms := mem_msort.mp (List.mem_of_getElem? (momAt hi))
    have hit : ((msort ms).map Mom.d).getD i .none = ((msort ms).getD i m0).d := momD hi
    refine ets_one (et_ninX (m := (msort ms).getD i m0) hu9 (ev_n 1 (by rw [← hit]; rfl)) (ev_nget hu9 (ev_fld (ev_n 0 rfl) c.cls c.beh hl2) (ev_n 1 (by rw [← hit]; rfl)) (look_self (behT K P w p) hmem)) fun bs hbs => ⟨_, rfl, ?_⟩)
    rw [keysOf_map]
    by_cases h : plusB p ((msort ms).getD i m0) ((msort ms).getD i m0) = true
    · rw [h, decide_eq_true ((hbs.2 _).mpr (plusB_iff.mp h))]
    · rw [Bool.not_eq_true _ |>.mp h, decide_eq_false (fun z => h (plusB_iff.mpr ((hbs.2 _).mp z)))]
  · rw [List.length_map] at hi
    rw [momD hi]
    exact lf_mom _
def RmostKey (K : PySem.W.Frag) (P : Program) (w : World) (C : Addr) : List Ty → Ty → Prop := fun τs τ => ∃ (l : List (Str × Ty)) (ms : List Mom) (mo : Mom → Option Nat) (m : Mom), l.lookup ("held_most" : Str) = some (mostsT K P w ms mo) ∧ m ∈ ms ∧ τs = [awT C l, isD K m.d] ∧ τ = isD K (keyO (mo m))
abbrev NK5 : List Str := ["self", "moment"]
theorem sc_mostKey : FnScope NK5 NK5 (defScope (inClass (top 36) 5)) := ⟨rfl, rfl, rfl, by decide +kernel, rfl, by decide +kernel, by decide +kernel⟩
theorem ok_mostKey {C : Addr} {f : Addr} {fd : FuncData} (F : Fun K "most_key" "Awake.most_key" (inClass (top 36) 5) f fd) (c : AwC K C) : FnOk P w K mg base CX0 1 f fd NK5 (spF (RmostKey K P w C)) := by
  refine fn_bd F sc_mostKey (fun τs τ h => by obtain ⟨_, _, _, _, _, _, rfl, _⟩ := h; rfl) fun cdv A outer s H E τs τ hr h => ?_
  obtain ⟨l, ms, mo, m, hl, hm, rfl, rfl⟩ := h
  have hu := hr.units
  exact bd_ret (ev_ixX (ev_ngetX (m := m) (τ := pairT K (mo m)) (Nat.lt_of_le_of_lt (by omega) hu) (ev_fld (ev_n 0 rfl) c.cls c.most hl) (ev_n 1 rfl) fun mk hmk => ⟨_, rfl, look_self (fun m => pairT K (mo m)) (hmk m hm)⟩) ev_int fun pv _ => ⟨_, rfl, rfl⟩)
def RfallKey (K : PySem.W.Frag) (P : Program) (w : World) (C : Addr) : List Ty → Ty → Prop := fun τs τ => ∃ (l : List (Str × Ty)) (p : Prg) (ms : List Mom) (mo : Mom → Option Nat) (m : Mom), l.lookup ("held_program" : Str) = some (isD K p.d) ∧ l.lookup ("held_most" : Str) = some (mostsT K P w ms mo) ∧ l.lookup ("most_key" : Str) = none ∧ p.Ok ∧ p.MomOk m ∧ m ∈ ms ∧
  τs = [awT C l, isD K m.d] ∧ τ = isD K (if p.cst m = 0 then .none else keyO (fallO (mo m) (p.cst m)))
abbrev NK6 : List Str := ["self", "moment", "cost", "kind", "spent"]
theorem sc_fallKey : FnScope NK6 ["self", "moment"] (defScope (inClass (top 36) 6)) := ⟨rfl, rfl, rfl, by decide +kernel, rfl, by decide +kernel, by decide +kernel⟩
theorem ok_fallKey {C : Addr} {f : Addr} {fd : FuncData} (F : Fun K "fall_key" "Awake.fall_key" (inClass (top 36) 6) f fd) (c : AwC K C) (c1 : MetS P w K mg base C "most_key" 2 1 (spF (RmostKey K P w C))) (c2 : FnS P w K mg base "cost_at" 2 4 (spF (RcostAt K))) : FnOk P w K mg base CX0 5 f fd ["self", "moment"] (spF (RfallKey K P w C)) := by
  refine fn_bd F sc_fallKey (fun τs τ h => by obtain ⟨_, _, _, _, _, _, _, _, _, _, _, rfl, _⟩ := h; rfl) fun cdv A outer s H E τs τ hr h => ?_
  obtain ⟨l, p, ms, mo, m, hl1, hl2, hl3, hp, hmo, hm, rfl, rfl⟩ := h
  have nd := sc_fallKey.nd
  have hu := hr.units
  have hd : (p.ins m.pl).due = (p.cst m : Nat) := cst_eq hp hmo
  refine bd_set 2 nd (ev_call c2 hr (evs_cons (ev_fld (ev_n 0 rfl) c.cls c.prog hl1) (evs_cons (ev_ix (ev_n 1 rfl) ev_int rfl) evs_nil)) ⟨p, m.pl, hp, hmo.pl, rfl, rfl⟩) ?_
  rw [hd]
  refine bd_if (et_eqI (ev_n 2 rfl) ev_int) (fun h => ?_) (fun h => ?_)
  · have h0 : p.cst m = 0 := by have := of_decide_eq_true h; omega
    rw [if_pos h0]
    exact bd_ret ev_non
  · have h0 : ¬ p.cst m = 0 := by have := of_decide_eq_false h; omega
    rw [if_neg h0]
    cases ho : mo m with
    | none =>
      refine bd_unp2 3 4 rfl nd (ev_meth (ev_n 0 rfl) c.cls c1 (hr.mono (by decide)) hl3 (evs_cons (ev_n 1 rfl) evs_nil) ⟨l, ms, mo, m, hl2, hm, rfl, by rw [ho]; rfl⟩) ?_
      exact bd_ret (ev_tup (eds_cons (ev_n 3 rfl) (eds_cons (ev_ifE (et_eqI (ev_n 3 rfl) ev_int) (fun _ => ev_n 4 rfl) (fun h => absurd h (by decide))) eds_nil)))
    | some n =>
      refine bd_unp2 3 4 rfl nd (ev_meth (ev_n 0 rfl) c.cls c1 (hr.mono (by decide)) hl3 (evs_cons (ev_n 1 rfl) evs_nil) ⟨l, ms, mo, m, hl2, hm, rfl, by rw [ho]; rfl⟩) ?_
      have e : keyO (fallO (some n) (p.cst m)) = .tuple [.int 0, .int ((n : Int) + (p.cst m : Nat) - 1)] := by
        show PyData.tuple [.int 0, .int ((n + p.cst m - 1 : Nat) : Int)] = _
        have : ((n + p.cst m - 1 : Nat) : Int) = (n : Int) + (p.cst m : Nat) - 1 := by omega
        rw [this]
      rw [e]
      exact bd_ret (ev_tup (eds_cons (ev_n 3 rfl) (eds_cons (ev_ifE (et_eqI (ev_n 3 rfl) ev_int) (fun h => absurd h (by decide)) (fun _ => ev_sub (ev_add (ev_n 4 rfl) (ev_n 2 rfl)) ev_int)) eds_nil)))
end
end EC

set_option Elab.async false
set_option linter.all false
set_option maxRecDepth 100000
set_option maxHeartbeats 4000000
/-! EcK6: more statements beside what changes. -/
namespace EC
open PySem PySem.Spec PyProof.Rows L2

section
variable {X : Cx} {Γ : List (Option Ty)} {σ : L2.St} {H H' : Hp} {M : List Addr} {L d : Addr} {e o a b iter : Expr} {pos p2 : Pos} {τ : Ty} {D : Ends} {x : Str} {m : Mom}
/-- x = e -/
theorem wS_setM (j : Nat) (hN : X.N.Nodup) (hm : Cutbs X M H) (g : Env Γ σ (cuts M H)) (h : EV X Γ e τ)
    (k : ∀ v H1, (∀ p ∈ M, H1 p = H p) → Same (cuts M H) (cuts M H1) → Env (Γ.set j (some τ)) (σ.set j (some v)) (cuts M H1) → D.nx (σ.set j (some v)) H1)
    (hi : X.N[j]? = some x := by rfl) (hx : Loc X.env.scope x := by first | exact .inl rfl | exact .inr rfl) (hs : swapsWith e (some (.Name x p2)) pos.line X.env = pure false := by rfl)
    (hf : X.fn x = true ∨ X.env.scope.names.lookup x = some .local := by first | exact .inl rfl | exact .inr rfl) : wS X (.Assign [.Name x p2] e pos) D σ H :=
  wS_set j hN (EV.useM M h hm g fun v H1 h1 s1 g1 q1 => k v H1 h1 s1 (g1.set j q1)) hi hx hs hf
/-- .. where e looks into what changes, too: Γ' tells that; e's value holds no lists -/
theorem wS_setF {Γ' : List (Option Ty)} {dx : PyData} (j : Nat) (hN : X.N.Nodup) (hm : Cutbs X M H) (g : Env Γ σ (cuts M H)) (g' : Env Γ' σ H) (h : EV X Γ' e (isD X.K dx)) (hlf : lf dx = true)
    (k : ∀ v H1, (∀ p ∈ M, H1 p = H p) → Same (cuts M H) (cuts M H1) → Env (Γ.set j (some (isD X.K dx))) (σ.set j (some v)) (cuts M H1) → D.nx (σ.set j (some v)) H1)
    (hi : X.N[j]? = some x := by rfl) (hx : Loc X.env.scope x := by first | exact .inl rfl | exact .inr rfl) (hs : swapsWith e (some (.Name x p2)) pos.line X.env = pure false := by rfl)
    (hf : X.fn x = true ∨ X.env.scope.names.lookup x = some .local := by first | exact .inl rfl | exact .inr rfl) : wS X (.Assign [.Name x p2] e pos) D σ H :=
  wS_set j hN (h.use g' fun v H1 s1 q1 => by
    have h1 := keepM hm s1
    exact k v H1 h1 (cuts_mono s1) ((g.up (cuts_mono s1)).set j (lf_cuts (hm.of h1) hlf q1))) hi hx hs hf
/-- if over all that is known -/
theorem wS_ifF {Γ' : List (Option Ty)} {body els : List Stmt} {t : Bool} (hm : Cutbs X M H) (g' : Env Γ' σ H) (h : ET X Γ' e t) (k1 : t = true → ∀ H1, (∀ p ∈ M, H1 p = H p) → Same (cuts M H) (cuts M H1) → wB X body D σ H1) (k2 : t = false → ∀ H1, (∀ p ∈ M, H1 p = H p) → Same (cuts M H) (cuts M H1) → wB X els D σ H1) : wS X (.If e body els pos) D σ H :=
  wS_if (h.use g' fun H1 s1 => by
    have h1 := keepM hm s1
    cases t with
    | true => exact iteT (k1 rfl H1 h1 (cuts_mono s1))
    | false => exact iteF (k2 rfl H1 h1 (cuts_mono s1)))
/-- for over a list that stays, beside what changes -/
theorem wS_forM {tg : Expr} {g : TG} {body : List Stmt} {ds : List PyData} (hg : PG X tg g) (hc : X.calm = true) (hm : Cutbs X M H) (gE : Env Γ σ (cuts M H)) (hi : EV X Γ iter (isD X.K (.list ds)))
    (k : ∀ H1, (∀ p ∈ M, H1 p = H p) → Same (cuts M H) (cuts M H1) → Env Γ σ (cuts M H1) → ∃ Pv : Nat → L2.St → Hp → Prop, Pv 0 σ H1 ∧ (∀ i σ' H', Pv i σ' H' → Same (cuts M H1) H') ∧
      (∀ i dd v σ' H', ds[i]? = some dd → Dp X.K (cuts M H1) v dd → Pv i σ' H' → g v σ' H' fun σ2 H2 => wB X body { D with nx := Pv (i + 1), ct := Pv (i + 1), bk := D.nx } σ2 H2) ∧ ∀ σ' H', Pv ds.length σ' H' → D.nx σ' H')
    (hp : PassesOwn (model X.prog X.w) X.A X.env X.xe := by exact PassesOwn.never) (hs : ∀ x, foldedSetIterable iter X.env x = pure x := by intro _; rfl) : wS X (.For tg iter body [] pos) D σ H := by
  refine wS_forL hg hc (EV.useM M hi hm gE fun v H1 h1 s1 g1 q1 => ?_) hp hs
  obtain ⟨Pv, p0, ps, st, dn⟩ := k H1 h1 s1 g1
  obtain ⟨q, xs, rfl, hq, hx⟩ := dp_lst q1
  refine ⟨q, xs, Pv, rfl, p0, fun i σ' H' _ h => sqL_up (ps i σ' H' h) hq, fun i y σ' H' hy h => ?_, fun σ' H' h => dn σ' H' (by rw [← dpAll_len hx]; exact h)⟩
  obtain ⟨dd, h2, h3⟩ := dpAll_getV hx hy
  exact st i dd y σ' H' h2 h3 h
/-- the target a, b over a pair that is data -/
theorem pair_tgD {K : PySem.W.Frag} {v : V} {d1 d2 : PyData} {i j : Nat} {Q : L2.St → Hp → Prop} (h : Dp K H v (.tuple [d1, d2])) (k : ∀ y z, Dp K H y d1 → Dp K H z d2 → Q ((σ.set i (some y)).set j (some z)) H) : gTup K 2 (gCons (gName i) (gCons (gName j) gNil)) v σ H Q := by
  obtain ⟨T, zs, rfl, hT, hz⟩ := dp_tup h
  cases hz with
  | cons h1 hz =>
    cases hz with
    | cons h2 hz =>
      cases hz
      exact ⟨T, _, rfl, hT, rfl, _, _, rfl, _, _, rfl, rfl, k _ _ h1 h2⟩
/-- y = {x: v for x in e} beside what changes -/
theorem wS_dcM {y : Str} {py px spos : Pos} {ms : List Mom} {f : Mom → Ty} {kx vx : Expr} {scope : Scope} (jj : Nat) (hu : X.A.units + 8 < cLine) (j : Nat) (own : List (Str × Nat)) (ho : own.map (·.2) = [j]) (hc : X.calm = true) (hN : X.N.Nodup) (ok : BlkOk X.N X.env.scope scope own) (src : MSrc X Γ (.Name x px) iter ms)
    (hg : ∀ s H C cl fp, PG (bx X scope s H C cl fp) (.Name x px) (gName j))
    (hk : ∀ s H C cl fp m, m ∈ ms → EV (bx X scope s H C cl fp) ((wipeG Γ [j]).set j (some (isD X.K (Mom.d m)))) kx (isD X.K (Mom.d m)))
    (hv : ∀ s H C cl fp m, m ∈ ms → EV (bx X scope s H C cl fp) ((wipeG Γ [j]).set j (some (isD X.K (Mom.d m)))) vx (f m))
    (hnd : ms.Nodup) (hn : ms.length ≤ 100000) (hm : Cutbs X M H) (g : Env Γ σ (cuts M H))
    (k : ∀ d H1, d ∉ M → H d = none → (∀ p ∈ M, H1 p = H p) → Same (cuts M H) (cuts (d :: M) H1) → Nof X (d :: M) H1 d (ms.map fun m => (m, f m)) → Env (Γ.set jj (some (isV (.ref d)))) (σ.set jj (some (.ref d))) (cuts (d :: M) H1) → D.nx (σ.set jj (some (.ref d))) H1)
    (hy : X.N[jj]? = some y := by rfl) (hyl : X.env.scope.names.lookup y = some .local := by rfl)
    (hsw : swapsWith (.DictComp kx vx [⟨.Name x px, iter, [], 0⟩] scope pos) (some (.Name y py)) spos.line X.env = pure true := by exact sw_dict rfl rfl rfl (by decide +kernel)) (hs : ∀ x, foldedSetIterable iter X.env x = pure x := by intro _; rfl) :
    wS X (.Assign [.Name y py] (.DictComp kx vx [⟨.Name x px, iter, [], 0⟩] scope pos) spos) D σ H := by
  refine wS_frameN (N := fun σ' H' => ∃ d xs ep, σ' = σ.set jj (some (.ref d)) ∧ Same (cuts M H) (cuts [d] H') ∧ cuts M H d = none ∧ H' d = some (nD X.prog X.w d xs ep) ∧ NKeys X.K (cuts [d] H') xs ∧ NVals (cuts [d] H') xs (ms.map fun m => (m, f m))) M hm
    (wS_setDcN jj hu j own ho hc hN ok src hg hk hv hnd hn g (fun d xs ep H' h1 h2 h3 h4 h5 => ⟨d, xs, ep, rfl, h1, h2, h3, h4, h5⟩) hy hyl hsw hs) fun σ' H1 h1 hn => ?_
  obtain ⟨d, xs, ep, rfl, s1, s2, s3, s4, s5⟩ := hn
  obtain ⟨hdM, hd⟩ := cuts_some s3
  rw [← cuts_cons] at s1 s4 s5
  exact k d H1 hdM ((cuts_out (H := H) hdM).symm.trans s2) h1 s1 ⟨xs, ep, hd, s4, s5⟩ ((g.up s1).set jj rfl)

/-! ### d.update(d2): members joined -/
theorem put_same {β : Type} {en : List Mom} {y : β} {b : Mom} (h : b ∈ en) : EC.put (en.map fun m => (m, y)) b y = en.map fun m => (m, y) := by
  unfold EC.put putW
  rw [if_pos (look_isSome.mpr (by rw [keysOf_map]; exact h)), List.map_map]
  refine List.map_congr_left fun m _ => ?_
  by_cases e : m = b <;> simp [e]
theorem putAll_nv {K : PySem.W.Frag} {y : Ty} : ∀ {bs : List Mom} {us : NX} {en : List Mom} {xs : NX}, NVals H us (bs.map fun m => (m, y)) → NKeys K H us → NVals H xs (en.map fun m => (m, y)) → NKeys K H xs → NVals H (putAllX xs us) ((joinL en bs).map fun m => (m, y)) ∧ NKeys K H (putAllX xs us)
  | [], us, en, xs, h1, _, h3, h4 => by
    have h1' : NVals H us [] := h1
    cases h1'
    exact ⟨h3, h4⟩
  | b :: bs, us, en, xs, h1, h2, h3, h4 => by
    have h1' : NVals H us ((b, y) :: bs.map fun m => (m, y)) := h1
    cases h1' with
    | @cons u _ us _ h t =>
      obtain ⟨hk, hv⟩ := h
      have hk' : u.1 = b := hk
      have e : EC.put (en.map fun m => (m, y)) b y = (if b ∈ en then en else en ++ [b]).map fun m => (m, y) := by
        by_cases hb : b ∈ en
        · rw [if_pos hb, put_same hb]
        · rw [if_neg hb]; exact trues_put hb
      have h5 : NVals H (putX xs u.1 u.2.1 u.2.2) ((if b ∈ en then en else en ++ [b]).map fun m => (m, y)) := by
        rw [← e, hk']
        exact h3.put_ hv
      have z := putAll_nv t (fun z hz => h2 z (List.mem_cons_of_mem _ hz)) h5 (h4.put (h2 u List.mem_cons_self))
      exact z
theorem wS_updM {apos cpos : Pos} {en : List Mom} {S : List Mom → Prop} (hu : X.A.units + 9 < cLine) (hm : Cutbs X M H) (hd : d ∈ M) (g : Env Γ σ (cuts M H)) (ho : EV X Γ o (isV (.ref d))) (he : EV X Γ e (exT S (boolsT X.K X.prog X.w))) (h : Nof X M H d (en.map fun b => (b, isD X.K (.bool true)))) (hne : en ≠ []) (hz : ∀ bs, S bs → en.length + bs.length ≤ 100000)
    (k : ∀ bs H1, S bs → (∀ p ∈ M, p ≠ d → H1 p = H p) → Same (cuts M H) (cuts M H1) → Nof X M H1 d ((joinL en bs).map fun b => (b, isD X.K (.bool true))) → Env Γ σ (cuts M H1) → D.nx σ H1)
    (hb : attributeBase o "update" X.env (eval o X.env) = eval o X.env := by rfl) (hl : (apos.endLine == cpos.line) = true := by rfl)
    (hw : ((backTo cpos (starEach [e] X.env)).all (fun x => !x.1) && (backToKw cpos (keywordEach [] X.env)).all (fun x => x.1.isSome) && decide (([e] : List Expr).length + ([] : List Keyword).length + (if ([] : List Keyword).isEmpty then 0 else 1) < 30)) = true := by rfl)
    (ht : backTo cpos (starEach [e] X.env) = [(false, eval e X.env)] := by rfl) (hs : swapsWith (.Call (.Attribute o "update" apos) [e] [] cpos) none pos.line X.env = pure false := by rfl) : wS X (.Expr (.Call (.Attribute o "update" apos) [e] [] cpos) pos) D σ H := by
  refine wS_expr (wE_nupdate hu (EV.useM M ho hm g fun v H1 h1 s1 g1 q1 => ?_) hb hl hw ht) hs
  have e1 : v = .ref d := q1
  subst e1
  obtain ⟨xs, ep, n1, n2, n3⟩ := h.fr (h1 d hd) s1
  refine ⟨d, rfl, ⟨xs, ep, n1⟩, EV.useM M he (hm.of h1) g1 fun y H2 h2 s2 g2 q2 => ?_⟩
  obtain ⟨bs, hS, d2, us, ep2, rfl, r1, r2, r3⟩ := q2
  have hd2 : d ≠ d2 := by
    rintro rfl
    rcases r1 with r | ⟨ob, r⟩
    · exact absurd hd (cuts_some r).1
    · exact absurd hd (cuts_some r).1
  have n1' : H2 d = some (nD X.prog X.w d xs ep) := (h2 d hd).trans n1
  have r1' : Rd H2 d2 (nD X.prog X.w d2 us ep2) := rd_up cuts_same r1
  have hx : xs.length = en.length := by rw [n3.len, List.length_map]
  have hy : us.length = bs.length := by rw [r3.len, List.length_map]
  obtain ⟨v1, v2⟩ := putAll_nv r3 r2 (nvals_up s2 n3) (nkeys_up s2 n2)
  refine ⟨d2, xs, us, ep, ep2, rfl, n1', r1', hd2, nkeys_up cuts_same (nkeys_up s2 n2), nkeys_up cuts_same r2, fun z => ?_, by have := hz bs hS; rw [sizeLine_eq]; omega, fun ep' => ?_⟩
  · rw [z] at hx
    exact hne (List.eq_nil_of_length_eq_zero hx.symm)
  · have ec : cuts M (upd H2 d (nD X.prog X.w d (putAllX xs us) ep')) = cuts M H2 := cuts_upd hd
    exact k bs _ hS (fun p hp hne => by rw [upd_ne hne]; exact (h2 p hp).trans (h1 p hp)) (by rw [ec]; exact s1.trans s2) ⟨_, ep', upd_same, by rw [ec]; exact v2, by rw [ec]; exact v1⟩ (by rw [ec]; exact g2)

/-! ### keys compared -/
def kLt : Option Nat → Option Nat → Bool
  | none, _ => false
  | some _, none => true
  | some a, some b => decide (a < b)
theorem keyO_some (n : Nat) : keyO (some n) = .tuple [.int 0, .int (n : Nat)] := rfl
theorem keyO_none : keyO none = .tuple [.int 1, .int 0] := rfl
theorem keyO_ints (o : Option Nat) : ∃ i j : Int, keyO o = .tuple ([i, j].map PyData.int) := by
  cases o with
  | none => exact ⟨1, 0, rfl⟩
  | some n => exact ⟨0, n, rfl⟩
theorem lf_key (o : Option Nat) : lf (keyO o) = true := by cases o <;> rfl
theorem et_ltK {o1 o2 : Option Nat} (hu : X.A.units < cLine) (ha : EV X Γ a (isD X.K (keyO o1))) (hb : EV X Γ b (isD X.K (keyO o2))) : ET X Γ (.Compare a [.Lt] [b] pos) (kLt o1 o2) :=
  .of (pt_cmpR (op_ltT hu) pe_w pe_w (nomark _)) fun σ H g => ha.use g fun v H1 s1 q1 => hb.use (g.up s1) fun u H2 s2 q2 => by
    have q1' := dp_up s2 _ _ q1
    have fin : ∀ (i j i' j' : Int), Dp X.K H2 v (.tuple ([i, j].map PyData.int)) → Dp X.K H2 u (.tuple ([i', j'].map PyData.int)) → HT.lexLt [i, j] [i', j'] = kLt o1 o2 → ∃ r, rLtT X.K v u H2 r ∧ ∀ y H', r y H' → ∃ k, y = .bl k ∧ Same H H' ∧ k = kLt o1 o2 := by
      intro i j i' j' h1 h2 h3
      obtain ⟨p1, xs, rfl, hq1, hx1⟩ := dp_tup h1
      obtain ⟨p2, ys, rfl, hq2, hx2⟩ := dp_tup h2
      cases dpAll_ints hx1
      cases dpAll_ints hx2
      exact ⟨fun y H' => ∃ k, y = .bl k ∧ Same H H' ∧ k = kLt o1 o2, ⟨p1, p2, [i, j], [i', j'], rfl, rfl, hq1, hq2, _, rfl, s1.trans s2, h3⟩, fun _ _ h => h⟩
    have done : ∃ r, rLtT X.K v u H2 r ∧ ∀ y H', r y H' → ∃ k, y = .bl k ∧ Same H H' ∧ k = kLt o1 o2 := by
      cases o1 with
      | none =>
        cases o2 with
        | none => exact fin 1 0 1 0 q1' q2 (by decide)
        | some n => exact fin 1 0 0 n q1' q2 (by show (if (1 : Int) = 0 then _ else decide ((1 : Int) < 0)) = false; rfl)
      | some k =>
        cases o2 with
        | none => exact fin 0 k 1 0 q1' q2 (by show (if (0 : Int) = 1 then _ else decide ((0 : Int) < 1)) = true; rfl)
        | some n =>
          refine fin 0 k 0 n q1' q2 ?_
          show (if (0 : Int) = 0 then (if (k : Int) = n then HT.lexLt [] [] else decide ((k : Int) < n)) else _) = decide (k < n)
          rw [if_pos rfl]
          by_cases h : k = n
          · subst h
            rw [if_pos rfl, decide_eq_false (Nat.lt_irrefl _)]
            rfl
          · rw [if_neg (by omega)]
            by_cases h2 : k < n
            · rw [decide_eq_true h2, decide_eq_true (by omega)]
            · rw [decide_eq_false h2, decide_eq_false (by omega)]
    obtain ⟨r, h1, h2⟩ := done
    obtain ⟨p1, p2, ns, ms, e1, e2, h3, h4, h5⟩ := h1
    obtain ⟨k, h6, h7⟩ := h2 _ _ h5
    exact ⟨p1, p2, ns, ms, e1, e2, h3, h4, k, h6, h7⟩
theorem ev_toX {β : Type} {S : β → Prop} {f : β → Ty} (y : β) (hy : S y) (h : EV X Γ e (f y)) : EV X Γ e (exT S f) := ⟨fun σ H g => wE_mono (h.run σ H g) fun v H' q => ⟨q.1, y, hy, q.2⟩⟩
end
end EC

set_option Elab.async false
set_option linter.all false
set_option maxRecDepth 100000
set_option maxHeartbeats 8000000
/-! EcK7: all_most. -/
namespace EC
open PySem PySem.Spec PyProof.Rows L2

section
variable {X : Cx} {Γ : List (Option Ty)} {σ : L2.St} {H : Hp} {M : List Addr} {d : Addr} {o iter tg : Expr} {pos p2 : Pos} {D : Ends} {x : Str}
theorem msrc_nM {ms : List Mom} {f : Mom → Ty} (h : EV X Γ iter (isNX X (ms.map fun m => (m, f m)))) : MSrc X Γ tg iter ms := by
  have z := msrc_n (tg := tg) h
  rw [keysOf_map] at z
  exact z
/-- for m in list(d), d a dict that changes -/
theorem wS_forKeys {g : TG} {body : List Stmt} {l : List (Mom × Ty)} (hg : PG X tg g) (hc : X.calm = true) (hmg : X.mg "list" = none) (hm : Cutbs X M H) (hd : d ∈ M) (gE : Env Γ σ (cuts M H)) (i : Nat) (ho : Γ[i]? = some (some (isV (.ref d)))) (h : Nof X M H d l)
    (k : ∀ H1, (∀ p ∈ M, H1 p = H p) → Same (cuts M H) (cuts M H1) → ∃ Pv : Nat → L2.St → Hp → Prop, Pv 0 σ H1 ∧ (∀ i σ' H', Pv i σ' H' → Same (cuts M H1) H') ∧
      (∀ i mo v σ' H', (l.map (·.1))[i]? = some mo → Dp X.K (cuts M H1) v (Mom.d mo) → Pv i σ' H' → g v σ' H' fun σ2 H2 => wB X body { D with nx := Pv (i + 1), ct := Pv (i + 1), bk := D.nx } σ2 H2) ∧ ∀ σ' H', Pv l.length σ' H' → D.nx σ' H')
    (hN : X.N[i]? = some x := by rfl) (hv : Vis X.env.scope x := by first | exact .inl rfl | exact .inr (.inl rfl) | exact .inr (.inr rfl)) (hdb : (x == ("__debug__" : Str)) = false := by decide)
    (hcd : (x == ("__classdict__" : Str)) = false := by decide) {pn pl pc : Pos} (hgl : Gl X "list" := by rfl) (hs : starEach [.Name x pn] X.env = [(false, eval (.Name x pn) X.env)] := by rfl)
    (hp : PassesOwn (model X.prog X.w) X.A X.env X.xe := by exact PassesOwn.never) (hsf : ∀ y, foldedSetIterable (.Call (.Name "list" pl) [.Name x pn] [] pc) X.env y = pure y := by intro _; rfl) : wS X (.For tg (.Call (.Name "list" pl) [.Name x pn] [] pc) body [] pos) D σ H := by
  obtain ⟨xs, ep, n1, n2, n3⟩ := h
  refine wS_forL hg hc (wE_nlist hc hmg (wE_nm i gE ho ⟨d, xs, ep, rfl, .inl n1, fun q hq => ?_⟩ hN hv hdb hcd) hgl hs) hp hsf
  have hqM : q ∉ M := fun z => by
    obtain ⟨u, h1, _⟩ := hm q z
    rw [hq] at h1; cases h1
  have h1 : ∀ p ∈ M, upd H q (.lst (xs.map fun x => V.ref x.2.1)) p = H p := fun p hp => upd_ne fun e => hqM (e ▸ hp)
  have s1 : Same (cuts M H) (cuts M (upd H q (.lst (xs.map fun x => V.ref x.2.1)))) := cuts_mono (same_new hq)
  obtain ⟨Pv, p0, ps, st, dn⟩ := k _ h1 s1
  refine ⟨q, _, Pv, rfl, p0, fun i σ' H' _ h => sqL_up (ps i σ' H' h) (SqL.of (by rw [cuts_out hqM]; exact upd_same)), fun i y σ' H' hy h => ?_, fun σ' H' h => dn σ' H' (by rw [← n3.len]; rw [List.length_map] at h; exact h)⟩
  rw [List.getElem?_map] at hy
  cases hz : xs[i]? with
  | none => rw [hz] at hy; cases hy
  | some z =>
    rw [hz] at hy
    have e : V.ref z.2.1 = y := Option.some.inj hy
    subst e
    refine st i z.1 _ σ' H' ?_ (dp_up s1 _ _ (n2 z (List.mem_of_getElem? hz))) h
    rw [← n3.keys, List.getElem?_map, hz]
    rfl
end
/-- values that bear any change but to tuples -/
def TStb (τ : Ty) : Prop := ∀ (H H' : Hp) (v : V), TupSub H H' → τ.p H v → τ.p H' v
theorem tstb_D {K : PySem.W.Frag} {d : PyData} (h : lf d = true) : TStb (isD K d) := fun _ _ _ t q => dp_imm t _ _ h q
theorem tstb_pair {K : PySem.W.Frag} {o : Option Nat} : TStb (pairT K o) := fun _ _ _ t ⟨pv, h1, h2⟩ => ⟨pv, h1, dp_imm t _ _ (by simp [lf, lfs, lf_key, h1]) h2⟩
theorem nvals_imm {H H' : Hp} (t : TupSub H H') : ∀ {xs : NX} {l : List (Mom × Ty)}, (∀ q ∈ l, TStb q.2) → NVals H xs l → NVals H' xs l
  | _, _, _, .nil => .nil
  | _, _, h, .cons z r => .cons ⟨z.1, h _ List.mem_cons_self _ _ _ t z.2⟩ (nvals_imm t (fun q hq => h q (List.mem_cons_of_mem _ hq)) r)
/-- a dict just made joins the others that change -/
theorem Nof.join {X : Cx} {M : List Addr} {H : Hp} {d : Addr} {l : List (Mom × Ty)} (h : Nof X [d] H d l) (hm : Cutbs X M (cuts [d] H)) (hl : ∀ q ∈ l, TStb q.2) : Nof X (d :: M) H d l := by
  obtain ⟨xs, ep, n1, n2, n3⟩ := h
  have e : cuts (d :: M) H = cuts M (cuts [d] H) := by
    funext b
    by_cases h1 : b = d
    · subst h1
      rw [cuts_in (by simp)]
      by_cases h2 : b ∈ M
      · rw [cuts_in h2]
      · rw [cuts_out h2, cuts_in (by simp)]
    · by_cases h2 : b ∈ M
      · rw [cuts_in (by simp [h2]), cuts_in h2]
      · rw [cuts_out (by simp [h1, h2]), cuts_out h2, cuts_out (by simp [h1])]
  have t := cutbs_tup hm
  rw [← e] at t
  exact ⟨xs, ep, n1, n2.imm t, nvals_imm t hl n3⟩
def tTy (K : PySem.W.Frag) (t : Tb) : List (Mom × Ty) := t.map fun x => (x.1, pairT K x.2)
theorem tTy_keys {K : PySem.W.Frag} (t : Tb) : (tTy K t).map (·.1) = t.map (·.1) := by
  unfold tTy
  rw [List.map_map]
  rfl
theorem tTy_look {K : PySem.W.Frag} {t : Tb} {m : Mom} {o : Option Nat} (h : look t m = some o) : look (tTy K t) m = some (pairT K o) := by
  unfold tTy
  rw [look_mapk (fun _ o => pairT K o), h]
  rfl
theorem tTy_put {K : PySem.W.Frag} {t : Tb} {m : Mom} {o : Option Nat} : EC.put (tTy K t) m (pairT K o) = tTy K (EC.put t m o) := by
  unfold EC.put putW tTy
  have e : (look (t.map fun x => (x.1, pairT K x.2)) m).isSome = (look t m).isSome := by
    rw [look_mapk (fun _ o => pairT K o)]
    simp
  rw [e]
  by_cases h : (look t m).isSome = true
  · rw [if_pos h, if_pos h, List.map_map, List.map_map]
    refine List.map_congr_left fun x _ => ?_
    by_cases z : x.1 = m <;> simp [z]
  · rw [if_neg h, if_neg h, List.map_append]
    rfl
theorem tTy_len {K : PySem.W.Frag} (t : Tb) : (tTy K t).length = t.length := List.length_map ..
theorem tab_len {p : Prg} {w : Mom} {ms en : List Mom} {t : Tb} (r : Rel p w ms en t) : t.length ≤ ms.length := by
  have := nodup_le r.nd r.sub
  rw [List.length_map] at this
  exact this
end EC

set_option Elab.async false
set_option linter.all false
set_option maxRecDepth 100000
set_option maxHeartbeats 8000000
/-! EcK8: all_most. -/
namespace EC
open PySem PySem.Spec PyProof.Rows L2
section
variable {P : Program} {w : World} {K : PySem.W.Frag} {mg : Str → Option Value} {base : Heap}
def RallMost (K : PySem.W.Frag) (P : Program) (w : World) (C : Addr) : List Ty → Ty → Prop := fun τs τ => ∃ (l : List (Str × Ty)) (p : Prg) (wk : Mom) (ms : List Mom) (mo : Mom → Option Nat), l.lookup ("held_program" : Str) = some (isD K p.d) ∧ l.lookup ("held_waking" : Str) = some (isD K wk.d) ∧
  l.lookup ("held_steps" : Str) = some (stepsT K P w p ms) ∧ l.lookup ("held_behind" : Str) = some (behsT K P w p ms) ∧ l.lookup ("rounds" : Str) = none ∧ l.lookup ("moments" : Str) = none ∧ Clo p ms ∧ (∀ m, m ∈ ms ↔ Rch p.nx wk m) ∧ (∀ m ∈ ms, IsMost p.nx p.cst wk m (mo m)) ∧
  τs = [awT C l] ∧ τ = mostsT K P w ms mo
abbrev NK4 : List Str := ["self", "rounds", "moment", "endless", "first", "most", "changed", "spent", "step", "after", "key"]
theorem sc_allMost : FnScope NK4 ["self"] (defScope (inClass (top 36) 4)) := ⟨rfl, rfl, rfl, by decide +kernel, rfl, by decide +kernel, by decide +kernel⟩
abbrev X4 (P : Program) (w : World) (K : PySem.W.Frag) (mg : Str → Option Value) (base : Heap) (f : Addr) (cdv : Value) (A : Around) (outer : List PySem.Env) (s : Shared) (H : Hp) (E : XK) : Cx := cx P w K mg base NK4 "Awake.all_most" (inClass (top 36) 4) f cdv A outer s H E
/-- the slots while the table grows -/
abbrev G4 (K : PySem.W.Frag) (C : Addr) (l : List (Str × Ty)) (rs : List Mom) (dE dM : Addr) (chg : Bool) : List (Option Ty) :=
  [some (awT C l), some (isD K (.list (rs.map Mom.d))), none, some (isV (.ref dE)), none, some (isV (.ref dM)), some (isD K (.bool chg)), none, none, none, none]
theorem endl_of {p : Prg} {wk : Mom} {ms en : List Mom} (hms : ∀ m, m ∈ ms ↔ Rch p.nx wk m) (h1 : ∀ b ∈ en, b ∈ roundsOf p ms ∨ ∃ r ∈ roundsOf p ms, Plus p.nx r b) (h2 : ∀ b ∈ roundsOf p ms, b ∈ en) (h3 : ∀ r ∈ roundsOf p ms, ∀ b, Plus p.nx r b → b ∈ en) (m : Mom) : m ∈ en ↔ Endl p.nx wk m := by
  constructor
  · intro h
    rcases h1 m h with q | ⟨r, q, z⟩
    · obtain ⟨q1, q2⟩ := mem_rounds.mp q
      exact ⟨m, (hms m).mp q1, q2, .refl _⟩
    · obtain ⟨q1, q2⟩ := mem_rounds.mp q
      exact ⟨r, (hms r).mp q1, q2, z.rch⟩
  · rintro ⟨v, q1, q2, q3⟩
    have hv : v ∈ roundsOf p ms := mem_rounds.mpr ⟨(hms v).mpr q1, q2⟩
    rcases q3.cases_head with rfl | ⟨c, z1, z2⟩
    · exact h2 _ hv
    · exact h3 v hv m ⟨c, z1, z2⟩
theorem ok_allMost {C : Addr} {f : Addr} {fd : FuncData} {t : Tok} (F : Fun K "all_most" "Awake.all_most" (inClass (top 36) 4) f fd) (B : Bi mg) (c : AwC K C) (c1 : MetS P w K mg base C "rounds" 1 2 (spF (Rrounds K P w C))) (c2 : FnS P w K mg base "cost_at" 2 4 (spF (RcostAt K)))
    (c3 : FnS P w K mg base "key_of" 1 1 (spF (RkeyOf K))) (hE : mg "ENDLESS" = some (.str "endless" t)) : FnOk P w K mg base CX0 5 f fd ["self"] (spF (RallMost K P w C)) := by
  refine fn_bd F sc_allMost (fun τs τ h => by obtain ⟨_, _, _, _, _, _, _, _, _, _, _, _, _, _, rfl, _⟩ := h; rfl) fun cdv A outer s H E τs τ hr h => ⟨fun σ H0 D g0 kD => ?_⟩
  obtain ⟨l, p, wk, ms, mo, hlp, hlw, hls, hlb, hlr, hlm, clo, hms, hmo, rfl, rfl⟩ := h
  have nd := sc_allMost.nd
  have hu9 : (X4 P w K mg base f cdv A outer s H E).A.units + 9 < cLine := Nat.lt_of_le_of_lt (Nat.add_le_add_left (by decide : 9 ≤ 64) _) hr.units
  have hu8 : (X4 P w K mg base f cdv A outer s H E).A.units + 8 < cLine := Nat.lt_of_le_of_lt (Nat.add_le_add_left (by decide : 8 ≤ 64) _) hr.units
  have hu0 : (X4 P w K mg base f cdv A outer s H E).A.units < cLine := Nat.lt_of_le_of_lt (Nat.le_add_right _ 64) hr.units
  have hwk : wk ∈ ms := (hms wk).mpr (.refl _)
  have few : Few p wk ms := ⟨clo.ok, clo.mom wk hwk, fun v hv => (hms v).mpr hv, clo.len⟩
  have hb0 : Cutbs (X4 P w K mg base f cdv A outer s H E) [] H0 := fun p hp => by cases hp
  have rsnd : (roundsOf p ms).Nodup := List.Pairwise.filter _ ((msort_perm ms).nodup_iff.mpr clo.nd)
  have rsub : ∀ m ∈ roundsOf p ms, m ∈ ms := fun m hm => (mem_rounds.mp hm).1
  have rslen : (roundsOf p ms).length ≤ 30 := Nat.le_trans (nodup_le rsnd rsub) clo.len
  -- rounds = self.rounds()
  refine wB_cons (wS_setM 1 nd hb0 (by rw [cuts_nil]; exact g0) (ev_meth0 (ev_n 0 rfl) c.cls c1 (hr.mono (by decide)) hlr ⟨l, p, ms, hls, hlb, hlm, clo.len, rfl, rfl⟩) fun rv H1 h1 s1 g1 => ?_)
  -- endless = {..}
  refine wB_cons (wS_dcM (ms := roundsOf p ms) (f := fun _ => isD K (.bool true)) 3 hu8 2 [("moment", 2)] rfl rfl nd (blkOk_by (N := NK4) (sc := defScope (inClass (top 36) 4)) (by decide +kernel)) (msrc_lst (ev_n 1 rfl)) (fun _ _ _ _ _ => pg_name nd rfl (.inl rfl))
    (fun _ _ _ _ _ m hm => ev_n 2 rfl) (fun _ _ _ _ _ m hm => ev_bl) rsnd (by omega) (hb0.of h1) g1 fun dE H2 _ hd0 h2 s2 n2 g2 => ?_)
  have e2 : Same H0 (cuts [dE] H2) := by
    have z := s1.trans s2
    rw [cuts_nil] at z
    exact z
  -- for first in rounds
  refine wB_cons (wS_forM (pg_name (i := 4) nd rfl (.inl rfl)) rfl (Cutbs.one n2.cutb) g2 (ev_n 1 rfl) fun H3 h3 s3 g3 => ?_)
  refine ⟨fun i σ' H' => ∃ en : List Mom, en.Nodup ∧ (∀ b ∈ en, b ∈ roundsOf p ms ∨ ∃ r ∈ roundsOf p ms, Plus p.nx r b) ∧ (∀ b ∈ roundsOf p ms, b ∈ en) ∧ (∀ (j : Nat) r, j < i → (roundsOf p ms)[j]? = some r → ∀ b, Plus p.nx r b → b ∈ en) ∧
      Nof (X4 P w K mg base f cdv A outer s H E) [dE] H' dE (en.map fun b => (b, isD K (.bool true))) ∧ Env [some (awT C l), some (isD K (.list ((roundsOf p ms).map Mom.d))), none, some (isV (.ref dE)), none, none, none, none, none, none, none] σ' (cuts [dE] H') ∧ Same (cuts [dE] H3) (cuts [dE] H'),
    ⟨roundsOf p ms, rsnd, (fun b hb => .inl hb), (fun b hb => hb), (fun j r hj => absurd hj (Nat.not_lt_zero j)), n2.fr (h3 dE (by simp)) s3, g3, Same.refl _⟩, fun i σ' H' h => (by obtain ⟨en, _, _, _, _, _, _, z⟩ := h; exact z.trans cuts_same), fun i dd v σ' H' hdd hv h => ?_, fun σ' H' h => ?_⟩
  · -- endless.update(self.held_behind[first])
    obtain ⟨en, q1, q2, q3, q4, q5, q6, q7⟩ := h
    rw [List.getElem?_map] at hdd
    cases hri : (roundsOf p ms)[i]? with
    | none => rw [hri] at hdd; cases hdd
    | some r =>
      rw [hri] at hdd
      have hdd' : r.d = dd := Option.some.inj hdd
      subst hdd'
      have hrm : r ∈ roundsOf p ms := List.mem_of_getElem? hri
      have gg := q6.set 4 (show (isD K r.d).p _ v from dp_up q7 _ _ hv)
      have enlen : en.length ≤ 30 := Nat.le_trans (nodup_le q1 fun b hb => by
        rcases q2 b hb with z | ⟨r', z1, z2⟩
        · exact rsub b z
        · exact clo.rch z2.rch (rsub r' z1)) clo.len
      refine wB_one (wS_updM (en := en) (d := dE) hu9 (Cutbs.one q5.cutb) (by simp) gg (ev_n 3 rfl) (ev_nget (τ := behT K P w p r) hu9 (ev_fld (ev_n 0 rfl) c.cls c.beh hlb) (ev_n 4 rfl) (look_self (behT K P w p) (rsub r hrm))) q5 (fun z => by have := q3 r hrm; rw [z] at this; cases this) (fun bs hbs => ?_) fun bs H4 hbs h4 s4 n4 g4 => ?_)
      · have := nodup_le hbs.1 fun b hb => clo.rch ((hbs.2 b).mp hb).rch (rsub r hrm)
        have := clo.len
        omega
      · refine ⟨joinL en bs, joinL_nd bs en q1, fun b hb => ?_, fun b hb => (mem_joinL bs en).mpr (.inl (q3 b hb)), fun j r' hj hr' b hb => ?_, n4, g4.forget 4, q7.trans s4⟩
        · rcases (mem_joinL bs en).mp hb with z | z
          · exact q2 b z
          · exact .inr ⟨r, hrm, (hbs.2 b).mp z⟩
        · by_cases e : j = i
          · subst e
            rw [hri] at hr'
            cases hr'
            exact (mem_joinL bs en).mpr (.inr ((hbs.2 b).mpr hb))
          · exact (mem_joinL bs en).mpr (.inl (q4 j r' (by omega) hr' b hb))
  · obtain ⟨en, q1, q2, q3, q4, q5, q6, q7⟩ := h
    have hen := endl_of hms q2 q3 fun r hr b hb => by
      obtain ⟨j, hj, e⟩ := List.getElem_of_mem hr
      exact q4 j r (by rw [List.length_map]; exact hj) (by rw [List.getElem?_eq_getElem hj, e]) b hb
    have esub : ∀ m ∈ en, m ∈ ms := fun m hm => (hms m).mpr ((hen m).mp hm).rch
    have enlen : en.length ≤ 30 := Nat.le_trans (nodup_le q1 esub) clo.len
    have e3 : Same H0 (cuts [dE] H') := e2.trans (s3.trans q7)
    -- most = {..}
    have cE : Cutbs (X4 P w K mg base f cdv A outer s H E) [dE] H' := Cutbs.one q5.cutb
    refine wB_cons (wS_dcM (M := []) (ms := en) (f := fun _ => pairT K none) 5 hu8 2 [("moment", 2)] rfl rfl nd (blkOk_by (N := NK4) (sc := defScope (inClass (top 36) 4)) (by decide +kernel)) (msrc_nM (f := fun _ => isD K (.bool true)) (ev_n 3 rfl)) (fun _ _ _ _ _ => pg_name nd rfl (.inl rfl))
      (fun _ _ _ _ _ m hm => ev_n 2 rfl) (fun _ _ _ _ _ m hm => ev_toX .none rfl (ev_tup (eds_cons (ev_call c3 (hr.mono (by decide)) (evs_cons (ev_vstr (ev_glob (v := .str "endless") rfl hE ⟨t, rfl⟩)) evs_nil) ⟨rfl, rfl⟩) (eds_cons ev_non eds_nil)))) q1 (by omega) (fun p hp => by cases hp) (by rw [cuts_nil]; exact (q6.up cuts_same).re 3 rfl q5.ty) fun dM H5 _ hdM0 _ s5 n5 g5 => ?_)
    rw [cuts_nil] at s5
    have s5' : Same H' H5 := s5.trans cuts_same
    have k5 : H5 dE = H' dE := keepM cE s5' dE (by simp)
    have hne : dM ≠ dE := fun e => by
      obtain ⟨u, h1, _⟩ := q5.cutb
      rw [← e, hdM0] at h1; cases h1
    have c5 : Cutbs (X4 P w K mg base f cdv A outer s H E) [dE] (cuts [dM] H5) := fun q hq => by
      cases List.mem_singleton.mp hq
      obtain ⟨u, h1, h2⟩ := q5.cutb
      exact ⟨u, s5 dE u h1, h2⟩
    have t0e : (en.map fun m => (m, pairT K none)) = tTy K (en.map fun m => (m, none)) := by
      unfold tTy
      rw [List.map_map]
      rfl
    have n5M : Nof (X4 P w K mg base f cdv A outer s H E) [dM, dE] H5 dM (tTy K (en.map fun m => (m, none))) := by
      rw [← t0e]
      exact n5.join c5 fun q hq => by
        obtain ⟨m, _, rfl⟩ := List.mem_map.mp hq
        exact tstb_pair
    have e25 : Same (cuts [dE] H') (cuts [dM, dE] H5) := fun b u hb => by
      obtain ⟨z1, z2⟩ := cuts_some hb
      have hbM : b ≠ dM := fun e => by rw [e, hdM0] at z2; cases z2
      rw [cuts_out (by simpa [hbM] using z1)]
      exact s5' b u z2
    have n5E : Nof (X4 P w K mg base f cdv A outer s H E) [dM, dE] H5 dE (en.map fun b => (b, isD K (.bool true))) := q5.fr2 k5 e25
    have g5' : Env [some (awT C l), some (isD K (.list ((roundsOf p ms).map Mom.d))), none, some (isV (.ref dE)), none, some (isV (.ref dM)), none, none, none, none, none] (σ'.set 5 (some (.ref dM))) (cuts [dM, dE] H5) := (q6.up e25).set 5 rfl
    have e4 : Same H0 (cuts [dM, dE] H5) := e3.trans e25
    have c5' : Cutbs (X4 P w K mg base f cdv A outer s H E) [dM, dE] H5 := Cutbs.two n5M.cutb n5E.cutb
    -- the rest
    have rest : ∀ (tb : Tb) σ6 H6, Rel p wk ms en tb → Nof (X4 P w K mg base f cdv A outer s H E) [dM, dE] H6 dM (tTy K tb) → Nof (X4 P w K mg base f cdv A outer s H E) [dM, dE] H6 dE (en.map fun b => (b, isD K (.bool true))) →
        Env [some (awT C l), some (isD K (.list ((roundsOf p ms).map Mom.d))), none, some (isV (.ref dE)), none, some (isV (.ref dM)), none, none, none, none, none] σ6 (cuts [dM, dE] H6) → Same H0 (cuts [dM, dE] H6) → wB (X4 P w K mg base f cdv A outer s H E) ((defBody (inClass (top 36) 4)).drop 5) D σ6 H6 := by
      intro tb σ6 H6 rel nM nE g6 e6
      refine wB_cons (wS_setM 6 nd (Cutbs.two nM.cutb nE.cutb) g6 (ev_bl (i := true)) fun bv H7 h7 s7 g7 => ?_)
      have enms : ∀ m, m ∉ en → ¬ Endl p.nx wk m := fun m h z => h ((hen m).mpr z)
      refine wB_cons (wS_while ⟨fun k σ' H' => ∃ (tb : Tb) (chg : Bool), k = 2 * rmeas ms tb + (if chg = true then 1 else 0) ∧ Rel p wk ms en tb ∧ (chg = false → ∀ m ∈ tb.map (·.1), Sat p en tb m) ∧ Nof (X4 P w K mg base f cdv A outer s H E) [dM, dE] H' dM (tTy K tb) ∧ Nof (X4 P w K mg base f cdv A outer s H E) [dM, dE] H' dE (en.map fun b => (b, isD K (.bool true))) ∧
          Env (G4 K C l (roundsOf p ms) dE dM chg) σ' (cuts [dM, dE] H') ∧ Same H0 (cuts [dM, dE] H'), ⟨_, tb, true, rfl, rel, (fun h => by cases h), nM.fr (h7 dM (by simp)) s7, nE.fr (h7 dE (by simp)) s7, g7, e6.trans s7⟩, ?_⟩)
      rintro k σ8 H8 ⟨t0, chg, rfl, rel0, hsat, nM0, nE0, g8, e8⟩
      have c8 : Cutbs (X4 P w K mg base f cdv A outer s H E) [dM, dE] H8 := Cutbs.two nM0.cutb nE0.cutb
      refine ET.useM [dM, dE] (et_val (k := chg) (ev_n 6 rfl)) c8 g8 fun H9 h9 s9 g9 => ?_
      have nM9 := nM0.fr (h9 dM (by simp)) s9
      have nE9 := nE0.fr (h9 dE (by simp)) s9
      have e9 := e8.trans s9
      cases chg with
      | false =>
        obtain ⟨r1, r2⟩ := rel0.done hen (hsat rfl)
        refine iteF (wB_one (wS_ret (wE_nm 5 g9 rfl (kD _ _ (e9.trans cuts_same) ⟨t0.map (·.1), fun m hm => r2 m ((hms m).mp hm), ?_⟩))))
        have e : (t0.map (·.1)).map (fun m => (m, pairT K (mo m))) = tTy K t0 := by
          unfold tTy
          rw [List.map_map]
          refine List.map_congr_left fun x hx => ?_
          have hl := look_of_mem rel0.nd (show (x.1, x.2) ∈ t0 from hx)
          have hxm : x.1 ∈ ms := rel0.sub x.1 (List.mem_map.mpr ⟨x, hx, rfl⟩)
          have := (r1 x.1 x.2 hl).uniq (hmo x.1 hxm)
          show (x.1, pairT K (mo x.1)) = (x.1, pairT K x.2)
          rw [this]
        show (isN K P w ((t0.map (·.1)).map fun m => (m, pairT K (mo m)))).p H9 (.ref dM)
        rw [e]
        exact nM9.ty
      | true =>
        refine iteT ⟨fun σ2 H2 => ∃ m', m' < 2 * rmeas ms t0 + (if true = true then 1 else 0) ∧ _, fun σ2 H2 h => h, ?_⟩
        refine wB_cons (wS_setM 6 nd (Cutbs.two nM9.cutb nE9.cutb) g9 (ev_bl (i := false)) fun bv2 H10 h10 s10 g10 => ?_)
        have nM10 := nM9.fr (h10 dM (by simp)) s10
        have nE10 := nE9.fr (h10 dE (by simp)) s10
        have t0len := tab_len rel0
        have hmlen := clo.len
        -- for moment in list(most)
        refine wB_one (wS_forKeys (d := dM) (pg_name (i := 2) nd rfl (.inl rfl)) rfl B.list (Cutbs.two nM10.cutb nE10.cutb) (by simp) g10 5 rfl nM10 fun H11 h11 s11 => ?_)
        refine ⟨fun i σ' H' => ∃ (tb : Tb) (chg : Bool), Rel p wk ms en tb ∧ rmeas ms tb ≤ rmeas ms t0 ∧ (chg = true → rmeas ms tb < rmeas ms t0) ∧ (chg = false → tb = t0 ∧ ∀ (j : Nat) m, j < i → (t0.map (·.1))[j]? = some m → Sat p en t0 m) ∧ (∀ m ∈ t0.map (·.1), m ∈ tb.map (·.1)) ∧
            Nof (X4 P w K mg base f cdv A outer s H E) [dM, dE] H' dM (tTy K tb) ∧ Nof (X4 P w K mg base f cdv A outer s H E) [dM, dE] H' dE (en.map fun b => (b, isD K (.bool true))) ∧ Env (G4 K C l (roundsOf p ms) dE dM chg) σ' (cuts [dM, dE] H') ∧ Same (cuts [dM, dE] H11) (cuts [dM, dE] H'),
          ⟨t0, false, rel0, Nat.le_refl _, (fun h => by cases h), (fun _ => ⟨rfl, fun j m hj => absurd hj (Nat.not_lt_zero j)⟩), (fun m hm => hm), nM10.fr (h11 dM (by simp)) s11, nE10.fr (h11 dE (by simp)) s11, g10.up s11, Same.refl _⟩,
          fun i σ' H' h => (by obtain ⟨_, _, _, _, _, _, _, _, _, _, z⟩ := h; exact z.trans cuts_same), fun i m v σ' H' hm hv h => ?_, fun σ' H' h => ?_⟩
        · obtain ⟨tb, chg, q1, q2, q3, q4, q5, q6, q7, q8, q9⟩ := h
          rw [tTy_keys] at hm
          have hmk : m ∈ t0.map (·.1) := List.mem_of_getElem? hm
          have hmms : m ∈ ms := rel0.sub m hmk
          obtain ⟨o, ho⟩ := Option.isSome_iff_exists.mp (look_isSome.mpr (q5 m hmk))
          have gg : Env ((G4 K C l (roundsOf p ms) dE dM chg).set 2 (some (isD K m.d))) (σ'.set 2 (some v)) (cuts [dM, dE] H') := q8.set 2 (dp_up q9 _ _ hv)
          have cc : Cutbs (X4 P w K mg base f cdv A outer s H E) [dM, dE] H' := Cutbs.two q6.cutb q7.cutb
          -- spent = most[moment][0]
          refine wB_cons (wS_setF (dx := keyO o) 7 nd cc gg ((gg.up cuts_same).re 5 rfl q6.ty) (ev_ixX (ev_nget (m := m) (τ := pairT K o) hu9 (ev_n 5 rfl) (ev_n 2 rfl) (tTy_look ho)) ev_int (fun pv _ => ⟨_, rfl, rfl⟩)) (lf_key o) fun sv Ha ha sa ga => ?_)
          have nMa := q6.fr (ha dM (by simp)) sa
          have nEa := q7.fr (ha dE (by simp)) sa
          have ca := cc.of ha
          cases o with
          | none =>
            -- nothing to do
            refine wB_one (wS_forM (ds := []) (pg_tup rfl (pgs_cons (pg_name (i := 8) nd rfl (.inl rfl)) (pgs_cons (pg_name (i := 9) nd rfl (.inl rfl)) pgs_nil))) rfl ca ga (ev_ifE (et_eqI (ev_ix (ev_n 7 rfl) ev_int rfl) ev_int) (fun h => absurd h (by decide)) (fun _ => ev_lst eds_nil)) fun Hb hb sb gb => ?_)
            refine ⟨fun _ σ2 H2 => σ2 = (σ'.set 2 (some v)).set 7 (some sv) ∧ H2 = Hb, ⟨rfl, rfl⟩, (fun _ _ _ h => h.2 ▸ cuts_same), (fun i dd _ _ _ hdd => by simp at hdd), ?_⟩
            rintro σ2 H2 ⟨rfl, rfl⟩
            refine ⟨tb, chg, q1, q2, q3, fun hc => ?_, q5, nMa.fr (hb dM (by simp)) sb, nEa.fr (hb dE (by simp)) sb, (gb.forget 7).forget 2, q9.trans (sa.trans sb)⟩
            obtain ⟨rfl, q4'⟩ := q4 hc
            refine ⟨rfl, fun j m' hj hm' => ?_⟩
            by_cases e : j = i
            · subst e
              rw [hm] at hm'
              cases hm'
              intro n hn
              rw [ho] at hn
              cases hn
            · exact q4' j m' (by omega) hm'
          | some n =>
            obtain ⟨hmn, k0, hwalk⟩ := q1.att m n ho
            have hmOk := clo.mom m hmms
            refine wB_one (wS_forM (ds := pairsOf p m) (pg_tup rfl (pgs_cons (pg_name (i := 8) nd rfl (.inl rfl)) (pgs_cons (pg_name (i := 9) nd rfl (.inl rfl)) pgs_nil))) rfl ca ga (ev_ifE (et_eqI (ev_ix (ev_n 7 rfl) ev_int rfl) ev_int) (fun _ => ev_nget hu9 (ev_fld (ev_n 0 rfl) c.cls c.steps hls) (ev_n 2 rfl) (look_self (fun m => isD K (.list (pairsOf p m))) hmms)) (fun h => absurd h (by decide))) fun Hb hb sb gb => ?_)
            refine ⟨fun jj σ2 H2 => ∃ (t' : Tb) (chg' : Bool), Rel p wk ms en t' ∧ rmeas ms t' ≤ rmeas ms t0 ∧ (chg' = true → rmeas ms t' < rmeas ms t0) ∧ (chg' = false → t' = t0 ∧ (∀ (j : Nat) m, j < i → (t0.map (·.1))[j]? = some m → Sat p en t0 m) ∧ look t0 m = some (some n) ∧ ∀ (j : Nat) a, j < jj → (p.nx m)[j]? = some a → Sat1 p en t0 m n a) ∧ (∀ m ∈ t0.map (·.1), m ∈ t'.map (·.1)) ∧
                Nof (X4 P w K mg base f cdv A outer s H E) [dM, dE] H2 dM (tTy K t') ∧ Nof (X4 P w K mg base f cdv A outer s H E) [dM, dE] H2 dE (en.map fun b => (b, isD K (.bool true))) ∧ Env (((G4 K C l (roundsOf p ms) dE dM chg').set 2 (some (isD K m.d))).set 7 (some (isD K (keyO (some n))))) σ2 (cuts [dM, dE] H2) ∧ Same (cuts [dM, dE] Hb) (cuts [dM, dE] H2),
              ⟨tb, chg, q1, q2, q3, (fun hc => by
                obtain ⟨rfl, q4'⟩ := q4 hc
                exact ⟨rfl, q4', ho, fun j a hj => absurd hj (Nat.not_lt_zero j)⟩), q5, nMa.fr (hb dM (by simp)) sb, nEa.fr (hb dE (by simp)) sb, gb, Same.refl _⟩,
              (fun _ _ _ h => by obtain ⟨_, _, _, _, _, _, _, _, _, _, z⟩ := h; exact z.trans cuts_same), fun jj dd yv σ2 H2 hdd hyv h => ?_, fun σ2 H2 h => ?_⟩
            · obtain ⟨t', chg', w1, w2, w3, w4, w5, w6, w7, w8, w9⟩ := h
              unfold pairsOf at hdd
              rw [List.getElem?_map] at hdd
              cases hst : (p.steps m)[jj]? with
              | none => rw [hst] at hdd; cases hdd
              | some s1 =>
                rw [hst] at hdd
                have hdd' := Option.some.inj hdd
                subst hdd'
                have hnxj : (p.nx m)[jj]? = some (p.after m s1) := by
                  unfold Prg.nx
                  rw [List.getElem?_map, hst]
                  rfl
                have hna : p.after m s1 ∈ p.nx m := List.mem_of_getElem? hnxj
                have hams : p.after m s1 ∈ ms := clo.cl m hmms _ hna
                replace hyv : Dp K (cuts [dM, dE] Hb) yv (.tuple [stepD s1, (p.after m s1).d]) := hyv
                generalize p.after m s1 = a at hnxj hna hams hyv
                have ed : p.due m = (p.cst m : Nat) := cst_eq clo.ok hmOk
                refine pair_tgD (dp_up (w9.trans cuts_same) _ _ hyv) fun y z hy hz => ?_
                have cw : Cutbs (X4 P w K mg base f cdv A outer s H E) [dM, dE] H2 := Cutbs.two w6.cutb w7.cutb
                have g9a := (w8.set 8 (show (isD K (stepD s1)).p _ y from lf_cuts cw (lf_step s1) hy)).set 9 (show (isD K a.d).p _ z from lf_cuts cw (lf_mom a) hz)
                have ek : keyO (some (n + p.cst m)) = .tuple [.int 0, .int ((n : Nat) + p.due m)] := by
                  rw [ed]
                  show PyData.tuple [.int 0, .int ((n + p.cst m : Nat) : Int)] = _
                  rw [Int.natCast_add]
                -- key = ..
                refine wB_cons (wS_setM (τ := isD K (keyO (some (n + p.cst m)))) 10 nd cw g9a (by
                  rw [ek]
                  exact ev_tup (eds_cons ev_int (eds_cons (ev_add (ev_ix (ev_n 7 rfl) ev_int rfl) (ev_call c2 hr (evs_cons (ev_fld (ev_n 0 rfl) c.cls c.prog hlp) (evs_cons (ev_ix (ev_n 2 rfl) ev_int rfl) evs_nil)) ⟨p, m.pl, clo.ok, hmOk.pl, rfl, rfl⟩)) eds_nil))) fun kv Hc hc sc gc => ?_)
                have nMc := w6.fr (hc dM (by simp)) sc
                have nEc := w7.fr (hc dE (by simp)) sc
                have cc2 := cw.of hc
                have wc := w9.trans sc
                -- the test
                refine wB_one (wS_ifF cc2 (((gc.up cuts_same).re 3 rfl nEc.ty).re 5 rfl nMc.ty) (et_w (ew_and (et_nnotin hu9 (ev_n 9 rfl) (ev_n 3 rfl)) fun _ => ew_and1 (et_w (ew_or (et_nnotin hu9 (ev_n 9 rfl) (ev_n 5 rfl)) fun h2 => ew_or1 (et_ltK (o1 := (look t' a).getD none) hu0 (ev_ixX (ev_nget (m := a) (τ := pairT K ((look t' a).getD none)) hu9 (ev_n 5 rfl) (ev_n 9 rfl) (by
                  rw [tTy_keys] at h2
                  have h2' : a ∈ t'.map (·.1) := by simpa using h2
                  obtain ⟨o', ho'⟩ := Option.isSome_iff_exists.mp (look_isSome.mpr h2')
                  rw [ho']
                  exact tTy_look ho')) ev_int (fun pv _ => ⟨_, rfl, rfl⟩)) (ev_n 10 rfl)))))) (fun ht Hd hd' sd => ?_) (fun ht Hd hd' sd => ?_))
                · -- more can be spent
                  rw [tTy_keys, keysOf_map] at ht
                  have ht' : a ∉ en ∧ (a ∉ t'.map (·.1) ∨ kLt ((look t' a).getD none) (some (n + p.cst m)) = true) := by simpa using ht
                  obtain ⟨hae, hcond⟩ := ht'
                  have hw1 : Wk p.nx p.cst wk (n + p.cst m) (k0 + 1) a := .snoc hwalk hna
                  have hsm := att_small few hw1 (enms a hae)
                  have hval : mval (look t' a) < n + p.cst m + 1 := by
                    cases hl : look t' a with
                    | none => exact Nat.succ_pos _
                    | some o' =>
                      cases o' with
                      | none => exact Nat.succ_pos _
                      | some n0 =>
                        rcases hcond with q | q
                        · exact absurd (look_isSome.mp (by rw [hl]; rfl)) q
                        · rw [hl] at q
                          have : n0 < n + p.cst m := of_decide_eq_true q
                          show n0 + 1 < _
                          omega
                  have hme := rmeas_put hams hval (by omega)
                  have nMd := nMc.fr (hd' dM (by simp)) sd
                  have nEd := nEc.fr (hd' dE (by simp)) sd
                  have gd := gc.up sd
                  have cd := cc2.of hd'
                  refine wB_cons (wS_putN (d := dM) (m := a) (τ := pairT K (some (n + p.cst m))) hu9 cd (by simp) gd (ev_toX (.tuple [m.d, stepD s1]) (by simp [lf, lfs, lf_mom, lf_step]) (ev_tup (eds_cons (ev_n 10 rfl) (eds_cons (ev_tup (eds_cons (ev_n 2 rfl) (eds_cons (ev_n 8 rfl) eds_nil))) eds_nil)))) (ev_n 5 rfl) (ev_n 9 rfl) nMd (by have := tab_len w1; rw [tTy_len]; omega) fun He se he ne ge => ?_)
                  rw [tTy_put] at ne
                  have nEe := nEd.fr (he dE (by simp) (Ne.symm hne)) se
                  refine wB_one (wS_setM 6 nd (Cutbs.two ne.cutb nEe.cutb) ge (ev_bl (i := true)) fun bv3 Hf hf sf gf => ?_)
                  refine ⟨EC.put t' a (some (n + p.cst m)), true, w1.put_ hams hae hw1, by omega, (fun _ => by omega), (fun h => by cases h), fun m' hm' => ?_, ne.fr (hf dM (by simp)) sf, nEe.fr (hf dE (by simp)) sf, ((gf.forget 10).forget 9).forget 8, wc.trans (sd.trans (se.trans sf))⟩
                  have := w5 m' hm'
                  rw [put_keys]
                  split
                  · exact this
                  · exact List.mem_append_left _ this
                · -- nothing new
                  rw [tTy_keys, keysOf_map] at ht
                  refine wB_nil ⟨t', chg', w1, w2, w3, fun hcf => ?_, w5, nMc.fr (hd' dM (by simp)) sd, nEc.fr (hd' dE (by simp)) sd, (((gc.up sd).forget 10).forget 9).forget 8, wc.trans sd⟩
                  obtain ⟨rfl, x1, x2, x3⟩ := w4 hcf
                  refine ⟨rfl, x1, x2, fun j b hj hb' => ?_⟩
                  by_cases e : j = jj
                  · subst e
                    rw [hnxj] at hb'
                    cases hb'
                    by_cases hae : a ∈ en
                    · exact .inl hae
                    · have ht' : a ∈ t'.map (·.1) ∧ kLt ((look t' a).getD none) (some (n + p.cst m)) = false := by
                        have : (!decide (a ∈ en)) = true := by simp [hae]
                        rw [this, Bool.true_and, Bool.or_eq_false_iff] at ht
                        exact ⟨by simpa using ht.1, ht.2⟩
                      obtain ⟨o', ho'⟩ := Option.isSome_iff_exists.mp (look_isSome.mpr ht'.1)
                      have hk := ht'.2
                      rw [ho'] at hk
                      cases o' with
                      | none => exact absurd ((w1.en1 a).mp ho') hae
                      | some n0 =>
                        have : ¬ n0 < n + p.cst m := of_decide_eq_false hk
                        exact .inr ⟨n0, ho', by omega⟩
                  · exact x3 j b (by omega) hb'
            · obtain ⟨t', chg', w1, w2, w3, w4, w5, w6, w7, w8, w9⟩ := h
              refine ⟨t', chg', w1, w2, w3, fun hc => ?_, w5, w6, w7, (w8.forget 7).forget 2, q9.trans (sa.trans (sb.trans w9))⟩
              obtain ⟨rfl, w4', w5', w6'⟩ := w4 hc
              refine ⟨rfl, fun j m' hj hm' => ?_⟩
              by_cases e : j = i
              · subst e
                rw [hm] at hm'
                cases hm'
                intro n' hn' a hna
                rw [w5'] at hn'
                cases hn'
                obtain ⟨jx, hjx, e⟩ := List.getElem_of_mem hna
                refine w6' jx a ?_ (by rw [List.getElem?_eq_getElem hjx, e])
                unfold Prg.nx at hjx
                rw [List.length_map] at hjx
                unfold pairsOf
                rw [List.length_map]
                exact hjx
              · exact w4' j m' (by omega) hm'
        · obtain ⟨tb, chg, q1, q2, q3, q4, q5, q6, q7, q8, q9⟩ := h
          have e11 : Same H0 (cuts [dM, dE] H') := e9.trans (s10.trans (s11.trans q9))
          cases chg with
          | true =>
            have := q3 rfl
            exact ⟨2 * rmeas ms tb + 1, by simp only [if_true]; omega, tb, true, rfl, q1, (fun h => by cases h), q6, q7, q8, e11⟩
          | false =>
            obtain ⟨rfl, q4'⟩ := q4 rfl
            refine ⟨2 * rmeas ms tb + 0, by simp, tb, false, by simp, q1, fun _ m hm => ?_, q6, q7, q8, e11⟩
            obtain ⟨j, hj, e⟩ := List.getElem_of_mem hm
            refine q4' j m ?_ (by rw [List.getElem?_eq_getElem hj, e])
            rw [tTy_len]
            rw [List.length_map] at hj
            exact hj
    refine wB_cons (wS_ifF c5' (((g5'.up cuts_same).re 3 rfl n5E.ty)) (et_nnotin hu9 (ev_fld (ev_n 0 rfl) c.cls c.wak hlw) (ev_n 3 rfl)) (fun ht H6 h6 s6 => ?_) (fun ht H6 h6 s6 => ?_))
    · rw [keysOf_map] at ht
      have hw : wk ∉ en := by simpa using ht
      have gg := g5'.up s6
      refine wB_one (wS_putN (d := dM) (m := wk) (τ := pairT K (some 0)) hu9 (c5'.of h6) (by simp) gg (ev_toX .none rfl (ev_tup (eds_cons (ev_tup (eds_cons ev_int (eds_cons ev_int eds_nil))) (eds_cons ev_non eds_nil)))) (ev_n 5 rfl) (ev_fld (ev_n 0 rfl) c.cls c.wak hlw) (n5M.fr (h6 dM (by simp)) s6) (by rw [tTy_len, List.length_map]; omega) fun H7 s7 h7 n7 g7 => ?_)
      have n7' : Nof (X4 P w K mg base f cdv A outer s H E) [dM, dE] H7 dM (tTy K (EC.put (en.map fun m => (m, none)) wk (some 0))) := by
        rw [← tTy_put]
        exact n7
      exact rest _ _ _ (Rel.start2 q1 esub hw hwk) n7' ((n5E.fr (h6 dE (by simp)) s6).fr (h7 dE (by simp) (Ne.symm hne)) s7) g7 (e4.trans (s6.trans s7))
    · rw [keysOf_map] at ht
      have hw : wk ∈ en := by simpa using ht
      exact wB_nil (rest _ _ _ (Rel.start1 q1 esub hw) (n5M.fr (h6 dM (by simp)) s6) (n5E.fr (h6 dE (by simp)) s6) (g5'.up s6) (e4.trans s6))
end
end EC

set_option Elab.async false
set_option linter.all false
set_option maxRecDepth 100000
set_option maxHeartbeats 8000000
/-! EcK9: falls. -/
namespace EC
open PySem PySem.Spec PyProof.Rows L2
/-! ### the greatest widths, plain -/
def fval (p : Prg) (ms : List Mom) (mo : Mom → Option Nat) (u : Mom) (o : Option Nat) : Prop := ∃ m ∈ ms, p.cst m ≠ 0 ∧ p.wake m = u ∧ fallO (mo m) (p.cst m) = o
structure FInv (p : Prg) (mo : Mom → Option Nat) (ms : List Mom) (t : Tb) : Prop where
  nd : (t.map (·.1)).Nodup
  top : ∀ u o, look t u = some o → IsTop (fval p ms mo u) o
  all : ∀ m ∈ ms, p.cst m ≠ 0 → p.wake m ∈ t.map (·.1)
  len : t.length ≤ ms.length
theorem kLt_false {a b : Option Nat} (h : kLt a b = false) : oLe b a := by
  cases a with
  | none => cases b <;> trivial
  | some x =>
    cases b with
    | none => cases h
    | some y =>
      have : ¬ x < y := of_decide_eq_false h
      show y ≤ x
      omega
theorem kLt_true {a b : Option Nat} (h : kLt a b = true) : oLe a b := by
  cases a with
  | none => cases h
  | some x =>
    cases b with
    | none => trivial
    | some y =>
      have : x < y := of_decide_eq_true h
      show x ≤ y
      omega
theorem oLe.refl : ∀ o : Option Nat, oLe o o
  | none => trivial
  | some x => Nat.le_refl x
theorem oLe.trans : ∀ {a b c : Option Nat}, oLe a b → oLe b c → oLe a c
  | _, _, none, _, _ => by trivial
  | none, none, some _, _, h => h.elim
  | none, some _, some _, h, _ => h.elim
  | some _, none, some _, _, h => h.elim
  | some _, some _, some _, h, k => Nat.le_trans h k
section
variable {p : Prg} {mo : Mom → Option Nat} {ms : List Mom} {t : Tb} {m : Mom}
theorem FInv.nil : FInv p mo [] [] := ⟨List.nodup_nil, fun u o h => (by cases h), fun m h => (by cases h), Nat.le_refl _⟩
theorem FInv.zero (f : FInv p mo ms t) (h : p.cst m = 0) : FInv p mo (ms ++ [m]) t := by
  refine ⟨f.nd, fun u o hl => ?_, fun x hx hc => ?_, by rw [List.length_append]; have := f.len; omega⟩
  · obtain ⟨⟨x, h1, h2⟩, h3⟩ := f.top u o hl
    refine ⟨⟨x, List.mem_append_left _ h1, h2⟩, fun o' ⟨y, y1, y2, y3⟩ => ?_⟩
    rcases List.mem_append.mp y1 with z | z
    · exact h3 o' ⟨y, z, y2, y3⟩
    · cases List.mem_singleton.mp z
      exact absurd h y2
  · rcases List.mem_append.mp hx with z | z
    · exact f.all x z hc
    · cases List.mem_singleton.mp z
      exact absurd h hc
theorem FInv.more (f : FInv p mo ms t) (hc : p.cst m ≠ 0) (h : p.wake m ∉ t.map (·.1) ∨ kLt ((look t (p.wake m)).getD none) (fallO (mo m) (p.cst m)) = true) : FInv p mo (ms ++ [m]) (put t (p.wake m) (fallO (mo m) (p.cst m))) := by
  refine ⟨?_, fun u o hl => ?_, fun x hx hcx => ?_, ?_⟩
  · rw [put_keys]
    split
    · exact f.nd
    · rename_i hn
      rw [List.nodup_append]
      exact ⟨f.nd, by simp, fun x hx y hy => by cases List.mem_singleton.mp hy; rintro rfl; exact hn hx⟩
  · rw [look_put] at hl
    by_cases e : u = p.wake m
    · subst e
      rw [if_pos rfl] at hl
      cases hl
      refine ⟨⟨m, by simp, hc, rfl, rfl⟩, fun o' ⟨y, y1, y2, y3, y4⟩ => ?_⟩
      rcases List.mem_append.mp y1 with z | z
      · have hk : p.wake m ∈ t.map (·.1) := by rw [← y3]; exact f.all y z y2
        rcases h with q | q
        · exact absurd hk q
        · obtain ⟨o2, ho2⟩ := Option.isSome_iff_exists.mp (look_isSome.mpr hk)
          rw [ho2] at q
          exact ((f.top _ _ ho2).2 o' ⟨y, z, y2, y3, y4⟩).trans (kLt_true q)
      · cases List.mem_singleton.mp z
        rw [← y4]
        exact oLe.refl _
    · rw [if_neg e] at hl
      obtain ⟨⟨x, h1, h2⟩, h3⟩ := f.top u o hl
      refine ⟨⟨x, List.mem_append_left _ h1, h2⟩, fun o' ⟨y, y1, y2, y3, y4⟩ => ?_⟩
      rcases List.mem_append.mp y1 with z | z
      · exact h3 o' ⟨y, z, y2, y3, y4⟩
      · cases List.mem_singleton.mp z
        exact absurd y3.symm e
  · rw [put_keys]
    rcases List.mem_append.mp hx with z | z
    · split
      · exact f.all x z hcx
      · exact List.mem_append_left _ (f.all x z hcx)
    · cases List.mem_singleton.mp z
      split
      · assumption
      · simp
  · have := put_len (l := t) (m := p.wake m) (y := fallO (mo m) (p.cst m))
    have := f.len
    rw [List.length_append, List.length_singleton]
    omega
theorem FInv.keep (f : FInv p mo ms t) (hc : p.cst m ≠ 0) {o : Option Nat} (ho : look t (p.wake m) = some o) (h : oLe (fallO (mo m) (p.cst m)) o) : FInv p mo (ms ++ [m]) t := by
  refine ⟨f.nd, fun u o' hl => ?_, fun x hx hcx => ?_, by rw [List.length_append]; have := f.len; omega⟩
  · obtain ⟨⟨x, h1, h2⟩, h3⟩ := f.top u o' hl
    refine ⟨⟨x, List.mem_append_left _ h1, h2⟩, fun o2 ⟨y, y1, y2, y3, y4⟩ => ?_⟩
    rcases List.mem_append.mp y1 with z | z
    · exact h3 o2 ⟨y, z, y2, y3, y4⟩
    · cases List.mem_singleton.mp z
      rw [← y3, ho] at hl
      cases hl
      rw [← y4]
      exact h
  · rcases List.mem_append.mp hx with z | z
    · exact f.all x z hcx
    · cases List.mem_singleton.mp z
      exact look_isSome.mp (by rw [ho]; rfl)
theorem FInv.perm {ms' : List Mom} (f : FInv p mo ms t) (h : ∀ m, m ∈ ms ↔ m ∈ ms') (hl : ms.length ≤ ms'.length) : FInv p mo ms' t :=
  ⟨f.nd, fun u o ho => by
    obtain ⟨⟨x, h1, h2⟩, h3⟩ := f.top u o ho
    exact ⟨⟨x, (h x).mp h1, h2⟩, fun o' ⟨y, y1, y2⟩ => h3 o' ⟨y, (h y).mpr y1, y2⟩⟩, fun m hm hc => f.all m ((h m).mpr hm) hc, Nat.le_trans f.len hl⟩
theorem FInv.key (f : FInv p mo ms t) (u : Mom) : u ∈ t.map (·.1) ↔ ∃ m ∈ ms, p.cst m ≠ 0 ∧ p.wake m = u := by
  constructor
  · intro h
    obtain ⟨o, ho⟩ := Option.isSome_iff_exists.mp (look_isSome.mpr h)
    obtain ⟨⟨x, h1, h2, h3, _⟩, _⟩ := f.top u o ho
    exact ⟨x, h1, h2, h3⟩
  · rintro ⟨m, h1, h2, rfl⟩
    exact f.all m h1 h2
end
def notNone : PyData → Bool
  | .none => false
  | _ => true
section
variable {X : Cx} {Γ : List (Option Ty)} {a : Expr} {pos p2 : Pos} {d : PyData} {j : Nat}
theorem et_notNone (ha : EV X Γ a (isD X.K d)) (hm : behindInMarks .IsNot (.Constant .none j p2) = false := by rfl) : ET X Γ (.Compare a [.IsNot] [.Constant .none j p2] pos) (notNone d) :=
  .of (pt_cmpR op_notN pe_w pe_w hm) fun σ H g => ha.use g fun v H1 s1 q1 => (ev_non (Γ := Γ)).use (g.up s1) fun u H2 s2 q2 => by
    refine ⟨dp_non q2, _, rfl, s1.trans s2, ?_⟩
    cases q1 <;> simp [notNone]
end
def fallsT (K : PySem.W.Frag) (P : Program) (w : World) (p : Prg) (ms : List Mom) (mo : Mom → Option Nat) : Ty := exT (fun t : Tb => FInv p mo ms t) fun t => isN K P w (tTy K t)
section
variable {P : Program} {w : World} {K : PySem.W.Frag} {mg : Str → Option Value} {base : Heap}
def Rfalls (K : PySem.W.Frag) (P : Program) (w : World) (C : Addr) : List Ty → Ty → Prop := fun τs τ => ∃ (l : List (Str × Ty)) (p : Prg) (ms : List Mom) (mo : Mom → Option Nat), l.lookup ("held_program" : Str) = some (isD K p.d) ∧ l.lookup ("held_steps" : Str) = some (stepsT K P w p ms) ∧ l.lookup ("held_most" : Str) = some (mostsT K P w ms mo) ∧
  l.lookup ("moments" : Str) = none ∧ l.lookup ("fall_key" : Str) = none ∧ l.lookup ("most_key" : Str) = none ∧ Clo p ms ∧ τs = [awT C l] ∧ τ = fallsT K P w p ms mo
abbrev NK7 : List Str := ["self", "found", "moment", "key", "waking"]
theorem sc_falls : FnScope NK7 ["self"] (defScope (inClass (top 36) 7)) := ⟨rfl, rfl, rfl, by decide +kernel, rfl, by decide +kernel, by decide +kernel⟩
abbrev X7 (P : Program) (w : World) (K : PySem.W.Frag) (mg : Str → Option Value) (base : Heap) (f : Addr) (cdv : Value) (A : Around) (outer : List PySem.Env) (s : Shared) (H : Hp) (E : XK) : Cx := cx P w K mg base NK7 "Awake.falls" (inClass (top 36) 7) f cdv A outer s H E
theorem ok_falls {C : Addr} {f : Addr} {fd : FuncData} (F : Fun K "falls" "Awake.falls" (inClass (top 36) 7) f fd) (c : AwC K C) (c1 : MetS P w K mg base C "moments" 1 1 (spF (Rmoments K P w C))) (c2 : MetS P w K mg base C "fall_key" 2 5 (spF (RfallKey K P w C)))
    (c3 : FnS P w K mg base "waking_of" 2 6 (spF (Rwoken K))) : FnOk P w K mg base CX0 7 f fd ["self"] (spF (Rfalls K P w C)) := by
  refine fn_bd F sc_falls (fun τs τ h => by obtain ⟨_, _, _, _, _, _, _, _, _, _, _, rfl, _⟩ := h; rfl) fun cdv A outer s H E τs τ hr h => ⟨fun σ H0 D g0 kD => ?_⟩
  obtain ⟨l, p, ms, mo, hlp, hls, hlm, hl1, hl2, hl3, clo, rfl, rfl⟩ := h
  have nd := sc_falls.nd
  have hu9 : (X7 P w K mg base f cdv A outer s H E).A.units + 9 < cLine := Nat.lt_of_le_of_lt (Nat.add_le_add_left (by decide : 9 ≤ 64) _) hr.units
  have hu0 : (X7 P w K mg base f cdv A outer s H E).A.units < cLine := Nat.lt_of_le_of_lt (Nat.le_add_right _ 64) hr.units
  refine wB_cons (wS_newN (M := []) 1 nd (fun p hp => by cases hp) (by rw [cuts_nil]; exact g0) fun d H1 _ hd0 ec1 _ n1 g1 => ?_)
  rw [cuts_nil] at ec1
  refine wB_cons (wS_forM (pg_name (i := 2) nd rfl (.inl rfl)) rfl (Cutbs.one n1.cutb) g1 (ev_meth0 (ev_n 0 rfl) c.cls c1 (hr.mono (by decide)) hl1 ⟨l, p, ms, hls, rfl, rfl⟩) fun H2 h2 s2 g2 => ?_)
  refine ⟨fun i σ' H' => ∃ t : Tb, FInv p mo ((msort ms).take i) t ∧ Nof (X7 P w K mg base f cdv A outer s H E) [d] H' d (tTy K t) ∧ Env [some (awT C l), some (isV (.ref d)), none, none, none] σ' (cuts [d] H') ∧ Same (cuts [d] H2) (cuts [d] H'),
    ⟨[], by rw [List.take_zero]; exact .nil, n1.fr (h2 d (by simp)) s2, g2, Same.refl _⟩, (fun _ _ _ h => by obtain ⟨_, _, _, _, z⟩ := h; exact z.trans cuts_same), fun i dd v σ' H' hdd hv h => ?_, fun σ' H' h => ?_⟩
  · obtain ⟨t, q1, q2, q3, q4⟩ := h
    rw [List.getElem?_map] at hdd
    cases hmi : (msort ms)[i]? with
    | none => rw [hmi] at hdd; cases hdd
    | some m =>
      rw [hmi] at hdd
      have hdd' := Option.some.inj hdd
      subst hdd'
      have hmm : m ∈ ms := mem_msort.mp (List.mem_of_getElem? hmi)
      have hmo := clo.mom m hmm
      have etk : (msort ms).take (i + 1) = (msort ms).take i ++ [m] := by rw [List.take_succ, hmi]; rfl
      have gg := q3.set 2 (show (isD K m.d).p _ v from dp_up q4 _ _ hv)
      refine wB_cons (wS_setM 3 nd (Cutbs.one q2.cutb) gg (ev_meth (ev_n 0 rfl) c.cls c2 (hr.mono (by decide)) hl2 (evs_cons (ev_n 2 rfl) evs_nil) ⟨l, p, ms, mo, m, hlp, hlm, hl3, clo.ok, hmo, hmm, rfl, rfl⟩) fun kv H3 h3 s3 g3 => ?_)
      have n3 := q2.fr (h3 d (by simp)) s3
      have e3 := q4.trans s3
      have c3' := Cutbs.one n3.cutb
      by_cases hc : p.cst m = 0
      · rw [if_pos hc] at g3
        refine wB_one (wS_ifF c3' (g3.up cuts_same) (et_notNone (ev_n 3 rfl)) (fun h => by cases h) fun _ H4 h4 s4 => wB_nil ?_)
        exact ⟨t, by rw [etk]; exact q1.zero hc, n3.fr (h4 d (by simp)) s4, ((g3.up s4).forget 3).forget 2, e3.trans s4⟩
      · rw [if_neg hc] at g3
        have hnn : notNone (keyO (fallO (mo m) (p.cst m))) = true := by
          cases fallO (mo m) (p.cst m) <;> rfl
        refine wB_one (wS_ifF c3' (g3.up cuts_same) (et_notNone (ev_n 3 rfl)) (fun _ H4 h4 s4 => ?_) fun h => absurd h (by rw [hnn]; decide))
        have n4 := n3.fr (h4 d (by simp)) s4
        refine wB_cons (wS_setM 4 nd (Cutbs.one n4.cutb) (g3.up s4) (ev_call c3 hr (evs_cons (ev_fld (ev_n 0 rfl) c.cls c.prog hlp) (evs_cons (ev_n 2 rfl) evs_nil)) ⟨p, m, clo.ok, hmo, rfl, rfl⟩) fun wv H5 h5 s5 g5 => ?_)
        have n5 := n4.fr (h5 d (by simp)) s5
        have c5 := Cutbs.one n5.cutb
        refine wB_one (wS_ifF c5 ((g5.up cuts_same).re 1 rfl n5.ty) (et_w (ew_or (et_nnotin hu9 (ev_n 4 rfl) (ev_n 1 rfl)) fun h2 => ew_or1 (et_ltK (o1 := (look t (p.wake m)).getD none) hu0 (ev_ixX (ev_nget (m := p.wake m) (τ := pairT K ((look t (p.wake m)).getD none)) hu9 (ev_n 1 rfl) (ev_n 4 rfl) (by
          rw [tTy_keys] at h2
          have h2' : p.wake m ∈ t.map (·.1) := by simpa using h2
          obtain ⟨o', ho'⟩ := Option.isSome_iff_exists.mp (look_isSome.mpr h2')
          rw [ho']
          exact tTy_look ho')) ev_int (fun pv _ => ⟨_, rfl, rfl⟩)) (ev_n 3 rfl)))) (fun ht H6 h6 s6 => ?_) (fun ht H6 h6 s6 => ?_))
        · rw [tTy_keys] at ht
          have ht' : p.wake m ∉ t.map (·.1) ∨ kLt ((look t (p.wake m)).getD none) (fallO (mo m) (p.cst m)) = true := by simpa using ht
          have n6 := n5.fr (h6 d (by simp)) s6
          have tl := q1.len
          refine wB_one (wS_putN (d := d) (m := p.wake m) (τ := pairT K (fallO (mo m) (p.cst m))) hu9 (Cutbs.one n6.cutb) (by simp) (g5.up s6) (ev_toX m.d (lf_mom m) (ev_tup (eds_cons (ev_n 3 rfl) (eds_cons (ev_n 2 rfl) eds_nil)))) (ev_n 1 rfl) (ev_n 4 rfl) n6 (by rw [List.length_take] at tl; have := msort_len ms; have := clo.len; rw [tTy_len]; omega) fun H7 s7 h7 n7 g7 => ?_)
          rw [tTy_put] at n7
          exact ⟨_, by rw [etk]; exact q1.more hc ht', n7, ((g7.forget 4).forget 3).forget 2, e3.trans (s4.trans (s5.trans (s6.trans s7)))⟩
        · rw [tTy_keys, Bool.or_eq_false_iff] at ht
          have hk : p.wake m ∈ t.map (·.1) := by simpa using ht.1
          obtain ⟨o', ho'⟩ := Option.isSome_iff_exists.mp (look_isSome.mpr hk)
          have hkl := ht.2
          rw [ho'] at hkl
          exact wB_nil ⟨t, by rw [etk]; exact q1.keep hc ho' (kLt_false hkl), n5.fr (h6 d (by simp)) s6, (((g5.up s6).forget 4).forget 3).forget 2, e3.trans (s4.trans (s5.trans s6))⟩
  · obtain ⟨t, q1, q2, q3, q4⟩ := h
    rw [List.length_map, List.take_length] at q1
    refine wB_one (wS_ret (wE_nm 1 q3 rfl (kD _ _ ?_ ⟨t, q1.perm (fun m => mem_msort) (Nat.le_of_eq (msort_len ms)), q2.ty⟩)))
    have z := s2.trans q4
    rw [ec1] at z
    exact z.trans cuts_same
end
end EC

set_option Elab.async false
set_option linter.all false
set_option maxRecDepth 100000
set_option maxHeartbeats 8000000
/-! EcK10: fields that are set; the start of an Awake. -/
namespace EC
open PySem PySem.Spec PyProof.Rows L2
/-- nothing of it stands in an instance -/
def Ni (τ : Ty) : Prop := ∀ (H : Hp) (v : V) (S C dx : Addr) (fs : List (Str × V)), H S = some (.ins C dx fs) → τ.p H v → τ.p (cuts [S] H) v
theorem rd_cutS {H : Hp} {S C dx b : Addr} {fs : List (Str × V)} {u : HO} (h : H S = some (.ins C dx fs)) (hu : ∀ C dx fs, u ≠ .ins C dx fs) (r : Rd H b u) : Rd (cuts [S] H) b u := by
  have hb : b ∉ [S] := fun z => by
    cases List.mem_singleton.mp z
    rcases r with r | ⟨o, r⟩
    · rw [h] at r; cases r; exact hu _ _ _ rfl
    · rw [h] at r; cases r
  rcases r with r | ⟨o, r⟩
  · exact .inl (by rw [cuts_out hb]; exact r)
  · exact .inr ⟨o, by rw [cuts_out hb]; exact r⟩
section
variable {K : PySem.W.Frag} {H : Hp} {S C dx : Addr} {fs : List (Str × V)}
mutual
theorem dp_cutS (h : H S = some (.ins C dx fs)) : ∀ (d : PyData) (v : V), Dp K H v d → Dp K (cuts [S] H) v d
  | .none, _, q => by cases q; exact .non
  | .bool b, _, q => by cases q; exact .bl b
  | .int i, _, q => by cases q; exact .int i
  | .str x, _, q => by cases q; exact .str x
  | .list ds, _, q => by
    cases q with
    | lst h1 h2 =>
      refine .lst ?_ (dpAll_cutS h ds _ h2)
      rcases h1 with h1 | h1
      · exact .inl (rd_cutS h (fun _ _ _ => nofun) h1)
      · exact .inr h1
  | .tuple ds, _, q => by
    cases q with
    | tup h1 h2 =>
      refine .tup ?_ (dpAll_cutS h ds _ h2)
      rcases h1 with h1 | h1
      · exact .inl (rd_cutS h (fun _ _ _ => nofun) h1)
      · exact .inr h1
  | .dict _, _, q => by cases q
theorem dpAll_cutS (h : H S = some (.ins C dx fs)) : ∀ (ds : List PyData) (vs : List V), DpAll K H vs ds → DpAll K (cuts [S] H) vs ds
  | [], _, q => by cases q; exact .nil
  | d :: ds, _, q => by
    cases q with
    | cons h1 h2 => exact .cons (dp_cutS h d _ h1) (dpAll_cutS h ds _ h2)
end
end
theorem ni_D {K : PySem.W.Frag} {d : PyData} : Ni (isD K d) := fun _ _ _ _ _ _ h q => dp_cutS h _ _ q
theorem ni_V {x : V} : Ni (isV x) := fun _ _ _ _ _ _ _ q => q
theorem ni_X {β : Type} {S : β → Prop} {f : β → Ty} (h : ∀ x, S x → Ni (f x)) : Ni (exT S f) := fun _ _ _ _ _ _ hs ⟨x, h1, h2⟩ => ⟨x, h1, h x h1 _ _ _ _ _ _ hs h2⟩
theorem nvals_cutS {H : Hp} {S C dx : Addr} {fs : List (Str × V)} (h : H S = some (.ins C dx fs)) : ∀ {xs : NX} {l : List (Mom × Ty)}, (∀ q ∈ l, Ni q.2) → NVals H xs l → NVals (cuts [S] H) xs l
  | _, _, _, .nil => .nil
  | _, _, hl, .cons z r => .cons ⟨z.1, hl _ List.mem_cons_self _ _ _ _ _ _ h z.2⟩ (nvals_cutS h (fun q hq => hl q (List.mem_cons_of_mem _ hq)) r)
theorem ni_N {K : PySem.W.Frag} {P : Program} {w : World} {l : List (Mom × Ty)} (hl : ∀ q ∈ l, Ni q.2) : Ni (isN K P w l) := fun _ _ _ _ _ _ h ⟨a, xs, ep, h1, h2, h3, h4⟩ =>
  ⟨a, xs, ep, h1, rd_cutS h (fun _ _ _ => nofun) h2, fun x hx => dp_cutS h _ _ (h3 x hx), nvals_cutS h hl h4⟩
theorem ni_map {K : PySem.W.Frag} {P : Program} {w : World} {ms : List Mom} {f : Mom → Ty} (h : ∀ m, Ni (f m)) : Ni (isN K P w (ms.map fun m => (m, f m))) := ni_N fun q hq => by
  obtain ⟨m, _, rfl⟩ := List.mem_map.mp hq
  exact h m
theorem ni_steps {K : PySem.W.Frag} {P : Program} {w : World} {p : Prg} {ms : List Mom} : Ni (stepsT K P w p ms) := ni_map fun _ => ni_D
theorem ni_behs {K : PySem.W.Frag} {P : Program} {w : World} {p : Prg} {ms : List Mom} : Ni (behsT K P w p ms) := ni_map fun _ => ni_X fun _ _ => ni_map fun _ => ni_D
theorem ni_most {K : PySem.W.Frag} {P : Program} {w : World} {ms : List Mom} {mo : Mom → Option Nat} : Ni (mostsT K P w ms mo) := ni_X fun _ _ => ni_map fun _ => ni_X fun _ _ => ni_D
/-- the instance at S -/
def awS (S C : Addr) (l : List (Str × Ty)) : Ty := ⟨fun H v => v = .ref S ∧ ∃ dx fs, H S = some (.ins C dx fs) ∧ FldRel H fs l, fun e ⟨h1, dx, fs, h2, h3⟩ => ⟨h1, dx, fs, e _ _ h2, fldRel_up e h3⟩⟩
theorem ev_awS {X : Cx} {Γ : List (Option Ty)} {e : Expr} {S C : Addr} {l : List (Str × Ty)} (h : EV X Γ e (awS S C l)) : EV X Γ e (awT C l) := ⟨fun σ H g => wE_mono (h.run σ H g) fun v H' ⟨q, e, dx, fs, h2, h3⟩ => ⟨q, S, dx, fs, e, h2, h3⟩⟩
def NiG (Γ : List (Option Ty)) : Prop := ∀ (i : Nat) (τ : Ty), i ≠ 0 → Γ[i]? = some (some τ) → Ni τ
theorem niG_of {τ : Option Ty} {Γ : List (Option Ty)} (h : ∀ σ ∈ Γ, ∀ τ, σ = some τ → Ni τ) : NiG (τ :: Γ) := fun i τ' hi e => by
  cases i with
  | zero => exact absurd rfl hi
  | succ j =>
    rw [List.getElem?_cons_succ] at e
    exact h _ (List.mem_of_getElem? e) τ' rfl
theorem fldRel_cutS {H : Hp} {S C dx : Addr} {gs : List (Str × V)} (h : H S = some (.ins C dx gs)) : ∀ {fs : List (Str × V)} {l : List (Str × Ty)}, (∀ q ∈ l, Ni q.2) → FldRel H fs l → FldRel (cuts [S] H) fs l
  | _, _, _, .nil => .nil
  | _, _, hl, .cons z r => .cons ⟨z.1, hl _ List.mem_cons_self _ _ _ _ _ _ h z.2⟩ (fldRel_cutS h (fun q hq => hl q (List.mem_cons_of_mem _ hq)) r)
theorem same_cutS {H : Hp} {S : Addr} {u : HO} : Same (cuts [S] H) (upd H S u) := fun b v e => by
  obtain ⟨h1, h2⟩ := cuts_some e
  rw [upd_ne (fun z => h1 (by simp [z]))]
  exact h2
/-- behind self.f = v, with all that stays -/
theorem Env.fld {Γ : List (Option Ty)} {σ : L2.St} {H : Hp} {S C dx : Addr} {fs : List (Str × V)} {l : List (Str × Ty)} {f : Str} {v : V} {τ : Ty} (g : Env Γ σ H) (h0 : Γ[0]? = some (some (awS S C l))) (hΓ : NiG Γ) (hl : ∀ q ∈ l, Ni q.2) (hτ : Ni τ) (hS : H S = some (.ins C dx fs)) (hf : l.lookup f = none) (hv : τ.p H v) :
    Env (Γ.set 0 (some (awS S C (l ++ [(f, τ)])))) σ (upd H S (.ins C dx (putF f v fs))) := by
  refine ⟨by rw [List.length_set]; exact g.len, fun i τ' e => ?_⟩
  by_cases hi : i = 0
  · subst hi
    obtain ⟨x, h1, h2⟩ := g.at_ 0 _ h0
    obtain ⟨rfl, dx', fs', h3, h4⟩ := h2
    rw [hS] at h3
    cases h3
    have hlt : 0 < Γ.length := by
      cases Γ with
      | nil => cases h0
      | cons _ _ => simp
    rw [List.getElem?_set_self hlt] at e
    cases e
    refine ⟨_, h1, rfl, dx, _, upd_same, ?_⟩
    exact fldRel_up same_cutS ((fldRel_cutS hS hl h4).put hf (hτ _ _ _ _ _ _ hS hv))
  · rw [List.getElem?_set_ne (Ne.symm hi)] at e
    obtain ⟨x, h1, h2⟩ := g.at_ i τ' e
    exact ⟨x, h1, τ'.up same_cutS (hΓ i τ' hi e _ _ _ _ _ _ hS h2)⟩
section
variable {X : Cx} {Γ : List (Option Ty)} {σ : L2.St} {H : Hp} {e o value : Expr} {pos pos' : Pos} {τ : Ty} {D : Ends} {S C : Addr} {l : List (Str × Ty)} {f : Str}
theorem wS_fld (h : wE X value σ H fun v H1 => wE X o σ H1 fun u H2 => ∃ S C dx fs, u = .ref S ∧ H2 S = some (.ins C dx fs) ∧ Cls X.K C ∧ NoAttr X.K C f ∧ fs.length < 1000 ∧ D.nx σ (upd H2 S (.ins C dx (putF f v fs)))) (hs : swapsWith value (some (.Attribute o f pos')) pos.line X.env = pure false := by rfl) :
    wS X (.Assign [.Attribute o f pos'] value pos) D σ H := wS_of (ps_fld pe_w pe_w hs) h
/-- self.f = e -/
theorem wS_fldE (c : Cls X.K C) (hn : NoAttr X.K C f) (g : Env Γ σ H) (h0 : Γ[0]? = some (some (awS S C l))) (hΓ : NiG Γ) (hl : ∀ q ∈ l, Ni q.2) (hτ : Ni τ) (hf : l.lookup f = none) (hz : l.length < 100) (he : EV X Γ value τ) (ho : EV X Γ o (awS S C l))
    (k : ∀ H1, Same (cuts [S] H) (cuts [S] H1) → Env (Γ.set 0 (some (awS S C (l ++ [(f, τ)])))) σ H1 → D.nx σ H1) (hs : swapsWith value (some (.Attribute o f pos')) pos.line X.env = pure false := by rfl) : wS X (.Assign [.Attribute o f pos'] value pos) D σ H :=
  wS_fld (he.use g fun v H1 s1 q1 => ho.use (g.up s1) fun u H2 s2 q2 => by
    obtain ⟨rfl, dx, fs, h1, h2⟩ := q2
    refine ⟨S, C, dx, fs, rfl, h1, c, hn, by rw [h2.len]; omega, k _ ?_ (((g.up s1).up s2).fld h0 hΓ hl hτ h1 hf (τ.up s2 q1))⟩
    rw [cuts_upd (by simp)]
    exact cuts_mono (s1.trans s2)) hs
end
end EC

set_option Elab.async false
set_option linter.all false
set_option maxRecDepth 100000
set_option maxHeartbeats 8000000
/-! EcK11: Awake's __init__. -/
namespace EC
open PySem PySem.Spec PyProof.Rows L2
theorem cuts_updO {M : List Addr} {H : Hp} {p : Addr} {o : HO} (h : p ∉ M) : cuts M (upd H p o) = upd (cuts M H) p o := by
  funext b
  by_cases hb : b ∈ M
  · rw [cuts_in hb, upd_ne (fun e => h (by rw [← e]; exact hb)), cuts_in hb]
  · rw [cuts_out hb]
    unfold upd
    split
    · rfl
    · exact (cuts_out hb).symm
section
variable {X : Cx} {Γ : List (Option Ty)} {σ : L2.St} {H : Hp} {M : List Addr} {L : Addr} {ds : List PyData}
/-- more waits, told by what changes -/
theorem wE_extF {o e : Expr} {Q : VK} {apos cpos : Pos} {es : List PyData} (hm : Cutbs X M H) (hL : L ∈ M) (ha : wE X o σ H fun v H1 => v = .ref L ∧ H1 = H) (h : Lof X.K M H L ds) (hlf : lfs es = true)
    (he : wE X e σ H fun v H1 => Same H H1 ∧ ∃ q acc, v = .ref q ∧ H1 q = some (.lst acc) ∧ DpAll X.K H1 acc es) (hz : ds.length + es.length ≤ 100000)
    (k : ∀ H1, Same (cuts M H) (cuts M H1) → (∀ p ∈ M, p ≠ L → H1 p = H p) → Lof X.K M H1 L (ds ++ es) → Q .non H1)
    (hb : attributeBase o "extend" X.env (eval o X.env) = eval o X.env := by rfl) (hl : (apos.endLine == cpos.line) = true := by rfl)
    (hw : ((backTo cpos (starEach [e] X.env)).all (fun x => !x.1) && (backToKw cpos (keywordEach [] X.env)).all (fun x => x.1.isSome) && decide (([e] : List Expr).length + ([] : List Keyword).length + (if ([] : List Keyword).isEmpty then 0 else 1) < 30)) = true := by rfl)
    (hs : starEach [e] X.env = (false, eval e X.env) :: starEach [] X.env := by rfl) : wE X (.Call (.Attribute o "extend" apos) [e] [] cpos) σ H Q := by
  refine wE_extend (wE_mono ha fun v H1 ⟨e1, e2⟩ => ?_) hb hl hw hs
  subst e1 e2
  obtain ⟨acc, h1, h2⟩ := h
  refine ⟨L, rfl, ⟨acc, h1⟩, wE_mono he fun y H2 ⟨s, q, zs, e3, h4, h5⟩ => ?_⟩
  have h3 := keepM hm s
  have hl1 := dpAll_len h2
  have hl2 := dpAll_len h5
  have ec : cuts M (upd H2 L (.lst (acc ++ zs))) = cuts M H2 := cuts_upd hL
  refine ⟨q, acc, zs, e3, (h3 L hL).trans h1, h4, by rw [sizeLine_eq]; omega, k _ (by rw [ec]; exact cuts_mono s) (fun p hp hne => by rw [upd_ne hne]; exact h3 p hp) ⟨acc ++ zs, upd_same, ?_⟩⟩
  rw [ec]
  exact dpAll_app (dpAll_up (cuts_mono s) _ _ h2) (dpAll_imm (cutbs_tup (hm.of h3)) _ _ hlf h5)
/-- w = [x] -/
theorem wS_newL {D : Ends} {e : Expr} {x : Str} {dx : PyData} {p p2 pos : Pos} (j : Nat) (hN : X.N.Nodup) (hm : Cutbs X M H) (g : Env Γ σ (cuts M H)) (he : EDs X Γ [e] [dx])
    (k : ∀ L H1, L ∉ M → H L = none → (∀ p ∈ M, H1 p = H p) → Same (cuts M H) (cuts (L :: M) H1) → Lof X.K (L :: M) H1 L [dx] → Env (Γ.set j (some (isV (.ref L)))) (σ.set j (some (.ref L))) (cuts (L :: M) H1) → D.nx (σ.set j (some (.ref L))) H1)
    (hi : X.N[j]? = some x := by rfl) (hx : Loc X.env.scope x := by first | exact .inl rfl | exact .inr rfl) (hs : swapsWith (.List [e] p2) (some (.Name x p)) pos.line X.env = pure false := by rfl)
    (hf : X.fn x = true ∨ X.env.scope.names.lookup x = some .local := by first | exact .inl rfl | exact .inr rfl) : wS X (.Assign [.Name x p] (.List [e] p2) pos) D σ H := by
  refine wS_set j hN (wE_lst (wA_frame M hm (he.run σ _ g) fun vs H1 h1 ⟨s, q⟩ => ?_) (Nat.le_add_left 1 999)) hi hx hs hf
  have hl := dpAll_len q
  refine ⟨by rw [hl]; exact Nat.le_trans (by decide : 1 ≤ 100000) (by rw [sizeLine_eq]; decide), fun L hL => ?_⟩
  have hLM : L ∉ M := fun z => by
    obtain ⟨u, h2, _⟩ := hm L z
    rw [h1 L z, h2] at hL; cases hL
  have hL0 : H L = none := by
    cases hh : H L with
    | none => rfl
    | some u =>
      have := s L u (by rw [cuts_out hLM]; exact hh)
      rw [(cuts_some this).2] at hL; cases hL
  have ec : cuts (L :: M) (upd H1 L (.lst vs)) = cuts M H1 := cuts_add hL
  have sx : Same (cuts M H) (cuts (L :: M) (upd H1 L (.lst vs))) := by rw [ec]; exact s
  exact k L _ hLM hL0 (fun p hp => by rw [upd_ne (fun e => hLM (by rw [← e]; exact hp))]; exact h1 p hp) sx ⟨vs, upd_same, by rw [ec]; exact q⟩ ((g.up sx).set j rfl)
end
section
variable {P : Program} {w : World} {K : PySem.W.Frag} {mg : Str → Option Value} {base : Heap}
abbrev fl2 (K : PySem.W.Frag) (p : Prg) (wk : Mom) : List (Str × Ty) := [("held_program", isD K p.d), ("held_waking", isD K wk.d)]
abbrev fl3 (K : PySem.W.Frag) (p : Prg) (wk : Mom) (τ : Ty) : List (Str × Ty) := [("held_program", isD K p.d), ("held_waking", isD K wk.d), ("held_steps", τ)]
abbrev fl4 (K : PySem.W.Frag) (P : Program) (w : World) (p : Prg) (wk : Mom) (ms : List Mom) : List (Str × Ty) := [("held_program", isD K p.d), ("held_waking", isD K wk.d), ("held_steps", stepsT K P w p ms), ("held_behind", behsT K P w p ms)]
abbrev fl5 (K : PySem.W.Frag) (P : Program) (w : World) (p : Prg) (wk : Mom) (ms : List Mom) (mo : Mom → Option Nat) : List (Str × Ty) := [("held_program", isD K p.d), ("held_waking", isD K wk.d), ("held_steps", stepsT K P w p ms), ("held_behind", behsT K P w p ms), ("held_most", mostsT K P w ms mo)]
def spInit (K : PySem.W.Frag) (P : Program) (w : World) (C : Addr) : Sp := fun vs H Q _ => ∃ (S dx : Addr) (pv wv : V) (p : Prg) (wk : Mom) (L : List Mom) (mo : Mom → Option Nat), vs = [.ref S, pv, wv] ∧ H S = some (.ins C dx []) ∧ Dp K H pv p.d ∧ Dp K H wv wk.d ∧ Few p wk L ∧ (∀ m, Rch p.nx wk m → IsMost p.nx p.cst wk m (mo m)) ∧
  ∀ ms H', Whole p wk ms → Same (cuts [S] H) H' → (awT C (fl5 K P w p wk ms mo)).p H' (.ref S) → Q .non H'
abbrev NK0 : List Str := ["self", "program", "waking", "waiting", "moment", "step", "after"]
theorem sc_init : FnScope NK0 ["self", "program", "waking"] (defScope (inClass (top 36) 0)) := ⟨rfl, rfl, rfl, by decide +kernel, rfl, by decide +kernel, by decide +kernel⟩
abbrev X0 (P : Program) (w : World) (K : PySem.W.Frag) (mg : Str → Option Value) (base : Heap) (f : Addr) (cdv : Value) (A : Around) (outer : List PySem.Env) (s : Shared) (H : Hp) (E : XK) : Cx := cx P w K mg base NK0 "Awake.__init__" (inClass (top 36) 0) f cdv A outer s H E
theorem awS_re {S C : Addr} {H : Hp} {p : Prg} {wk : Mom} {x : V} {τ : Ty} (h : (awS S C (fl3 K p wk (isV x))).p H (.ref S)) (hx : τ.p H x) : (awS S C (fl3 K p wk τ)).p H (.ref S) := by
  obtain ⟨_, dx, fs, h1, h2⟩ := h
  refine ⟨rfl, dx, fs, h1, ?_⟩
  cases h2 with
  | cons a h2 =>
    cases h2 with
    | cons b h2 =>
      cases h2 with
      | cons c h2 =>
        cases h2
        have e : _ = x := c.2
        exact .cons a (.cons b (.cons ⟨c.1, by rw [e]; exact hx⟩ .nil))
theorem ok_init {C : Addr} {f : Addr} {fd : FuncData} (F : Fun K "__init__" "Awake.__init__" (inClass (top 36) 0) f fd) (c : AwC K C) (c1 : FnS P w K mg base "steps_of" 2 7 (spF (RstepsOf K))) (c2 : MetS P w K mg base C "moments_behind" 2 1 (spF (Rbehind K P w C)))
    (c3 : MetS P w K mg base C "all_most" 1 5 (spF (RallMost K P w C))) : FnOk P w K mg base CX0 8 f fd ["self", "program", "waking"] (spInit K P w C) := by
  refine F.ok sc_init (fun vs H Q E h => by obtain ⟨_, _, _, _, _, _, _, _, rfl, _⟩ := h; rfl) (fun cdv A outer s H vs Q E hr h => ?_)
  obtain ⟨S, dx, pv, wv, p, wk, L0, mo, rfl, hS, hpv, hwv, few, hmo, kQ⟩ := h
  refine ⟨_, pss_w, ?_⟩
  have nd := sc_init.nd
  have hu9 : (X0 P w K mg base f cdv A outer s H E).A.units + 9 < cLine := Nat.lt_of_le_of_lt (Nat.add_le_add_left (by decide : 9 ≤ 64) _) hr.units
  have hu8 : (X0 P w K mg base f cdv A outer s H E).A.units + 8 < cLine := Nat.lt_of_le_of_lt (Nat.add_le_add_left (by decide : 8 ≤ 64) _) hr.units
  have g0 : Env (startΓ NK0 [awS S C [], isD K p.d, isD K wk.d]) (L2.start NK0 [.ref S, pv, wv]) H := env_start (.cons ⟨rfl, dx, [], hS, .nil⟩ (.cons hpv (.cons hwv .nil)))
  have niΓ : ∀ l, NiG ([some (awS S C l), some (isD K p.d), some (isD K wk.d), none, none, none, none]) := fun l => niG_of fun τ hτ τ' e => by
    subst e
    simp only [List.mem_cons, List.not_mem_nil, or_false] at hτ
    rcases hτ with h | h | h | h | h | h <;> first | cases h; exact ni_D | cases h
  -- the fields that are given
  refine wB_cons (wS_fldE (S := S) (C := C) (l := []) (τ := isD K p.d) c.cls c.prog g0 rfl (niΓ []) (fun q hq => by cases hq) ni_D rfl (by decide) (ev_n 1 rfl) (ev_n 0 rfl) fun H1 s1 g1 => ?_)
  refine wB_cons (wS_fldE (S := S) (C := C) (l := [("held_program", isD K p.d)]) (τ := isD K wk.d) c.cls c.wak g1 rfl (niΓ _) (fun q hq => by cases List.mem_singleton.mp hq; exact ni_D) ni_D rfl (Nat.le_add_left 2 98) (ev_n 2 rfl) (ev_n 0 rfl) fun H2 s2 g2 => ?_)
  -- self.held_steps = {}
  refine wB_cons (wS_fld (wE_nnew fun d hd => EV.use (τ := awS S C (fl2 K p wk)) (ev_n 0 rfl) (g2.up (same_new hd)) fun u H3 s3 q3 => ?_))
  obtain ⟨rfl, dx', fs, h3, r3⟩ := q3
  have hdS : S ≠ d := by
    rintro rfl
    obtain ⟨x, _, _, dx2, fs2, h, _⟩ := g2.at_ 0 _ rfl
    rw [h] at hd; cases hd
  have s23 : Same H2 (cuts [d] H3) := same_cuts1 ((same_new hd).trans s3) hd
  have hSc : cuts [d] H3 S = some (.ins C dx' fs) := by rw [cuts_out (by simpa using hdS)]; exact h3
  refine ⟨S, C, dx', fs, rfl, h3, c.cls, c.steps, by rw [r3.len]; exact Nat.le_add_left 3 997, ?_⟩
  have g3 := (g2.up s23).fld (τ := isV (.ref d)) (f := "held_steps") rfl (niΓ (fl2 K p wk)) (fun q hq => by
    rcases List.mem_cons.mp hq with h | h
    · cases h; exact ni_D
    · cases List.mem_singleton.mp h; exact ni_D) ni_V hSc rfl rfl
  rw [← cuts_updO (by simpa using hdS)] at g3
  generalize hH4 : upd H3 S (.ins C dx' (putF "held_steps" (.ref d) fs)) = H4 at g3
  have n4 : Nof (X0 P w K mg base f cdv A outer s H E) [d] H4 d [] := ⟨[], 0, by rw [← hH4, upd_ne (Ne.symm hdS)]; exact s3 d _ upd_same, (fun x hx => by cases hx), .nil⟩
  have sS4 : Same (cuts [S] H) (cuts [d] H4) := by
    intro b u hb
    have z1 := (s1.trans s2) b u hb
    obtain ⟨z2, z3⟩ := cuts_some z1
    have z4 := s23 b u z3
    have hbS : b ≠ S := by simpa using z2
    obtain ⟨z5, z6⟩ := cuts_some z4
    rw [cuts_out z5, ← hH4, upd_ne hbS]
    exact z6
  -- waiting = [waking]
  refine wB_cons (wS_newL 3 nd (Cutbs.one n4.cutb) g3 (eds_cons (ev_n 2 rfl) eds_nil) fun L H5 hLd hL0 h5 s5 l5 g5 => ?_)
  have n5 : Nof (X0 P w K mg base f cdv A outer s H E) [L, d] H5 d [] := n4.fr2 (h5 d (by simp)) s5
  have hdL : d ≠ L := fun e => hLd (by simp [e])
  have d0 : Dfs p.nx [wk] [] [wk] := Dfs.start [wk]
  have m0 : dmeas L0 10 [] [wk] ≤ 400 := by
    unfold dmeas
    have h1 : (L0.filter fun x => decide (x ∉ ([] : List Mom))).length ≤ L0.length := List.length_filter_le _ _
    have := few.len
    simp only [List.length_cons, List.length_nil]
    omega
  have okk : ∀ {held wait : List Mom}, Dfs p.nx [wk] held wait → (∀ m ∈ held, Rch p.nx wk m) ∧ ∀ m ∈ wait, Rch p.nx wk m := fun dfs =>
    ⟨fun m h => let ⟨s, hs, r⟩ := dfs.rh m h; by cases List.mem_singleton.mp hs; exact r, fun m h => let ⟨s, hs, r⟩ := dfs.rw_ m h; by cases List.mem_singleton.mp hs; exact r⟩
  refine wB_cons (wS_while ⟨fun k σ' H' => ∃ held wait, k = dmeas L0 10 held wait ∧ k ≤ 400 ∧ Dfs p.nx [wk] held wait ∧ Nof (X0 P w K mg base f cdv A outer s H E) [L, d] H' d (held.map fun m => (m, isD K (.list (pairsOf p m)))) ∧ Lof K [L, d] H' L (wait.map Mom.d) ∧
    Env [some (awS S C (fl3 K p wk (isV (.ref d)))), some (isD K p.d), some (isD K wk.d), some (isV (.ref L)), none, none, none] σ' (cuts [L, d] H') ∧ Same (cuts [S] H) (cuts [L, d] H'), ⟨_, [], [wk], rfl, m0, d0, n5, l5, g5, sS4.trans s5⟩, ?_⟩)
  rintro k σ' H' ⟨held, wait, rfl, hk, dfs, nn, ll, gg, ss⟩
  have hcut : Cutbs (X0 P w K mg base f cdv A outer s H E) [L, d] H' := Cutbs.two ll.cutb nn.cutb
  refine wT_some (wE_nm 3 gg rfl ⟨rfl, rfl⟩) ll ?_
  have hheld : held.length ≤ 30 := Nat.le_trans (nodup_le dfs.nd fun m hm => few.all m ((okk dfs).1 m hm)) few.len
  rcases List.eq_nil_or_concat wait with rfl | ⟨wait', m, rfl⟩
  · -- all moments are there
    have whole : Whole p wk held := ⟨dfs.nd, fun m => by
      rw [dfs.done]
      exact ⟨fun ⟨s, hs, r⟩ => by cases List.mem_singleton.mp hs; exact r, fun r => ⟨wk, by simp, r⟩⟩⟩
    have clo : Clo p held := ⟨few.ok, fun m hm => few.mok ((whole.mem m).mp hm), fun m hm a ha => (whole.mem a).mpr (.snoc ((whole.mem m).mp hm) ha), hheld, dfs.nd⟩
    have gF : Env [some (awS S C (fl3 K p wk (stepsT K P w p held))), some (isD K p.d), some (isD K wk.d), some (isV (.ref L)), none, none, none] σ' H' := by
      have gu := gg.up cuts_same
      refine ⟨gu.len, fun i τ e => ?_⟩
      cases i with
      | zero =>
        cases e
        obtain ⟨x, h1, h2⟩ := gu.at_ 0 _ rfl
        obtain ⟨rfl, _⟩ := id h2
        exact ⟨_, h1, awS_re h2 nn.ty⟩
      | succ i => exact gu.at_ (i + 1) τ e
    have niF : ∀ l, NiG ([some (awS S C l), some (isD K p.d), some (isD K wk.d), some (isV (.ref L)), none, none, none]) := fun l => niG_of fun τ hτ τ' e => by
      subst e
      rcases List.mem_cons.mp hτ with h | hτ
      · cases h; exact ni_D
      · rcases List.mem_cons.mp hτ with h | hτ
        · cases h; exact ni_D
        · rcases List.mem_cons.mp hτ with h | hτ
          · cases h; exact ni_V
          · simp at hτ
    have ni3 : ∀ q ∈ fl3 K p wk (stepsT K P w p held), Ni q.2 := fun q hq => by
      rcases List.mem_cons.mp hq with h | hq
      · cases h; exact ni_D
      · rcases List.mem_cons.mp hq with h | hq
        · cases h; exact ni_D
        · cases List.mem_singleton.mp hq; exact ni_steps
    have ni4 : ∀ q ∈ fl4 K P w p wk held, Ni q.2 := fun q hq => by
      rcases List.mem_append.mp (show q ∈ fl3 K p wk (stepsT K P w p held) ++ [((("held_behind" : Str)), behsT K P w p held)] from hq) with h | h
      · exact ni3 q h
      · cases List.mem_singleton.mp h; exact ni_behs
    refine iteF (wB_cons (wS_fldE (S := S) (C := C) (l := fl3 K p wk (stepsT K P w p held)) (τ := behsT K P w p held) c.cls c.beh gF rfl (niF _) ni3 ni_behs rfl (Nat.le_add_left 4 96)
      (ev_dcN (ms := held) (f := behT K P w p) hu8 4 [("moment", 4)] rfl rfl nd (blkOk_by (N := NK0) (sc := defScope (inClass (top 36) 0)) (by decide +kernel)) (msrc_nM (f := fun m => isD K (.list (pairsOf p m))) (ev_fld (ev_awS (ev_n 0 rfl)) c.cls c.steps rfl)) (fun _ _ _ _ _ => pg_name nd rfl (.inl rfl)) (fun _ _ _ _ _ m hm => ev_n 4 rfl)
        (fun _ _ _ _ _ m hm => ev_meth (ev_awS (ev_n 0 rfl)) c.cls c2 (hr.mono (by decide)) rfl (evs_cons (ev_n 4 rfl) evs_nil) ⟨_, p, held, m, rfl, clo, hm, rfl, rfl⟩) dfs.nd (by omega)) (ev_n 0 rfl) fun H6 s6 g6 => ?_))
    refine wB_one (wS_fldE (S := S) (C := C) (l := fl4 K P w p wk held) (τ := mostsT K P w held mo) c.cls c.most g6 rfl (niF _) ni4 ni_most rfl (Nat.le_add_left 5 95)
      (ev_meth0 (ev_awS (ev_n 0 rfl)) c.cls c3 (hr.mono (by decide)) rfl ⟨_, p, wk, held, mo, rfl, rfl, rfl, rfl, rfl, rfl, clo, whole.mem, fun m hm => hmo m ((whole.mem m).mp hm), rfl, rfl⟩) (ev_n 0 rfl) fun H7 s7 g7 => ?_)
    obtain ⟨x, _, rfl, dx7, fs7, h7, r7⟩ := g7.at_ 0 _ rfl
    refine kQ held H7 whole ?_ ⟨S, dx7, fs7, rfl, h7, r7⟩
    intro b u hb
    obtain ⟨z1, _⟩ := cuts_some hb
    have z3 := (cuts_same (M := [L, d]) (H := H')) b u (ss b u hb)
    exact cuts_same b u ((s6.trans s7) b u (by rw [cuts_out z1]; exact z3))
  · rw [List.concat_eq_append] at *
    rw [List.map_append] at ll
    have em : (!(List.map Mom.d (wait' ++ [m])).isEmpty) = true := by simp
    rw [em]
    have hrm : Rch p.nx wk m := (okk dfs).2 m (by simp)
    have hmo2 := few.mok hrm
    refine iteT ⟨fun σ2 H2 => ∃ m', m' < dmeas L0 10 held (wait' ++ [m]) ∧ _, fun σ2 H2 h => h, ?_⟩
    refine wB_cons (wS_popL 4 nd (by simp) (wE_nm 3 gg rfl ⟨rfl, rfl⟩) ll gg fun y H3 c3 h3 l3 g3 => ?_)
    have n3 : Nof (X0 P w K mg base f cdv A outer s H E) [L, d] H3 d (held.map fun m => (m, isD K (.list (pairsOf p m)))) := nn.fr2 (h3 d hdL) (by rw [c3]; exact Same.refl _)
    have ss3 : Same (cuts [S] H) (cuts [L, d] H3) := by rw [c3]; exact ss
    have hw' : (wait' ++ [m]).length ≤ 400 := Nat.le_trans dmeas_le hk
    have c3' : Cutbs (X0 P w K mg base f cdv A outer s H E) [L, d] H3 := Cutbs.two l3.cutb n3.cutb
    -- the fields, with what the table holds now
    have full : ∀ {H' : Hp} {ms : List Mom} {σ2 : L2.St} {τm : Ty}, Nof (X0 P w K mg base f cdv A outer s H E) [L, d] H' d (ms.map fun m => (m, isD K (.list (pairsOf p m)))) → Env [some (awS S C (fl3 K p wk (isV (.ref d)))), some (isD K p.d), some (isD K wk.d), some (isV (.ref L)), some τm, none, none] σ2 (cuts [L, d] H') →
        Env [some (awS S C (fl3 K p wk (stepsT K P w p ms))), some (isD K p.d), some (isD K wk.d), some (isV (.ref L)), some τm, none, none] σ2 H' := fun {H' ms σ2 τm} n g => by
      have gu := g.up cuts_same
      refine ⟨gu.len, fun i τ e => ?_⟩
      cases i with
      | zero =>
        cases e
        obtain ⟨x, h1, h2⟩ := gu.at_ 0 _ rfl
        obtain ⟨rfl, _⟩ := id h2
        exact ⟨_, h1, awS_re h2 n.ty⟩
      | succ i => exact gu.at_ (i + 1) τ e
    refine wB_one (wS_ifF c3' (full n3 g3) (et_nnotin (l := held.map fun m => (m, isD K (.list (pairsOf p m)))) hu9 (ev_n 4 rfl) (ev_fld (ev_awS (ev_n 0 rfl)) c.cls c.steps rfl)) (fun ht H4 h4 s4 => ?_) (fun ht H4 h4 s4 => ?_))
    · rw [keysOf_map] at ht
      have hmh : m ∉ held := by simpa using ht
      have n4 := n3.fr (h4 d (by simp)) s4
      have l4 := l3.fr (h4 L (by simp)) s4
      have g4 := g3.up s4
      refine wB_cons (wS_putN (d := d) (m := m) (τ := isD K (.list (pairsOf p m))) hu9 (c3'.of h4) (by simp) g4 (ev_call c1 hr (evs_cons (ev_n 1 rfl) (evs_cons (ev_n 4 rfl) evs_nil)) ⟨p, m, few.ok, hmo2, rfl, rfl⟩) (ev_fld (ev_awS (ev_n 0 rfl)) c.cls c.steps rfl) (ev_n 4 rfl) n4 (by simp; omega) fun H5 s5 h5 n5 g5 => ?_)
      have n5' : Nof (X0 P w K mg base f cdv A outer s H E) [L, d] H5 d ((held ++ [m]).map fun m => (m, isD K (.list (pairsOf p m)))) := by
        have e : EC.put (held.map fun m => (m, isD K (.list (pairsOf p m)))) m (isD K (.list (pairsOf p m))) = (held ++ [m]).map fun m => (m, isD K (.list (pairsOf p m))) := by
          rw [put_new (by rw [keysOf_map]; exact hmh), List.map_append]
          rfl
        rw [← e]
        exact n5
      have l5 : Lof K [L, d] H5 L (wait'.map Mom.d) := l4.fr (h5 L (by simp) (Ne.symm hdL)) s5
      have hlx := nx_len few.ok hmo2
      refine wB_one (wS_expr (wE_extF (Cutbs.two l5.cutb n5'.cutb) (by simp) (wE_nm 3 g5 rfl ⟨rfl, rfl⟩) l5 (lfs_moms (p.nx m))
        (wE_afters (m := m) (ms := held ++ [m]) (p := p) hu9 rfl nd 5 6 [("step", 5), ("after", 6)] rfl (blkOk_by (N := NK0) (sc := defScope (inClass (top 36) 0)) (by decide +kernel)) few.ok hmo2 (by simp) (ev_fld (ev_awS (ev_n 0 rfl)) c.cls c.steps rfl) (ev_n 4 rfl) (by intro _ _; rfl) (full n5' g5) (by simp)
          (fun _ _ _ _ _ => pg_tup rfl (pgs_cons (pg_name nd rfl (.inl rfl)) (pgs_cons (pg_name nd rfl (.inl rfl)) pgs_nil))) (fun _ _ _ _ _ i => ev_n 6 rfl) (fun q acc H' q1 q2 q3 q4 => ⟨q1, q, acc, rfl, q3, q4⟩)) (by simp at hw' ⊢; omega) fun H6 s6 h6 l6 => ?_))
      rw [← List.map_append] at l6
      have hv := dmeas_visit (L := L0) (held := held) (wait := wait') (more := p.nx m) (m := m) (B := 10) (few.all m hrm) hmh hlx
      exact ⟨_, hv, held ++ [m], wait' ++ p.nx m, rfl, Nat.le_trans (Nat.le_of_lt hv) hk, dfs.visit hmh, n5'.fr (h6 d (by simp) hdL) s6, l6, (g5.up s6).forget 4, ss3.trans (s4.trans (s5.trans s6))⟩
    · rw [keysOf_map] at ht
      have hmh : m ∈ held := by simpa using ht
      exact wB_nil ⟨_, dmeas_skip, held, wait', rfl, Nat.le_trans (Nat.le_of_lt dmeas_skip) hk, dfs.skip hmh, n3.fr (h4 d (by simp)) s4, l3.fr (h4 L (by simp)) s4, (g3.up s4).forget 4, ss3.trans s4⟩
end
end EC

set_option Elab.async false
set_option linter.all false
set_option maxRecDepth 100000
set_option maxHeartbeats 8000000
/-! EcK12: awake_from, most_spent, falls_from. -/
namespace EC
open PySem PySem.Spec PyProof.Rows L2
theorem mom_shaped (m : Mom) : SeqAt.shaped m.d = true := by
  have h1 := mom_depth m
  have h2 : m.d.canLay0 = true := by
    have hi : ∀ ns : List Int, PyData.canLayAll0 (ns.map PyData.int) = true := by
      intro ns
      induction ns with
      | nil => simp [PyData.canLayAll0]
      | cons n ns ih =>
        show PyData.canLayAll0 (.int n :: ns.map PyData.int) = true
        simp [PyData.canLayAll0, PyData.canLay0, ih]
    simp [Mom.d, intsD, PyData.canLay0, PyData.canLayAll0, hi]
  show (m.d.canLay0 && decide (m.d.depth ≤ 64)) = true
  rw [h2, Bool.true_and]
  exact decide_eq_true (by omega)
def widthO (o : Option Nat) : PyData := widthD (o.map Int.ofNat)
def awX (K : PySem.W.Frag) (P : Program) (w : World) (C : Addr) (p : Prg) (wk : Mom) (mo : Mom → Option Nat) : Ty := exT (fun ms : List Mom => Whole p wk ms) fun ms => awT C (fl5 K P w p wk ms mo)
/-- the class as something to be made -/
structure MkS (P : Program) (w : World) (K : PySem.W.Frag) (mg : Str → Option Value) (base : Heap) (C : Addr) (x : Str) (n k : Nat) (sp : Sp) : Prop where
  ex : ∃ (f : Addr) (fd : FuncData) (ps : List Str), ps.length = n ∧ FnOk P w K mg base CX0 k f fd ps sp ∧ Mk K C f ∧ Binds K fd ps [] ∧ mg x = some (.ref C)
section
variable {X : Cx} {Γ : List (Option Ty)} {e o : Expr} {es : List Expr} {pos p2 apos cpos : Pos} {τ : Ty} {C : Addr} {m x : Str} {k n : Nat}
theorem ev_makeAw {p : Prg} {wk : Mom} {L : List Mom} {mo : Mom → Option Nat} (F : MkS X.prog X.w X.K X.mg X.base C x 3 k (spInit X.K X.prog X.w C)) (hr : Room (k + 1) X.A) (ha : EVs X Γ (e :: es) [isD X.K p.d, isD X.K wk.d]) (few : Few p wk L) (hmo : ∀ m, Rch p.nx wk m → IsMost p.nx p.cst wk m (mo m)) (hg : Gl X x := by rfl) (hdb : (x == ("__debug__" : Str)) = false := by decide)
    (he : starEach (e :: es) X.env = (false, eval e X.env) :: starEach es X.env := by rfl) (hpl : (backTo pos (starEach es X.env)).any (·.1) = false := by rfl) : EV X Γ (.Call (.Name x p2) (e :: es) [] pos) (awX X.K X.prog X.w C p wk mo) := by
  obtain ⟨f, fd, ps, _, F, M, hb, hm⟩ := F.ex
  refine .of (pe_make M F hr hg hm hb .nil pass0 pa_w hdb he hpl) fun σ H g => ha.use g fun vs H1 s1 q1 => ?_
  intro S dx hS hdx hne
  cases q1 with
  | cons h1 q1 =>
    cases q1 with
    | cons h2 q1 =>
      cases q1
      have sx : Same H1 (upd (upd H1 dx (.own S)) S (.ins C dx [])) := fun b u hb => by
        rw [upd_ne (ne_of_none hb hS), upd_ne (ne_of_none hb hdx)]
        exact hb
      refine ⟨S, dx, _, _, p, wk, L, mo, rfl, upd_same, dp_up sx _ _ h1, dp_up sx _ _ h2, few, hmo, fun ms H' whole same aw => ⟨rfl, fun b u hb => ?_, ms, whole, aw⟩⟩
      have hb1 := s1 b u hb
      exact same b u (by rw [cuts_out (by simpa using ne_of_none hb1 hS)]; exact sx b u hb1)
theorem ev_meth0X {R : List Ty → Ty → Prop} {β : Type} {S : β → Prop} {l : β → List (Str × Ty)} (ho : EV X Γ o (exT S fun x => awT C (l x))) (c : Cls X.K C) (F : MetS X.prog X.w X.K X.mg X.base C m n k (spF R)) (hr : Room k X.A) (hm : ∀ x, (l x).lookup m = none) (h : ∀ x, S x → R [awT C (l x)] τ) {pl : Sem Bool}
    (ht : eval (.Call (.Attribute o m apos) [] [] cpos) X.env = (do
      let ov ← eval o X.env
      standAt apos.atName
      let (f, first) ← holding [ov] (getMethod ov m pl)
      callWith cpos f first (backTo cpos (starEach [] X.env)) (backToKw cpos (keywordEach [] X.env))) := by rfl) : EV X Γ (.Call (.Attribute o m apos) [] [] cpos) τ := by
  obtain ⟨f, fd, ps, _, F, hM, hb⟩ := F.ex
  refine .of (pe_meth0 pe_w c hM F hr hb .nil pass0 ht) fun σ H g => ho.use g fun v H1 s1 q1 => ?_
  obtain ⟨x, hx, q1⟩ := q1
  obtain ⟨S', dx, fs, rfl, h2, h3⟩ := id q1
  refine ⟨S', dx, fs, rfl, h2, h3.none_ (hm x), ?_⟩
  exact ⟨_, τ, h x hx, .cons q1 .nil, fun v H' s3 q => ⟨s1.trans s3, q⟩⟩
/-- a slot is opened -/
theorem bd_openX {β : Type} {S : β → Prop} {f : β → Ty} {sts : List Stmt} (i : Nat) (hi : i < Γ.length) (h : ∀ x, S x → BD X (Γ.set i (some (f x))) sts τ) : BD X (Γ.set i (some (exT S f))) sts τ := ⟨fun σ H D g k => by
  obtain ⟨v, h1, x, hx, h2⟩ := g.at_ i _ (List.getElem?_set_self hi)
  refine (h x hx).run σ H D ⟨by rw [List.length_set]; rw [← g.len, List.length_set], fun j τ' e => ?_⟩ k
  by_cases hj : i = j
  · subst hj
    rw [List.getElem?_set_self hi] at e
    cases e
    exact ⟨v, h1, h2⟩
  · rw [List.getElem?_set_ne hj] at e
    exact g.at_ j τ' (by rw [List.getElem?_set_ne hj]; exact e)⟩
end
section
variable {P : Program} {w : World} {K : PySem.W.Frag} {mg : Str → Option Value} {base : Heap}
def Rawake (K : PySem.W.Frag) (P : Program) (w : World) (C : Addr) : List Ty → Ty → Prop := fun τs τ => ∃ (p : Prg) (wk : Mom) (L : List Mom) (mo : Mom → Option Nat), Few p wk L ∧ p.wake wk = wk ∧ (∀ m, Rch p.nx wk m → IsMost p.nx p.cst wk m (mo m)) ∧ τs = [isD K p.d, isD K wk.d] ∧ τ = awX K P w C p wk mo
abbrev NA1 : List Str := ["program", "waking"]
theorem sc_awake : FnScope NA1 NA1 (defScope (top 38)) := ⟨rfl, rfl, rfl, by decide +kernel, rfl, by decide +kernel, by decide +kernel⟩
theorem ok_awake {C : Addr} {f : Addr} {fd : FuncData} (F : Fun K "awake_from" "awake_from" (top 38) f fd) (c1 : FnS P w K mg base "is_moment" 2 4 (spF (RisMom K))) (c2 : FnS P w K mg base "waking_of" 2 6 (spF (Rwoken K))) (c3 : MkS P w K mg base C "Awake" 3 8 (spInit K P w C)) :
    FnOk P w K mg base CX0 10 f fd NA1 (spF (Rawake K P w C)) := by
  refine fn_bd F sc_awake (fun τs τ h => by obtain ⟨_, _, _, _, _, _, _, rfl, _⟩ := h; rfl) fun cdv A outer s H E τs τ hr h => ?_
  obtain ⟨p, wk, L, mo, few, hwk, hmo, rfl, rfl⟩ := h
  have hu := hr.units
  refine bd_if (et_w (ew_or (et_not (et_val (ev_call c1 (hr.mono (by decide)) (evs_cons (ev_n 0 rfl) (evs_cons (ev_n 1 rfl) evs_nil)) ⟨p, wk, few.ok, few.wok, rfl, rfl⟩))) fun _ => ew_or1 (et_neD (d := wk.d) (d' := wk.d) (k := false) hu (ev_call c2 (hr.mono (by decide)) (evs_cons (ev_n 0 rfl) (evs_cons (ev_n 1 rfl) evs_nil)) ⟨p, wk, few.ok, few.wok, rfl, by rw [hwk]; rfl⟩) (ev_n 1 rfl) (mom_shaped wk) (mom_shaped wk) (by rw [mom_eqv_self]; rfl)))) (fun h => by cases h) fun _ => ?_
  exact bd_ret (ev_makeAw c3 hr (evs_cons (ev_n 0 rfl) (evs_cons (ev_n 1 rfl) evs_nil)) few hmo)
def RmostSpent (K : PySem.W.Frag) : List Ty → Ty → Prop := fun τs τ => ∃ (p : Prg) (wk : Mom) (L : List Mom) (mo : Mom → Option Nat) (ms : List Mom), Few p wk L ∧ p.wake wk = wk ∧ (∀ m, Rch p.nx wk m → IsMost p.nx p.cst wk m (mo m)) ∧ Whole p wk ms ∧ τs = [isD K p.d, isD K wk.d] ∧ τ = isD K (.tuple ((msort ms).map fun m => .tuple [m.d, widthO (mo m)]))
abbrev NA2 : List Str := ["program", "waking", "awake", "moment"]
theorem sc_mostSpent : FnScope NA2 NA1 (defScope (top 39)) := ⟨rfl, rfl, rfl, by decide +kernel, rfl, by decide +kernel, by decide +kernel⟩
theorem ok_mostSpent {C : Addr} {f : Addr} {fd : FuncData} (F : Fun K "most_spent" "most_spent" (top 39) f fd) (B : Bi mg) (c : AwC K C) (c1 : FnS P w K mg base "awake_from" 2 10 (spF (Rawake K P w C))) (c2 : MetS P w K mg base C "moments" 1 1 (spF (Rmoments K P w C))) (c3 : MetS P w K mg base C "most_key" 2 1 (spF (RmostKey K P w C)))
    (c4 : FnS P w K mg base "width_of_key" 1 1 (spF (RwidthOf K))) : FnOk P w K mg base CX0 11 f fd NA1 (spF (RmostSpent K)) := by
  refine fn_bd F sc_mostSpent (fun τs τ h => by obtain ⟨_, _, _, _, _, _, _, _, _, rfl, _⟩ := h; rfl) fun cdv A outer s H E τs τ hr h => ?_
  obtain ⟨p, wk, L, mo, ms, few, hwk, hmo, whole, rfl, rfl⟩ := h
  have nd := sc_mostSpent.nd
  refine bd_set 2 nd (ev_call c1 hr (evs_cons (ev_n 0 rfl) (evs_cons (ev_n 1 rfl) evs_nil)) ⟨p, wk, L, mo, few, hwk, hmo, rfl, rfl⟩) ?_
  refine bd_openX 2 (show (2 : Nat) < 4 from by decide) fun ms' whole' => ?_
  have es : msort ms = msort ms' := msort_eq (whole.perm whole')
  have hl : (msort ms').length ≤ 30 := by rw [msort_len]; exact whole'.len few
  rw [es]
  have e : ((msort ms').map fun m => PyData.tuple [m.d, widthO (mo m)]) = lcD ((msort ms').map Mom.d).length (fun _ => true) (fun i => .tuple [((msort ms').getD i m0).d, widthO (mo ((msort ms').getD i m0))]) := by
    rw [List.length_map]
    exact (lcD_all m0 (msort ms') (fun m => .tuple [m.d, widthO (mo m)])).symm
  rw [e]
  refine bd_ret (ev_tupleL B (ev_lc [("moment", 3)] rfl nd (blkOk_by (N := NA2) (sc := defScope (top 39)) (by decide +kernel)) (src_lst 3 (ev_meth0 (l := fl5 K P w p wk ms' mo) (ev_n 2 rfl) c.cls c2 (hr.mono (by decide)) rfl ⟨_, p, ms', rfl, rfl, rfl⟩) (fun _ _ _ _ _ => pg_name nd rfl (.inl rfl))) (fun _ _ _ _ _ i hi => ets_nil) (fun _ _ _ _ _ i hi _ => ?_) (fun i hi _ => ?_) (by simp; omega)))
  · rw [List.length_map] at hi
    have hmem : (msort ms').getD i m0 ∈ ms' := mem_msort.mp (List.mem_of_getElem? (momAt hi))
    have g1 := congrArg (fun d => some (some (isD K d))) (momD hi)
    exact ev_tup (eds_cons (ev_n 3 g1) (eds_cons (ev_call c4 (hr.mono (by decide)) (evs_cons (ev_meth (l := fl5 K P w p wk ms' mo) (ev_n 2 rfl) c.cls c3 (hr.mono (by decide)) rfl (evs_cons (ev_n 3 g1) evs_nil) ⟨_, ms', mo, _, rfl, hmem, rfl, rfl⟩) evs_nil) ⟨_, rfl, rfl⟩) eds_nil))
  · have : ∀ o : Option Nat, lf (widthO o) = true := fun o => by cases o <;> rfl
    simp [lf, lfs, lf_mom, this]
def RfallsFrom (K : PySem.W.Frag) : List Ty → Ty → Prop := fun τs τ => ∃ (p : Prg) (wk : Mom) (L : List Mom) (mo : Mom → Option Nat) (ms : List Mom) (t : Tb), Few p wk L ∧ p.wake wk = wk ∧ (∀ m, Rch p.nx wk m → IsMost p.nx p.cst wk m (mo m)) ∧ Whole p wk ms ∧ FInv p mo ms t ∧ τs = [isD K p.d, isD K wk.d] ∧
  τ = isD K (.tuple ((msort (t.map (·.1))).map fun u => .tuple [u.d, widthO ((look t u).getD none)]))
abbrev NA3 : List Str := ["program", "waking", "falls", "later"]
theorem sc_fallsFrom : FnScope NA3 NA1 (defScope (top 40)) := ⟨rfl, rfl, rfl, by decide +kernel, rfl, by decide +kernel, by decide +kernel⟩
theorem ok_fallsFrom {C : Addr} {f : Addr} {fd : FuncData} (F : Fun K "falls_from" "falls_from" (top 40) f fd) (B : Bi mg) (c : AwC K C) (c1 : FnS P w K mg base "awake_from" 2 10 (spF (Rawake K P w C))) (c2 : MetS P w K mg base C "falls" 1 7 (spF (Rfalls K P w C)))
    (c4 : FnS P w K mg base "width_of_key" 1 1 (spF (RwidthOf K))) : FnOk P w K mg base CX0 11 f fd NA1 (spF (RfallsFrom K)) := by
  refine fn_bd F sc_fallsFrom (fun τs τ h => by obtain ⟨_, _, _, _, _, _, _, _, _, _, _, rfl, _⟩ := h; rfl) fun cdv A outer s H E τs τ hr h => ?_
  obtain ⟨p, wk, L, mo, ms, t, few, hwk, hmo, whole, fi, rfl, rfl⟩ := h
  have nd := sc_fallsFrom.nd
  have hu9 := Nat.lt_of_le_of_lt (Nat.add_le_add_left (by decide : 9 ≤ 64) _) hr.units
  have hu8 := Nat.lt_of_le_of_lt (Nat.add_le_add_left (by decide : 8 ≤ 64) _) hr.units
  refine bd_set (τ1 := fallsT K P w p ms mo) 2 nd (ev_meth0X (l := fun ms' => fl5 K P w p wk ms' mo) (S := fun ms' : List Mom => Whole p wk ms') (ev_call c1 hr (evs_cons (ev_n 0 rfl) (evs_cons (ev_n 1 rfl) evs_nil)) ⟨p, wk, L, mo, few, hwk, hmo, rfl, rfl⟩) c.cls c2 (hr.mono (by decide)) (fun _ => rfl) fun ms' whole' => ⟨_, p, ms', mo, rfl, rfl, rfl, rfl, rfl, rfl, ⟨few.ok, fun m hm => few.mok ((whole'.mem m).mp hm), fun m hm a ha => (whole'.mem a).mpr (.snoc ((whole'.mem m).mp hm) ha), whole'.len few, whole'.nd⟩, rfl, by
    have hm : ∀ m, m ∈ ms ↔ m ∈ ms' := fun m => (whole.mem m).trans (whole'.mem m).symm
    have hl : ms.length = ms'.length := (whole.perm whole').length_eq
    unfold fallsT
    congr 1
    funext t
    exact propext ⟨fun f => f.perm hm (Nat.le_of_eq hl), fun f => f.perm (fun m => (hm m).symm) (Nat.le_of_eq hl.symm)⟩⟩) ?_
  refine bd_openX 2 (show (2 : Nat) < 4 from by decide) fun t' fi' => ?_
  have hp : (t.map (·.1)).Perm (t'.map (·.1)) := (List.perm_ext_iff_of_nodup fi.nd fi'.nd).mpr fun u => (fi.key u).trans (fi'.key u).symm
  have hval : ∀ u ∈ t'.map (·.1), look t u = look t' u := fun u hu => by
    obtain ⟨o', ho'⟩ := Option.isSome_iff_exists.mp (look_isSome.mpr hu)
    obtain ⟨o, ho⟩ := Option.isSome_iff_exists.mp (look_isSome.mpr (hp.mem_iff.mpr hu))
    rw [ho, ho', (fi.top u o ho).uniq (fi'.top u o' ho')]
  rw [msort_eq hp]
  have hl : (msort (t'.map (·.1))).length ≤ 30 := by
    rw [msort_len, List.length_map]
    exact Nat.le_trans fi'.len (whole.len few)
  have e : ((msort (t'.map (·.1))).map fun u => PyData.tuple [u.d, widthO ((look t u).getD none)]) = lcD ((msort (t'.map (·.1))).map Mom.d).length (fun _ => true) (fun i => .tuple [((msort (t'.map (·.1))).getD i m0).d, widthO ((look t ((msort (t'.map (·.1))).getD i m0)).getD none)]) := by
    rw [List.length_map]
    exact (lcD_all m0 (msort (t'.map (·.1))) (fun u => .tuple [u.d, widthO ((look t u).getD none)])).symm
  rw [e]
  have hlist : EV (cx P w K mg base NA3 "falls_from" (top 40) f cdv A outer s H E) ((startΓ NA3 [isD K p.d, isD K wk.d]).set 2 (some (isN K P w (tTy K t')))) (.Name "falls" ⟨0, 0, 0, 0⟩) (isN K P w (tTy K t')) := ev_n 2 rfl
  refine bd_ret (ev_tupleL B (ev_lc [("later", 3)] rfl nd (blkOk_by (N := NA3) (sc := defScope (top 40)) (by decide +kernel)) (src_lst 3 (ev_sortM (ms := t'.map (·.1)) hu8 B.sorted (by rw [← tTy_keys (K := K)]; exact ev_nlist rfl B.list (ev_n 2 rfl))) (fun _ _ _ _ _ => pg_name nd rfl (.inl rfl))) (fun _ _ _ _ _ i hi => ets_nil) (fun _ _ _ _ _ i hi _ => ?_) (fun i hi _ => ?_) (by simp; omega)))
  · rw [List.length_map] at hi
    have hmem : (msort (t'.map (·.1))).getD i m0 ∈ t'.map (·.1) := mem_msort.mp (List.mem_of_getElem? (momAt hi))
    have g1 := congrArg (fun d => some (some (isD K d))) (momD hi)
    obtain ⟨o', ho'⟩ := Option.isSome_iff_exists.mp (look_isSome.mpr hmem)
    have ho := (hval _ hmem).trans ho'
    rw [ho]
    exact ev_tup (eds_cons (ev_n 3 g1) (eds_cons (ev_call c4 (hr.mono (by decide)) (evs_cons (ev_ixX (ev_nget (τ := pairT K o') hu9 (ev_n 2 rfl) (ev_n 3 g1) (tTy_look ho')) ev_int (fun pv _ => ⟨_, rfl, rfl⟩)) evs_nil) ⟨_, rfl, rfl⟩) eds_nil))
  · have : ∀ o : Option Nat, lf (widthO o) = true := fun o => by cases o <;> rfl
    simp [lf, lfs, lf_mom, this]
end
end EC

set_option Elab.async false
set_option linter.all false
set_option maxRecDepth 100000
set_option maxHeartbeats 8000000
/-! EcL1: more statements; the law's _law_waking. -/
namespace EC
open PySem PySem.Spec PyProof.Rows L2

section
variable {X : Cx} {Γ : List (Option Ty)} {σ : L2.St} {H : Hp} {M : List Addr} {L d : Addr} {a b c e o iter tg : Expr} {es : List Expr} {pos p2 p3 apos cpos : Pos} {D : Ends} {ds : List PyData} {m : Mom}
/-- {m: v} -/
theorem wE_disp1 {k v : Expr} {Q : VK} (hu : X.A.units + 8 < cLine) (h : ∀ p, H p = none → wE X k σ (upd H p (nD X.prog X.w p [] 0)) fun y H2 => wE X v σ H2 fun z H3 => ∃ m b, y = .ref b ∧ H3 p = some (nD X.prog X.w p [] 0) ∧ Dp X.K H3 (.ref b) (Mom.d m) ∧ ∀ ep, Q (.ref p) (upd H3 p (nD X.prog X.w p [(m, b, z)] ep))) :
    wE X (.Dict [some k] [v] pos) σ H Q := fun pins s I => by
  have hn := I.hok.fresh (Nat.le_refl s.heap.objs.size)
  have I1 := I.laid (a := s.heap.objs.size) (o := nD X.prog X.w s.heap.objs.size [] 0) (h' := s.heap.push { cls := .type "dict", data := .dict #[] }) (t' := s.toks) (fun _ _ q => Heap.get?_push_of_some _ q) (Nat.le_refl _) (nD_ok (nd_new s.heap I.big))
  rw [arm_eval_Dict, zip_pairTrees [some k] [v] X.env pos rfl rfl, dictDisplay_pairs (pairTrees [some k] [v] X.env pos) (by simp [pairTrees]) (Nat.le_add_left 2 15)]
  refine wpAny_bind (wpAny_standAt (wpAny_bind (wpAny_subDictH (knd := momKind X.prog X.w) (Q := fun d s' => wpAny (model X.prog X.w) X.A (pure (Value.ref d)) (EP X pins σ Q) X.xe s') hu (Nat.le_add_left 1 14) ?_)))
  refine pairTrees_cons_walk (thn (h _ hn pins _ I1) fun u s1 ⟨y, H2, I2, ry, q1⟩ => thn (q1 pins s1 I2) fun w2 s2 ⟨z, H3, I3, rz, m, b, ey, h3, hb, q2⟩ => pairTrees_nil_walk ?_)
  subst ey
  obtain rfl : u = Value.ref b := ry
  obtain ⟨g1, g2, ys, rel, dd⟩ := nd_dict I3 (.inl h3) (fun x hx => by cases hx)
  cases rel
  refine ⟨[(m, b, w2)], ⟨rfl, rfl, key_is I3 hb, trivial⟩, dd, fun h' tk dd' hs => wpAny_pure ?_⟩
  have r2 : NRel [(m, b, z)] (storedAllH [] [(m, b, w2)]) := .cons ⟨rfl, rfl, rz⟩ .nil
  obtain ⟨ep, I4⟩ := nd_after (t' := tk) I3 h3 g1 (show [(m, b, z)].length ≤ sizeLine from by rw [sizeLine_eq]; exact Nat.le_add_left 1 _) r2 dd' hs
  exact ⟨.ref s.heap.objs.size, _, I4, rfl, q2 ep⟩
/-- x, y = a, b -/
theorem wS_par2 {px py p4 : Pos} {kk k2 : Nat} {x y : Str} (i j : Nat) (hc : X.calm = true) (hN : X.N.Nodup) (hij : i ≠ j) (h : wE X a σ H fun v H1 => wE X b σ H1 fun u H2 => D.nx ((σ.set i (some v)).set j (some u)) H2)
    (hi : X.N[i]? = some x := by rfl) (hj : X.N[j]? = some y := by rfl) (hx : X.env.scope.names.lookup x = some .local := by rfl) (hy : X.env.scope.names.lookup y = some .local := by rfl)
    (hw : swappedStores [.Tuple [.Name x px, .Name y py] kk p2] (.Tuple [a, b] k2 p4) X.env = pure (some [x, y]) := by rfl) (hs : swapsWithSole [.Tuple [.Name x px, .Name y py] kk p2] (.Tuple [a, b] k2 p4) pos.line X.env = pure false := by rfl)
    (he : starEach [a, b] X.env = (false, eval a X.env) :: starEach [b] X.env := by rfl) (he2 : starEach [b] X.env = (false, eval b X.env) :: starEach [] X.env := by rfl) :
    wS X (.Assign [.Tuple [.Name x px, .Name y py] kk p2] (.Tuple [a, b] k2 p4) pos) D σ H :=
  wS_of (ps_par hc hN hi hj hij hx hy (pa_cons pe_w (pa_cons pe_w pa_nil he2) he) hw hs) (wE_mono h fun v H1 h1 => wE_mono h1 fun u H2 h2 => ⟨v, u, rfl, h2⟩)
/-- x, y, z = a, b, c -/
theorem wS_par3 {px py pz p4 : Pos} {kk k2 : Nat} {x y z : Str} (i j l : Nat) (hc : X.calm = true) (hN : X.N.Nodup) (hij : i ≠ j) (hil : i ≠ l) (hjl : j ≠ l) (h : wE X a σ H fun v H1 => wE X b σ H1 fun u H2 => wE X c σ H2 fun t H3 => D.nx (((σ.set i (some v)).set j (some u)).set l (some t)) H3)
    (hi : X.N[i]? = some x := by rfl) (hj : X.N[j]? = some y := by rfl) (hl : X.N[l]? = some z := by rfl) (hx : X.env.scope.names.lookup x = some .local := by rfl) (hy : X.env.scope.names.lookup y = some .local := by rfl) (hz : X.env.scope.names.lookup z = some .local := by rfl)
    (hw : swappedStores [.Tuple [.Name x px, .Name y py, .Name z pz] kk p2] (.Tuple [a, b, c] k2 p4) X.env = pure (some [x, y, z]) := by rfl) (hs : swapsWithSole [.Tuple [.Name x px, .Name y py, .Name z pz] kk p2] (.Tuple [a, b, c] k2 p4) pos.line X.env = pure false := by rfl)
    (he : starEach [a, b, c] X.env = (false, eval a X.env) :: starEach [b, c] X.env := by rfl) (he2 : starEach [b, c] X.env = (false, eval b X.env) :: starEach [c] X.env := by rfl) (he3 : starEach [c] X.env = (false, eval c X.env) :: starEach [] X.env := by rfl) :
    wS X (.Assign [.Tuple [.Name x px, .Name y py, .Name z pz] kk p2] (.Tuple [a, b, c] k2 p4) pos) D σ H :=
  wS_of (ps_par3 hc hN hi hj hl hij hil hjl hx hy hz (pa_cons pe_w (pa_cons pe_w (pa_cons pe_w pa_nil he3) he2) he) hw hs) (wE_mono h fun v H1 h1 => wE_mono h1 fun u H2 h2 => wE_mono h2 fun t H3 h3 => ⟨v, u, t, rfl, h3⟩)
/-- w.append(e) -/
theorem wS_appM {dx : PyData} (hm : Cutbs X M H) (hL : L ∈ M) (g : Env Γ σ (cuts M H)) (ho : EV X Γ o (isV (.ref L))) (he : EV X Γ e (isD X.K dx)) (h : Lof X.K M H L ds) (hz : ds.length ≤ 100000)
    (k : ∀ H1, Same (cuts M H) (cuts M H1) → (∀ p ∈ M, p ≠ L → H1 p = H p) → Lof X.K M H1 L (ds ++ [dx]) → Env Γ σ (cuts M H1) → D.nx σ H1)
    (hb : attributeBase o "append" X.env (eval o X.env) = eval o X.env := by rfl) (hl : (apos.endLine == cpos.line) = true := by rfl)
    (hw : ((backTo cpos (starEach [e] X.env)).all (fun x => !x.1) && (backToKw cpos (keywordEach [] X.env)).all (fun x => x.1.isSome) && decide (([e] : List Expr).length + ([] : List Keyword).length + (if ([] : List Keyword).isEmpty then 0 else 1) < 30)) = true := by rfl)
    (hs : starEach [e] X.env = (false, eval e X.env) :: starEach [] X.env := by rfl) (hsw : swapsWith (.Call (.Attribute o "append" apos) [e] [] cpos) none pos.line X.env = pure false := by rfl) : wS X (.Expr (.Call (.Attribute o "append" apos) [e] [] cpos) pos) D σ H := by
  refine wS_expr (wE_append (EV.useM M ho hm g fun v H1 h1 s1 g1 q1 => ?_) hb hl hw hs) hsw
  have e1 : v = .ref L := q1
  subst e1
  obtain ⟨acc, l1, l2⟩ := h.fr (h1 L hL) s1
  refine ⟨L, rfl, ⟨acc, l1⟩, EV.useM M he (hm.of h1) g1 fun y H2 h2 s2 g2 q2 => ?_⟩
  have ec : cuts M (upd H2 L (.lst (acc ++ [y]))) = cuts M H2 := cuts_upd hL
  have hlen := dpAll_len l2
  refine ⟨acc, (h2 L hL).trans l1, by rw [sizeLine_eq]; omega, k _ (by rw [ec]; exact s1.trans s2) (fun p hp hne => by rw [upd_ne hne]; exact (h2 p hp).trans (h1 p hp)) ⟨acc ++ [y], upd_same, ?_⟩ (by rw [ec]; exact g2)⟩
  rw [ec]
  exact dpAll_app (dpAll_up s2 _ _ l2) (.cons q2 .nil)
/-- for x, y in zip(a, b), both tuples -/
theorem wS_forZ {x y : Str} {px py tp : Pos} {kk : Nat} {body : List Stmt} {es : List PyData} (i j : Nat) (hc : X.calm = true) (hmz : X.mg "zip" = none) (hm : Cutbs X M H) (gE : Env Γ σ (cuts M H)) (ha : EV X Γ a (isD X.K (.tuple ds))) (hb : EV X Γ c (isD X.K (.tuple es))) (hl : ds.length = es.length)
    (hg : PG X (.Tuple [.Name x px, .Name y py] kk tp) (gTup X.K 2 (gCons (gName i) (gCons (gName j) gNil))))
    (k : ∀ H1, (∀ p ∈ M, H1 p = H p) → Same (cuts M H) (cuts M H1) → Env Γ σ (cuts M H1) → ∃ Pv : Nat → L2.St → Hp → Prop, Pv 0 σ H1 ∧ (∀ n σ' H', Pv n σ' H' → Same (cuts M H1) H') ∧
      (∀ n d1 d2 v u σ' H' T, ds[n]? = some d1 → es[n]? = some d2 → Dp X.K (cuts M H1) v d1 → Dp X.K (cuts M H1) u d2 → Pv n σ' H' → H' T = none → wB X body { D with nx := Pv (n + 1), ct := Pv (n + 1), bk := D.nx } ((σ'.set i (some v)).set j (some u)) (upd H' T (.tup [v, u]))) ∧ ∀ σ' H', Pv ds.length σ' H' → D.nx σ' H')
    (hgl : Gl X "zip" := by rfl) (hs : starEach [a, c] X.env = (false, eval a X.env) :: starEach [c] X.env := by rfl) (hs2 : starEach [c] X.env = (false, eval c X.env) :: starEach [] X.env := by rfl) (hpl : (backTo p3 (starEach [c] X.env)).any (·.1) = false := by rfl)
    (hp : PassesOwn (model X.prog X.w) X.A X.env X.xe := by exact PassesOwn.never) (hsf : ∀ y, foldedSetIterable (.Call (.Name "zip" p2) [a, c] [] p3) X.env y = pure y := by intro _; rfl) : wS X (.For (.Tuple [.Name x px, .Name y py] kk tp) (.Call (.Name "zip" p2) [a, c] [] p3) body [] pos) D σ H := by
  refine wS_of (ps_for hp hc (RZ.pi_zipA hgl hmz (pa_cons pe_w (pa_cons pe_w pa_nil hs2) hs) hs hpl) hg pss_w hsf) (EV.useM M ha hm gE fun v H1 h1 s1 g1 q1 => EV.useM M hb (hm.of h1) g1 fun u H2 h2 s2 g2 q2 => ?_)
  obtain ⟨A, xs, rfl, hq, hx⟩ := dp_tup q1
  obtain ⟨B, ys, rfl, hq2, hy⟩ := dp_tup q2
  obtain ⟨Pv, p0, ps, st, dn⟩ := k H2 (fun p hp => (h2 p hp).trans (h1 p hp)) (s1.trans s2) g2
  have hn : ds.length = min xs.length ys.length := by rw [dpAll_len hx, dpAll_len hy, ← hl, Nat.min_self]
  have hq' := sqT_up s2 hq
  refine ⟨A, B, xs, ys, rfl, .inr ⟨sqT_up cuts_same hq', sqT_up cuts_same hq2, ?_⟩⟩
  refine for_it (walk_zipT hn) Pv p0 (fun n σ H _ h => ⟨sqT_up (ps n σ H h) hq', sqT_up (ps n σ H h) hq2⟩) (fun n v σ H' H'' hn' h y => ?_) dn
  obtain ⟨T, x1, y1, rfl, hT, rfl, e1, e2⟩ := y
  obtain ⟨d1, f1, f2⟩ := dpAll_getV (dpAll_up s2 _ _ hx) e1
  obtain ⟨d2, f3, f4⟩ := dpAll_getV hy e2
  exact pair_tg upd_same (st n d1 d2 x1 y1 σ H' T f1 f3 f2 f4 h hT)
/-- x not in a list of moments -/
theorem mem_any {m : Mom} : ∀ ms : List Mom, ((ms.map Mom.d).any fun z => PyData.eqv z m.d) = decide (m ∈ ms)
  | [] => by simp
  | n :: ms => by
    have e : PyData.eqv n.d m.d = decide (n = m) := by
      by_cases h : n = m
      · subst h
        rw [mom_eqv_self, decide_eq_true rfl]
      · rw [decide_eq_false h]
        cases q : PyData.eqv n.d m.d with
        | false => rfl
        | true => exact absurd (mom_eqv q) h
    rw [List.map_cons, List.any_cons, mem_any ms, e]
    by_cases h : n = m
    · subst h; simp
    · simp [h, Ne.symm h]
theorem moms_shaped (ms : List Mom) : SeqAt.shaped (.list (ms.map Mom.d)) = true := by
  have h : ∀ ms : List Mom, PyData.canLayAll0 (ms.map Mom.d) = true ∧ PyData.depthAll (ms.map Mom.d) ≤ 4 := by
    intro ms
    induction ms with
    | nil => exact ⟨by simp [PyData.canLayAll0], by simp [PyData.depthAll]⟩
    | cons m ms ih =>
      have h1 := mom_shaped m
      have h2 : m.d.canLay0 = true := by
        have : (m.d.canLay0 && decide (m.d.depth ≤ 64)) = true := h1
        exact (Bool.and_eq_true _ _ ▸ this).1
      have h3 := mom_depth m
      simp only [List.map_cons, PyData.canLayAll0, PyData.depthAll]
      refine ⟨?_, by have := ih.2; omega⟩
      rw [h2, ih.1]
      rfl
  obtain ⟨h1, h2⟩ := h ms
  show (PyData.canLay0 (.list (ms.map Mom.d)) && decide (PyData.depth (.list (ms.map Mom.d)) ≤ 64)) = true
  have h3 : PyData.depth (.list (ms.map Mom.d)) ≤ 64 := by
    simp only [PyData.depth]
    omega
  have h4 : PyData.canLay0 (.list (ms.map Mom.d)) = true := by
    simp only [PyData.canLay0]
    exact h1
  rw [h4, Bool.true_and]
  exact decide_eq_true h3
theorem et_notInM {ms : List Mom} (hu : X.A.units + 65 < cLine) (ha : EV X Γ a (isD X.K m.d)) (hb : EV X Γ b (isD X.K (.list (ms.map Mom.d)))) (hm : behindInMarks .NotIn b = false := by rfl) : ET X Γ (.Compare a [.NotIn] [b] pos) (!decide (m ∈ ms)) :=
  .of (pt_cmpR (op_notInD hu) pe_w pe_w hm) fun σ H g => ha.use g fun v H1 s1 q1 => hb.use (g.up s1) fun u H2 s2 q2 => ⟨m.d, _, dp_up s2 _ _ q1, q2, mom_shaped m, moms_shaped ms, _, rfl, s1.trans s2, by rw [mem_any]⟩
end
end EC

set_option Elab.async false
set_option linter.all false
set_option maxRecDepth 100000
set_option maxHeartbeats 8000000
/-! EcL2: _law_waking. -/
namespace EC
open PySem PySem.Spec PyProof.Rows L2
def c00 : Cell := ⟨"", "", 0, 0⟩
def svCnt (cs : List Cell) (i : Nat) : Nat := ((cs.take i).filter Cell.sv).length
theorem svCnt_succ {cs : List Cell} {i : Nat} {c : Cell} (h : cs[i]? = some c) : svCnt cs (i + 1) = svCnt cs i + if c.sv = true then 1 else 0 := by
  unfold svCnt
  rw [List.take_succ, h, List.filter_append, List.length_append]
  show _ + ((([c] : List Cell).filter Cell.sv).length) = _
  rw [List.filter_cons]
  split <;> rfl
theorem svCnt_lt {cs : List Cell} {i : Nat} {c : Cell} (h : cs[i]? = some c) (hs : c.sv = true) : svCnt cs i < (cs.filter Cell.sv).length := by
  have h1 := svCnt_succ h
  rw [if_pos hs] at h1
  have h2 : svCnt cs (i + 1) ≤ (cs.filter Cell.sv).length := by
    unfold svCnt
    have e : cs.filter Cell.sv = (cs.take (i + 1)).filter Cell.sv ++ (cs.drop (i + 1)).filter Cell.sv := by
      rw [← List.filter_append, List.take_append_drop]
    rw [e, List.length_append]
    omega
  omega
section
variable {P : Program} {w : World} {K : PySem.W.Frag} {mg : Str → Option Value} {base : Heap}
abbrev P54 : List Str := ["_law_program_here", "_law_moment", "_law_copy", "_law_values", "_law_saved", "_law_cell", "_law_value_here"]
theorem sc_lwaking : FnScope P54 ["_law_program_here", "_law_moment"] (defScope (top 54)) := ⟨rfl, rfl, rfl, by decide +kernel, rfl, by decide +kernel, by decide +kernel⟩
abbrev XL54 (P : Program) (w : World) (K : PySem.W.Frag) (mg : Str → Option Value) (base : Heap) (f : Addr) (cdv : Value) (A : Around) (outer : List PySem.Env) (s : Shared) (H : Hp) (E : XK) : Cx := cx P w K mg base P54 "_law_waking" (top 54) f cdv A outer s H E
theorem ok_lwaking {f : Addr} {fd : FuncData} (F : Fun K "_law_waking" "_law_waking" (top 54) f fd) (B : Bi mg) : FnOk P w K mg base CX0 1 f fd ["_law_program_here", "_law_moment"] (spF (Rwoken K)) := by
  refine fn_bd F sc_lwaking (fun τs τ ⟨_, _, _, _, h, _⟩ => by rw [h]; rfl) fun cdv A outer s H E τs τ hr ⟨p, m, hp, hm, h1, h2⟩ => ⟨fun σ H0 D g0 kD => ?_⟩
  subst h1 h2
  have nd := sc_lwaking.nd
  have hvl : m.vs.length = p.cells.length := valsOk_len hm.vs
  have hsl : m.cs.length = (p.cells.filter Cell.sv).length := valsOk_len hm.cs
  have hwl : (wakeVals p.cells m.vs m.cs).length = p.cells.length := wakeVals_len _ _ _ hvl
  have hn := hp.ncell
  -- copy, values, saved = moment[0], [], 0
  refine wB_cons (wS_par3 2 3 4 rfl nd (by decide) (by decide) (by decide) ((ev_ix (d := .tuple [.int (m.cp : Nat), intsD m.cs]) (ev_n 1 rfl) ev_int rfl).use g0 fun v H1 s1 q1 => wE_lst (wA_of pa_nil ⟨by rw [sizeLine_eq]; exact Nat.zero_le _, fun L hL => (ev_int (i := 0)).use ((g0.up s1).up (same_new hL)) fun z H2 s2 q2 => ?_⟩) (Nat.zero_le _)))
  have sL : Same H1 (cuts [L] H2) := same_cuts1 ((same_new hL).trans s2) hL
  have g2 := ((((g0.up s1).up sL).set 2 ((isD K _).up sL q1)).set 3 (show (isV (.ref L)).p _ (.ref L) from rfl)).set 4 (show (isD K (.int 0)).p (cuts [L] H2) z from by cases dp_int q2; exact .int 0)
  have l2 : Lof K [L] H2 L [] := ⟨[], s2 L _ upd_same, .nil⟩
  have e2 : Same H0 (cuts [L] H2) := s1.trans sL
  refine wB_cons (wS_forZ 5 6 rfl B.zip (Cutbs.one l2.cutb) g2 (ev_ix (ev_n 0 rfl) ev_int rfl) (ev_ix (ev_n 1 rfl) ev_int rfl) (by simp [hvl]) (pg_tup rfl (pgs_cons (pg_name nd rfl (.inl rfl)) (pgs_cons (pg_name nd rfl (.inl rfl)) pgs_nil))) fun H3 h3 s3 g3 => ?_)
  refine ⟨fun i σ' H' => Lof K [L] H' L (((wakeVals p.cells m.vs m.cs).take i).map PyData.int) ∧ Env [some (isD K p.d), some (isD K m.d), some (isD K (.tuple [.int (m.cp : Nat), intsD m.cs])), some (isV (.ref L)), some (isD K (.int (svCnt p.cells i : Nat))), none, none] σ' (cuts [L] H') ∧ Same (cuts [L] H3) (cuts [L] H'),
    ⟨l2.fr (h3 L (by simp)) s3, g3, Same.refl _⟩, (fun _ _ _ h => h.2.2.trans cuts_same), fun i d1 d2 cv uv σ' H' T hd1 hd2 hcv huv h hT => ?_, fun σ' H' h => ?_⟩
  · obtain ⟨q1, q2, q3⟩ := h
    rw [List.getElem?_map] at hd1 hd2
    cases hc : p.cells[i]? with
    | none => rw [hc] at hd1; cases hd1
    | some cell =>
      cases hv : m.vs[i]? with
      | none => rw [hv] at hd2; cases hd2
      | some val =>
        rw [hc] at hd1
        rw [hv] at hd2
        have e1 : cell.d = d1 := Option.some.inj hd1
        have e2' : PyData.int val = d2 := Option.some.inj hd2
        subst e1 e2'
        have hil : i < p.cells.length := (List.getElem?_eq_some_iff.mp hc).1
        have hcell : p.cells.getD i ⟨"", "", 0, 0⟩ = cell := by rw [List.getD_eq_getElem?_getD, hc]; rfl
        have hval : m.vs.getD i 0 = val := by rw [List.getD_eq_getElem?_getD, hv]; rfl
        have hget := wakeVals_get p.cells m.vs m.cs hvl hsl i hil
        rw [hcell, hval] at hget
        have htake : (wakeVals p.cells m.vs m.cs).take (i + 1) = (wakeVals p.cells m.vs m.cs).take i ++ [(wakeVals p.cells m.vs m.cs).getD i 0] := by
          rw [List.take_succ, List.getD_eq_getElem?_getD, List.getElem?_eq_getElem (by rw [hwl]; exact hil)]
          rfl
        have hcok := hp.cell cell (List.mem_of_getElem? hc)
        have sT : Same (cuts [L] H') (cuts [L] (upd H' T (.tup [cv, uv]))) := cuts_mono (same_new hT)
        have hTL : T ≠ L := fun e => by
          obtain ⟨acc, h1, _⟩ := q1
          rw [← e, hT] at h1; cases h1
        have lT : Lof K [L] (upd H' T (.tup [cv, uv])) L (((wakeVals p.cells m.vs m.cs).take i).map PyData.int) := q1.fr (upd_ne (Ne.symm hTL)) sT
        have gT := ((q2.up sT).set 5 (show (isD K cell.d).p _ cv from dp_up (q3.trans sT) _ _ hcv)).set 6 (show (isD K (.int val)).p _ uv from dp_up (q3.trans sT) _ _ huv)
        have eT := q3.trans sT
        generalize upd H' T (.tup [cv, uv]) = HT at lT gT eT
        by_cases hs : cell.sv = true
        · -- a saved one
          have hk : cell.kind = "saved" := by unfold Cell.sv at hs; exact of_decide_eq_true hs
          rw [if_pos hs] at hget
          have hlt : svCnt p.cells i < m.cs.length := by rw [hsl]; exact svCnt_lt hc hs
          have hat : atI (m.cs.map PyData.int) ((svCnt p.cells i : Nat) : Int) = some (.int (m.cs.getD (svCnt p.cells i) 0)) := atI_nat (by
            rw [List.getElem?_map, List.getD_eq_getElem?_getD, List.getElem?_eq_getElem hlt]
            rfl)
          refine wB_cons (wS_ifF (Cutbs.one lT.cutb) (gT.up cuts_same) (et_eqT (x := cell.kind) (y := "saved") (ev_ix (ev_n 5 rfl) ev_int rfl) ev_str) (fun _ H4 h4 s4 => ?_) (fun h => absurd hk (of_decide_eq_false h)))
          refine wB_cons (wS_setM 6 nd (Cutbs.one (lT.fr (h4 L (by simp)) s4).cutb) (gT.up s4) (ev_ix (ev_ix (ev_n 2 rfl) ev_int rfl) (ev_n 4 rfl) hat) fun v5 H5 h5 s5 g5 => ?_)
          have l5 := (lT.fr (h4 L (by simp)) s4).fr (h5 L (by simp)) s5
          refine wB_one (wS_setM (τ := isD K (.int (svCnt p.cells (i + 1) : Nat))) 4 nd (Cutbs.one l5.cutb) g5 (by
            rw [svCnt_succ hc, if_pos hs]
            exact ev_suc (ev_n 4 rfl)) fun v6 H6 h6 s6 g6 => ?_)
          have l6 := l5.fr (h6 L (by simp)) s6
          refine wB_one (wS_appM (dx := .int ((wakeVals p.cells m.vs m.cs).getD i 0)) (Cutbs.one l6.cutb) (by simp) g6 (ev_n 3 rfl) (ev_ifE (et_eqT (x := cell.kind) (y := "quick") (ev_ix (ev_n 5 rfl) ev_int rfl) ev_str) (fun h => absurd (of_decide_eq_true h) (by rw [hk]; decide)) (fun _ => by rw [hget]; exact ev_n 6 rfl)) l6 (by simp; omega) fun H7 s7 h7 l7 g7 => ?_)
          refine ⟨?_, (g7.forget 5).forget 6, eT.trans (s4.trans (s5.trans (s6.trans s7)))⟩
          rw [htake, List.map_append]
          exact l7
        · rw [if_neg hs] at hget
          have hk : cell.kind ≠ "saved" := fun e => hs (by unfold Cell.sv; rw [e]; rfl)
          refine wB_cons (wS_ifF (Cutbs.one lT.cutb) (gT.up cuts_same) (et_eqT (x := cell.kind) (y := "saved") (ev_ix (ev_n 5 rfl) ev_int rfl) ev_str) (fun h => absurd (of_decide_eq_true h) hk) (fun _ H4 h4 s4 => wB_nil ?_))
          have l4 := lT.fr (h4 L (by simp)) s4
          refine wB_one (wS_appM (dx := .int ((wakeVals p.cells m.vs m.cs).getD i 0)) (Cutbs.one l4.cutb) (by simp) (gT.up s4) (ev_n 3 rfl) (ev_ifE (et_eqT (x := cell.kind) (y := "quick") (ev_ix (ev_n 5 rfl) ev_int rfl) ev_str) (fun h => by
              rw [hget, if_neg (by rw [of_decide_eq_true h]; decide)]
              exact ev_ix (ev_n 5 rfl) ev_int rfl) (fun h => by
              have hq : cell.kind = "kept" := by
                rcases hcok.1 with q | q | q
                · exact absurd q (of_decide_eq_false h)
                · exact absurd q hk
                · exact q
              rw [hget, if_pos hq]
              exact ev_n 6 rfl)) l4 (by simp; omega) fun H7 s7 h7 l7 g7 => ?_)
          have e3 : svCnt p.cells (i + 1) = svCnt p.cells i := by rw [svCnt_succ hc, if_neg hs]; rfl
          refine ⟨?_, ?_, eT.trans (s4.trans s7)⟩
          · rw [htake, List.map_append]
            exact l7
          · rw [e3]
            exact (g7.forget 5).forget 6
  · obtain ⟨q1, q2, q3⟩ := h
    have e : ((wakeVals p.cells m.vs m.cs).take (List.map Cell.d p.cells).length) = wakeVals p.cells m.vs m.cs := by
      rw [List.length_map, ← hwl, List.take_length]
    rw [e] at q1
    refine wB_one (wS_ret ((ev_tup (eds_cons (ev_n 2 rfl) (eds_cons (ev_ix (ev_n 2 rfl) ev_int rfl) (eds_cons (ev_tupleL (ds := (wakeVals p.cells m.vs m.cs).map PyData.int) B (ev_n 3 rfl)) eds_nil)))).use ((q2.up cuts_same).re 3 rfl q1.ty) fun v H4 s4 q4 => kD v H4 ?_ q4))
    exact (e2.trans (s3.trans q3)).trans (cuts_same.trans s4)
end
end EC

set_option Elab.async false
set_option linter.all false
set_option maxRecDepth 100000
/-! EcL3: the law's laps, plain. -/
namespace EC
abbrev Bt := List (Mom × Nat)
def bval (b : Bt) (m : Mom) : Nat := (look b m).getD 0
abbrev Edge := Mom × Mom × Nat
theorem bval_put {b : Bt} {l m : Mom} {v : Nat} : bval (put b l v) m = if m = l then v else bval b m := by
  unfold bval
  rw [look_put]
  split <;> rfl
/-- the order of coming, and the edges -/
structure Bfs (p : Prg) (w : Mom) (k : Nat) (order : List Mom) (es : List Edge) : Prop where
  nd : order.Nodup
  rch : ∀ m ∈ order, Rch p.nx w m
  w_ : w ∈ order
  cl : ∀ (j : Nat) m, j < k → order[j]? = some m → ∀ a ∈ p.nx m, a ∈ order ∧ (m, a, p.cst m) ∈ es
  ed : ∀ e ∈ es, e.1 ∈ order ∧ e.2.1 ∈ p.nx e.1 ∧ e.2.2 = p.cst e.1 ∧ e.2.1 ∈ order
theorem Bfs.whole {p : Prg} {w : Mom} {k : Nat} {order : List Mom} {es : List Edge} (b : Bfs p w k order es) (h : order.length ≤ k) : Whole p w order := by
  refine ⟨b.nd, fun m => ⟨b.rch m, fun r => ?_⟩⟩
  induction r with
  | refl => exact b.w_
  | snoc _ e ih =>
    obtain ⟨j, hj, ej⟩ := List.getElem_of_mem ih
    exact (b.cl j _ (by omega) (by rw [List.getElem?_eq_getElem hj, ej]) _ e).1
section
variable {p : Prg} {w m a : Mom} {k i : Nat} {order : List Mom} {es : List Edge}
theorem Bfs.edge (b : Bfs p w k order es) (hm : m ∈ order) (ha : a ∈ p.nx m) (hin : a ∈ order) : Bfs p w k order (es ++ [(m, a, p.cst m)]) := by
  refine ⟨b.nd, b.rch, b.w_, fun j x hj hx y hy => ?_, fun e he => ?_⟩
  · obtain ⟨h1, h2⟩ := b.cl j x hj hx y hy
    exact ⟨h1, List.mem_append_left _ h2⟩
  · rcases List.mem_append.mp he with h | h
    · exact b.ed e h
    · cases List.mem_singleton.mp h
      exact ⟨hm, ha, rfl, hin⟩
theorem Bfs.add (b : Bfs p w k order es) (hk : k ≤ order.length) (hm : m ∈ order) (ha : a ∈ p.nx m) (hin : a ∉ order) : Bfs p w k (order ++ [a]) (es ++ [(m, a, p.cst m)]) := by
  refine ⟨?_, fun x hx => ?_, List.mem_append_left _ b.w_, fun j x hj hx y hy => ?_, fun e he => ?_⟩
  · rw [List.nodup_append]
    exact ⟨b.nd, by simp, fun x hx y hy => by cases List.mem_singleton.mp hy; rintro rfl; exact hin hx⟩
  · rcases List.mem_append.mp hx with h | h
    · exact b.rch x h
    · cases List.mem_singleton.mp h
      exact .snoc (b.rch m hm) ha
  · rw [List.getElem?_append_left (by omega)] at hx
    obtain ⟨h1, h2⟩ := b.cl j x hj hx y hy
    exact ⟨List.mem_append_left _ h1, List.mem_append_left _ h2⟩
  · rcases List.mem_append.mp he with h | h
    · obtain ⟨h1, h2, h3, h4⟩ := b.ed e h
      exact ⟨List.mem_append_left _ h1, h2, h3, List.mem_append_left _ h4⟩
    · cases List.mem_singleton.mp h
      exact ⟨List.mem_append_left _ hm, ha, rfl, by simp⟩
theorem Bfs.close (b : Bfs p w i order es) (hm : order[i]? = some m) (h : ∀ a ∈ p.nx m, a ∈ order ∧ (m, a, p.cst m) ∈ es) : Bfs p w (i + 1) order es := by
  refine ⟨b.nd, b.rch, b.w_, fun j x hj hx y hy => ?_, b.ed⟩
  by_cases q : j = i
  · subst q
    rw [hm] at hx
    cases hx
    exact h y hy
  · exact b.cl j x (by omega) hx y hy
theorem Bfs.over (b : Bfs p w i order es) (h : order.length ≤ i) : Bfs p w (i + 1) order es := by
  refine ⟨b.nd, b.rch, b.w_, fun j x hj hx y hy => ?_, b.ed⟩
  have := (List.getElem?_eq_some_iff.mp hx).1
  exact b.cl j x (by omega) hx y hy
end
def bcnt (order : List Mom) (b : Bt) : Nat := (order.filter fun m => decide (bval b m < 9999)).length
/-- at the start of a lap -/
structure Lap (p : Prg) (w : Mom) (order : List Mom) (lap : Nat) (b : Bt) : Prop where
  keys : b.map (·.1) = order
  le : ∀ m, bval b m ≤ 9999
  up : ∀ m ∈ order, ¬ Endl p.nx w m → ∃ c k, Wk p.nx p.cst w c k m ∧ bval b m ≤ c
  ex : ∀ m c j, Wk p.nx p.cst w c j m → j ≤ lap → ¬ Endl p.nx w m → c ≤ bval b m
  ms : order.length + 1 ≤ lap → bcnt order b + (lap - (order.length + 1)) ≤ order.length
/-- within a lap: b0 at its start, the first i edges done -/
structure In (p : Prg) (w : Mom) (order : List Mom) (es : List Edge) (lap i : Nat) (b0 b : Bt) (chg : Bool) : Prop where
  keys : b.map (·.1) = order
  le : ∀ m, bval b m ≤ 9999
  mono : ∀ m, bval b0 m ≤ bval b m
  up : ∀ m ∈ order, ¬ Endl p.nx w m → ∃ c k, Wk p.nx p.cst w c k m ∧ bval b m ≤ c
  cov : ∀ (j : Nat) e, j < i → es[j]? = some e → min 9999 (bval b0 e.1 + e.2.2) ≤ bval b e.2.1
  no : chg = false → b = b0
  yes : chg = true → order.length + 1 ≤ lap → bcnt order b < bcnt order b0
section
variable {p : Prg} {w : Mom} {order : List Mom} {es : List Edge} {lap i n : Nat} {b b0 : Bt} {chg : Bool} {e : Edge}
theorem In.start (l : Lap p w order lap b) : In p w order es lap 0 b b false := ⟨l.keys, l.le, fun _ => Nat.le_refl _, l.up, fun j e h => absurd h (Nat.not_lt_zero j), fun _ => rfl, fun h => by cases h⟩
theorem bcnt_put {l : Mom} {v : Nat} (hl : l ∈ order) (h : bval b l < 9999) (hm : ∀ m, bval b m ≤ bval (put b l v) m) (hv : v = 9999) : bcnt order (put b l v) < bcnt order b := by
  have hle : ∀ (o : List Mom), (o.filter fun m => decide (bval (put b l v) m < 9999)).length ≤ (o.filter fun m => decide (bval b m < 9999)).length := by
    intro o
    induction o with
    | nil => exact Nat.le_refl _
    | cons x o ih =>
      rw [List.filter_cons, List.filter_cons]
      have := hm x
      by_cases h1 : bval (put b l v) x < 9999
      · rw [if_pos (decide_eq_true h1), if_pos (decide_eq_true (by omega)), List.length_cons, List.length_cons]; omega
      · rw [if_neg (by simpa using h1)]
        split
        · rw [List.length_cons]; omega
        · exact ih
  unfold bcnt
  induction order with
  | nil => cases hl
  | cons x o ih =>
    rw [List.filter_cons, List.filter_cons]
    have hx := hm x
    have hlo := hle o
    rcases List.mem_cons.mp hl with e | hl'
    · subst e
      rw [if_neg (by rw [bval_put, if_pos rfl, hv]; decide), if_pos (decide_eq_true h), List.length_cons]
      omega
    · have := ih hl'
      by_cases h1 : bval (put b l v) x < 9999
      · rw [if_pos (decide_eq_true h1), if_pos (decide_eq_true (by omega)), List.length_cons, List.length_cons]; omega
      · rw [if_neg (by simpa using h1)]
        split
        · rw [List.length_cons]; omega
        · exact this
theorem put_keys_in {l : Mom} {v : Nat} (hk : b.map (·.1) = order) (hl : l ∈ order) : (put b l v).map (·.1) = order := by
  rw [put_keys, hk, if_pos hl]
/-- an edge that changes nothing -/
theorem In.keep (h : In p w order es lap i b0 b chg) (he : es[i]? = some e) (hle : min 9999 (bval b e.1 + e.2.2) ≤ bval b e.2.1) : In p w order es lap (i + 1) b0 b chg := by
  refine ⟨h.keys, h.le, h.mono, h.up, fun j e' hj he' => ?_, h.no, h.yes⟩
  by_cases q : j = i
  · subst q
    rw [he] at he'
    cases he'
    have := h.mono e.1
    omega
  · exact h.cov j e' (by omega) he'
/-- an edge that gives more -/
theorem In.more (h : In p w order es lap i b0 b chg) (B : Bfs p w n order es) (l0 : Lap p w order lap b0) (he : es[i]? = some e) (hlt : bval b e.2.1 < min 9999 (bval b e.1 + e.2.2)) (hsh : ∀ m c k, Wk p.nx p.cst w c k m → ¬ Endl p.nx w m → k < order.length) :
    In p w order es lap (i + 1) b0 (put b e.2.1 (if order.length < lap then 9999 else min 9999 (bval b e.1 + e.2.2))) true := by
  obtain ⟨d1, d2, d3, d4⟩ := B.ed e (List.mem_of_getElem? he)
  have hmono : ∀ m, bval b m ≤ bval (put b e.2.1 (if order.length < lap then 9999 else min 9999 (bval b e.1 + e.2.2))) m := by
    intro m
    rw [bval_put]
    by_cases q : m = e.2.1
    · rw [if_pos q, q]
      split
      · exact h.le _
      · omega
    · rw [if_neg q]
      exact Nat.le_refl _
  refine ⟨put_keys_in h.keys d4, fun m => ?_, fun m => Nat.le_trans (h.mono m) (hmono m), fun m hm hn => ?_, fun j e' hj he' => ?_, (fun z => by cases z), fun _ hlap => ?_⟩
  · rw [bval_put]
    split
    · split <;> omega
    · exact h.le m
  · rw [bval_put]
    by_cases q : m = e.2.1
    · rw [if_pos q]
      subst q
      have hna : ¬ Endl p.nx w e.1 := fun z => hn (z.step d2)
      obtain ⟨c, k, hw, hc⟩ := h.up e.1 d1 hna
      have hw1 : Wk p.nx p.cst w (c + p.cst e.1) (k + 1) e.2.1 := .snoc hw d2
      by_cases hl : order.length < lap
      · exfalso
        have h1 := hsh _ _ _ hw1 hn
        have h2 := l0.ex _ _ _ hw1 (by omega) hn
        have h3 := h.mono e.2.1
        omega
      · rw [if_neg hl]
        exact ⟨_, _, hw1, by omega⟩
    · rw [if_neg q]
      exact h.up m hm hn
  · by_cases q : j = i
    · subst q
      rw [he] at he'
      cases he'
      rw [bval_put, if_pos rfl]
      have := h.mono e.1
      split <;> omega
    · exact Nat.le_trans (h.cov j e' (by omega) he') (hmono _)
  · have hv : (if order.length < lap then 9999 else min 9999 (bval b e.1 + e.2.2)) = 9999 := if_pos (by omega)
    have h1 := bcnt_put d4 (show bval b e.2.1 < 9999 by omega) hmono hv
    cases chg with
    | true => exact Nat.lt_trans h1 (h.yes rfl hlap)
    | false =>
      rw [h.no rfl] at h1 ⊢
      exact h1
/-- the next lap -/
theorem In.next (h : In p w order es lap es.length b0 b true) (B : Bfs p w n order es) (hn : order.length ≤ n) (l0 : Lap p w order lap b0) (hsm : ∀ m c k, Wk p.nx p.cst w c k m → ¬ Endl p.nx w m → c < 9999) : Lap p w order (lap + 1) b := by
  refine ⟨h.keys, h.le, h.up, fun m c j hw hj hne => ?_, fun hl => ?_⟩
  · by_cases q : j ≤ lap
    · exact Nat.le_trans (l0.ex m c j hw q hne) (h.mono m)
    · have hj' : j = lap + 1 := by omega
      have hsmall := hsm m c j hw hne
      cases hw with
      | nil => exact Nat.zero_le _
      | @snoc c0 k a _ hw0 hb =>
        have hna : ¬ Endl p.nx w a := fun z => hne (z.step hb)
        have h1 := l0.ex a c0 k hw0 (by omega) hna
        have ha : a ∈ order := ((B.whole hn).mem a).mpr hw0.rch
        obtain ⟨ja, hja, eja⟩ := List.getElem_of_mem ha
        have hed := (B.cl ja a (by omega) (by rw [List.getElem?_eq_getElem hja, eja]) m hb).2
        obtain ⟨je, hje, eje⟩ := List.getElem_of_mem hed
        have h2 := h.cov je (a, m, p.cst a) hje (by rw [List.getElem?_eq_getElem hje, eje])
        have h2' : min 9999 (bval b0 a + p.cst a) ≤ bval b m := h2
        omega
  · have hcl : bcnt order b ≤ order.length := List.length_filter_le _ _
    by_cases q : order.length + 1 ≤ lap
    · have h1 := h.yes rfl q
      have h2 := l0.ms q
      omega
    · have : lap = order.length := by omega
      omega
/-- nothing more comes -/
theorem In.done (h : In p w order es lap es.length b0 b false) (B : Bfs p w n order es) (hn : order.length ≤ n) (hok : p.Ok) (hw : p.MomOk w) (hsm : ∀ m c k, Wk p.nx p.cst w c k m → ¬ Endl p.nx w m → c < 9999) : ∀ m ∈ order, IsMost p.nx p.cst w m (toO (bval b m)) := by
  have e := h.no rfl
  have wh := B.whole hn
  intro m hm
  refine most_of_closed (f := bval b) (pl := fun m => m.pl) (fun a c ra hb hc => cst_zero hok (rch_ok hok hw ra) hb hc) (fun a c ra hb => ?_) (fun m r hne => ?_) hsm ((wh.mem m).mp hm)
  · obtain ⟨ja, hja, eja⟩ := List.getElem_of_mem ((wh.mem a).mpr ra)
    have hed := (B.cl ja a (by omega) (by rw [List.getElem?_eq_getElem hja, eja]) c hb).2
    obtain ⟨je, hje, eje⟩ := List.getElem_of_mem hed
    have h2 : min 9999 (bval b0 a + p.cst a) ≤ bval b c := h.cov je (a, c, p.cst a) hje (by rw [List.getElem?_eq_getElem hje, eje])
    rw [← e] at h2
    exact h2
  · exact h.up m ((wh.mem m).mpr r) hne
theorem Lap.start (hnd : order.Nodup) (hr : ∀ m ∈ order, Rch p.nx w m) (hk : b.map (·.1) = order) (h0 : ∀ m, bval b m = 0) : Lap p w order 0 b := by
  refine ⟨hk, fun m => by rw [h0]; exact Nat.zero_le _, fun m hm _ => ?_, fun m c j hw hj _ => ?_, fun h => absurd h (by omega)⟩
  · obtain ⟨c, k, h⟩ := (hr m hm).wk (cost := p.cst)
    exact ⟨c, k, h, by rw [h0]; exact Nat.zero_le _⟩
  · cases hw with
    | nil => exact Nat.zero_le _
    | snoc _ _ => omega
theorem Lap.end_ (l : Lap p w order (2 * order.length + 2) b) : False := by
  have := l.ms (by omega)
  omega
end
/-- what the law finds of a waking -/
structure GoodB (p : Prg) (w : Mom) (b : Bt) : Prop where
  whole : Whole p w (b.map (·.1))
  most : ∀ m ∈ b.map (·.1), IsMost p.nx p.cst w m (toO (bval b m))
  len : b.length ≤ 30
end EC

set_option Elab.async false
set_option linter.all false
set_option maxRecDepth 100000
set_option maxHeartbeats 8000000
/-! EcL4: lists that are replaced, never changed; triples. -/
namespace EC
open PySem PySem.Spec PyProof.Rows L2
/-- a list of one's own, with these data -/
def isL (K : PySem.W.Frag) (ds : List PyData) : Ty := ⟨fun H v => ∃ a acc, v = .ref a ∧ H a = some (.lst acc) ∧ DpAll K H acc ds, fun e ⟨a, acc, h1, h2, h3⟩ => ⟨a, acc, h1, e _ _ h2, dpAll_up e _ _ h3⟩⟩
section
variable {X : Cx} {Γ : List (Option Ty)} {σ : L2.St} {H : Hp} {M : List Addr} {L d : Addr} {a b c e o iter : Expr} {es : List Expr} {pos p2 p3 : Pos} {D : Ends} {ds : List PyData} {x : Str}
theorem ev_isL (h : EV X Γ e (isL X.K ds)) : EV X Γ e (isD X.K (.list ds)) := ⟨fun σ H g => wE_mono (h.run σ H g) fun v H' ⟨s, a, acc, e1, h1, h2⟩ => ⟨s, by rw [e1]; exact .lst (SqL.of h1) h2⟩⟩
theorem ev_lstL (h : EDs X Γ es ds) (hl : ds.length ≤ 100000 := by exact Nat.le_of_ble_eq_true rfl) : EV X Γ (.List es pos) (isL X.K ds) :=
  .of (pe_lst pa_w) fun σ H g => h.use g fun vs H1 s1 q => ⟨by rw [dpAll_len q]; exact sz_of hl, fun p hp => ⟨s1.trans (same_new hp), p, vs, rfl, upd_same, dpAll_up (same_new hp) _ _ q⟩⟩
theorem ev_catL {ds2 : List PyData} (ha : EV X Γ a (isL X.K ds)) (hb : EV X Γ b (isL X.K ds2)) (hl : ds.length + ds2.length ≤ 100000) : EV X Γ (.BinOp a .Add b pos) (isL X.K (ds ++ ds2)) :=
  .of (pe_op op_cat pe_w pe_w) fun σ H g => ha.use g fun v H1 s1 q1 => hb.use (g.up s1) fun u H2 s2 q2 => by
    obtain ⟨p, xs, rfl, h1, h2⟩ := (isL X.K ds).up s2 q1
    obtain ⟨q, ys, rfl, h3, h4⟩ := q2
    refine ⟨p, q, xs, ys, rfl, rfl, h1, h3, by rw [dpAll_len h2, dpAll_len h4]; exact sz_of hl, fun r hr => ⟨(s1.trans s2).trans (same_new hr), r, _, rfl, upd_same, dpAll_up (same_new hr) _ _ (dpAll_app h2 h4)⟩⟩
/-- a list of one's own by a comprehension -/
theorem ev_lcL {tg elt : Expr} {ifs : List Expr} {scope : Scope} {n : Nat} {Γi : Nat → List (Option Ty)} {b : Nat → Bool} {f : Nat → PyData} (own : List (Str × Nat)) (hc : X.calm = true) (hN : X.N.Nodup) (ok : BlkOk X.N X.env.scope scope own) (src : Src X Γ tg iter scope (own.map (·.2)) n Γi)
    (ht : ∀ s H C cl fp i, i < n → ETs (bx X scope s H C cl fp) (Γi i) ifs (b i))
    (he : ∀ s H C cl fp i, i < n → b i = true → EV (bx X scope s H C cl fp) (Γi i) elt (isD X.K (f i)))
    (hlf : ∀ i, i < n → b i = true → lf (f i) = true) (hn : n ≤ 100000) (hs : ∀ x, foldedSetIterable iter X.env x = pure x := by intro _; rfl) :
    EV X Γ (.ListComp elt [⟨tg, iter, ifs, 0⟩] scope pos) (isL X.K (lcD n b f)) :=
  ⟨fun σ H g => wE_lc own hc hN ok src ht he hlf hn g (fun D acc H' s _ hD q => ⟨s, D, acc, rfl, hD, q⟩) hs⟩
/-- w = [..] that will change -/
theorem wS_newLs {D : Ends} {x : Str} {p : Pos} (j : Nat) (hN : X.N.Nodup) (hm : Cutbs X M H) (g : Env Γ σ (cuts M H)) (he : EDs X Γ es ds) (hz : ds.length ≤ 100000) (hz2 : es.length ≤ 1000)
    (k : ∀ L H1, L ∉ M → H L = none → (∀ p ∈ M, H1 p = H p) → Same (cuts M H) (cuts (L :: M) H1) → Lof X.K (L :: M) H1 L ds → Env (Γ.set j (some (isV (.ref L)))) (σ.set j (some (.ref L))) (cuts (L :: M) H1) → D.nx (σ.set j (some (.ref L))) H1)
    (hi : X.N[j]? = some x := by rfl) (hx : Loc X.env.scope x := by first | exact .inl rfl | exact .inr rfl) (hs : swapsWith (.List es p2) (some (.Name x p)) pos.line X.env = pure false := by rfl)
    (hf : X.fn x = true ∨ X.env.scope.names.lookup x = some .local := by first | exact .inl rfl | exact .inr rfl) : wS X (.Assign [.Name x p] (.List es p2) pos) D σ H := by
  refine wS_set j hN (wE_lst (wA_frame M hm (he.run σ _ g) fun vs H1 h1 ⟨s, q⟩ => ?_) hz2) hi hx hs hf
  have hl := dpAll_len q
  refine ⟨by rw [hl]; exact sz_of hz, fun L hL => ?_⟩
  have hLM : L ∉ M := fun z => by
    obtain ⟨u, h2, _⟩ := hm L z
    rw [h1 L z, h2] at hL; cases hL
  have hL0 : H L = none := by
    cases hh : H L with
    | none => rfl
    | some u =>
      have := s L u (by rw [cuts_out hLM]; exact hh)
      rw [(cuts_some this).2] at hL; cases hL
  have ec : cuts (L :: M) (upd H1 L (.lst vs)) = cuts M H1 := cuts_add hL
  have sx : Same (cuts M H) (cuts (L :: M) (upd H1 L (.lst vs))) := by rw [ec]; exact s
  exact k L _ hLM hL0 (fun p hp => by rw [upd_ne (fun e => hLM (by rw [← e]; exact hp))]; exact h1 p hp) sx ⟨vs, upd_same, by rw [ec]; exact q⟩ ((g.up sx).set j rfl)
/-- for x in range(n), beside what changes -/
theorem wS_forRM {tg : Expr} {g : TG} {body : List Stmt} {n : Nat} (hg : PG X tg g) (hc : X.calm = true) (hmr : X.mg "range" = none) (hm : Cutbs X M H) (gE : Env Γ σ (cuts M H)) (ha : EV X Γ a (isD X.K (.int (n : Nat)))) (hn : n ≤ 100000)
    (k : ∀ H1, (∀ p ∈ M, H1 p = H p) → Same (cuts M H) (cuts M H1) → Env Γ σ (cuts M H1) → ∃ Pv : Nat → L2.St → Hp → Prop, Pv 0 σ H1 ∧
      (∀ i σ' H', i < n → Pv i σ' H' → g (.int (i : Nat)) σ' H' fun σ2 H2 => wB X body { D with nx := Pv (i + 1), ct := Pv (i + 1), bk := D.nx } σ2 H2) ∧ ∀ σ' H', Pv n σ' H' → D.nx σ' H')
    (hgl : Gl X "range" := by rfl) (hs : starEach [a] X.env = [(false, eval a X.env)] := by rfl)
    (hp : PassesOwn (model X.prog X.w) X.A X.env X.xe := by exact PassesOwn.never) (hsf : ∀ x, foldedSetIterable (.Call (.Name "range" p2) [a] [] p3) X.env x = pure x := by intro _; rfl) : wS X (.For tg (.Call (.Name "range" p2) [a] [] p3) body [] pos) D σ H :=
  wS_forR hg hc hmr (EV.useM M ha hm gE fun v H1 h1 s1 g1 q1 => by
    obtain ⟨Pv, p0, st, dn⟩ := k H1 h1 s1 g1
    exact ⟨(n : Nat), Pv, dp_int q1, by omega, by omega, p0, fun i σ' H' hi h => st i σ' H' (by simpa using hi) h, fun σ' H' h => dn σ' H' (by simpa using h)⟩) hgl hs hp hsf
/-- the target a, b, c over a triple -/
theorem trip_tgD {K : PySem.W.Frag} {v : V} {d1 d2 d3 : PyData} {i j l : Nat} {Q : L2.St → Hp → Prop} (h : Dp K H v (.tuple [d1, d2, d3])) (k : ∀ y z t, Dp K H y d1 → Dp K H z d2 → Dp K H t d3 → Q (((σ.set i (some y)).set j (some z)).set l (some t)) H) : gTup K 3 (gCons (gName i) (gCons (gName j) (gCons (gName l) gNil))) v σ H Q := by
  obtain ⟨T, zs, rfl, hT, hz⟩ := dp_tup h
  cases hz with
  | cons h1 hz =>
    cases hz with
    | cons h2 hz =>
      cases hz with
      | cons h3 hz =>
        cases hz
        exact ⟨T, _, rfl, hT, rfl, _, _, rfl, _, _, rfl, _, _, rfl, rfl, k _ _ _ h1 h2 h3⟩
/-- what changed no more is known for good -/
theorem Lof.rest {L : Addr} {M' : List Addr} (h : Lof X.K M H L ds) (hL : L ∉ M') (hs : Same (cuts M H) (cuts M' H)) : (isL X.K ds).p (cuts M' H) (.ref L) := by
  obtain ⟨acc, h1, h2⟩ := h
  exact ⟨L, acc, rfl, by rw [cuts_out hL]; exact h1, dpAll_up hs _ _ h2⟩
end
def edgeD (e : Edge) : PyData := .tuple [e.1.d, e.2.1.d, .int (e.2.2 : Nat)]
theorem lf_edge (e : Edge) : lf (edgeD e) = true := by simp [edgeD, lf, lfs, lf_mom]
def bTy (K : PySem.W.Frag) (b : Bt) : List (Mom × Ty) := b.map fun x => (x.1, isD K (.int (x.2 : Nat)))
theorem bTy_keys {K : PySem.W.Frag} (b : Bt) : (bTy K b).map (·.1) = b.map (·.1) := by
  unfold bTy
  rw [List.map_map]
  rfl
theorem bTy_look {K : PySem.W.Frag} {b : Bt} {m : Mom} (h : m ∈ b.map (·.1)) : look (bTy K b) m = some (isD K (.int (bval b m : Nat))) := by
  unfold bTy bval
  rw [look_mapk (fun _ v => isD K (.int (v : Nat)))]
  obtain ⟨v, hv⟩ := Option.isSome_iff_exists.mp (look_isSome.mpr h)
  rw [hv]
  rfl
theorem bTy_put {K : PySem.W.Frag} {b : Bt} {m : Mom} {v : Nat} : EC.put (bTy K b) m (isD K (.int (v : Nat))) = bTy K (EC.put b m v) := by
  unfold EC.put putW bTy
  have e : (look (b.map fun x => (x.1, isD K (.int (x.2 : Nat)))) m).isSome = (look b m).isSome := by
    rw [look_mapk (fun _ v => isD K (.int (v : Nat)))]
    simp
  rw [e]
  by_cases h : (look b m).isSome = true
  · rw [if_pos h, if_pos h, List.map_map, List.map_map]
    refine List.map_congr_left fun x _ => ?_
    by_cases z : x.1 = m <;> simp [z]
  · rw [if_neg h, if_neg h, List.map_append]
    rfl
theorem bTy_len {K : PySem.W.Frag} (b : Bt) : (bTy K b).length = b.length := List.length_map ..
/-- what _law_awake gives -/
def awB (K : PySem.W.Frag) (P : Program) (w : World) (p : Prg) (wk : Mom) : Ty := exT (fun o : Option Bt => ∀ b, o = some b → GoodB p wk b) fun o => match o with
  | none => isD K .none
  | some b => isN K P w (bTy K b)
end EC

set_option Elab.async false
set_option linter.all false
set_option maxRecDepth 100000
set_option maxHeartbeats 8000000
/-! EcL5: _law_awake. -/
namespace EC
open PySem PySem.Spec PyProof.Rows L2
section
variable {X : Cx} {Γ : List (Option Ty)} {a b : Expr} {pos : Pos}
theorem ev_mulS {i j : Int} (hi : 0 ≤ i) (hi2 : i < 2 ^ 40) (ha : EV X Γ a (isD X.K (.int i))) (hb : EV X Γ b (isD X.K (.int j))) : EV X Γ (.BinOp a .Mult b pos) (isD X.K (.int (i * j))) :=
  .of (pe_op op_mul pe_w pe_w) fun σ H g => ha.use g fun v H1 s1 q1 => hb.use (g.up s1) fun u H2 s2 q2 => ⟨i, j, dp_int q1, dp_int q2, .inl ⟨by omega, by omega⟩, s1.trans s2, .int _⟩
end
section
variable {X : Cx} {σ : L2.St} {H : Hp} {st : Stmt} {sts : List Stmt}
/-- a statement whose ends meet in I -/
theorem wB_join {D : Ends} (I : L2.St → Hp → Prop) (h : wS X st { D with nx := I } σ H) (k : ∀ σ1 H1, I σ1 H1 → wB X sts D σ1 H1) : wB X (st :: sts) D σ H :=
  wB_cons fun pins s iv => thn (h pins s iv) fun f s' z => by
    cases f with
    | next => exact let ⟨σ1, H1, a, b⟩ := z; ⟨σ1, H1, a, k σ1 H1 b⟩
    | brk => exact z
    | cont => exact z
    | ret u => exact z
end
theorem Bfs.start (p : Prg) (w : Mom) : Bfs p w 0 [w] [] := ⟨by simp, fun m h => by cases List.mem_singleton.mp h; exact .refl _, by simp, fun j m h => absurd h (Nat.not_lt_zero j), fun e h => by cases h⟩
section
variable {P : Program} {w : World} {K : PySem.W.Frag} {mg : Str → Option Value} {base : Heap}
def RlawAwake (K : PySem.W.Frag) (P : Program) (w : World) : List Ty → Ty → Prop := fun τs τ => ∃ (p : Prg) (wk : Mom), p.Ok ∧ p.MomOk wk ∧ τs = [isD K p.d, isD K wk.d, isD K (.int 30)] ∧ τ = awB K P w p wk
abbrev P55 : List Str := ["_law_program_here", "_law_waking_here", "_law_most", "_law_best", "_law_order", "_law_edges", "_law_at", "_law_moment", "_law_step", "_law_later", "_law_lap", "_law_has_changed", "_law_cost", "_law_spent"]
theorem sc_lawake : FnScope P55 ["_law_program_here", "_law_waking_here", "_law_most"] (defScope (top 55)) := ⟨rfl, rfl, rfl, by decide +kernel, rfl, by decide +kernel, by decide +kernel⟩
abbrev XL55 (P : Program) (w : World) (K : PySem.W.Frag) (mg : Str → Option Value) (base : Heap) (f : Addr) (cdv : Value) (A : Around) (outer : List PySem.Env) (s : Shared) (H : Hp) (E : XK) : Cx := cx P w K mg base P55 "_law_awake" (top 55) f cdv A outer s H E
abbrev G55 (K : PySem.W.Frag) (p : Prg) (wk : Mom) (d E : Addr) (order : List Mom) : List (Option Ty) :=
  [some (isD K p.d), some (isD K wk.d), some (isD K (.int 30)), some (isV (.ref d)), some (isL K (order.map Mom.d)), some (isV (.ref E)), none, none, none, none, none, none, none, none]
theorem ok_lawake {f : Addr} {fd : FuncData} (F : Fun K "_law_awake" "_law_awake" (top 55) f fd) (B : Bi mg) (c1 : FnS P w K mg base "_law_steps" 2 1 (spF (Rlsteps K))) (c2 : FnS P w K mg base "_law_after" 3 3 (spF (Rstepped K))) (c3 : FnS P w K mg base "_law_due" 2 1 (spF (Rldue K))) :
    FnOk P w K mg base CX0 4 f fd ["_law_program_here", "_law_waking_here", "_law_most"] (spF (RlawAwake K P w)) := by
  refine fn_bd F sc_lawake (fun τs τ ⟨_, _, _, _, h, _⟩ => by rw [h]; rfl) fun cdv A outer s H E τs τ hr ⟨p, wk, hp, hw, h1, h2⟩ => ⟨fun σ H0 D g0 kD => ?_⟩
  subst h1 h2
  have nd := sc_lawake.nd
  have hu9 : (XL55 P w K mg base f cdv A outer s H E).A.units + 9 < cLine := Nat.lt_of_le_of_lt (Nat.add_le_add_left (by decide : 9 ≤ 64) _) hr.units
  have hu8 : (XL55 P w K mg base f cdv A outer s H E).A.units + 8 < cLine := Nat.lt_of_le_of_lt (Nat.add_le_add_left (by decide : 8 ≤ 64) _) hr.units
  -- best, order = {waking: 0}, [waking]
  refine wB_cons (wS_par2 3 4 rfl nd (by decide) (wE_disp1 hu8 fun d hd => EV.use (τ := isD K wk.d) (ev_n 1 rfl) (g0.up (same_new hd)) fun y H1 s1 q1 => (ev_int (i := 0)).use ((g0.up (same_new hd)).up s1) fun z H2 s2 q2 => ?_))
  obtain ⟨b0, rfl⟩ := mom_ref q1
  refine ⟨wk, b0, rfl, (s1.trans s2) d _ upd_same, dp_up s2 _ _ q1, fun ep => ?_⟩
  have sd : Same H0 (cuts [d] H2) := same_cuts1 ((same_new hd).trans (s1.trans s2)) hd
  have ec : ∀ o, cuts [d] (upd H2 d o) = cuts [d] H2 := fun o => cuts_upd (by simp)
  have hd2 : H2 d = some (nD P w d [] 0) := (s1.trans s2) d _ upd_same
  have cd : Cutbs (XL55 P w K mg base f cdv A outer s H E) [d] H2 := Cutbs.one ⟨_, hd2, .inr (.inl ⟨[], 0, rfl⟩)⟩
  have qk : Dp K (cuts [d] H2) (.ref b0) wk.d := lf_cuts cd (lf_mom wk) (dp_up s2 _ _ q1)
  cases dp_int q2
  have n3 : Nof (XL55 P w K mg base f cdv A outer s H E) [d] (upd H2 d (nD P w d [(wk, b0, .int 0)] ep)) d (bTy K [(wk, 0)]) := ⟨_, ep, upd_same, fun x hx => by cases List.mem_singleton.mp hx; rw [ec]; exact qk, .cons ⟨rfl, .int 0⟩ .nil⟩
  have g3 : Env (startΓ P55 [isD K p.d, isD K wk.d, isD K (.int 30)]) σ (cuts [d] (upd H2 d (nD P w d [(wk, b0, .int 0)] ep))) := by rw [ec]; exact g0.up sd
  have e3 : Same H0 (cuts [d] (upd H2 d (nD P w d [(wk, b0, .int 0)] ep))) := by rw [ec]; exact sd
  refine EV.useM (X := XL55 P w K mg base f cdv A outer s H E) [d] (ev_lstL (ds := [wk].map Mom.d) (eds_cons (ev_n 1 rfl) eds_nil)) (Cutbs.one n3.cutb) g3 fun ov H4 h4 s4 g4 q4 => ?_
  have n4 := n3.fr (h4 d (by simp)) s4
  have g4' := (g4.set 3 (show (isV (.ref d)).p _ (.ref d) from rfl)).set 4 q4
  -- edges = []
  refine wB_cons (wS_newLs 5 nd (Cutbs.one n4.cutb) g4' eds_nil (Nat.zero_le _) (Nat.zero_le _) fun Ed H5 hEd hE0 h5 s5 l5 g5 => ?_)
  have hEd' : Ed ≠ d := by simpa using hEd
  have n5 : Nof (XL55 P w K mg base f cdv A outer s H E) [Ed, d] H5 d (bTy K [(wk, 0)]) := n4.fr2 (h5 d (by simp)) s5
  have e5 : Same H0 (cuts [Ed, d] H5) := e3.trans (s4.trans s5)
  -- all moments, all edges
  refine wB_cons (wS_forRM (n := 31) (pg_name (i := 6) nd rfl (.inl rfl)) rfl B.range (Cutbs.two l5.cutb n5.cutb) g5 (ev_add (i := 30) (j := 1) (ev_n 2 rfl) ev_int) (by decide) fun H6 h6 s6 g6 => ?_)
  refine ⟨fun i σ' H' => ∃ (order : List Mom) (es : List Edge), Bfs p wk i order es ∧ order.length ≤ 1 + 10 * i ∧ es.length ≤ 10 * i ∧ Nof (XL55 P w K mg base f cdv A outer s H E) [Ed, d] H' d (bTy K (order.map fun m => (m, 0))) ∧ Lof K [Ed, d] H' Ed (es.map edgeD) ∧ Env (G55 K p wk d Ed order) σ' (cuts [Ed, d] H') ∧ Same (cuts [Ed, d] H6) (cuts [Ed, d] H'),
    ⟨[wk], [], Bfs.start p wk, by simp, by simp, n5.fr (h6 d (by simp)) s6, l5.fr (h6 Ed (by simp)) s6, g6, Same.refl _⟩, fun i σ' H' hi h => ?_, fun σ' H' h => ?_⟩
  · obtain ⟨order, es, q1, q2, q3, q4, q5, q6, q7⟩ := h
    have hcut := Cutbs.two (X := XL55 P w K mg base f cdv A outer s H E) q5.cutb q4.cutb
    have gg := q6.set 6 (show (isD K (.int (i : Nat))).p _ (.int (i : Nat)) from .int _)
    refine wB_one (wS_ifF (Γ' := (G55 K p wk d Ed order).set 6 (some (isD K (.int (i : Nat))))) hcut (gg.up cuts_same) (et_lt (ev_n 6 rfl) (ev_lenL B (ev_isL (ev_n 4 rfl)))) (fun ht Ha ha sa => ?_) (fun ht Ha ha sa => ?_))
    · -- a moment more
      have hlt : i < order.length := by
        have := of_decide_eq_true ht
        rw [List.length_map] at this
        omega
      obtain ⟨m, hm⟩ : ∃ m, order[i]? = some m := ⟨_, List.getElem?_eq_getElem hlt⟩
      have hmr := q1.rch m (List.mem_of_getElem? hm)
      have hmo := rch_ok hp hw hmr
      have na := q4.fr (ha d (by simp)) sa
      have la := q5.fr (ha Ed (by simp)) sa
      refine wB_cons (wS_setM 7 nd (Cutbs.two la.cutb na.cutb) (gg.up sa) (ev_ixL (ev_isL (ev_n 4 rfl)) (ev_n 6 rfl) (atI_nat (by rw [List.getElem?_map, hm]; rfl) : atI (order.map Mom.d) ((i : Nat) : Int) = some m.d)) fun mv Hb hb sb gb => ?_)
      have nb := na.fr (hb d (by simp)) sb
      have lb := la.fr (hb Ed (by simp)) sb
      have hst := steps_len hp hmo
      refine wB_one (wS_forM (ds := (p.steps m).map stepD) (pg_name (i := 8) nd rfl (.inl rfl)) rfl (Cutbs.two lb.cutb nb.cutb) gb (ev_call c1 (hr.mono (by decide)) (evs_cons (ev_n 0 rfl) (evs_cons (ev_n 7 rfl) evs_nil)) ⟨p, m, hp, hmo, rfl, rfl⟩) fun Hc hc sc gc => ?_)
      refine ⟨fun jj σ2 H2 => ∃ (or2 : List Mom) (es2 : List Edge), Bfs p wk i or2 es2 ∧ or2[i]? = some m ∧ (∀ (k : Nat) a, k < jj → (p.nx m)[k]? = some a → a ∈ or2 ∧ (m, a, p.cst m) ∈ es2) ∧ or2.length ≤ order.length + jj ∧ es2.length ≤ es.length + jj ∧
          Nof (XL55 P w K mg base f cdv A outer s H E) [Ed, d] H2 d (bTy K (or2.map fun m => (m, 0))) ∧ Lof K [Ed, d] H2 Ed (es2.map edgeD) ∧ Env (((G55 K p wk d Ed or2).set 6 (some (isD K (.int (i : Nat))))).set 7 (some (isD K m.d))) σ2 (cuts [Ed, d] H2) ∧ Same (cuts [Ed, d] Hc) (cuts [Ed, d] H2),
        ⟨order, es, q1, hm, (fun k a hk => absurd hk (Nat.not_lt_zero k)), Nat.le_refl _, Nat.le_refl _, nb.fr (hc d (by simp)) sc, lb.fr (hc Ed (by simp)) sc, gc, Same.refl _⟩, (fun _ _ _ h => by obtain ⟨_, _, _, _, _, _, _, _, _, _, z⟩ := h; exact z.trans cuts_same), fun jj dd sv σ2 H2 hdd hsv h => ?_, fun σ2 H2 h => ?_⟩
      · obtain ⟨or2, es2, w1, w2, w3, w4, w5, w6, w7, w8, w9⟩ := h
        rw [List.getElem?_map] at hdd
        cases hst1 : (p.steps m)[jj]? with
        | none => rw [hst1] at hdd; cases hdd
        | some s1 =>
          rw [hst1] at hdd
          have hdd' := Option.some.inj hdd
          subst hdd'
          have hjl := (List.getElem?_eq_some_iff.mp hst1).1
          have hnx : (p.nx m)[jj]? = some (p.after m s1) := by
            unfold Prg.nx
            rw [List.getElem?_map, hst1]
            rfl
          have hna := List.mem_of_getElem? hnx
          have hs1 := List.mem_of_getElem? hst1
          have hmem2 : m ∈ or2 := List.mem_of_getElem? w2
          have hil := (List.getElem?_eq_some_iff.mp w2).1
          have ed : p.due m = (p.cst m : Nat) := cst_eq hp hmo
          have g1 := w8.set 8 (show (isD K (stepD s1)).p _ sv from dp_up w9 _ _ hsv)
          refine wB_cons (wS_setM 9 nd (Cutbs.two w7.cutb w6.cutb) g1 (ev_call c2 hr (evs_cons (ev_n 0 rfl) (evs_cons (ev_n 7 rfl) (evs_cons (ev_n 8 rfl) evs_nil))) ⟨p, m, s1, hp, hmo, hs1, rfl, rfl⟩) fun av Hd hd' sd' gd => ?_)
          have nd1 := w6.fr (hd' d (by simp)) sd'
          have ld1 := w7.fr (hd' Ed (by simp)) sd'
          generalize p.after m s1 = a at hnx hna gd
          refine wB_cons (wS_appM (dx := edgeD (m, a, p.cst m)) (Cutbs.two ld1.cutb nd1.cutb) (by simp) gd (ev_n 5 rfl) (by
            unfold edgeD
            rw [← ed]
            exact ev_tup (eds_cons (ev_n 7 rfl) (eds_cons (ev_n 9 rfl) (eds_cons (ev_call c3 (hr.mono (by decide)) (evs_cons (ev_n 0 rfl) (evs_cons (ev_n 7 rfl) evs_nil)) ⟨p, m, hp, hmo, rfl, rfl⟩) eds_nil)))) ld1 (by simp; omega) fun He se he le ge => ?_)
          have ne1 := nd1.fr (he d (by simp) (Ne.symm hEd')) se
          have we := w9.trans (sd'.trans se)
          have hcl : ∀ (or3 : List Mom), (∀ x, x ∈ or2 → x ∈ or3) → a ∈ or3 → ∀ (k : Nat) b, k < jj + 1 → (p.nx m)[k]? = some b → b ∈ or3 ∧ (m, b, p.cst m) ∈ es2 ++ [(m, a, p.cst m)] := fun or3 hsub ha3 k b hk hb => by
            by_cases e : k = jj
            · subst e
              rw [hnx] at hb
              cases hb
              exact ⟨ha3, by simp⟩
            · obtain ⟨z1, z2⟩ := w3 k b (by omega) hb
              exact ⟨hsub b z1, List.mem_append_left _ z2⟩
          have le' : Lof K [Ed, d] He Ed ((es2 ++ [(m, a, p.cst m)]).map edgeD) := by
            rw [List.map_append]
            exact le
          refine wB_one (wS_ifF (Cutbs.two le.cutb ne1.cutb) ((ge.up cuts_same).re 3 rfl ne1.ty) (et_nnotin hu9 (ev_n 9 rfl) (ev_n 3 rfl)) (fun ht2 Hf hf sf => ?_) (fun ht2 Hf hf sf => ?_))
          · rw [bTy_keys, keysOf_map] at ht2
            have hnew : a ∉ or2 := by simpa using ht2
            have nf := ne1.fr (hf d (by simp)) sf
            have lf' := le'.fr (hf Ed (by simp)) sf
            refine wB_cons (wS_putN (d := d) (m := a) (τ := isD K (.int ((0 : Nat) : Int))) hu9 (Cutbs.two lf'.cutb nf.cutb) (by simp) (ge.up sf) ev_int (ev_n 3 rfl) (ev_n 9 rfl) nf (by rw [bTy_len, List.length_map]; omega) fun Hg sg hg ng gg2 => ?_)
            rw [bTy_put, trues_put hnew] at ng
            have lg := lf'.fr (hg Ed (by simp) hEd') sg
            refine wB_one (wS_setM (τ := isL K ((or2 ++ [a]).map Mom.d)) 4 nd (Cutbs.two lg.cutb ng.cutb) gg2 (by
              rw [List.map_append]
              exact ev_catL (ev_n 4 rfl) (ev_lstL (ds := [a.d]) (eds_cons (ev_n 9 rfl) eds_nil)) (by simp; omega)) fun ov2 Hh hh sh gh => ?_)
            refine ⟨or2 ++ [a], es2 ++ [(m, a, p.cst m)], w1.add (by omega) hmem2 hna hnew, by rw [List.getElem?_append_left hil]; exact w2, hcl _ (fun x hx => List.mem_append_left _ hx) (by simp), by simp; omega, by simp; omega, ng.fr (hh d (by simp)) sh, lg.fr (hh Ed (by simp)) sh, (gh.forget 9).forget 8, we.trans (sf.trans (sg.trans sh))⟩
          · rw [bTy_keys, keysOf_map] at ht2
            have hold : a ∈ or2 := by simpa using ht2
            exact wB_nil ⟨or2, es2 ++ [(m, a, p.cst m)], w1.edge hmem2 hna hold, w2, hcl _ (fun x hx => hx) hold, by omega, by simp; omega, ne1.fr (hf d (by simp)) sf, le'.fr (hf Ed (by simp)) sf, ((ge.up sf).forget 9).forget 8, we.trans sf⟩
      · obtain ⟨or2, es2, w1, w2, w3, w4, w5, w6, w7, w8, w9⟩ := h
        rw [List.length_map] at w3 w4 w5
        refine ⟨or2, es2, w1.close w2 fun a ha' => ?_, by omega, by omega, w6, w7, (w8.forget 7).forget 6, q7.trans (sa.trans (sb.trans (sc.trans w9)))⟩
        obtain ⟨k, hk, e⟩ := List.getElem_of_mem ha'
        refine w3 k a ?_ (by rw [List.getElem?_eq_getElem hk, e])
        unfold Prg.nx at hk
        rw [List.length_map] at hk
        exact hk
    · have hge : order.length ≤ i := by
        have := of_decide_eq_false ht
        rw [List.length_map] at this
        omega
      exact wB_nil ⟨order, es, q1.over hge, by omega, by omega, q4.fr (ha d (by simp)) sa, q5.fr (ha Ed (by simp)) sa, (gg.up sa).forget 6, q7.trans sa⟩
  · obtain ⟨order, es, q1, q2, q3, q4, q5, q6, q7⟩ := h
    have hcut := Cutbs.two (X := XL55 P w K mg base f cdv A outer s H E) q5.cutb q4.cutb
    have e7 : Same H0 (cuts [Ed, d] H') := e5.trans (s6.trans q7)
    refine wB_cons (wS_ifF hcut (q6.up cuts_same) (et_gt (ev_lenL B (ev_isL (ev_n 4 rfl))) (ev_n 2 rfl)) (fun ht Ha ha sa => ?_) (fun ht Ha ha sa => wB_nil ?_))
    · -- too many
      exact wB_one (wS_ret (ev_non.use ((q6.up sa).up cuts_same) fun v H9 s9 q9 => kD v H9 ((e7.trans sa).trans (cuts_same.trans s9)) ⟨none, (fun b h => by cases h), q9⟩))
    have hlen : order.length ≤ 30 := by
      have := of_decide_eq_false ht
      rw [List.length_map] at this
      omega
    have wh := q1.whole (by omega)
    have few : Few p wk order := ⟨hp, hw, fun v hv => (wh.mem v).mpr hv, hlen⟩
    have hsm : ∀ m c k, Wk p.nx p.cst wk c k m → ¬ Endl p.nx wk m → c < 9999 := fun m c k h hn => by have := att_small few h hn; omega
    have hsh : ∀ m c k, Wk p.nx p.cst wk c k m → ¬ Endl p.nx wk m → k < order.length := fun m c k h hn => h.short hn few.all
    have na := q4.fr (ha d (by simp)) sa
    have la := q5.fr (ha Ed (by simp)) sa
    have ga := q6.up sa
    have sub : Same (cuts [Ed, d] Ha) (cuts [d] Ha) := by rw [cuts_cons]; exact cuts_same
    have nd1 : Nof (XL55 P w K mg base f cdv A outer s H E) [d] Ha d (bTy K (order.map fun m => (m, 0))) := na.fr2 rfl sub
    have gE : Env ((G55 K p wk d Ed order).set 5 (some (isL K (es.map edgeD)))) σ' (cuts [d] Ha) := (ga.up sub).re 5 rfl (Lof.rest (X := XL55 P w K mg base f cdv A outer s H E) la (by simpa using hEd') sub)
    have e8 : Same H0 (cuts [d] Ha) := (e7.trans sa).trans sub
    have b00 : ∀ m, bval (order.map fun m => (m, 0)) m = 0 := fun m => by
      unfold bval
      cases hl : look (order.map fun m => (m, (0 : Nat))) m with
      | none => rfl
      | some v =>
        obtain ⟨x, _, e⟩ := List.mem_map.mp (look_mem hl)
        cases e
        rfl
    have l0 : Lap p wk order 0 (order.map fun m => (m, 0)) := Lap.start q1.nd q1.rch (keysOf_map order fun _ => 0) b00
    -- the laps
    refine wB_cons (wS_forRM (n := 2 * order.length + 2) (pg_name (i := 10) nd rfl (.inl rfl)) rfl B.range (Cutbs.one nd1.cutb) gE (by
      have e : ((2 * order.length + 2 : Nat) : Int) = 2 * (((order.map Mom.d).length : Nat) : Int) + 2 := by rw [List.length_map]; omega
      rw [e]
      exact ev_add (ev_mulS (by decide) (by decide) ev_int (ev_lenL B (ev_isL (ev_n 4 rfl)))) ev_int) (by omega) fun H8 h8 s8 g8 => ?_)
    refine ⟨fun lap σ2 H2 => ∃ b : Bt, Lap p wk order lap b ∧ Nof (XL55 P w K mg base f cdv A outer s H E) [d] H2 d (bTy K b) ∧ Env ((G55 K p wk d Ed order).set 5 (some (isL K (es.map edgeD)))) σ2 (cuts [d] H2) ∧ Same (cuts [d] H8) (cuts [d] H2), ⟨_, l0, nd1.fr (h8 d (by simp)) s8, g8, Same.refl _⟩, fun lap σ2 H2 hlapn h => ?_, fun σ2 H2 h => ?_⟩
    · obtain ⟨b0, w1, w2, w3, w4⟩ := h
      have gg := w3.set 10 (show (isD K (.int (lap : Nat))).p _ (.int (lap : Nat)) from .int _)
      refine wB_cons (wS_setM 11 nd (Cutbs.one w2.cutb) gg (ev_bl (i := false)) fun fv H9 h9 s9 g9 => ?_)
      have n9 := w2.fr (h9 d (by simp)) s9
      refine wB_cons (wS_forM (ds := es.map edgeD) (pg_tup rfl (pgs_cons (pg_name (i := 7) nd rfl (.inl rfl)) (pgs_cons (pg_name (i := 9) nd rfl (.inl rfl)) (pgs_cons (pg_name (i := 12) nd rfl (.inl rfl)) pgs_nil)))) rfl (Cutbs.one n9.cutb) g9 (ev_isL (ev_n 5 rfl)) fun Hb hb sb gb => ?_)
      refine ⟨fun i σ3 H3 => ∃ (b : Bt) (chg : Bool), In p wk order es lap i b0 b chg ∧ Nof (XL55 P w K mg base f cdv A outer s H E) [d] H3 d (bTy K b) ∧ Env ((((G55 K p wk d Ed order).set 5 (some (isL K (es.map edgeD)))).set 10 (some (isD K (.int (lap : Nat))))).set 11 (some (isD K (.bool chg)))) σ3 (cuts [d] H3) ∧ Same (cuts [d] Hb) (cuts [d] H3),
        ⟨b0, false, In.start w1, n9.fr (hb d (by simp)) sb, gb, Same.refl _⟩, (fun _ _ _ h => by obtain ⟨_, _, _, _, _, z⟩ := h; exact z.trans cuts_same), fun i dd ev σ3 H3 hdd hev h => ?_, fun σ3 H3 h => ?_⟩
      · obtain ⟨b, chg, z1, z2, z3, z4⟩ := h
        rw [List.getElem?_map] at hdd
        cases he : es[i]? with
        | none => rw [he] at hdd; cases hdd
        | some e =>
          rw [he] at hdd
          have hdd' := Option.some.inj hdd
          subst hdd'
          obtain ⟨a, l, c⟩ := e
          obtain ⟨d1, d2, d3, d4⟩ := q1.ed _ (List.mem_of_getElem? he)
          have cz := Cutbs.one (X := XL55 P w K mg base f cdv A outer s H E) z2.cutb
          refine trip_tgD (dp_up cuts_same _ _ (dp_up z4 _ _ hev)) fun yv zv tv hy hz htv => ?_
          have g1 := ((z3.set 7 (show (isD K a.d).p _ yv from lf_cuts cz (lf_mom a) hy)).set 9 (show (isD K l.d).p _ zv from lf_cuts cz (lf_mom l) hz)).set 12 (show (isD K (.int (c : Nat))).p _ tv from lf_cuts cz rfl htv)
          have ka : a ∈ b.map (·.1) := by rw [z1.keys]; exact d1
          have kl : l ∈ b.map (·.1) := by rw [z1.keys]; exact d4
          have esp : ((min 9999 (bval b a + c) : Nat) : Int) = if ((bval b a : Nat) : Int) + ((c : Nat) : Int) < 9999 then ((bval b a : Nat) : Int) + ((c : Nat) : Int) else 9999 := by
            have h1 : bval b a + c < 9999 → min 9999 (bval b a + c) = bval b a + c := fun h => by omega
            have h2 : ¬ bval b a + c < 9999 → min 9999 (bval b a + c) = 9999 := fun h => by omega
            by_cases q : bval b a + c < 9999
            · rw [h1 q, if_pos (by omega)]
              omega
            · rw [h2 q, if_neg (by omega)]
              rfl
          refine wB_cons (wS_setF (dx := .int ((min 9999 (bval b a + c) : Nat) : Int)) 13 nd cz g1 ((g1.up cuts_same).re 3 rfl z2.ty) (by
            rw [esp]
            exact ev_min2 rfl B ev_int (ev_add (ev_nget hu9 (ev_n 3 rfl) (ev_n 7 rfl) (bTy_look ka)) (ev_n 12 rfl))) rfl fun sv Hc hc sc gc => ?_)
          have nc := z2.fr (hc d (by simp)) sc
          have hkeep := z1.keep he
          have hmore := fun hlt => z1.more q1 w1 he hlt hsh
          dsimp only at hkeep hmore
          generalize hsp : min 9999 (bval b a + c) = sp at gc hkeep hmore
          have hsp9 : sp ≤ 9999 := by omega
          have cc := Cutbs.one (X := XL55 P w K mg base f cdv A outer s H E) nc.cutb
          refine wB_join (fun σ4 H4 => ∃ v : Nat, v = (if order.length < lap ∧ bval b l < sp then 9999 else sp) ∧ Nof (XL55 P w K mg base f cdv A outer s H E) [d] H4 d (bTy K b) ∧ Same (cuts [d] H3) (cuts [d] H4) ∧
            Env ((((((((G55 K p wk d Ed order).set 5 (some (isL K (es.map edgeD)))).set 10 (some (isD K (.int (lap : Nat))))).set 11 (some (isD K (.bool chg)))).set 7 (some (isD K a.d))).set 9 (some (isD K l.d))).set 12 (some (isD K (.int (c : Nat))))).set 13 (some (isD K (.int (v : Nat))))) σ4 (cuts [d] H4)) ?_ ?_
          · refine wS_ifF cc ((gc.up cuts_same).re 3 rfl nc.ty) (et_w (ew_and (et_gt (ev_n 10 rfl) (ev_lenL B (ev_isL (ev_n 4 rfl)))) fun _ => ew_and1 (et_gt (ev_n 13 rfl) (ev_nget hu9 (ev_n 3 rfl) (ev_n 9 rfl) (bTy_look kl))))) (fun ht Hd hd' sd' => ?_) (fun ht Hd hd' sd' => ?_)
            · have hh : order.length < lap ∧ bval b l < sp := by
                simp only [Bool.and_eq_true, decide_eq_true_eq, List.length_map] at ht
                omega
              refine wB_one (wS_setM (τ := isD K (.int ((9999 : Nat) : Int))) 13 nd (cc.of hd') (gc.up sd') ev_int fun v9 He he2 se ge => ?_)
              exact ⟨9999, (if_pos hh).symm, (nc.fr (hd' d (by simp)) sd').fr (he2 d (by simp)) se, sc.trans (sd'.trans se), ge⟩
            · have hh : ¬ (order.length < lap ∧ bval b l < sp) := by
                simp only [Bool.and_eq_false_iff, decide_eq_false_iff_not, List.length_map] at ht
                omega
              exact wB_nil ⟨sp, (if_neg hh).symm, nc.fr (hd' d (by simp)) sd', sc.trans sd', gc.up sd'⟩
          · rintro σ4 H4 ⟨v, hv, n4, s4', g4⟩
            have c4 := Cutbs.one (X := XL55 P w K mg base f cdv A outer s H E) n4.cutb
            refine wB_one (wS_ifF c4 ((g4.up cuts_same).re 3 rfl n4.ty) (et_gt (ev_n 13 rfl) (ev_nget hu9 (ev_n 3 rfl) (ev_n 9 rfl) (bTy_look kl))) (fun ht Hd hd' sd' => ?_) (fun ht Hd hd' sd' => ?_))
            · have hlt : bval b l < v := by
                have := of_decide_eq_true ht
                omega
              have hlt2 : bval b l < sp := by
                by_cases q : bval b l < sp
                · exact q
                · rw [if_neg (fun h => q h.2)] at hv
                  omega
              have hv2 : v = if order.length < lap then 9999 else sp := by
                rw [hv]
                by_cases q : order.length < lap
                · rw [if_pos ⟨q, hlt2⟩, if_pos q]
                · rw [if_neg (fun h => q h.1), if_neg q]
              have nd4 := n4.fr (hd' d (by simp)) sd'
              refine wB_cons (wS_putN (d := d) (m := l) (τ := isD K (.int ((v : Nat) : Int))) hu9 (Cutbs.one nd4.cutb) (by simp) (g4.up sd') (ev_n 13 rfl) (ev_n 3 rfl) (ev_n 9 rfl) nd4 (by
                have := congrArg List.length z1.keys
                rw [List.length_map] at this
                rw [bTy_len]
                omega) fun He se he2 ne ge => ?_)
              rw [bTy_put] at ne
              refine wB_one (wS_setM 11 nd (Cutbs.one ne.cutb) ge (ev_bl (i := true)) fun tv2 Hf hf sf gf => ?_)
              exact ⟨EC.put b l v, true, by rw [hv2]; exact hmore hlt2, ne.fr (hf d (by simp)) sf, (((gf.forget 13).forget 12).forget 9).forget 7, z4.trans (s4'.trans (sd'.trans (se.trans sf)))⟩
            · have hge : sp ≤ bval b l := by
                have q : ¬ bval b l < v := by
                  have := of_decide_eq_false ht
                  omega
                by_cases q2 : order.length < lap ∧ bval b l < sp
                · rw [if_pos q2] at hv
                  omega
                · rw [if_neg q2] at hv
                  omega
              exact wB_nil ⟨b, chg, hkeep hge, n4.fr (hd' d (by simp)) sd', ((((g4.up sd').forget 13).forget 12).forget 9).forget 7, z4.trans (s4'.trans sd')⟩
      · obtain ⟨b, chg, z1, z2, z3, z4⟩ := h
        rw [List.length_map] at z1
        refine wB_one (wS_ifF (t := !chg) (Cutbs.one z2.cutb) (z3.up cuts_same) (et_not (et_val (ev_n 11 rfl))) (fun ht Hc hc sc => ?_) (fun ht Hc hc sc => wB_nil ?_))
        · have hch : chg = false := by simpa using ht
          subst hch
          have zc := z3.up sc
          have nc := z2.fr (hc d (by simp)) sc
          refine wB_one (wS_ret (wE_nm 3 zc rfl (kD _ _ ((e8.trans (s8.trans (w4.trans (s9.trans (sb.trans (z4.trans sc)))))).trans cuts_same) ⟨some b, fun b' hb' => ?_, nc.ty⟩)))
          cases hb'
          refine ⟨by rw [z1.keys]; exact wh, fun m hm => ?_, ?_⟩
          · rw [z1.keys] at hm
            exact z1.done q1 (by omega) hp hw hsm m hm
          · have := congrArg List.length z1.keys
            rw [List.length_map] at this
            omega
        · have hch : chg = true := by simpa using ht
          subst hch
          exact ⟨b, z1.next q1 (by omega) w1 hsm, z2.fr (hc d (by simp)) sc, ((z3.up sc).forget 11).forget 10, w4.trans (s9.trans (sb.trans (z4.trans sc)))⟩
    · obtain ⟨b, w1, _⟩ := h
      exact w1.end_.elim
end
end EC

set_option Elab.async false
set_option linter.all false
set_option maxRecDepth 100000
set_option maxHeartbeats 8000000
/-! EcL6: _law_falls, _law_set. -/
namespace EC
open PySem PySem.Spec PyProof.Rows L2
/-- the law's numbers as widths -/
def tO (t : Bt) : Tb := t.map fun x => (x.1, toO x.2)
theorem tO_keys (t : Bt) : (tO t).map (·.1) = t.map (·.1) := by
  unfold tO
  rw [List.map_map]
  rfl
theorem look_tO {t : Bt} {u : Mom} : look (tO t) u = (look t u).map toO := by
  unfold tO
  rw [look_mapk (fun _ v => toO v)]
theorem tO_put {b : Bt} {m : Mom} {v : Nat} : tO (EC.put b m v) = EC.put (tO b) m (toO v) := by
  unfold EC.put putW tO
  have e : (look (b.map fun x => (x.1, toO x.2)) m).isSome = (look b m).isSome := by
    rw [look_mapk (fun _ v => toO v)]
    simp
  rw [e]
  by_cases h : (look b m).isSome = true
  · rw [if_pos h, if_pos h, List.map_map, List.map_map]
    refine List.map_congr_left fun x _ => ?_
    by_cases z : x.1 = m <;> simp [z]
  · rw [if_neg h, if_neg h, List.map_append]
    rfl
theorem put_noop {β : Type} {t : List (Mom × β)} {u : Mom} {y : β} (hn : (t.map (·.1)).Nodup) (h : look t u = some y) : EC.put t u y = t := by
  unfold EC.put putW
  rw [if_pos (by rw [h]; rfl)]
  conv => rhs; rw [← List.map_id t]
  refine List.map_congr_left fun x hx => ?_
  by_cases z : x.1 = u
  · rw [if_pos z]
    have h2 := look_of_mem hn hx
    rw [z, h] at h2
    cases h2
    subst z
    rfl
  · rw [if_neg z]
    rfl
theorem oLe_toO {a b : Nat} (h : a ≤ b) : oLe (toO a) (toO b) := by
  unfold toO
  by_cases q : 9999 ≤ b
  · rw [if_pos q]
    cases (if 9999 ≤ a then none else some a) <;> trivial
  · rw [if_neg q, if_neg (by omega)]
    exact h
theorem kLt_toO {a b : Nat} (h : a < b) (hb : b ≤ 9999) : kLt (toO a) (toO b) = true := by
  unfold toO
  rw [if_neg (by omega)]
  by_cases q : 9999 ≤ b
  · rw [if_pos q]
    rfl
  · rw [if_neg q]
    exact decide_eq_true h
theorem fstep {p : Prg} {mo : Mom → Option Nat} {ms : List Mom} {t : Bt} {m : Mom} {W : Nat} (f : FInv p mo ms (tO t)) (hc : p.cst m ≠ 0) (hW : W ≤ 9999) (he : toO W = fallO (mo m) (p.cst m)) :
    FInv p mo (ms ++ [m]) (tO (EC.put t (p.wake m) (if W < (if p.wake m ∈ t.map (·.1) then bval t (p.wake m) else 0) then (if p.wake m ∈ t.map (·.1) then bval t (p.wake m) else 0) else W))) := by
  have hn : (t.map (·.1)).Nodup := by rw [← tO_keys]; exact f.nd
  by_cases hk : p.wake m ∈ t.map (·.1)
  · rw [if_pos hk]
    obtain ⟨o, ho⟩ := Option.isSome_iff_exists.mp (look_isSome.mpr hk)
    have hb : bval t (p.wake m) = o := by unfold bval; rw [ho]; rfl
    rw [hb]
    have hl : look (tO t) (p.wake m) = some (toO o) := by rw [look_tO, ho]; rfl
    by_cases q : o < W
    · rw [if_neg (by omega), tO_put, he]
      exact f.more hc (.inr (by rw [hl, ← he]; exact kLt_toO q hW))
    · have e : (if W < o then o else W) = o := by split <;> omega
      rw [e, put_noop hn ho]
      exact f.keep hc hl (by rw [← he]; exact oLe_toO (by omega))
  · rw [if_neg hk, if_neg (by omega), tO_put, he]
    exact f.more hc (.inl (by rw [tO_keys]; exact hk))
section
variable {X : Cx} {Γ : List (Option Ty)} {σ : L2.St} {H H' : Hp} {M : List Addr} {iter : Expr} {pos : Pos} {D : Ends}
/-- over a dict's keys -/
theorem wS_forNM {tg : Expr} {g : TG} {body : List Stmt} {l : List (Mom × Ty)} (hg : PG X tg g) (hc : X.calm = true) (hm : Cutbs X M H) (gE : Env Γ σ (cuts M H)) (hi : EV X Γ iter (isNX X l))
    (k : ∀ H1, (∀ p ∈ M, H1 p = H p) → Same (cuts M H) (cuts M H1) → Env Γ σ (cuts M H1) → ∃ Pv : Nat → L2.St → Hp → Prop, Pv 0 σ H1 ∧ (∀ i σ' H', Pv i σ' H' → Same (cuts M H1) H') ∧
      (∀ i mo v σ' H', (l.map (·.1))[i]? = some mo → Dp X.K (cuts M H1) v (Mom.d mo) → Pv i σ' H' → g v σ' H' fun σ2 H2 => wB X body { D with nx := Pv (i + 1), ct := Pv (i + 1), bk := D.nx } σ2 H2) ∧ ∀ σ' H', Pv l.length σ' H' → D.nx σ' H')
    (hp : PassesOwn (model X.prog X.w) X.A X.env X.xe := by exact PassesOwn.never) (hs : ∀ x, foldedSetIterable iter X.env x = pure x := by intro _; rfl) : wS X (.For tg iter body [] pos) D σ H := by
  refine wS_forN hg hc (EV.useM M hi hm gE fun v H1 h1 s1 g1 q1 => ?_) hp hs
  obtain ⟨Pv, p0, ps, st, dn⟩ := k H1 h1 s1 g1
  obtain ⟨q, xs, ep, rfl, hr, hk, hv⟩ := q1
  refine ⟨q, xs, ep, Pv, rfl, p0, fun i σ' H' _ h => rd_up (ps i σ' H' h) hr, fun i z σ' H' hz h => ?_, fun σ' H' h => dn σ' H' (by rw [← hv.len]; exact h)⟩
  refine st i z.1 _ σ' H' ?_ (hk z (List.mem_of_getElem? hz)) h
  rw [← hv.keys, List.getElem?_map, hz]
  rfl
/-- d[m] = v where v looks into what changes -/
theorem wS_putF {value o i : Expr} {pos' : Pos} {Γ' : List (Option Ty)} {d : Addr} {m : Mom} {l : List (Mom × Ty)} {dx : PyData} (hu : X.A.units + 9 < cLine) (hm : Cutbs X M H) (hd : d ∈ M) (g : Env Γ σ (cuts M H)) (g' : Env Γ' σ H) (hv : EV X Γ' value (isD X.K dx)) (hlf : lf dx = true) (ho : EV X Γ o (isV (.ref d))) (hi : EV X Γ i (isD X.K m.d)) (h : Nof X M H d l) (hz : l.length ≤ 100000)
    (k : ∀ H1, Same (cuts M H) (cuts M H1) → (∀ p ∈ M, p ≠ d → H1 p = H p) → Nof X M H1 d (EC.put l m (isD X.K dx)) → Env Γ σ (cuts M H1) → D.nx σ H1) (hs : swapsWith value (some (.Subscript o i pos')) pos.line X.env = pure false := by rfl) : wS X (.Assign [.Subscript o i pos'] value pos) D σ H := by
  refine wS_nput hu (hv.use g' fun v H1 t1 q0 => ?_) hs
  have h1 := keepM hm t1
  have s1 : Same (cuts M H) (cuts M H1) := cuts_mono t1
  have g1 := g.up s1
  have q1 := lf_cuts (hm.of h1) hlf q0
  refine EV.useM M ho (hm.of h1) g1 fun u H2 h2 s2 g2 q2 => EV.useM M hi ((hm.of h1).of h2) g2 fun y H3 h3 s3 g3 q3 => ?_
  have e2 : u = .ref d := q2
  subst e2
  obtain ⟨b, rfl⟩ := mom_ref q3
  have e3 : ∀ p ∈ M, H3 p = H p := fun p hp => (h3 p hp).trans ((h2 p hp).trans (h1 p hp))
  obtain ⟨xs, ep, n1, n2, n3⟩ := h.fr (e3 d hd) (s1.trans (s2.trans s3))
  refine ⟨d, xs, ep, m, b, rfl, rfl, n1, nkeys_up cuts_same n2, dp_up cuts_same _ _ q3, by rw [sizeLine_eq, n3.len]; omega, fun ep' => ?_⟩
  have ec : cuts M (upd H3 d (nD X.prog X.w d (putX xs m b v) ep')) = cuts M H3 := cuts_upd hd
  refine k _ (by rw [ec]; exact s1.trans (s2.trans s3)) (fun p hp hne => by rw [upd_ne hne]; exact e3 p hp) ⟨_, ep', upd_same, by rw [ec]; exact n2.put q3, ?_⟩ (by rw [ec]; exact g3)
  rw [ec]
  exact n3.put_ ((isD X.K dx).up (s2.trans s3) q1)
end
section
variable {P : Program} {w : World} {K : PySem.W.Frag} {mg : Str → Option Value} {base : Heap}
def lfT (K : PySem.W.Frag) (P : Program) (w : World) (p : Prg) (b : Bt) : Ty := exT (fun t : Bt => FInv p (fun m => toO (bval b m)) (b.map (·.1)) (tO t)) fun t => isN K P w (bTy K t)
def RlawFalls (K : PySem.W.Frag) (P : Program) (w : World) : List Ty → Ty → Prop := fun τs τ => ∃ (p : Prg) (wk : Mom) (b : Bt), p.Ok ∧ p.MomOk wk ∧ GoodB p wk b ∧ τs = [isD K p.d, isN K P w (bTy K b)] ∧ τ = lfT K P w p b
abbrev P56 : List Str := ["_law_program_here", "_law_best", "_law_found", "_law_moment", "_law_cost", "_law_later", "_law_width"]
theorem sc_lfalls : FnScope P56 ["_law_program_here", "_law_best"] (defScope (top 56)) := ⟨rfl, rfl, rfl, by decide +kernel, rfl, by decide +kernel, by decide +kernel⟩
abbrev XL56 (P : Program) (w : World) (K : PySem.W.Frag) (mg : Str → Option Value) (base : Heap) (f : Addr) (cdv : Value) (A : Around) (outer : List PySem.Env) (s : Shared) (H : Hp) (E : XK) : Cx := cx P w K mg base P56 "_law_falls" (top 56) f cdv A outer s H E
theorem ok_lfalls {f : Addr} {fd : FuncData} (F : Fun K "_law_falls" "_law_falls" (top 56) f fd) (B : Bi mg) (c1 : FnS P w K mg base "_law_due" 2 1 (spF (Rldue K))) (c2 : FnS P w K mg base "_law_waking" 2 1 (spF (Rwoken K))) :
    FnOk P w K mg base CX0 2 f fd ["_law_program_here", "_law_best"] (spF (RlawFalls K P w)) := by
  refine fn_bd F sc_lfalls (fun τs τ ⟨_, _, _, _, _, _, h, _⟩ => by rw [h]; rfl) fun cdv A outer s H E τs τ hr ⟨p, wk, b, hp, hw, gb, h1, h2⟩ => ⟨fun σ H0 D g0 kD => ?_⟩
  subst h1 h2
  have nd := sc_lfalls.nd
  have hu9 : (XL56 P w K mg base f cdv A outer s H E).A.units + 9 < cLine := Nat.lt_of_le_of_lt (Nat.add_le_add_left (by decide : 9 ≤ 64) _) hr.units
  have hb0 : Cutbs (XL56 P w K mg base f cdv A outer s H E) [] H0 := fun p hp => by cases hp
  have few : Few p wk (b.map (·.1)) := ⟨hp, hw, fun v hv => (gb.whole.mem v).mpr hv, by rw [List.length_map]; exact gb.len⟩
  refine wB_cons (wS_newN 2 nd hb0 (by rw [cuts_nil]; exact g0) fun d H1 _ hd0 ec1 _ n1 g1 => ?_)
  have e1 : Same H0 (cuts [d] H1) := by rw [ec1, cuts_nil]; exact Same.refl _
  refine wB_cons (wS_forNM (l := bTy K b) (pg_name (i := 3) nd rfl (.inl rfl)) rfl (Cutbs.one n1.cutb) g1 (ev_n 1 rfl) fun H2 h2 s2 g2 => ?_)
  refine ⟨fun i σ' H' => ∃ t : Bt, FInv p (fun m => toO (bval b m)) ((b.map (·.1)).take i) (tO t) ∧ Nof (XL56 P w K mg base f cdv A outer s H E) [d] H' d (bTy K t) ∧ Env [some (isD K p.d), some (isN K P w (bTy K b)), some (isV (.ref d)), none, none, none, none] σ' (cuts [d] H') ∧ Same (cuts [d] H2) (cuts [d] H'),
    ⟨[], FInv.nil, n1.fr (h2 d (by simp)) s2, g2, Same.refl _⟩, (fun _ _ _ h => by obtain ⟨_, _, _, _, z⟩ := h; exact z.trans cuts_same), fun i m v σ' H' hm hv h => ?_, fun σ' H' h => ?_⟩
  · obtain ⟨t, q1, q2, q3, q4⟩ := h
    rw [bTy_keys] at hm
    have hmem : m ∈ b.map (·.1) := List.mem_of_getElem? hm
    have hmo := rch_ok hp hw ((gb.whole.mem m).mp hmem)
    have htk : (b.map (·.1)).take (i + 1) = (b.map (·.1)).take i ++ [m] := by rw [List.take_succ, hm]; rfl
    have ed : p.due m = (p.cst m : Nat) := cst_eq hp hmo
    have gg := q3.set 3 (show (isD K m.d).p _ v from dp_up q4 _ _ hv)
    have cz := Cutbs.one (X := XL56 P w K mg base f cdv A outer s H E) q2.cutb
    refine wB_cons (wS_setM 4 nd cz gg (ev_call c1 (hr.mono (by decide)) (evs_cons (ev_n 0 rfl) (evs_cons (ev_n 3 rfl) evs_nil)) ⟨p, m, hp, hmo, rfl, rfl⟩) fun cv Ha ha sa ga => ?_)
    rw [ed] at ga
    have na := q2.fr (ha d (by simp)) sa
    refine wB_one (wS_ifF (cz.of ha) (ga.up cuts_same) (et_gt (ev_n 4 rfl) (ev_int (i := 0))) (fun ht Hb hb sb => ?_) (fun ht Hb hb sb => wB_nil ?_))
    · have hc : p.cst m ≠ 0 := by
        have := of_decide_eq_true ht
        omega
      have nb := na.fr (hb d (by simp)) sb
      refine wB_cons (wS_setM 5 nd (Cutbs.one nb.cutb) (ga.up sb) (ev_call c2 (hr.mono (by decide)) (evs_cons (ev_n 0 rfl) (evs_cons (ev_n 3 rfl) evs_nil)) ⟨p, m, hp, hmo, rfl, rfl⟩) fun lv Hc hc2 sc gc => ?_)
      have nc := nb.fr (hc2 d (by simp)) sc
      have esp : ((min 9999 (bval b m + p.cst m - 1) : Nat) : Int) = if ((bval b m : Nat) : Int) + ((p.cst m : Nat) : Int) - 1 < 9999 then ((bval b m : Nat) : Int) + ((p.cst m : Nat) : Int) - 1 else 9999 := by
        have h1 : bval b m + p.cst m - 1 < 9999 → min 9999 (bval b m + p.cst m - 1) = bval b m + p.cst m - 1 := fun h => by omega
        have h2 : ¬ bval b m + p.cst m - 1 < 9999 → min 9999 (bval b m + p.cst m - 1) = 9999 := fun h => by omega
        by_cases q : bval b m + p.cst m - 1 < 9999
        · rw [h1 q, if_pos (by omega)]
          omega
        · rw [h2 q, if_neg (by omega)]
          rfl
      refine wB_cons (wS_setM (τ := isD K (.int ((min 9999 (bval b m + p.cst m - 1) : Nat) : Int))) 6 nd (Cutbs.one nc.cutb) gc (by
        rw [esp]
        exact ev_min2 rfl B ev_int (ev_sub (ev_add (ev_nget hu9 (ev_n 1 rfl) (ev_n 3 rfl) (bTy_look hmem)) (ev_n 4 rfl)) ev_int)) fun wv Hd hd sd gd => ?_)
      have nd1 := nc.fr (hd d (by simp)) sd
      have hW : toO (min 9999 (bval b m + p.cst m - 1)) = fallO (toO (bval b m)) (p.cst m) := by
        unfold toO
        by_cases q : 9999 ≤ bval b m
        · rw [if_pos q, if_pos (by omega)]
          rfl
        · have hm2 := gb.most m hmem
          unfold toO at hm2
          rw [if_neg q] at hm2
          obtain ⟨z1, ⟨c, k, z2, z3⟩, _⟩ := hm2
          have := att_small few z2 z1
          have := cst_le hp hmo
          rw [if_neg q, if_neg (by omega)]
          show some _ = some (bval b m + p.cst m - 1)
          congr 1
          omega
      have hst := fstep q1 hc (W := min 9999 (bval b m + p.cst m - 1)) (by omega) hW
      rw [← htk] at hst
      generalize hWg : min 9999 (bval b m + p.cst m - 1) = W at gd hst
      generalize hog : (if p.wake m ∈ t.map (·.1) then bval t (p.wake m) else 0) = old at hst
      have tl : t.length ≤ 30 := by
        have h1 := q1.len
        have h2 : (tO t).length = t.length := List.length_map ..
        have h3 := List.length_take_le i (b.map (·.1))
        have h4 := few.len
        have h5 : ((b.map (·.1)).take i).length ≤ (b.map (·.1)).length := by rw [List.length_take]; exact Nat.min_le_right _ _
        omega
      have g7 := (gd.up cuts_same).re 2 rfl nd1.ty
      have emx : ((if W < old then old else W : Nat) : Int) = if ((old : Nat) : Int) > ((W : Nat) : Int) then ((old : Nat) : Int) else ((W : Nat) : Int) := by
        by_cases q : W < old
        · rw [if_pos q, if_pos (by omega)]
        · rw [if_neg q, if_neg (by omega)]
      refine wB_one (wS_putF (dx := .int ((if W < old then old else W : Nat) : Int)) (d := d) (m := p.wake m) hu9 (Cutbs.one nd1.cutb) (by simp) gd g7 (by
        rw [emx]
        refine ev_max2 rfl B (ev_n 6 rfl) (ev_ifE (et_nin (m := p.wake m) (l := bTy K t) hu9 (ev_n 5 rfl) (ev_n 2 rfl)) (fun hk => ?_) fun hk => ?_)
        · rw [bTy_keys] at hk
          have hk' : p.wake m ∈ t.map (·.1) := of_decide_eq_true hk
          rw [← hog, if_pos hk']
          exact ev_nget hu9 (ev_n 2 rfl) (ev_n 5 rfl) (bTy_look hk')
        · rw [bTy_keys] at hk
          have hk' : p.wake m ∉ t.map (·.1) := of_decide_eq_false hk
          rw [← hog, if_neg hk']
          exact ev_int) rfl (ev_n 2 rfl) (ev_n 5 rfl) nd1 (by rw [bTy_len]; omega) fun He se he ne ge => ?_)
      have ne' : Nof (XL56 P w K mg base f cdv A outer s H E) [d] He d (bTy K (EC.put t (p.wake m) (if W < old then old else W))) := by
        rw [← bTy_put]
        exact ne
      exact ⟨_, hst, ne', (((ge.forget 6).forget 5).forget 4).forget 3, q4.trans (sa.trans (sb.trans (sc.trans (sd.trans se))))⟩
    · have hc : p.cst m = 0 := by
        have := of_decide_eq_false ht
        omega
      refine ⟨t, by rw [htk]; exact q1.zero hc, na.fr (hb d (by simp)) sb, ((ga.up sb).forget 4).forget 3, q4.trans (sa.trans sb)⟩
  · obtain ⟨t, q1, q2, q3, q4⟩ := h
    rw [bTy_len, List.take_of_length_le (by rw [List.length_map]; exact Nat.le_refl _)] at q1
    exact wB_one (wS_ret (wE_nm 2 q3 rfl (kD _ _ ((e1.trans (s2.trans q4)).trans cuts_same) ⟨t, q1, q2.ty⟩)))
/-- a table told in order -/
def setD (t : Tb) : PyData := .tuple ((msort (t.map (·.1))).map fun u => .tuple [u.d, widthO ((look t u).getD none)])
def Rlset (K : PySem.W.Frag) (P : Program) (w : World) : List Ty → Ty → Prop := fun τs τ => ∃ (t : Bt), t.length ≤ 30 ∧ τs = [isN K P w (bTy K t)] ∧ τ = isD K (setD (tO t))
theorem widthO_toO (n : Nat) : widthO (toO n) = widthD (if (9999 : Int) ≤ (n : Nat) then none else some ((n : Nat) : Int)) := by
  unfold toO widthO
  by_cases h : 9999 ≤ n
  · rw [if_pos h, if_pos (by omega)]
    rfl
  · rw [if_neg h, if_neg (by omega)]
    rfl
abbrev P59 : List Str := ["_law_best", "_law_key"]
theorem sc_lset : FnScope P59 ["_law_best"] (defScope (top 59)) := ⟨rfl, rfl, rfl, by decide +kernel, rfl, by decide +kernel, by decide +kernel⟩
theorem ok_lset {f : Addr} {fd : FuncData} (F : Fun K "_law_set" "_law_set" (top 59) f fd) (B : Bi mg) (c1 : FnS P w K mg base "_law_told" 1 1 (spF (Rltold K))) : FnOk P w K mg base CX0 2 f fd ["_law_best"] (spF (Rlset K P w)) := by
  refine fn_bd F sc_lset (fun τs τ h => by obtain ⟨_, _, rfl, _⟩ := h; rfl) fun cdv A outer s H E τs τ hr h => ?_
  obtain ⟨t, ht, rfl, rfl⟩ := h
  have nd := sc_lset.nd
  have hu9 := Nat.lt_of_le_of_lt (Nat.add_le_add_left (by decide : 9 ≤ 64) _) hr.units
  have hu8 := Nat.lt_of_le_of_lt (Nat.add_le_add_left (by decide : 8 ≤ 64) _) hr.units
  have hl : (msort (t.map (·.1))).length ≤ 30 := by
    rw [msort_len, List.length_map]
    exact ht
  have e : setD (tO t) = .tuple (lcD ((msort (t.map (·.1))).map Mom.d).length (fun _ => true) (fun i => .tuple [((msort (t.map (·.1))).getD i m0).d, widthO ((look (tO t) ((msort (t.map (·.1))).getD i m0)).getD none)])) := by
    unfold setD
    rw [tO_keys, List.length_map]
    exact congrArg _ (lcD_all m0 (msort (t.map (·.1))) (fun u => .tuple [u.d, widthO ((look (tO t) u).getD none)])).symm
  rw [e]
  refine bd_ret (ev_tupleL B (ev_lc [("_law_key", 1)] rfl nd (blkOk_by (N := P59) (sc := defScope (top 59)) (by decide +kernel)) (src_lst 1 (by rw [← bTy_keys (K := K)]; exact ev_sortN rfl hu8 B.sorted (ev_n 0 rfl)) (fun _ _ _ _ _ => pg_name nd rfl (.inl rfl))) (fun _ _ _ _ _ i hi => ets_nil) (fun _ _ _ _ _ i hi _ => ?_) (fun i hi _ => ?_) (by simp; omega)))
  · rw [List.length_map] at hi
    have hmem : (msort (t.map (·.1))).getD i m0 ∈ t.map (·.1) := mem_msort.mp (List.mem_of_getElem? (momAt hi))
    have g1 := congrArg (fun d => some (some (isD K d))) (momD hi)
    obtain ⟨o', ho'⟩ := Option.isSome_iff_exists.mp (look_isSome.mpr hmem)
    have hb : bval t ((msort (t.map (·.1))).getD i m0) = o' := by unfold bval; rw [ho']; rfl
    have hb2 : (look (tO t) ((msort (t.map (·.1))).getD i m0)).getD none = toO o' := by rw [look_tO, ho']; rfl
    rw [hb2, widthO_toO]
    refine ev_tup (eds_cons (ev_n 1 g1) (eds_cons (ev_call c1 (hr.mono (by decide)) (evs_cons (ev_nget (τ := isD K (.int ((o' : Nat) : Int))) hu9 (ev_n 0 rfl) (ev_n 1 g1) (by rw [bTy_look hmem, hb])) evs_nil) ⟨_, rfl, rfl⟩) eds_nil))
  · have : ∀ o : Option Nat, lf (widthO o) = true := fun o => by cases o <;> rfl
    simp [lf, lfs, lf_mom, this]
end
end EC

set_option Elab.async false
set_option linter.all false
set_option maxRecDepth 100000
set_option maxHeartbeats 8000000
/-! EcL7: _law_net. -/
namespace EC
open PySem PySem.Spec PyProof.Rows L2
/-! ### wakings, plain -/
theorem wakeVals_twice : ∀ (cs : List Cell) (vs ss : List Int), wakeVals cs (wakeVals cs vs ss) ss = wakeVals cs vs ss
  | [], _, _ => by cases ‹List Int› <;> rfl
  | c :: cs, [], ss => rfl
  | c :: cs, v :: vs, ss => by
    by_cases hs : c.sv = true
    · cases ss with
      | nil => simp [wakeVals, hs, wakeVals_twice cs vs []]
      | cons s ss => simp [wakeVals, hs, wakeVals_twice cs vs ss]
    · by_cases hk : c.kind = "kept"
      · simp [wakeVals, hs, hk, wakeVals_twice cs vs ss]
      · simp [wakeVals, hs, hk, wakeVals_twice cs vs ss]
theorem wake_wake (p : Prg) (m : Mom) : p.wake (p.wake m) = p.wake m := by
  unfold Prg.wake
  simp only [wakeVals_twice]
theorem wakeVals_start : ∀ (cs : List Cell), wakeVals cs (cs.map (·.start)) (savedOf cs (cs.map (·.start))) = cs.map (·.start)
  | [] => rfl
  | c :: cs => by
    by_cases hs : c.sv = true
    · simp [wakeVals, savedOf, hs, wakeVals_start cs]
    · simp [wakeVals, savedOf, hs, wakeVals_start cs]
theorem valsOk_start : ∀ (cs : List Cell), (∀ c ∈ cs, c.ok) → valsOk cs (cs.map (·.start))
  | [], _ => trivial
  | c :: cs, h => ⟨⟨(h c (by simp)).2.1, (h c (by simp)).2.2.1⟩, valsOk_start cs fun x hx => h x (by simp [hx])⟩
theorem wake_first (p : Prg) : p.wake p.first = p.first := by
  unfold Prg.wake Prg.first
  simp only [wakeVals_start]
theorem first_ok {p : Prg} (h : p.Ok) (hc : 0 < p.code.length) : p.MomOk p.first :=
  ⟨hc, hc, savedOf_ok (valsOk_start _ h.cell), valsOk_start _ h.cell⟩
theorem room65 {k : Nat} {A : Around} (r : Room k A) : A.units + 65 < cLine := by
  have := r.un
  omega
/-- a waking to look from -/
def GoodW (p : Prg) (m : Mom) : Prop := p.MomOk m ∧ p.wake m = m
section
variable {X : Cx} {Γ : List (Option Ty)} {σ : L2.St} {H : Hp} {a b e : Expr} {es : List Expr} {pos p2 p3 : Pos} {D : Ends} {τ : Ty}
def anyT : Ty := ⟨fun _ _ => True, fun _ _ => trivial⟩
theorem ev_tupA {k : Nat} {τs : List Ty} (h : EVs X Γ es τs) (hl : τs.length ≤ 100000) : EV X Γ (.Tuple es k pos) anyT :=
  .of (pe_tup pa_w) fun σ H g => h.use g fun vs H1 s1 q => ⟨by
    have : ∀ {vs : List V} {τs : List Ty}, AllT H1 vs τs → vs.length = τs.length := fun q => by
      induction q with
      | nil => rfl
      | cons _ _ ih => exact congrArg Nat.succ ih
    rw [this q]
    exact sz_of hl, fun p hp => ⟨s1.trans (same_new hp), trivial⟩⟩
theorem et_isNon {j : Nat} (h : EV X Γ a (isD X.K .none)) : ET X Γ (.Compare a [.Is] [.Constant .none j p2] pos) true :=
  .of (pt_cmp (pc_isN pe_w)) fun σ H g => h.use g fun v H1 s1 q1 => by
    cases q1
    exact ⟨_, rfl, s1, rfl⟩
theorem et_isNonN {j : Nat} {l : List (Mom × Ty)} (h : EV X Γ a (isNX X l)) : ET X Γ (.Compare a [.Is] [.Constant .none j p2] pos) false :=
  .of (pt_cmp (pc_isN pe_w)) fun σ H g => h.use g fun v H1 s1 q1 => by
    obtain ⟨d, xs, ep, rfl, _⟩ := q1
    exact ⟨_, rfl, s1, rfl⟩
theorem et_isNotNon {j : Nat} (h : EV X Γ a (isD X.K .none)) : ET X Γ (.Compare a [.IsNot] [.Constant .none j p2] pos) false :=
  .of (pt_cmp (pc_notN pe_w)) fun σ H g => h.use g fun v H1 s1 q1 => by
    cases q1
    exact ⟨_, rfl, s1, rfl⟩
theorem et_isNotNonN {j : Nat} {l : List (Mom × Ty)} (h : EV X Γ a (isNX X l)) : ET X Γ (.Compare a [.IsNot] [.Constant .none j p2] pos) true :=
  .of (pt_cmp (pc_notN pe_w)) fun σ H g => h.use g fun v H1 s1 q1 => by
    obtain ⟨d, xs, ep, rfl, _⟩ := q1
    exact ⟨_, rfl, s1, rfl⟩
/-- x, y = a, b by way of a pair -/
theorem wS_pairT {px py p4 : Pos} {kk k2 : Nat} {x y : Str} (i j : Nat) (hc : X.calm = true) (hN : X.N.Nodup) (h : wE X a σ H fun v H1 => wE X b σ H1 fun u H2 => ∀ p, H2 p = none → D.nx ((σ.set i (some v)).set j (some u)) (upd H2 p (.tup [v, u])))
    (hi : X.N[i]? = some x := by rfl) (hj : X.N[j]? = some y := by rfl) (hx : Loc X.env.scope x := by first | exact .inl rfl | exact .inr rfl) (hy : Loc X.env.scope y := by first | exact .inl rfl | exact .inr rfl)
    (hfx : X.fn x = true ∨ X.env.scope.names.lookup x = some .local := by first | exact .inl rfl | exact .inr rfl) (hfy : X.fn y = true ∨ X.env.scope.names.lookup y = some .local := by first | exact .inl rfl | exact .inr rfl)
    (hw : swappedStores [.Tuple [.Name x px, .Name y py] kk p2] (.Tuple [a, b] k2 p4) X.env = pure none := by rfl) (hs : swapsWithSole [.Tuple [.Name x px, .Name y py] kk p2] (.Tuple [a, b] k2 p4) pos.line X.env = pure false := by rfl)
    (he : starEach [a, b] X.env = (false, eval a X.env) :: starEach [b] X.env := by rfl) (he2 : starEach [b] X.env = (false, eval b X.env) :: starEach [] X.env := by rfl) :
    wS X (.Assign [.Tuple [.Name x px, .Name y py] kk p2] (.Tuple [a, b] k2 p4) pos) D σ H :=
  wS_of (ps_asg (pe_tup (pa_cons pe_w (pa_cons pe_w pa_nil he2) he)) (pg_tup hc (pgs_cons (pg_name hN hi hx hfx) (pgs_cons (pg_name hN hj hy hfy) pgs_nil))) hs hw)
    (wE_mono h fun v H1 h1 => wE_mono h1 fun u H2 h2 => ⟨sz_of (n := 2) (by decide), fun p hp => ⟨p, [v, u], rfl, SqT.of upd_same, rfl, v, [u], rfl, u, [], rfl, rfl, h2 p hp⟩⟩)
theorem Env.openX {β : Type} {S : β → Prop} {f : β → Ty} (i : Nat) (g : Env (Γ.set i (some (exT S f))) σ H) (hi : i < Γ.length) : ∃ x, S x ∧ Env (Γ.set i (some (f x))) σ H := by
  obtain ⟨v, h1, x, hx, h2⟩ := g.at_ i _ (List.getElem?_set_self hi)
  refine ⟨x, hx, by rw [List.length_set]; rw [← g.len, List.length_set], fun j τ' e => ?_⟩
  by_cases hj : i = j
  · subst hj
    rw [List.getElem?_set_self hi] at e
    cases e
    exact ⟨v, h1, h2⟩
  · rw [List.getElem?_set_ne hj] at e
    exact g.at_ j τ' (by rw [List.getElem?_set_ne hj]; exact e)
end
section
variable {P : Program} {w : World} {K : PySem.W.Frag} {mg : Str → Option Value} {base : Heap}
def netT (K : PySem.W.Frag) (P : Program) (w : World) (p : Prg) : Ty := exT (fun o : Option (List (Mom × Ty)) => ∀ l, o = some l → (∀ x ∈ l, GoodW p x.1) ∧ l.length ≤ 16) fun o => match o with
  | none => isD K .none
  | some l => isN K P w l
def Rlnet (K : PySem.W.Frag) (P : Program) (w : World) : List Ty → Ty → Prop := fun τs τ => ∃ (p : Prg), p.Ok ∧ 0 < p.code.length ∧ τs = [isD K p.d, isD K (.int 30)] ∧ τ = netT K P w p
abbrev P57 : List Str := ["_law_program_here", "_law_most", "_law_net_here", "_law_order", "_law_at", "_law_best", "_law_falls_here", "_law_later"]
theorem sc_lnet : FnScope P57 ["_law_program_here", "_law_most"] (defScope (top 57)) := ⟨rfl, rfl, rfl, by decide +kernel, rfl, by decide +kernel, by decide +kernel⟩
abbrev XL57 (P : Program) (w : World) (K : PySem.W.Frag) (mg : Str → Option Value) (base : Heap) (f : Addr) (cdv : Value) (A : Around) (outer : List PySem.Env) (s : Shared) (H : Hp) (E : XK) : Cx := cx P w K mg base P57 "_law_net" (top 57) f cdv A outer s H E
abbrev G57 (K : PySem.W.Frag) (p : Prg) (d : Addr) (order : List Mom) : List (Option Ty) :=
  [some (isD K p.d), some (isD K (.int 30)), some (isV (.ref d)), some (isL K (order.map Mom.d)), none, none, none, none]
theorem ok_lnet {f : Addr} {fd : FuncData} (F : Fun K "_law_net" "_law_net" (top 57) f fd) (B : Bi mg) (c1 : FnS P w K mg base "_law_first" 1 1 (spF (Rlfirst K))) (c2 : FnS P w K mg base "_law_awake" 3 4 (spF (RlawAwake K P w))) (c3 : FnS P w K mg base "_law_falls" 2 2 (spF (RlawFalls K P w))) :
    FnOk P w K mg base CX0 5 f fd ["_law_program_here", "_law_most"] (spF (Rlnet K P w)) := by
  refine fn_bd F sc_lnet (fun τs τ ⟨_, _, _, h, _⟩ => by rw [h]; rfl) fun cdv A outer s H E τs τ hr ⟨p, hp, hpc, h1, h2⟩ => ⟨fun σ H0 D g0 kD => ?_⟩
  subst h1 h2
  have nd := sc_lnet.nd
  have hu9 : (XL57 P w K mg base f cdv A outer s H E).A.units + 9 < cLine := Nat.lt_of_le_of_lt (Nat.add_le_add_left (by decide : 9 ≤ 64) _) hr.units
  have hu65 : (XL57 P w K mg base f cdv A outer s H E).A.units + 65 < cLine := room65 hr
  refine wB_cons (wS_pairT 2 3 rfl nd (wE_nnew fun d hd => ?_))
  have ec : cuts [d] (upd H0 d (nD P w d [] 0)) = H0 := by
    rw [cuts_add (M := []) hd, cuts_nil]
  have n1 : Nof (XL57 P w K mg base f cdv A outer s H E) [d] (upd H0 d (nD P w d [] 0)) d [] := ⟨[], 0, upd_same, (fun x hx => by cases hx), .nil⟩
  have g0' : Env (startΓ P57 [isD K p.d, isD K (.int 30)]) σ (cuts [d] (upd H0 d (nD P w d [] 0))) := by rw [ec]; exact g0
  refine EV.useM (X := XL57 P w K mg base f cdv A outer s H E) (Γ := startΓ P57 [isD K p.d, isD K (.int 30)]) [d] (ev_lstL (ds := [p.first].map Mom.d) (eds_cons (ev_call c1 (hr.mono (by decide)) (evs_cons (ev_n 0 rfl) evs_nil) ⟨p, hp, rfl, rfl⟩) eds_nil)) (Cutbs.one n1.cutb) g0' fun ov H1 h1 s1 g1 q1 q hq => ?_
  have n2 := n1.fr (h1 d (by simp)) s1
  have hqd : q ≠ d := fun e => by
    obtain ⟨xs, ep, z, _⟩ := n2
    rw [e, z] at hq
    cases hq
  have s2 : Same (cuts [d] H1) (cuts [d] (upd H1 q (.tup [.ref d, ov]))) := cuts_mono (same_new hq)
  have n3 := n2.fr (H1 := upd H1 q (.tup [.ref d, ov])) (upd_ne (Ne.symm hqd)) s2
  have e3 : Same H0 (cuts [d] (upd H1 q (.tup [.ref d, ov]))) := by
    have z : Same (cuts [d] (upd H0 d (nD P w d [] 0))) (cuts [d] (upd H1 q (.tup [.ref d, ov]))) := s1.trans s2
    rw [ec] at z
    exact z
  have g3 := ((g1.up s2).set 2 (show (isV (.ref d)).p _ (.ref d) from rfl)).set 3 ((isL K ([p.first].map Mom.d)).up s2 q1)
  refine wB_cons (wS_forRM (n := 16) (pg_name (i := 4) nd rfl (.inl rfl)) rfl B.range (Cutbs.one n3.cutb) g3 ev_int (by decide) fun H6 h6 s6 g6 => ?_)
  refine ⟨fun i σ' H' => ∃ (order : List Mom) (l : List (Mom × Ty)), (∀ m ∈ order, GoodW p m) ∧ order.length ≤ 1 + 30 * i ∧ (∀ x ∈ l, GoodW p x.1) ∧ l.length ≤ i ∧ Nof (XL57 P w K mg base f cdv A outer s H E) [d] H' d l ∧ Env (G57 K p d order) σ' (cuts [d] H') ∧ Same (cuts [d] H6) (cuts [d] H'),
    ⟨[p.first], [], (fun m hm => by cases List.mem_singleton.mp hm; exact ⟨first_ok hp hpc, wake_first p⟩), by simp, (fun x hx => by cases hx), Nat.le_refl _, n3.fr (h6 d (by simp)) s6, g6, Same.refl _⟩, fun i σ' H' hi h => ?_, fun σ' H' h => ?_⟩
  · obtain ⟨order, l, q1, q2, q3, q4, q5, q6, q7⟩ := h
    have hcut := Cutbs.one (X := XL57 P w K mg base f cdv A outer s H E) q5.cutb
    have gg := q6.set 4 (show (isD K (.int (i : Nat))).p _ (.int (i : Nat)) from .int _)
    refine wB_one (wS_ifF (Γ' := (G57 K p d order).set 4 (some (isD K (.int (i : Nat))))) hcut (gg.up cuts_same) (et_lt (ev_n 4 rfl) (ev_lenL B (ev_isL (ev_n 3 rfl)))) (fun ht Ha ha sa => ?_) (fun ht Ha ha sa => ?_))
    · have hlt : i < order.length := by
        have := of_decide_eq_true ht
        rw [List.length_map] at this
        omega
      obtain ⟨m, hm⟩ : ∃ m, order[i]? = some m := ⟨_, List.getElem?_eq_getElem hlt⟩
      obtain ⟨hmo, hmw⟩ := q1 m (List.mem_of_getElem? hm)
      have na := q5.fr (ha d (by simp)) sa
      have hix : ∀ {Γ' : List (Option Ty)}, Γ'[3]? = some (some (isL K (order.map Mom.d))) → Γ'[4]? = some (some (isD K (.int (i : Nat)))) → EV (XL57 P w K mg base f cdv A outer s H E) Γ' (.Subscript (.Name "_law_order" ⟨0,0,0,0⟩) (.Name "_law_at" ⟨0,0,0,0⟩) ⟨0,0,0,0⟩) (isD K m.d) := fun z1 z2 => ev_ixL (ev_isL (ev_n 3 z1)) (ev_n 4 z2) (atI_nat (by rw [List.getElem?_map, hm]; rfl) : atI (order.map Mom.d) ((i : Nat) : Int) = some m.d)
      refine wB_cons (wS_setM (τ := awB K P w p m) 5 nd (Cutbs.one na.cutb) (gg.up sa) (ev_call c2 (hr.mono (by decide)) (evs_cons (ev_n 0 rfl) (evs_cons (ev_ixL (ev_isL (ev_n 3 rfl)) (ev_n 4 rfl) (atI_nat (by rw [List.getElem?_map, hm]; rfl) : atI (order.map Mom.d) ((i : Nat) : Int) = some m.d)) (evs_cons (ev_n 1 rfl) evs_nil))) ⟨p, m, hp, hmo, rfl, rfl⟩) fun bv Hb hb sb gb => ?_)
      have nb := na.fr (hb d (by simp)) sb
      obtain ⟨o, ho, gb⟩ := Env.openX (Γ := (G57 K p d order).set 4 (some (isD K (.int (i : Nat))))) 5 gb (show (5 : Nat) < 8 from by decide)
      cases o with
      | none =>
        refine wB_cons (wS_ifF (Cutbs.one nb.cutb) (gb.up cuts_same) (et_isNon (ev_n 5 rfl)) (fun _ Hc hc sc => ?_) (fun z => by cases z))
        exact wB_one (wS_ret (ev_non.use ((gb.up sc).up cuts_same) fun v H9 s9 q9 => kD v H9 ((e3.trans (s6.trans (q7.trans (sa.trans (sb.trans sc))))).trans (cuts_same.trans s9)) ⟨none, (fun b h => by cases h), q9⟩))
      | some b =>
        have gB : GoodB p m b := ho b rfl
        refine wB_cons (wS_ifF (Cutbs.one nb.cutb) (gb.up cuts_same) (et_isNonN (l := bTy K b) (ev_n 5 rfl)) (fun z => by cases z) (fun _ Hc hc sc => wB_nil ?_))
        have nc := nb.fr (hc d (by simp)) sc
        refine wB_cons (wS_setM (τ := lfT K P w p b) 6 nd (Cutbs.one nc.cutb) (gb.up sc) (ev_call c3 (hr.mono (by decide)) (evs_cons (ev_n 0 rfl) (evs_cons (ev_n 5 rfl) evs_nil)) ⟨p, m, b, hp, hmo, gB, rfl, rfl⟩) fun fv Hd hd2 sd gd => ?_)
        have nd1 := nc.fr (hd2 d (by simp)) sd
        obtain ⟨t, fi, gd⟩ := Env.openX (Γ := ((G57 K p d order).set 4 (some (isD K (.int (i : Nat))))).set 5 (some (isN K P w (bTy K b)))) 6 gd (show (6 : Nat) < 8 from by decide)
        have tl : t.length ≤ 30 := by
          have h1 := fi.len
          have h2 : (tO t).length = t.length := List.length_map ..
          have h3 := gB.len
          rw [List.length_map] at h1
          omega
        refine wB_cons (wS_putN (d := d) (m := m) (τ := anyT) hu9 (Cutbs.one nd1.cutb) (by simp) gd (ev_tupA (evs_cons (ev_n 5 rfl) (evs_cons (ev_n 6 rfl) evs_nil)) (show 2 ≤ 100000 from by decide)) (ev_n 2 rfl) (ev_ixL (ev_isL (ev_n 3 rfl)) (ev_n 4 rfl) (atI_nat (by rw [List.getElem?_map, hm]; rfl) : atI (order.map Mom.d) ((i : Nat) : Int) = some m.d)) nd1 (by omega) fun He se he ne ge => ?_)
        have hnews : ∀ u ∈ t.map (·.1), GoodW p u := fun u hu => by
          rw [← tO_keys] at hu
          obtain ⟨m', h1, _, rfl⟩ := (fi.key u).mp hu
          exact ⟨wake_ok hp (rch_ok hp hmo ((gB.whole.mem m').mp h1)), wake_wake p m'⟩
        have hlc : (((t.map (·.1)).filter fun u => !decide (u ∈ order)).map Mom.d) = lcD (bTy K t).length (fun k => !decide ((t.map (·.1)).getD k m0 ∈ order)) (fun k => ((t.map (·.1)).getD k m0).d) := by
          rw [bTy_len]
          have z := lcD_list m0 (t.map (·.1)) (fun u => !decide (u ∈ order)) Mom.d
          rw [List.length_map] at z
          exact z.symm
        have hkl : ∀ k, k < (bTy K t).length → k < (t.map (·.1)).length := fun k hk => by rw [List.length_map]; rw [bTy_len] at hk; exact hk
        refine wB_one (wS_setM (τ := isL K ((order ++ (t.map (·.1)).filter fun u => !decide (u ∈ order)).map Mom.d)) 3 nd (Cutbs.one ne.cutb) ge (by
          rw [List.map_append, hlc]
          refine ev_catL (ev_n 3 rfl) (ev_lcL [("_law_later", 7)] rfl nd (blkOk_by (N := P57) (sc := defScope (top 57)) (by decide +kernel)) (src_n (l := bTy K t) 7 (ev_n 6 rfl) (fun _ _ _ _ _ => pg_name nd rfl (.inl rfl))) (fun _ _ _ _ _ k hk => ?_) (fun _ _ _ _ _ k hk _ => ?_) (fun k hk _ => lf_mom _) (by rw [bTy_len]; omega)) (by
            have := lcD_len (bTy K t).length (fun k => !decide ((t.map (·.1)).getD k m0 ∈ order)) (fun k => ((t.map (·.1)).getD k m0).d)
            rw [bTy_len] at this ⊢
            rw [List.length_map]
            omega)
          · have g1 : some (some (isD K ((((bTy K t).map (·.1)).map Mom.d).getD k .none))) = some (some (isD K ((t.map (·.1)).getD k m0).d)) := by
              rw [bTy_keys]
              exact congrArg (fun d => some (some (isD K d))) (momD (hkl k hk))
            exact ets_one (et_notInM hu65 (ev_n 7 g1) (ev_isL (ev_n 3 rfl)))
          · have g1 : some (some (isD K ((((bTy K t).map (·.1)).map Mom.d).getD k .none))) = some (some (isD K ((t.map (·.1)).getD k m0).d)) := by
              rw [bTy_keys]
              exact congrArg (fun d => some (some (isD K d))) (momD (hkl k hk))
            exact ev_n 7 g1) fun ov2 Hf hf sf gf => ?_)
        refine ⟨order ++ (t.map (·.1)).filter fun u => !decide (u ∈ order), EC.put l m anyT, fun x hx => ?_, ?_, fun x hx => ?_, ?_, ne.fr (hf d (by simp)) sf, ((gf.forget 6).forget 5).forget 4, q7.trans (sa.trans (sb.trans (sc.trans (sd.trans (se.trans sf)))))⟩
        · rcases List.mem_append.mp hx with z | z
          · exact q1 x z
          · exact hnews x (List.mem_filter.mp z).1
        · have := List.length_filter_le (fun u => !decide (u ∈ order)) (t.map (·.1))
          rw [List.length_map] at this
          rw [List.length_append]
          omega
        · have hk : x.1 ∈ (EC.put l m anyT).map (·.1) := List.mem_map_of_mem hx
          rw [put_keys] at hk
          have hl : ∀ u ∈ l.map (·.1), GoodW p u := fun u hu => by
            obtain ⟨y, hy, rfl⟩ := List.mem_map.mp hu
            exact q3 y hy
          split at hk
          · exact hl _ hk
          · rcases List.mem_append.mp hk with z | z
            · exact hl _ z
            · rw [List.mem_singleton.mp z]
              exact ⟨hmo, hmw⟩
        · have := put_len (l := l) (m := m) (y := anyT)
          omega
    · exact wB_nil ⟨order, l, q1, by omega, q3, by omega, q5.fr (ha d (by simp)) sa, (gg.up sa).forget 4, q7.trans sa⟩
  · obtain ⟨order, l, q1, q2, q3, q4, q5, q6, q7⟩ := h
    have gE := (q6.up cuts_same).re 2 rfl q5.ty
    have hret : EV (XL57 P w K mg base f cdv A outer s H E) ((G57 K p d order).set 2 (some (isN K P w l))) (.Name "_law_net_here" ⟨0,0,0,0⟩) (isN K P w l) := ev_n 2 rfl
    refine wB_one (wS_ret (EV.use (τ := netT K P w p) (ev_ifE (et_eqI (ev_lenL B (ev_isL (ev_n 3 rfl))) (ev_nlen (l := l) B.len (ev_n 2 rfl))) (fun _ => ev_toX (some l) (fun l' h => by cases h; exact ⟨q3, q4⟩) (ev_n 2 rfl)) (fun _ => ev_toX none (fun l' h => by cases h) ev_non)) gE fun v H9 s9 q9 => kD v H9 (((e3.trans (s6.trans q7)).trans cuts_same).trans s9) q9))
end
end EC

set_option Elab.async false
set_option linter.all false
set_option maxRecDepth 100000
set_option maxHeartbeats 8000000
/-! EcL8: defs that call repr: no guard is up. -/
namespace EC
open PySem PySem.Spec PyProof.Rows L2
/-- as FnOk, told only where no guard is up -/
structure FnG (P : Program) (w : World) (K : PySem.W.Frag) (mg : Str → Option Value) (base : Heap) (k : Nat) (f : Addr) (fd : FuncData) (ps : List Str) (sp : Sp) : Prop where
  len : ∀ vs H Q E, sp vs H Q E → vs.length = ps.length
  run : ∀ (A : Around) (outer : List PySem.Env) (s : Shared) (H : Hp) (args : Args) (us : List Value) (vs : List V) (Q : VK) (E : XK), A.guards = some [] → Room k A → Env0 P w K mg base A outer s H → BindsTo s fd args (ps.zip us) → Vals vs us → sp vs H Q E →
    codeAny (model P w) A (.call (.ref f) args) (CR CX0 outer P w H s Q E) s
section
variable {P : Program} {w : World} {K : PySem.W.Frag} {mg : Str → Option Value} {base : Heap}
theorem gun_of {x qual : Str} {st : Stmt} {f : Addr} {fd : FuncData} {N ps : List Str} {k : Nat} {sp : Sp} (F : Fun K x qual st f fd) (S : FnScope N ps (defScope st)) (len : ∀ vs H Q E, sp vs H Q E → vs.length = ps.length)
    (hbody : ∀ (cdv : Value) (A : Around) (outer : List PySem.Env) (s : Shared) (H : Hp) (vs : List V) (Q : VK) (E : XK), (cx P w K mg base N qual st f cdv A outer s H E).A.guards = some [] → Room k (cx P w K mg base N qual st f cdv A outer s H E).A → sp vs H Q E →
      wB (cx P w K mg base N qual st f cdv A outer s H E) (defBody st) { nx := fun _ H' => Q .non H', rt := Q } (L2.start N vs) H) : FnG P w K mg base (k + 1) f fd ps sp := by
  obtain ⟨oc, od, kV, doc, pm, an, cdv, ct, osl, rfl, lk, hcd⟩ := F.ex
  refine ⟨len, fun A outer s H args us vs Q E hgu hr e0 hb r hsp => ?_⟩
  have hl := len _ _ _ _ hsp
  have KX : K.In s.heap := e0.mod.kin.keeps fun b o e => (e0.bs b o e).1
  refine codeAny_call_function hr.depth (KX _ _ lk) rfl S.co S.gen rfl (PySem.W.codeRec_of KX hcd) (hb _ _ _ _ (wpAny_newFunctionEnv_cells S.kind (fun y hy => ?_) fun env he s1 x => ?_))
  · rcases S.par y.1 (List.of_mem_zip (show (y.1, y.2) ∈ ps.zip us from hy)).1 with q | q
    · exact .inl q
    · exact .inr ⟨q, PySem.W.cellsFrom_some _ _ _ (.inl q)⟩
  subst he
  refine ⟨(e0.mod.nolimit.keeps fun b o e => (e0.bs b o e).1 : s.heap.NoLimit).keeps x.toInCall.keep, codeAny_func ?_⟩
  have ht := PSs.nox (X := cxOf CX0 P w K mg base N qual (defScope st) f cdv A outer s H E) (pss_w (X := (cxOf CX0 P w K mg base N qual (defScope st) f cdv A outer s H E).nox) (sts := defBody st))
  refine wpAny_mono (ht.run [] s1 (L2.start N vs) H _ (inv_start S hr.hd e0 hl r x) (hbody cdv A outer s H vs Q E hgu (hr.deeper _) hsp)) (fun fl s' hs => ?_) fun e s' hs => hs
  cases fl with
  | ret u => exact let ⟨v, σ', H', J, rv, q⟩ := hs; ⟨v, H', J.os, J.bare, J.base, J.hok, rv, q⟩
  | next => exact let ⟨σ', H', J, q⟩ := hs; ⟨V.non, H', J.os, J.bare, J.base, J.hok, rfl, q⟩
  | brk => exact let ⟨_, _, _, q⟩ := hs; q.elim
  | cont => exact let ⟨_, _, _, q⟩ := hs; q.elim
theorem fn_bdG {x qual : Str} {st : Stmt} {f : Addr} {fd : FuncData} {N ps : List Str} {k : Nat} {R : List Ty → Ty → Prop} (F : Fun K x qual st f fd) (S : FnScope N ps (defScope st)) (len : ∀ τs τ, R τs τ → τs.length = ps.length)
    (hb : ∀ (cdv : Value) (A : Around) (outer : List PySem.Env) (s : Shared) (H : Hp) (E : XK) τs τ, (cx P w K mg base N qual st f cdv A outer s H E).A.guards = some [] → Room k (cx P w K mg base N qual st f cdv A outer s H E).A → R τs τ → BD (cx P w K mg base N qual st f cdv A outer s H E) (startΓ N τs) (defBody st) τ) :
    FnG P w K mg base (k + 1) f fd ps (spF R) := by
  refine gun_of F S (fun vs H Q E h => ?_) (fun cdv A outer s H vs Q E hg hr h => ?_)
  · obtain ⟨τs, τ, r, a, _⟩ := h
    rw [← len _ _ r]
    exact Paired.length a
  · obtain ⟨τs, τ, r, a, q⟩ := h
    exact (hb cdv A outer s H E τs τ hg hr r).run _ H _ (env_start a) q
structure FnGS (P : Program) (w : World) (K : PySem.W.Frag) (mg : Str → Option Value) (base : Heap) (x : Str) (n : Nat) (k : Nat) (sp : Sp) : Prop where
  ex : ∃ (f : Addr) (fd : FuncData) (ps : List Str), ps.length = n ∧ FnG P w K mg base k f fd ps sp ∧ mg x = some (.ref f) ∧ PySem.W.keepIn K (.ref f) = true ∧ Binds K fd ps []
end
section
variable {X : Cx} {Γ : List (Option Ty)} {e a : Expr} {es : List Expr} {pos p : Pos} {τ : Ty} {x : Str} {n k : Nat}
theorem pe_callG {sp : Sp} (F : FnGS X.prog X.w X.K X.mg X.base x n k sp) (hu : X.A.guards = some []) (hr : Room k X.A) (hg : Gl X x) (hdb : (x == ("__debug__" : Str)) = false := by decide) (he : starEach (e :: es) X.env = (false, eval e X.env) :: starEach es X.env := by rfl) (hpl : (backTo pos (starEach es X.env)).any (·.1) = false := by rfl) :
    PE X (.Call (.Name x p) (e :: es) [] pos) (tCall sp [] E0 (wA X (e :: es))) := by
  obtain ⟨f, fd, ps, _, h, hm, hk, hb⟩ := F.ex
  refine ⟨fun pins s σ H Q I q => wpAny_Call_Name_kw (ld_glob I hg hm (PySem.W.callWith_K (h₀ := X.base) I.ok.mod.kin hk (thn (pa_w.run pos pins s σ H _ I q) fun us s1 ⟨vs, H1, I1, r, q1⟩ => ⟨I1.kIn, ?_⟩) he hpl) hdb)⟩
  have r2 : Vals (vs ++ []) (us ++ []) := r.append .nil
  refine wpAny_call (codeAny_mono (h.run X.A X.stack s1 H1 ⟨us, []⟩ (us ++ []) (vs ++ []) Q E0 hu hr I1.env0 (hb s1 us I1.kIn (by rw [← r2.length]; exact h.len _ _ _ _ q1)) r2 q1) fun z s' hq => ?_)
  cases z with
  | error e => exact hq.elim
  | ok fl =>
    cases fl with
    | ret u => exact I1.after hq
    | next => exact hq.elim
    | brk => exact hq.elim
    | cont => exact hq.elim
theorem ev_callG {R : List Ty → Ty → Prop} {τs : List Ty} (F : FnGS X.prog X.w X.K X.mg X.base x n k (spF R)) (hu : X.A.guards = some []) (hr : Room k X.A) (ha : EVs X Γ (e :: es) τs) (h : R τs τ) (hg : Gl X x := by rfl) (hdb : (x == ("__debug__" : Str)) = false := by decide)
    (he : starEach (e :: es) X.env = (false, eval e X.env) :: starEach es X.env := by rfl) (hpl : (backTo pos (starEach es X.env)).any (·.1) = false := by rfl) : EV X Γ (.Call (.Name x p) (e :: es) [] pos) τ :=
  .of (pe_callG F hu hr hg hdb he hpl) fun σ H g => ha.use g fun vs H1 s1 q1 => ⟨τs, τ, h, by rw [List.append_nil]; exact q1, fun v H' s2 q => ⟨s1.trans s2, q⟩⟩
/-- repr of a tuple -/
theorem call_reprT (hu : X.A.guards = some []) : CallR X (.builtin "repr") (fun xs H Q => ∃ p ds, xs = [.ref p] ∧ Dp X.K H (.ref p) (.tuple ds) ∧ (PyData.tuple ds).showable = true ∧ (PyData.tuple ds).hasDict = false ∧ X.A.units + ((PyData.tuple ds).depth + 1) < cLine ∧ (PyData.tuple ds).shown.length ≤ sizeLine ∧ Q (.str (PyData.tuple ds).shown) H) := by
  intro pins s σ H xs us Q I r h
  obtain ⟨p, ds, rfl, hd, h1, h2, h3, h4, q⟩ := h
  obtain ⟨u, rfl, rx⟩ := vals1 r
  cases rx
  obtain ⟨as, rd⟩ := Dp.reads I _ _ _ hd rfl
  exact repr_of_reads' rd h1 (PyData.noDict_hsm h2) hu h3 (fun b o e => e) (fun h' u tk hk => ⟨.str _, H, I.kept hk, ⟨u, rfl⟩, q⟩) h4
theorem ev_repr {ds : List PyData} (hu : X.A.guards = some []) (hm : X.mg "repr" = none) (ha : EV X Γ a (isD X.K (.tuple ds))) (h1 : (PyData.tuple ds).showable = true) (h2 : (PyData.tuple ds).hasDict = false) (h3 : X.A.units + ((PyData.tuple ds).depth + 1) < cLine) (h4 : (PyData.tuple ds).shown.length ≤ sizeLine) (hg : Gl X "repr" := by rfl)
    (he : starEach [a] X.env = (false, eval a X.env) :: starEach [] X.env := by rfl) : EV X Γ (.Call (.Name "repr" p) [a] [] pos) (isD X.K (.str (PyData.tuple ds).shown)) :=
  .of (pe_callB (call_reprT hu) hg hm (by decide +kernel) (pa_cons pe_w pa_nil he) (he := he)) fun σ H g => ha.use g fun v H1 s1 q1 => by
    obtain ⟨b, xs, rfl, hT, hx⟩ := dp_tup q1
    exact ⟨b, ds, rfl, q1, h1, h2, h3, h4, s1, .str _⟩
end
end EC

set_option Elab.async false
set_option linter.all false
set_option maxRecDepth 100000
set_option maxHeartbeats 8000000
/-! EcL9: _law_waking_right. -/
namespace EC
open PySem PySem.Spec PyProof.Rows L2
/-- what repr can tell, in B signs, D deep -/
structure ShOk (B D : Nat) (d : PyData) : Prop where
  sh : d.showable = true
  nd : d.hasDict = false
  len : d.shown.length ≤ B
  dep : d.depth ≤ D
theorem ShOk.int {i : Int} (h0 : 0 ≤ i) (h1 : i ≤ 100000) : ShOk 13 0 (.int i) := by
  refine ⟨?_, by simp [PyData.hasDict], PyData.shown_int_le2 (by omega) (by omega), by simp [PyData.depth]⟩
  unfold PyData.showable
  rw [decide_eq_true_eq]
  have h : i.natAbs < 2 ^ 1920 := Nat.lt_of_lt_of_le (show i.natAbs < 2 ^ 17 by omega) (Nat.pow_le_pow_right (by decide) (by decide))
  by_cases z : i.natAbs = 0
  · rw [z]
    decide
  · exact (Nat.log2_lt z).mpr h
theorem ShOk.mono {B B' D D' : Nat} {d : PyData} (h : ShOk B D d) (hB : B ≤ B') (hD : D ≤ D') : ShOk B' D' d := ⟨h.sh, h.nd, Nat.le_trans h.len hB, Nat.le_trans h.dep hD⟩
theorem join_le {B : Nat} : ∀ {ts : List Str}, (∀ t ∈ ts, t.length ≤ B) → (Str.join ", " ts).length ≤ ts.length * (B + 2)
  | [], _ => Nat.zero_le _
  | [x], h => by
    have := h x (by simp)
    show x.length ≤ _
    simp
    omega
  | x :: y :: r, h => by
    have h1 := h x (by simp)
    have h2 := join_le (ts := y :: r) fun t ht => h t (List.mem_cons_of_mem _ ht)
    show (x ++ ", " ++ Str.join ", " (y :: r)).length ≤ _
    have e2 : ((", " : String) : Str).length = 2 := rfl
    rw [strLen_append, strLen_append, e2, List.length_cons, Nat.add_mul]
    omega
theorem ShOk.tup {B D n : Nat} {ds : List PyData} (h : ∀ d ∈ ds, ShOk B D d) (hn : ds.length ≤ n) : ShOk (n * (B + 2) + 4) (D + 1) (.tuple ds) := by
  refine ⟨?_, ?_, ?_, ?_⟩
  · unfold PyData.showable
    have : ∀ {l : List PyData}, (∀ d ∈ l, ShOk B D d) → PyData.showableAll l = true := fun {l} hl => by
      induction l with
      | nil => rfl
      | cons x r ih => simp [PyData.showableAll, (hl x (by simp)).sh, ih fun d hd => hl d (by simp [hd])]
    exact this h
  · unfold PyData.hasDict
    have : ∀ {l : List PyData}, (∀ d ∈ l, ShOk B D d) → PyData.hasDictAll l = false := fun {l} hl => by
      induction l with
      | nil => rfl
      | cons x r ih => simp [PyData.hasDictAll, (hl x (by simp)).nd, ih fun d hd => hl d (by simp [hd])]
    exact this h
  · have e : (PyData.tuple ds).shown = tupleText (ds.map PyData.shown) := by
      simp only [PyData.shown, shownAll_eq_map]
    rw [e]
    have hj := join_le (B := B) (ts := ds.map PyData.shown) fun t ht => by
      obtain ⟨d, hd, rfl⟩ := List.mem_map.mp ht
      exact (h d hd).len
    rw [List.length_map] at hj
    have hm := Nat.mul_le_mul_right (B + 2) hn
    unfold tupleText
    rw [strLen_append, strLen_append]
    have e1 : ((("(" : String) : Str)).length = 1 := rfl
    have e3 : (((if (ds.map PyData.shown).length == 1 then ",)" else ")" : String) : Str)).length ≤ 2 := by split <;> decide
    rw [e1]
    omega
  · unfold PyData.depth
    have : ∀ {l : List PyData}, (∀ d ∈ l, ShOk B D d) → PyData.depthAll l ≤ D := fun {l} hl => by
      induction l with
      | nil => simp [PyData.depthAll]
      | cons x r ih =>
        have h1 := (hl x (by simp)).dep
        have h2 := ih fun d hd => hl d (by simp [hd])
        simp only [PyData.depthAll]
        omega
    have := this h
    omega
theorem vals_le : ∀ {cs : List Cell} {vs : List Int}, (∀ c ∈ cs, c.ok) → valsOk cs vs → vs.length = cs.length ∧ ∀ v ∈ vs, 0 ≤ v ∧ v ≤ 9
  | [], [], _, _ => ⟨rfl, fun v h => by cases h⟩
  | c :: cs, v :: vs, hc, h => by
    obtain ⟨h1, h2⟩ := vals_le (fun x hx => hc x (by simp [hx])) h.2
    have h3 := (hc c (by simp)).2.2.2
    refine ⟨congrArg Nat.succ h1, fun x hx => ?_⟩
    rcases List.mem_cons.mp hx with rfl | hx
    · exact ⟨h.1.1, Int.le_trans h.1.2 h3⟩
    · exact h2 x hx
theorem sh_ints {vs : List Int} (hl : vs.length ≤ 16) (h : ∀ v ∈ vs, 0 ≤ v ∧ v ≤ 9) : ShOk 244 1 (intsD vs) := by
  unfold intsD
  refine ShOk.tup (B := 13) (D := 0) (n := 16) (fun d hd => ?_) (by rw [List.length_map]; exact hl)
  obtain ⟨v, hv, rfl⟩ := List.mem_map.mp hd
  exact ShOk.int (h v hv).1 (by have := (h v hv).2; omega)
theorem sh_mom {p : Prg} (hp : p.Ok) {m : Mom} (hm : p.MomOk m) : ShOk 1498 3 m.d := by
  have hcf : ∀ c ∈ p.cells.filter Cell.sv, c.ok := fun c hc => hp.cell c (List.mem_filter.mp hc).1
  obtain ⟨l1, v1⟩ := vals_le hcf hm.cs
  obtain ⟨l2, v2⟩ := vals_le hp.cell hm.vs
  have hn := hp.ncell
  have hc := hp.ncode
  have hcp := hm.cp
  have hpl := hm.pl
  have hf := List.length_filter_le Cell.sv p.cells
  have a1 := sh_ints (by omega) v1
  have a2 := sh_ints (by omega) v2
  have i1 : ShOk 13 0 (.int (m.cp : Nat)) := ShOk.int (by omega) (by omega)
  have i2 : ShOk 13 0 (.int (m.pl : Nat)) := ShOk.int (by omega) (by omega)
  have b1 : ShOk 496 2 (.tuple [.int (m.cp : Nat), intsD m.cs]) := ShOk.tup (B := 244) (D := 1) (n := 2) (fun d hd => by
    rcases List.mem_cons.mp hd with rfl | hd
    · exact i1.mono (by decide) (by decide)
    · cases List.mem_singleton.mp hd
      exact a1) (Nat.le_refl _)
  exact ShOk.tup (B := 496) (D := 2) (n := 3) (fun d hd => by
    rcases List.mem_cons.mp hd with rfl | hd
    · exact b1
    · rcases List.mem_cons.mp hd with rfl | hd
      · exact i2.mono (by decide) (by decide)
      · cases List.mem_singleton.mp hd
        exact a2.mono (by decide) (by decide)) (Nat.le_refl _)
theorem sh_width {o : Option Nat} (h : ∀ n, o = some n → n ≤ 20000) : ShOk 13 0 (widthO o) := by
  cases o with
  | none => exact ⟨rfl, rfl, by decide +kernel, Nat.le_refl _⟩
  | some n =>
    have h1 := h n rfl
    exact ShOk.int (i := (n : Nat)) (Int.natCast_nonneg n) (by omega)
theorem sh_set {p : Prg} (hp : p.Ok) {t : Tb} (hl : t.length ≤ 30) (hm : ∀ u ∈ t.map (·.1), p.MomOk u) (hw : ∀ u n, look t u = some (some n) → n ≤ 20000) : ShOk 90304 5 (setD t) := by
  unfold setD
  refine ShOk.tup (B := 3008) (D := 4) (n := 30) (fun d hd => ?_) (by rw [List.length_map, msort_len, List.length_map]; exact hl)
  obtain ⟨u, hu, rfl⟩ := List.mem_map.mp hd
  have hu' : u ∈ t.map (·.1) := mem_msort.mp hu
  refine ShOk.tup (ds := [u.d, widthO ((look t u).getD none)]) (B := 1500) (D := 3) (n := 2) (fun d hd => ?_) (Nat.le_refl _)
  rcases List.mem_cons.mp hd with rfl | hd
  · exact (sh_mom hp (hm u hu')).mono (by decide) (by decide)
  · cases List.mem_singleton.mp hd
    refine (sh_width fun n hn => ?_).mono (by decide) (by decide)
    obtain ⟨o, ho⟩ := Option.isSome_iff_exists.mp (look_isSome.mpr hu')
    rw [ho] at hn
    cases hn
    exact hw u n ho
/-- two tables that tell the same falls -/
theorem FInv.same {p : Prg} {mo : Mom → Option Nat} {ms : List Mom} {t t' : Tb} (f : FInv p mo ms t) (f' : FInv p mo ms t') : setD t = setD t' := by
  have hp : (t.map (·.1)).Perm (t'.map (·.1)) := (List.perm_ext_iff_of_nodup f.nd f'.nd).mpr fun u => (f.key u).trans (f'.key u).symm
  unfold setD
  rw [msort_eq hp]
  refine congrArg PyData.tuple (List.map_congr_left fun u hu => ?_)
  have hu' : u ∈ t'.map (·.1) := mem_msort.mp hu
  obtain ⟨o', ho'⟩ := Option.isSome_iff_exists.mp (look_isSome.mpr hu')
  obtain ⟨o, ho⟩ := Option.isSome_iff_exists.mp (look_isSome.mpr (hp.mem_iff.mpr hu'))
  rw [ho, ho', (f.top u o ho).uniq (f'.top u o' ho')]
theorem FInv.exists_ (p : Prg) (mo : Mom → Option Nat) (ms : List Mom) : ∃ t, FInv p mo ms t := by
  have : ∀ i, i ≤ ms.length → ∃ t, FInv p mo (ms.take i) t := by
    intro i
    induction i with
    | zero => exact fun _ => ⟨[], by rw [List.take_zero]; exact FInv.nil⟩
    | succ i ih =>
      intro hi
      obtain ⟨t, f⟩ := ih (by omega)
      have hm : ms[i]? = some (ms[i]'(by omega)) := List.getElem?_eq_getElem (by omega)
      generalize ms[i]'(by omega) = m at hm
      have htk : ms.take (i + 1) = ms.take i ++ [m] := by rw [List.take_succ, hm]; rfl
      rw [htk]
      by_cases hc : p.cst m = 0
      · exact ⟨t, f.zero hc⟩
      · by_cases hk : p.wake m ∈ t.map (·.1)
        · obtain ⟨o, ho⟩ := Option.isSome_iff_exists.mp (look_isSome.mpr hk)
          cases hlt : kLt o (fallO (mo m) (p.cst m)) with
          | true => exact ⟨_, f.more hc (.inr (by rw [ho]; exact hlt))⟩
          | false => exact ⟨t, f.keep hc ho (kLt_false hlt)⟩
        · exact ⟨_, f.more hc (.inl hk)⟩
  have z := this ms.length (Nat.le_refl _)
  rw [List.take_length] at z
  exact z
section
variable {X : Cx} {Γ : List (Option Ty)} {a : Expr} {pos p : Pos} {τ : Ty} {x : Str} {n k : Nat}
theorem ev_reprS {d : PyData} {j : Nat} (hu : X.A.guards = some []) (hr : Room j X.A) (hm : X.mg "repr" = none) (ht : ∃ ds, d = .tuple ds) (sh : ShOk 90304 5 d) (ha : EV X Γ a (isD X.K d)) (hg : Gl X "repr" := by rfl)
    (he : starEach [a] X.env = (false, eval a X.env) :: starEach [] X.env := by rfl) : EV X Γ (.Call (.Name "repr" p) [a] [] pos) (isD X.K (.str d.shown)) := by
  obtain ⟨ds, rfl⟩ := ht
  have h5 := room65 hr
  have h6 := sh.dep
  exact ev_repr hu hm ha sh.sh sh.nd (by omega) (Nat.le_trans sh.len (sz_of (by decide))) hg he
theorem ev_callX {R : List Ty → Ty → Prop} {β : Type} {S : β → Prop} {f : β → Ty} (F : FnS X.prog X.w X.K X.mg X.base x n k (spF R)) (hr : Room k X.A) (ha : EV X Γ a (exT S f)) (h : ∀ y, S y → R [f y] τ) (hg : Gl X x := by rfl) (hdb : (x == ("__debug__" : Str)) = false := by decide)
    (he : starEach [a] X.env = (false, eval a X.env) :: starEach [] X.env := by rfl) (hpl : (backTo pos (starEach [] X.env)).any (·.1) = false := by rfl) : EV X Γ (.Call (.Name x p) [a] [] pos) τ :=
  .of (pe_callN F hr hg hdb he hpl) fun σ H g => wA_of (pa_cons pe_w pa_nil he) (ha.use g fun v H1 s1 q1 => by
    obtain ⟨y, hy, q⟩ := q1
    exact ⟨[f y], τ, h y hy, .cons q .nil, fun v H' s2 q => ⟨s1.trans s2, q⟩⟩)
end
theorem sh_best {p : Prg} {wk : Mom} {b : Bt} (hp : p.Ok) (hw : p.MomOk wk) (gb : GoodB p wk b) : ShOk 90304 5 (setD (tO b)) := by
  refine sh_set hp (by rw [show (tO b).length = b.length from List.length_map ..]; exact gb.len) (fun u hu => ?_) fun u n hn => ?_
  · rw [tO_keys] at hu
    exact rch_ok hp hw ((gb.whole.mem u).mp hu)
  · rw [look_tO] at hn
    cases hl : look b u with
    | none => rw [hl] at hn; cases hn
    | some y =>
      rw [hl] at hn
      have h2 : toO y = some n := Option.some.inj hn
      unfold toO at h2
      split at h2
      · cases h2
      · cases h2
        omega
theorem sh_falls {p : Prg} {wk : Mom} {b : Bt} {t : Tb} (hp : p.Ok) (hw : p.MomOk wk) (gb : GoodB p wk b) (fi : FInv p (fun m => toO (bval b m)) (b.map (·.1)) t) : ShOk 90304 5 (setD t) := by
  have hmo : ∀ m ∈ b.map (·.1), p.MomOk m := fun m hm => rch_ok hp hw ((gb.whole.mem m).mp hm)
  refine sh_set hp (by have := fi.len; rw [List.length_map] at this; have := gb.len; omega) (fun u hu => ?_) fun u n hn => ?_
  · obtain ⟨m, hm, _, rfl⟩ := (fi.key u).mp hu
    exact wake_ok hp (hmo m hm)
  · obtain ⟨⟨m, hm, _, _, h4⟩, _⟩ := fi.top u _ hn
    have h5 := cst_le hp (hmo m hm)
    unfold toO fallO at h4
    dsimp only at h4
    split at h4
    · cases h4
    · have h6 : bval b m + p.cst m - 1 = n := Option.some.inj h4
      omega
section
variable {P : Program} {w : World} {K : PySem.W.Frag} {mg : Str → Option Value} {base : Heap}
def Rlright (K : PySem.W.Frag) : List Ty → Ty → Prop := fun τs τ => ∃ (p : Prg) (wk : Mom), p.Ok ∧ GoodW p wk ∧ τs = [isD K p.d, isD K wk.d] ∧ τ = isD K (.bool true)
abbrev P60 : List Str := ["_law_program_here", "_law_waking_here", "_law_best"]
theorem sc_lright : FnScope P60 ["_law_program_here", "_law_waking_here"] (defScope (top 60)) := ⟨rfl, rfl, rfl, by decide +kernel, rfl, by decide +kernel, by decide +kernel⟩
theorem ok_lright {f : Addr} {fd : FuncData} (F : Fun K "_law_waking_right" "_law_waking_right" (top 60) f fd) (hrp : mg "repr" = none) (c1 : FnS P w K mg base "_law_awake" 3 4 (spF (RlawAwake K P w))) (c2 : FnS P w K mg base "most_spent" 2 11 (spF (RmostSpent K))) (c3 : FnS P w K mg base "falls_from" 2 11 (spF (RfallsFrom K)))
    (c4 : FnS P w K mg base "_law_set" 1 2 (spF (Rlset K P w))) (c5 : FnS P w K mg base "_law_falls" 2 2 (spF (RlawFalls K P w))) : FnG P w K mg base 12 f fd ["_law_program_here", "_law_waking_here"] (spF (Rlright K)) := by
  refine fn_bdG F sc_lright (fun τs τ ⟨_, _, _, _, h, _⟩ => by rw [h]; rfl) fun cdv A outer s H E τs τ hg hr ⟨p, wk, hp, ⟨hmo, hwk⟩, h1, h2⟩ => ?_
  subst h1 h2
  have nd := sc_lright.nd
  refine bd_set (τ1 := awB K P w p wk) 2 nd (ev_call c1 (hr.mono (by decide)) (evs_cons (ev_n 0 rfl) (evs_cons (ev_n 1 rfl) (evs_cons ev_int evs_nil))) ⟨p, wk, hp, hmo, rfl, rfl⟩) ?_
  refine bd_openX 2 (show (2 : Nat) < 3 from by decide) fun o ho => ?_
  cases o with
  | none => exact bd_if (et_isNon (ev_n 2 rfl)) (fun _ => bd_ret ev_bl) (fun h => by cases h)
  | some b =>
    have gb : GoodB p wk b := ho b rfl
    have few : Few p wk (b.map (·.1)) := ⟨hp, hmo, fun v hv => (gb.whole.mem v).mpr hv, by rw [List.length_map]; exact gb.len⟩
    have hmost : ∀ m, Rch p.nx wk m → IsMost p.nx p.cst wk m (toO (bval b m)) := fun m h => gb.most m ((gb.whole.mem m).mpr h)
    obtain ⟨t0, f0⟩ := FInv.exists_ p (fun m => toO (bval b m)) (b.map (·.1))
    have eset : PyData.tuple ((msort (b.map (·.1))).map fun m => .tuple [m.d, widthO (toO (bval b m))]) = setD (tO b) := by
      unfold setD
      rw [tO_keys]
      refine congrArg PyData.tuple (List.map_congr_left fun u hu => ?_)
      have hu' : u ∈ b.map (·.1) := mem_msort.mp hu
      obtain ⟨o, ho⟩ := Option.isSome_iff_exists.mp (look_isSome.mpr hu')
      rw [look_tO]
      unfold bval
      rw [ho]
      rfl
    refine bd_ifF (et_isNonN (l := bTy K b) (ev_n 2 rfl)) ?_
    refine bd_ifF (et_neS (d := .str (setD (tO b)).shown) (d' := .str (setD (tO b)).shown) (ev_reprS hg hr hrp ⟨_, rfl⟩ (sh_best hp hmo gb) (ev_call c2 (hr.mono (by decide)) (evs_cons (ev_n 0 rfl) (evs_cons (ev_n 1 rfl) evs_nil)) ⟨p, wk, _, fun m => toO (bval b m), b.map (·.1), few, hwk, hmost, gb.whole, rfl, congrArg (isD K) eset.symm⟩))
      (ev_reprS hg hr hrp ⟨_, rfl⟩ (sh_best hp hmo gb) (ev_call c4 (hr.mono (by decide)) (evs_cons (ev_n 2 rfl) evs_nil) ⟨b, gb.len, rfl, rfl⟩)) rfl rfl rfl (by simp)) ?_
    exact bd_ret (ev_eqS (d := .str (setD t0).shown) (d' := .str (setD t0).shown) (ev_reprS hg hr hrp ⟨_, rfl⟩ (sh_falls hp hmo gb f0) (ev_call c3 (hr.mono (by decide)) (evs_cons (ev_n 0 rfl) (evs_cons (ev_n 1 rfl) evs_nil)) ⟨p, wk, _, fun m => toO (bval b m), b.map (·.1), t0, few, hwk, hmost, gb.whole, f0, rfl, rfl⟩))
      (ev_reprS hg hr hrp ⟨_, rfl⟩ (sh_falls hp hmo gb f0) (ev_callX c4 (hr.mono (by decide)) (ev_call c5 (hr.mono (by decide)) (evs_cons (ev_n 0 rfl) (evs_cons (ev_n 2 rfl) evs_nil)) ⟨p, wk, b, hp, hmo, gb, rfl, rfl⟩) fun t ft => ⟨t, by
        have h1 := ft.len
        have h2 : (tO t).length = t.length := List.length_map ..
        have h3 := gb.len
        rw [List.length_map] at h1
        omega, rfl, congrArg (isD K) (f0.same ft)⟩)) rfl rfl rfl (by simp))
end
end EC

set_option Elab.async false
set_option linter.all false
set_option maxRecDepth 100000
set_option maxHeartbeats 8000000
/-! EcP1: the feed, a draw. -/
namespace EC
open PySem PySem.Spec PyProof.Rows L2
def feedK (L : Addr) (a l c : Int) : List (Key × V) := [(.inr "cells", .ref L), (.inr "at", .int a), (.inr "left", .int l), (.inr "count", .int c)]
theorem feedK_count {L : Addr} {a l c z : Int} : putK (feedK L a l c) (.inr "count") (.int z) = feedK L a l z := rfl
theorem feedK_left {L : Addr} {a l c z : Int} : putK (feedK L a l c) (.inr "left") (.int z) = feedK L a z c := rfl
theorem feedK_at {L : Addr} {a l c z : Int} : putK (feedK L a l c) (.inr "at") (.int z) = feedK L z l c := rfl
/-- the feed as a dict read -/
def feedT (K : PySem.W.Frag) (L : Addr) (ns : List Int) (a l c : Int) : Ty := ⟨fun H v => ∃ d, v = .ref d ∧ H d = some (.dK (feedK L a l c)) ∧ Dp K H (.ref L) (.list (ns.map PyData.int)), fun e ⟨d, h1, h2, h3⟩ => ⟨d, h1, e _ _ h2, dp_up e _ _ h3⟩⟩
/-- the feed as a dict that changes beside M -/
def Fof (K : PySem.W.Frag) (M : List Addr) (H : Hp) (d L : Addr) (ns : List Int) (a l c : Int) : Prop := H d = some (.dK (feedK L a l c)) ∧ Dp K (cuts M H) (.ref L) (.list (ns.map PyData.int))
section
variable {X : Cx} {Γ Γ' : List (Option Ty)} {σ : L2.St} {H H1 : Hp} {M : List Addr} {d L : Addr} {ns : List Int} {a l c : Int} {o i b e : Expr} {pos pos' : Pos} {x : Str} {D : Ends}
theorem Fof.fr (h : Fof X.K M H d L ns a l c) (e : H1 d = H d) (s : Same (cuts M H) (cuts M H1)) : Fof X.K M H1 d L ns a l c := ⟨e.trans h.1, dp_up s _ _ h.2⟩
theorem Fof.cutb (h : Fof X.K M H d L ns a l c) : ∃ u, H d = some u ∧ Cutb X d u := ⟨_, h.1, .inr (.inr ⟨_, rfl⟩)⟩
theorem Fof.ty (h : Fof X.K M H d L ns a l c) : (feedT X.K L ns a l c).p H (.ref d) := ⟨d, rfl, h.1, dp_up cuts_same _ _ h.2⟩
theorem ev_fint {z : Int} (hu : X.A.units + 1 < cLine) (ho : EV X Γ o (feedT X.K L ns a l c)) (hi : EV X Γ i (isD X.K (.str x))) (hv : valV (feedK L a l c) (.inr x) = some (.int z) := by rfl) (hs : NoSl i := by intro _ _; rfl) : EV X Γ (.Subscript o i pos) (isD X.K (.int z)) :=
  ev_dget hu (⟨fun σ H g => wE_mono (ho.run σ H g) fun v H' ⟨s, d, h1, h2, _⟩ => ⟨s, d, h1, h2⟩⟩ : EV X Γ o (isK (feedK L a l c))) hi hv hs
theorem ev_fcells (hu : X.A.units + 1 < cLine) (ho : EV X Γ o (feedT X.K L ns a l c)) (hi : EV X Γ i (isD X.K (.str "cells"))) (hs : NoSl i := by intro _ _; rfl) : EV X Γ (.Subscript o i pos) (isD X.K (.list (ns.map PyData.int))) :=
  .of (pe_dget hu pe_w pe_w hs) fun σ H g => ho.use g fun v H1 s1 r1 => hi.use (g.up s1) fun u H2 s2 r2 => by
    obtain ⟨d, rfl, hd, hL⟩ := r1
    cases dp_str r2
    have q := DGet.k (k := Sum.inr ("cells" : Str)) (s2 _ _ hd)
    exact ⟨d, .ref L, rfl, q, s1.trans s2, dp_up s2 _ _ hL⟩
/-- d[x] = z -/
theorem wS_kput {value : Expr} {kvs : List (Key × V)} {z : Int} (hu : X.A.units + 1 < cLine) (hm : Cutbs X M H) (hdM : d ∈ M) (g : Env Γ σ (cuts M H)) (g' : Env Γ' σ H) (hv : EV X Γ' value (isD X.K (.int z))) (ho : EV X Γ o (isV (.ref d))) (hi : EV X Γ i (isD X.K (.str x))) (h : H d = some (.dK kvs)) (hl : kvs.length < sizeLine)
    (k : ∀ H1, Same (cuts M H) (cuts M H1) → (∀ p ∈ M, p ≠ d → H1 p = H p) → H1 d = some (.dK (putK kvs (.inr x) (.int z))) → Env Γ σ (cuts M H1) → D.nx σ H1) (hs : swapsWith value (some (.Subscript o i pos')) pos.line X.env = pure false := by rfl) : wS X (.Assign [.Subscript o i pos'] value pos) D σ H := by
  refine wS_of (ps_dput hu pe_w pe_w pe_w hs) (hv.use g' fun v H1 t1 q0 => ?_)
  have h1 := keepM hm t1
  have s1 : Same (cuts M H) (cuts M H1) := cuts_mono t1
  refine EV.useM M ho (hm.of h1) (g.up s1) fun u H2 h2 s2 g2 q2 => EV.useM M hi ((hm.of h1).of h2) g2 fun y H3 h3 s3 g3 q3 => ?_
  have e2 : u = .ref d := q2
  subst e2
  cases dp_int q0
  cases dp_str q3
  have e3 : ∀ p ∈ M, H3 p = H p := fun p hp => (h3 p hp).trans ((h2 p hp).trans (h1 p hp))
  have ec : cuts M (upd H3 d (.dK (putK kvs (.inr x) (.int z)))) = cuts M H3 := cuts_upd hdM
  exact ⟨d, _, rfl, DPut.k (k := Sum.inr x) ((e3 d hdM).trans h) hl, k _ (by rw [ec]; exact s1.trans (s2.trans s3)) (fun p hp hne => by rw [upd_ne hne]; exact e3 p hp) upd_same (by rw [ec]; exact g3)⟩
theorem ev_fdivP {i1 j1 : Int} {e1 e2 : Expr} (ha : EV X Γ e1 (isD X.K (.int i1))) (hb : EV X Γ e2 (isD X.K (.int j1))) (h : 0 < j1) (h2 : j1 < 2 ^ 60) : EV X Γ (.BinOp e1 .FloorDiv e2 pos) (isD X.K (.int (i1 / j1))) :=
  .of (pe_op op_fdivW pe_w pe_w) fun σ H g' => ha.use g' fun v H1 s1 q1 => hb.use (g'.up s1) fun u H2 s2 q2 => ⟨i1, j1, dp_int q1, dp_int q2, wide_div (b := 60) h (by omega) (by decide) (by decide), s1.trans s2, .int _⟩
end
end EC

set_option Elab.async false
set_option linter.all false
set_option maxRecDepth 100000
set_option maxHeartbeats 8000000
/-! EcP2: _law_draw. -/
namespace EC
open PySem PySem.Spec PyProof.Rows L2
section
variable {X : Cx} {Γ : List (Option Ty)} {a b : Expr} {pos : Pos}
theorem ev_pow18 {j1 j2 : Nat} {p1 p2 : Pos} : EV X Γ (.BinOp (.Constant (.int 10) j1 p1) .Pow (.Constant (.int 18) j2 p2) pos) (isD X.K (.int (10 ^ 18))) :=
  .of (pe_op op_pow pe_w pe_w) fun σ H g => (ev_int (i := 10)).use g fun v H1 s1 q1 => (ev_int (i := 18)).use (g.up s1) fun u H2 s2 q2 => ⟨10, 18, dp_int q1, dp_int q2, ⟨by decide, by decide, by decide⟩, s1.trans s2, .int _⟩
end
theorem ints_shaped (ns : List Int) : SeqAt.shaped (.list (ns.map PyData.int)) = true := by
  have : ∀ l : List Int, PyData.canLayAll0 (l.map PyData.int) = true ∧ PyData.depthAll (l.map PyData.int) = 0 := fun l => by
    induction l with
    | nil => exact ⟨rfl, rfl⟩
    | cons n r ih => simp [PyData.canLayAll0, PyData.canLay0, PyData.depthAll, PyData.depth, ih.1, ih.2]
  obtain ⟨h1, h2⟩ := this ns
  simp [SeqAt.shaped, PyData.canLay0, PyData.depth, h1, h2]
/-- a feed stands at d, its cells (ns) at L -/
def Feed (K : PySem.W.Frag) (M : List Addr) (d L : Addr) (ns : List Int) (H : Hp) : Prop := ∃ a l c : Int, Fof K M H d L ns a l c
def spDraw (K : PySem.W.Frag) : Sp := fun vs H Q _ => ∃ (d L : Addr) (ns : List Int) (n : Int), vs = [.ref d, .int n] ∧ 0 < n ∧ n < 2 ^ 60 ∧ Feed K [d] d L ns H ∧ ∀ (r : Int) (H' : Hp), 0 ≤ r → r < n → Feed K [d] d L ns H' → Same (cuts [d] H) (cuts [d] H') → Q (.int r) H'
section
variable {P : Program} {w : World} {K : PySem.W.Frag} {mg : Str → Option Value} {base : Heap}
abbrev P43 : List Str := ["_law_feed_here", "_law_many", "_law_figure", "_law_at", "_law_cell", "_law_mixed"]
theorem sc_ldraw : FnScope P43 ["_law_feed_here", "_law_many"] (defScope (top 43)) := ⟨rfl, rfl, rfl, by decide +kernel, rfl, by decide +kernel, by decide +kernel⟩
abbrev XL43 (P : Program) (w : World) (K : PySem.W.Frag) (mg : Str → Option Value) (base : Heap) (f : Addr) (cdv : Value) (A : Around) (outer : List PySem.Env) (s : Shared) (H : Hp) (E : XK) : Cx := cx P w K mg base P43 "_law_draw" (top 43) f cdv A outer s H E
theorem ok_ldraw {f : Addr} {fd : FuncData} (F : Fun K "_law_draw" "_law_draw" (top 43) f fd) (B : Bi mg) : FnOk P w K mg base CX0 1 f fd ["_law_feed_here", "_law_many"] (spDraw K) := by
  refine F.ok sc_ldraw (fun vs H Q E h => by obtain ⟨_, _, _, _, rfl, _⟩ := h; rfl) (fun cdv A outer s H vs Q E hr h => ⟨_, pss_w, ?_⟩)
  obtain ⟨d, L, ns, n, rfl, hn, hn2, ⟨a, l, c, F0⟩, k⟩ := h
  have nd := sc_ldraw.nd
  have hr' : Room 0 (XL43 P w K mg base f cdv A outer s H E).A := hr
  have hu65 := room65 hr'
  have hu64 : (XL43 P w K mg base f cdv A outer s H E).A.units + 64 < cLine := Nat.lt_of_succ_lt hu65
  have hu1 : (XL43 P w K mg base f cdv A outer s H E).A.units + 1 < cLine := Nat.lt_of_le_of_lt (Nat.add_le_add_left (by decide) _) hu65
  have g0 : Env [some (isV (.ref d)), some (isD K (.int n)), none, none, none, none] (L2.start P43 [.ref d, .int n]) (cuts [d] H) := env_start (N := P43) (τs := [isV (.ref d), isD K (.int n)]) (.cons rfl (.cons (.int n) .nil))
  have h4 : ∀ {a l c : Int}, (feedK L a l c).length < sizeLine := fun {a l c} => Nat.lt_of_lt_of_le (show 4 < 100000 from by decide) (sz_of (n := 100000) (Nat.le_refl _))
  have cb : ∀ {H1 : Hp} {a l c : Int}, Fof K [d] H1 d L ns a l c → Cutbs (XL43 P w K mg base f cdv A outer s H E) [d] H1 := fun F1 => Cutbs.one (Fof.cutb F1)
  have fin : ∀ {r : Int} {H8 H9 : Hp} {a l c : Int}, 0 ≤ r → r < n → Fof K [d] H8 d L ns a l c → Same (cuts [d] H) (cuts [d] H8) → Same H8 H9 → Q (.int r) H9 := fun {r H8 H9 a l c} h0 h1 F8 s8 s9 =>
    k r H9 h0 h1 ⟨a, l, c, Fof.fr (X := XL43 P w K mg base f cdv A outer s H E) F8 ((s9 d _ F8.1).trans F8.1.symm) (cuts_mono s9)⟩ (s8.trans (cuts_mono s9))
  -- count
  refine wB_cons (wS_kput (X := XL43 P w K mg base f cdv A outer s H E) (kvs := feedK L a l c) (x := "count") (z := c + 1) (d := d) hu1 (cb F0) (by simp) g0 ((g0.up cuts_same).re 0 rfl (Fof.ty (X := XL43 P w K mg base f cdv A outer s H E) F0)) (ev_add (ev_fint hu1 (ev_n 0 rfl) ev_str) ev_int) (ev_n 0 rfl) ev_str F0.1 h4 fun H1 s1 _ f1 g1 => ?_)
  have F1 : Fof K [d] H1 d L ns a l (c + 1) := ⟨f1, dp_up s1 _ _ F0.2⟩
  clear f1
  generalize c + 1 = c at F1
  -- left
  refine wB_cons (wS_ifF (cb F1) ((g1.up cuts_same).re 0 rfl (Fof.ty (X := XL43 P w K mg base f cdv A outer s H E) F1)) (et_gt (ev_fint hu1 (ev_n 0 rfl) ev_str) (ev_int (i := 0))) (fun ht Ha ha sa => ?_) (fun ht Ha ha sa => wB_nil ?_))
  · have Fa := Fof.fr (X := XL43 P w K mg base f cdv A outer s H E) F1 (ha d (by simp)) sa
    have ga := g1.up sa
    refine wB_cons (wS_setF 2 nd (cb Fa) ga ((ga.up cuts_same).re 0 rfl (Fof.ty (X := XL43 P w K mg base f cdv A outer s H E) Fa)) (ev_mod (ev_int1 B (ev_fint hu1 (ev_n 0 rfl) ev_str)) (ev_n 1 rfl) hn) rfl fun fv Hb hb sb gb => ?_)
    have Fb := Fof.fr (X := XL43 P w K mg base f cdv A outer s H E) Fa (hb d (by simp)) sb
    refine wB_cons (wS_kput (kvs := feedK L a l c) (x := "left") (z := l / n) (d := d) hu1 (cb Fb) (by simp) gb ((gb.up cuts_same).re 0 rfl (Fof.ty (X := XL43 P w K mg base f cdv A outer s H E) Fb)) (ev_fdivP (ev_fint hu1 (ev_n 0 rfl) ev_str) (ev_n 1 rfl) hn hn2) (ev_n 0 rfl) ev_str Fb.1 h4 fun Hc sc _ fc gc => ?_)
    have Fc : Fof K [d] Hc d L ns a (l / n) c := ⟨fc, dp_up sc _ _ Fb.2⟩
    exact wB_one (wS_ret (EV.use (τ := isD K (.int (l % n))) (ev_n 2 rfl) (gc.up cuts_same) fun v H9 s9 q9 => by
      cases dp_int q9
      exact fin (Int.emod_nonneg _ (by omega)) (Int.emod_lt_of_pos _ hn) Fc (((s1.trans sa).trans sb).trans sc) s9))
  · have Fa := Fof.fr (X := XL43 P w K mg base f cdv A outer s H E) F1 (ha d (by simp)) sa
    have ga := g1.up sa
    refine wB_cons (wS_setF 3 nd (cb Fa) ga ((ga.up cuts_same).re 0 rfl (Fof.ty (X := XL43 P w K mg base f cdv A outer s H E) Fa)) (ev_fint hu1 (ev_n 0 rfl) ev_str) rfl fun av Hb hb sb gb => ?_)
    have Fb := Fof.fr (X := XL43 P w K mg base f cdv A outer s H E) Fa (hb d (by simp)) sb
    refine wB_cons (wS_kput (kvs := feedK L a l c) (x := "at") (z := a + 1) (d := d) hu1 (cb Fb) (by simp) gb (gb.up cuts_same) (ev_add (ev_n 3 rfl) ev_int) (ev_n 0 rfl) ev_str Fb.1 h4 fun Hc sc _ fc gc => ?_)
    have Fc : Fof K [d] Hc d L ns (a + 1) l c := ⟨fc, dp_up sc _ _ Fb.2⟩
    obtain ⟨cv, hcv⟩ : ∃ cv : Int, cv = ns.getD (a % ((ns.map PyData.int).length : Nat)).toNat 62014 := ⟨_, rfl⟩
    refine wB_cons (wS_setF (dx := .int cv) 4 nd (cb Fc) gc ((gc.up cuts_same).re 0 rfl (Fof.ty (X := XL43 P w K mg base f cdv A outer s H E) Fc)) (ev_ifE (k := !ns.isEmpty) (et_neD hu64 (ev_fcells hu1 (ev_n 0 rfl) ev_str) (ev_lst eds_nil) (ints_shaped ns) rfl (by cases ns <;> rfl)) (fun hk => ?_) (fun hk => ?_)) rfl fun cvv Hd hd sd gd => ?_)
    · have hpos : 0 < ns.length := by cases ns with | nil => cases hk | cons _ _ => exact Nat.succ_pos _
      have hpos' : (0 : Int) < (((ns.map PyData.int).length : Nat) : Int) := by rw [List.length_map]; omega
      have i0 := Int.emod_nonneg a (show (((ns.map PyData.int).length : Nat) : Int) ≠ 0 by omega)
      have i1 := Int.emod_lt_of_pos a hpos'
      refine ev_ixL (ev_fcells hu1 (ev_n 0 rfl) ev_str) (ev_mod (ev_int1 B (ev_n 3 rfl)) (ev_lenL B (ev_fcells hu1 (ev_n 0 rfl) ev_str)) hpos') ?_
      generalize a % (((ns.map PyData.int).length : Nat) : Int) = ii at i0 i1 hcv
      have e : ii = ((ii.toNat : Nat) : Int) := by omega
      have hlt : ii.toNat < ns.length := by rw [List.length_map] at i1; omega
      have z : atI (ns.map PyData.int) ((ii.toNat : Nat) : Int) = some (.int cv) := atI_nat (by
        rw [List.getElem?_map, List.getElem?_eq_getElem hlt, hcv, List.getD_eq_getElem?_getD, List.getElem?_eq_getElem hlt]
        rfl)
      rw [← e] at z
      exact z
    · have : ns = [] := by cases ns with | nil => rfl | cons _ _ => cases hk
      subst this
      rw [hcv]
      exact ev_int
    clear hcv
    have Fd := Fof.fr (X := XL43 P w K mg base f cdv A outer s H E) Fc (hd d (by simp)) sd
    have sx := (((s1.trans sa).trans sb).trans sc).trans sd
    refine wB_cons (wS_ifF (cb Fd) ((gd.up cuts_same).re 0 rfl (Fof.ty (X := XL43 P w K mg base f cdv A outer s H E) Fd)) (et_w (ew_and (et_ge (ev_n 4 rfl) ev_pow18) fun _ => ew_and1 (et_lt (ev_n 3 rfl) (ev_lenL B (ev_fcells hu1 (ev_n 0 rfl) ev_str))))) (fun ht Hg hg sg => ?_) (fun ht Hg hg sg => wB_nil ?_))
    · have Fg := Fof.fr (X := XL43 P w K mg base f cdv A outer s H E) Fd (hg d (by simp)) sg
      refine wB_cons (wS_kput (kvs := feedK L (a + 1) l c) (x := "left") (z := cv / n) (d := d) hu1 (cb Fg) (by simp) (gd.up sg) ((gd.up sg).up cuts_same) (ev_fdivP (ev_n 4 rfl) (ev_n 1 rfl) hn hn2) (ev_n 0 rfl) ev_str Fg.1 h4 fun Hh sh _ fh gh => ?_)
      have Fh : Fof K [d] Hh d L ns (a + 1) (cv / n) c := ⟨fh, dp_up sh _ _ Fg.2⟩
      exact wB_one (wS_ret (EV.use (τ := isD K (.int (cv % n))) (ev_mod (ev_int1 B (ev_n 4 rfl)) (ev_n 1 rfl) hn) (gh.up cuts_same) fun v H9 s9 q9 => by
        cases dp_int q9
        exact fin (Int.emod_nonneg _ (by omega)) (Int.emod_lt_of_pos _ hn) Fh ((sx.trans sg).trans sh) s9))
    · have Fg := Fof.fr (X := XL43 P w K mg base f cdv A outer s H E) Fd (hg d (by simp)) sg
      have gg := gd.up sg
      refine wB_cons (wS_setF 5 nd (cb Fg) gg ((gg.up cuts_same).re 0 rfl (Fof.ty (X := XL43 P w K mg base f cdv A outer s H E) Fg)) (ev_mod (j := 2147483579) (ev_int1 B (ev_add (ev_add (ev_mod (j := 1000000933) (ev_int1 B (ev_n 4 rfl)) ev_int (by decide)) (ev_mulS (i := 67056) (j := c) (by decide) (by decide) ev_int (ev_fint hu1 (ev_n 0 rfl) ev_str))) (ev_int (i := 267)))) ev_int (by decide)) rfl fun mv Hh hh sh gh => ?_)
      have Fh := Fof.fr (X := XL43 P w K mg base f cdv A outer s H E) Fg (hh d (by simp)) sh
      have m0 := Int.emod_nonneg (cv % 1000000933 + 67056 * c + 267) (show (2147483579 : Int) ≠ 0 by decide)
      have m1 := Int.emod_lt_of_pos (cv % 1000000933 + 67056 * c + 267) (show (0 : Int) < 2147483579 by decide)
      generalize (cv % 1000000933 + 67056 * c + 267) % 2147483579 = z1 at m0 m1 gh
      refine wB_cons (wS_setF 5 nd (cb Fh) gh ((gh.up cuts_same).re 0 rfl (Fof.ty (X := XL43 P w K mg base f cdv A outer s H E) Fh)) (ev_mod (j := 2147483549) (ev_int1 B (ev_add (ev_add (ev_mulS (i := z1) (j := z1) m0 (by omega) (ev_n 5 rfl) (ev_n 5 rfl)) (ev_mulS (i := 5303203) (j := c) (by decide) (by decide) ev_int (ev_fint hu1 (ev_n 0 rfl) ev_str))) (ev_int (i := 267)))) ev_int (by decide)) rfl fun mv2 Hi hi si gi => ?_)
      have Fi := Fof.fr (X := XL43 P w K mg base f cdv A outer s H E) Fh (hi d (by simp)) si
      have m2 := Int.emod_nonneg (z1 * z1 + 5303203 * c + 267) (show (2147483549 : Int) ≠ 0 by decide)
      have m3 := Int.emod_lt_of_pos (z1 * z1 + 5303203 * c + 267) (show (0 : Int) < 2147483549 by decide)
      generalize (z1 * z1 + 5303203 * c + 267) % 2147483549 = z2 at m2 m3 gi
      exact wB_one (wS_ret (EV.use (τ := isD K (.int (((z2 * z2 + 287 * z2) % 2147483543 / 16) % n))) (ev_mod (ev_int1 B (ev_fdivP (j1 := 16) (ev_mod (j := 2147483543) (ev_int1 B (ev_add (ev_mulS (i := z2) (j := z2) m2 (by omega) (ev_n 5 rfl) (ev_n 5 rfl)) (ev_mulS (i := 287) (j := z2) (by decide) (by decide) ev_int (ev_n 5 rfl)))) ev_int (by decide)) ev_int (by decide) (by decide))) (ev_n 1 rfl) hn) (gi.up cuts_same) fun v H9 s9 q9 => by
        cases dp_int q9
        exact fin (Int.emod_nonneg _ (by omega)) (Int.emod_lt_of_pos _ hn) Fi (((sx.trans sg).trans sh).trans si) s9))
end
end EC

set_option Elab.async false
set_option linter.all false
set_option maxRecDepth 100000
set_option maxHeartbeats 8000000
/-! EcP3: expressions that draw; _law_feed, _law_pick. -/
namespace EC
open PySem PySem.Spec PyProof.Rows L2
/-- an expression that draws from the feed at d, beside what changes (M) -/
structure EF (X : Cx) (M : List Addr) (d L : Addr) (ns : List Int) (Γ : List (Option Ty)) (e : Expr) (τ : Ty) : Prop where
  run : ∀ σ H, Cutbs X M H → Feed X.K M d L ns H → Env Γ σ (cuts M H) → wE X e σ H fun v H' => Feed X.K M d L ns H' ∧ (∀ p ∈ M, p ≠ d → H' p = H p) ∧ Same (cuts M H) (cuts M H') ∧ τ.p (cuts M H') v
section
variable {X : Cx} {M : List Addr} {d L : Addr} {ns : List Int} {Γ : List (Option Ty)} {σ : L2.St} {H : Hp} {a b e : Expr} {es : List Expr} {τ τ1 τ2 : Ty} {pos p : Pos}
theorem Feed.cut {H1 : Hp} (hm : Cutbs X M H) (hd : d ∈ M) (h : Feed X.K M d L ns H1) (e : ∀ p ∈ M, p ≠ d → H1 p = H p) : Cutbs X M H1 := fun p hp => by
  by_cases z : p = d
  · subst z
    obtain ⟨a, l, c, F⟩ := h
    exact ⟨_, F.1, .inr (.inr ⟨_, rfl⟩)⟩
  · rw [e p hp z]
    exact hm p hp
theorem EF.use {Q : VK} (h : EF X M d L ns Γ e τ) (hd : d ∈ M) (hm : Cutbs X M H) (f : Feed X.K M d L ns H) (g : Env Γ σ (cuts M H)) (k : ∀ v H', Cutbs X M H' → Feed X.K M d L ns H' → (∀ p ∈ M, p ≠ d → H' p = H p) → Same (cuts M H) (cuts M H') → Env Γ σ (cuts M H') → τ.p (cuts M H') v → Q v H') : wE X e σ H Q :=
  wE_mono (h.run σ H hm f g) fun v H' ⟨h1, h2, h3, h4⟩ => k v H' (h1.cut hm hd h2) h1 h2 h3 (g.up h3) h4
/-- what does not draw -/
theorem EF.ev (hd : d ∈ M) (h : EV X Γ e τ) : EF X M d L ns Γ e τ := ⟨fun σ H hm f g => EV.useM M h hm g fun v H1 h1 s1 g1 q1 => by
  obtain ⟨a, l, c, F⟩ := f
  exact ⟨⟨a, l, c, F.fr (h1 d hd) s1⟩, fun p hp _ => h1 p hp, s1, q1⟩⟩
/-- an int below n -/
def isR (n : Int) : Ty := ⟨fun _ v => ∃ i : Int, 0 ≤ i ∧ i < n ∧ v = .int i, fun _ h => h⟩
theorem cuts_sub {M : List Addr} (hd : d ∈ M) (s : Same (cuts [d] H) (cuts [d] H')) : Same (cuts M H) (cuts M H') := fun p u hp => by
  have h1 := cuts_some hp
  have hpd : p ∉ [d] := fun z => h1.1 (by rw [List.mem_singleton.mp z]; exact hd)
  have h2 := s p u (by rw [cuts_out hpd]; exact h1.2)
  rw [cuts_out h1.1]
  exact (cuts_some h2).2
theorem cuts_le {M : List Addr} (hd : d ∈ M) : Same (cuts M H) (cuts [d] H) := fun p u hp => by
  have h1 := cuts_some hp
  rw [cuts_out fun z => h1.1 (by rw [List.mem_singleton.mp z]; exact hd)]
  exact h1.2
/-- _law_draw(feed, n) -/
theorem ef_draw {n : Int} (F : FnS X.prog X.w X.K X.mg X.base "_law_draw" 2 1 (spDraw X.K)) (hr : Room 1 X.A) (hd : d ∈ M) (ha : EV X Γ a (isV (.ref d))) (hb : EV X Γ b (isD X.K (.int n))) (hn : 0 < n) (hn2 : n < 2 ^ 60) (hg : Gl X "_law_draw" := by rfl)
    (he : starEach [a, b] X.env = (false, eval a X.env) :: starEach [b] X.env := by rfl) (he2 : starEach [b] X.env = (false, eval b X.env) :: starEach [] X.env := by rfl) (hpl : (backTo pos (starEach [b] X.env)).any (·.1) = false := by rfl) : EF X M d L ns Γ (.Call (.Name "_law_draw" p) [a, b] [] pos) (isR n) :=
  ⟨fun σ H hm f g => wE_of (pe_callN F hr hg (by decide) he hpl) (wA_frame M hm ((evs_cons ha (evs_cons hb evs_nil he2) he).run σ _ g) fun vs H1 h1 ⟨s1, q⟩ => by
    cases q with
    | cons q1 q =>
      cases q with
      | cons q2 q =>
        cases q
        obtain rfl : _ = V.ref d := q1
        cases dp_int q2
        obtain ⟨a0, l, c, F0⟩ := f
        have F1 := Fof.fr (X := X) F0 (h1 d hd) s1
        refine ⟨d, L, ns, n, rfl, hn, hn2, ⟨a0, l, c, F1.1, dp_up (cuts_le hd) _ _ F1.2⟩, fun r H' r0 r1 f' s' => ?_⟩
        obtain ⟨a', l', c', F'⟩ := f'
        have s2 : Same (cuts M H1) (cuts M H') := cuts_sub hd s'
        refine ⟨⟨a', l', c', F'.1, dp_up s2 _ _ F1.2⟩, fun p hp hpd => ?_, s1.trans s2, r, r0, r1, rfl⟩
        obtain ⟨u, hu, _⟩ := hm p hp
        have z : cuts [d] H1 p = some u := by rw [cuts_out (by simpa using hpd), h1 p hp, hu]
        rw [hu]
        exact (cuts_some (s' p u z)).2)⟩
end
end EC

set_option Elab.async false
set_option linter.all false
set_option maxRecDepth 100000
set_option maxHeartbeats 8000000
/-! EcP4: _law_pick. -/
namespace EC
open PySem PySem.Spec PyProof.Rows L2
theorem lf_of_lfs : ∀ {ds : List PyData}, lfs ds = true → ∀ x ∈ ds, lf x = true
  | [], _, _, h => by cases h
  | d :: r, h, x, hx => by
    have h2 : lf d = true ∧ lfs r = true := by simpa [lfs] using h
    rcases List.mem_cons.mp hx with rfl | hx
    · exact h2.1
    · exact lf_of_lfs h2.2 x hx
/-- one of these -/
def inT (K : PySem.W.Frag) (ds : List PyData) : Ty := ⟨fun H v => ∃ x ∈ ds, Dp K H v x, fun e ⟨x, h1, h2⟩ => ⟨x, h1, dp_up e _ _ h2⟩⟩
section
variable {X : Cx} {M : List Addr} {d L : Addr} {ns : List Int} {Γ : List (Option Ty)} {σ : L2.St} {H H' : Hp} {a b e : Expr} {es : List Expr} {τ τ1 τ2 : Ty} {pos p : Pos}
theorem ef_ixR {ds : List PyData} (hd : d ∈ M) (ha : EV X Γ a (isD X.K (.list ds))) (hb : EF X M d L ns Γ b (isR ((ds.length : Nat) : Int))) (hs : PlainIx b := by intro _ _; rfl) : EF X M d L ns Γ (.Subscript a b pos) (inT X.K ds) :=
  ⟨fun σ H hm f g => wE_of (pe_ix ix_list pe_w pe_w hs) ((EF.ev hd ha).use hd hm f g fun v H1 m1 f1 o1 s1 g1 q1 => hb.use hd m1 f1 g1 fun u H2 m2 f2 o2 s2 g2 q2 => by
    obtain ⟨q, xs, rfl, hq, hx⟩ := dp_lst q1
    obtain ⟨i, i0, i1, rfl⟩ := q2
    have e : i = ((i.toNat : Nat) : Int) := by omega
    have hlt : i.toNat < ds.length := by omega
    have hat : atI ds ((i.toNat : Nat) : Int) = some ds[i.toNat] := atI_nat (List.getElem?_eq_getElem hlt)
    rw [← e] at hat
    obtain ⟨y, h1, h2⟩ := dpAll_atI (dpAll_up s2 _ _ hx) hat
    exact ⟨q, xs, i, y, rfl, rfl, sqL_up cuts_same (sqL_up s2 hq), h1, f2, fun p hp hpd => (o2 p hp hpd).trans (o1 p hp hpd), s1.trans s2, _, List.getElem_mem hlt, h2⟩)⟩
end
def spPick (K : PySem.W.Frag) : Sp := fun vs H Q _ => ∃ (d L : Addr) (ns : List Int) (v : V) (ds : List PyData), vs = [.ref d, v] ∧ ds ≠ [] ∧ ds.length ≤ 100000 ∧ Dp K (cuts [d] H) v (.list ds) ∧ Feed K [d] d L ns H ∧ ∀ (r : V) (H' : Hp) (x : PyData), x ∈ ds → Dp K (cuts [d] H') r x → Feed K [d] d L ns H' → Same (cuts [d] H) (cuts [d] H') → Q r H'
section
variable {P : Program} {w : World} {K : PySem.W.Frag} {mg : Str → Option Value} {base : Heap}
abbrev P44 : List Str := ["_law_feed_here", "_law_things"]
theorem sc_lpick : FnScope P44 ["_law_feed_here", "_law_things"] (defScope (top 44)) := ⟨rfl, rfl, rfl, by decide +kernel, rfl, by decide +kernel, by decide +kernel⟩
abbrev XL44 (P : Program) (w : World) (K : PySem.W.Frag) (mg : Str → Option Value) (base : Heap) (f : Addr) (cdv : Value) (A : Around) (outer : List PySem.Env) (s : Shared) (H : Hp) (E : XK) : Cx := cx P w K mg base P44 "_law_pick" (top 44) f cdv A outer s H E
theorem ok_lpick {f : Addr} {fd : FuncData} (F : Fun K "_law_pick" "_law_pick" (top 44) f fd) (B : Bi mg) (c1 : FnS P w K mg base "_law_draw" 2 1 (spDraw K)) : FnOk P w K mg base CX0 2 f fd ["_law_feed_here", "_law_things"] (spPick K) := by
  refine F.ok sc_lpick (fun vs H Q E h => by obtain ⟨_, _, _, _, _, rfl, _⟩ := h; rfl) (fun cdv A outer s H vs Q E hr h => ⟨_, pss_w, ?_⟩)
  obtain ⟨d, L, ns, v, ds, rfl, hne, hl, hv, hf, k⟩ := h
  have hr' : Room 1 (XL44 P w K mg base f cdv A outer s H E).A := hr
  have g0 : Env [some (isV (.ref d)), some (isD K (.list ds))] (L2.start P44 [.ref d, v]) (cuts [d] H) := env_start (N := P44) (τs := [isV (.ref d), isD K (.list ds)]) (.cons rfl (.cons hv .nil))
  have hm : Cutbs (XL44 P w K mg base f cdv A outer s H E) [d] H := by
    obtain ⟨a, l, c, F0⟩ := hf
    exact Cutbs.one (Fof.cutb F0)
  have hpos : 0 < ds.length := List.length_pos_iff.mpr hne
  exact wB_one (wS_ret (EF.use (X := XL44 P w K mg base f cdv A outer s H E) (τ := inT K ds) (ef_ixR (by simp) (ev_n 1 rfl) (ef_draw c1 hr' (by simp) (ev_n 0 rfl) (ev_lenL B (ev_n 1 rfl)) (by omega) (by omega))) (by simp) hm hf g0 fun r H' _ f' _ s' _ ⟨x, hx, hd⟩ => k r H' x hx hd f' s'))
end
section
variable {X : Cx} {M : List Addr} {d L : Addr} {ns : List Int} {Γ : List (Option Ty)} {σ : L2.St} {H H' : Hp} {a b e : Expr} {es : List Expr} {τ τ1 τ2 : Ty} {pos p : Pos}
/-- _law_pick(feed, things) -/
theorem ef_pick {ds : List PyData} (F : FnS X.prog X.w X.K X.mg X.base "_law_pick" 2 2 (spPick X.K)) (hr : Room 2 X.A) (hd : d ∈ M) (ha : EV X Γ a (isV (.ref d))) (hb : EF X M d L ns Γ b (isD X.K (.list ds))) (hne : ds ≠ []) (hl : ds.length ≤ 100000) (hlf : lfs ds = true) (hg : Gl X "_law_pick" := by rfl)
    (he : starEach [a, b] X.env = (false, eval a X.env) :: starEach [b] X.env := by rfl) (he2 : starEach [b] X.env = (false, eval b X.env) :: starEach [] X.env := by rfl) (hpl : (backTo pos (starEach [b] X.env)).any (·.1) = false := by rfl) : EF X M d L ns Γ (.Call (.Name "_law_pick" p) [a, b] [] pos) (inT X.K ds) :=
  ⟨fun σ H hm f g => wE_of (pe_callN F hr hg (by decide) he hpl) (wA_of (pa_cons pe_w (pa_cons pe_w pa_nil he2) he) ((EF.ev hd ha).use hd hm f g fun v H1 m1 f1 o1 s1 g1 q1 => hb.use hd m1 f1 g1 fun u H2 m2 f2 o2 s2 g2 q2 => by
    obtain rfl : v = V.ref d := q1
    obtain ⟨a0, l, c, F0⟩ := f2
    refine ⟨d, L, ns, u, ds, rfl, hne, hl, dp_up (cuts_le hd) _ _ q2, ⟨a0, l, c, F0.1, dp_up (cuts_le hd) _ _ F0.2⟩, fun r H' x hx hdx f' s' => ?_⟩
    obtain ⟨a', l', c', F'⟩ := f'
    have s3 : Same (cuts M H2) (cuts M H') := cuts_sub hd s'
    have o3 : ∀ p ∈ M, p ≠ d → H' p = H2 p := fun p hp hpd => by
      obtain ⟨z, hz, _⟩ := m2 p hp
      have z2 : cuts [d] H2 p = some z := by rw [cuts_out (by simpa using hpd), hz]
      rw [hz]
      exact (cuts_some (s' p z z2)).2
    have f3 : Feed X.K M d L ns H' := ⟨a', l', c', F'.1, dp_up s3 _ _ F0.2⟩
    have o13 : ∀ p ∈ M, p ≠ d → H' p = H p := fun p hp hpd => (o3 p hp hpd).trans ((o2 p hp hpd).trans (o1 p hp hpd))
    have hx2 : lf x = true := lf_of_lfs hlf x hx
    exact ⟨f3, o13, s1.trans (s2.trans s3), x, hx, lf_cuts (f3.cut hm hd o13) hx2 (dp_up cuts_same _ _ hdx)⟩))⟩
end
end EC

set_option Elab.async false
set_option linter.all false
set_option maxRecDepth 100000
set_option maxHeartbeats 8000000
/-! EcP5: _law_feed. -/
namespace EC
open PySem PySem.Spec PyProof.Rows L2
theorem cutD_map {f : Int → PyData} {ns : List Int} {l u : Option Int} : ∃ ms : List Int, cutD (ns.map f) l u = ms.map f := by
  unfold cutD
  simp only [← List.map_drop, ← List.map_take, List.length_map]
  exact ⟨_, rfl⟩
/-- a feed just made -/
def feedX (K : PySem.W.Frag) : Ty := ⟨fun H v => ∃ (d L : Addr) (ns : List Int), v = .ref d ∧ Feed K [d] d L ns H, fun e ⟨d, L, ns, h1, a, l, c, h2, h3⟩ => ⟨d, L, ns, h1, a, l, c, e _ _ h2, dp_up (cuts_mono e) _ _ h3⟩⟩
def Rlfeed (K : PySem.W.Frag) : List Ty → Ty → Prop := fun τs τ => ∃ ns : List Int, τs = [isD K (.list (ns.map PyData.int))] ∧ τ = feedX K
section
variable {P : Program} {w : World} {K : PySem.W.Frag} {mg : Str → Option Value} {base : Heap}
abbrev P42 : List Str := ["_law_script"]
theorem sc_lfeed : FnScope P42 ["_law_script"] (defScope (top 42)) := ⟨rfl, rfl, rfl, by decide +kernel, rfl, by decide +kernel, by decide +kernel⟩
abbrev XL42 (P : Program) (w : World) (K : PySem.W.Frag) (mg : Str → Option Value) (base : Heap) (f : Addr) (cdv : Value) (A : Around) (outer : List PySem.Env) (s : Shared) (H : Hp) (E : XK) : Cx := cx P w K mg base P42 "_law_feed" (top 42) f cdv A outer s H E
theorem ok_lfeed {f : Addr} {fd : FuncData} (F : Fun K "_law_feed" "_law_feed" (top 42) f fd) (B : Bi mg) : FnOk P w K mg base CX0 1 f fd ["_law_script"] (spF (Rlfeed K)) := by
  refine fn_bd F sc_lfeed (fun τs τ ⟨_, h, _⟩ => by rw [h]; rfl) fun cdv A outer s H E τs τ hr ⟨ns, h1, h2⟩ => ⟨fun σ H0 D g0 kD => ?_⟩
  subst h1 h2
  obtain ⟨ms, hms⟩ := cutD_map (f := PyData.int) (ns := ns) (l := none) (u := some 63)
  refine wB_one (wS_ret (wE_of (pe_disp (pps_cons pe_w pe_w (pps_cons pe_w pe_w (pps_cons pe_w pe_w (pps_cons pe_w pe_w pps_nil)))) rfl rfl (by simp) (by decide)) fun p hp => ?_))
  have hcut : ∀ {H1 : Hp}, H1 p = some (.dK []) → Cutbs (XL42 P w K mg base f cdv A outer s H E) [p] H1 := fun h => Cutbs.one ⟨_, h, .inr (.inr ⟨_, rfl⟩)⟩
  have ec : cuts [p] (upd H0 p (.dK [])) = H0 := by rw [cuts_add (M := []) hp, cuts_nil]
  have g1 : Env (startΓ P42 [isD K (.list (ns.map PyData.int))]) σ (cuts [p] (upd H0 p (.dK []))) := by rw [ec]; exact g0
  have b0 : (upd H0 p (.dK [])) p = some (.dK []) := upd_same
  refine EV.useM (X := XL42 P w K mg base f cdv A outer s H E) [p] (ev_str (i := "cells")) (hcut b0) g1 fun v1 H1 k1 s1 g1 q1 => ?_
  refine EV.useM (X := XL42 P w K mg base f cdv A outer s H E) (τ := isD K (.list (cutD (ns.map PyData.int) none (some 63)))) [p] (ev_listL B (ev_sliceL (ev_n 0 rfl) eo_none (eo_some ev_int))) (hcut ((k1 p (by simp)).trans b0)) g1 fun v2 H2 k2 s2 g2 q2 => ?_
  rw [hms] at q2
  obtain ⟨L, xs, rfl, hL, hx⟩ := dp_lst q2
  have e2 := (k2 p (by simp)).trans ((k1 p (by simp)).trans b0)
  have t2 : Dp K (cuts [p] H2) (.ref L) (.list (ms.map PyData.int)) := q2
  clear q2
  refine EV.useM (X := XL42 P w K mg base f cdv A outer s H E) [p] (ev_str (i := "at")) (hcut e2) g2 fun v3 H3 k3 s3 g3 q3 => ?_
  have e3 := (k3 p (by simp)).trans e2
  refine EV.useM (X := XL42 P w K mg base f cdv A outer s H E) [p] (ev_int (i := 0)) (hcut e3) g3 fun v4 H4 k4 s4 g4 q4 => ?_
  have e4 := (k4 p (by simp)).trans e3
  refine EV.useM (X := XL42 P w K mg base f cdv A outer s H E) [p] (ev_str (i := "left")) (hcut e4) g4 fun v5 H5 k5 s5 g5 q5 => ?_
  have e5 := (k5 p (by simp)).trans e4
  refine EV.useM (X := XL42 P w K mg base f cdv A outer s H E) [p] (ev_int (i := 0)) (hcut e5) g5 fun v6 H6 k6 s6 g6 q6 => ?_
  have e6 := (k6 p (by simp)).trans e5
  refine EV.useM (X := XL42 P w K mg base f cdv A outer s H E) [p] (ev_str (i := "count")) (hcut e6) g6 fun v7 H7 k7 s7 g7 q7 => ?_
  have e7 := (k7 p (by simp)).trans e6
  refine EV.useM (X := XL42 P w K mg base f cdv A outer s H E) [p] (ev_int (i := 0)) (hcut e7) g7 fun v8 H8 k8 s8 g8 q8 => ?_
  have e8 := (k8 p (by simp)).trans e7
  cases dp_str q1
  cases dp_str q3
  cases dp_int q4
  cases dp_str q5
  cases dp_int q6
  cases dp_str q7
  cases dp_int q8
  have sAll : Same (cuts [p] H2) (cuts [p] H8) := s3.trans (s4.trans (s5.trans (s6.trans (s7.trans s8))))
  have s0 : Same H0 (cuts [p] H8) := by
    have z : Same (cuts [p] (upd H0 p (.dK []))) (cuts [p] H8) := s1.trans (s2.trans sAll)
    rw [ec] at z
    exact z
  have eu : cuts [p] (upd H8 p (.dK (mergeK [] (feedK L 0 0 0)))) = cuts [p] H8 := cuts_upd (by simp)
  refine ⟨e8, feedK L 0 0 0, rfl, show 4 ≤ 15 from by decide, kD _ _ (fun q u hq => ?_) ⟨p, L, ms, rfl, 0, 0, 0, upd_same, by rw [eu]; exact dp_up sAll _ _ t2⟩⟩
  have z := cuts_some (s0 q u hq)
  rw [upd_ne (fun e => z.1 (by simp [e]))]
  exact z.2
end
end EC

set_option Elab.async false
set_option linter.all false
set_option maxRecDepth 100000
set_option maxHeartbeats 8000000
/-! EcP6: _law_scene. -/
namespace EC
open PySem PySem.Spec PyProof.Rows L2
def sceneI (i : Int) (x q s : Str) : List Ins :=
  let more : Ex := .plus (.var x) (.num 1)
  let one : Tst := .equal (.var q) (.num 1)
  let n : Int → Ex := fun k => .atm (.num k)
  if i = 0 then [.unl (.less (.var x) (.num 2)) 3 1, .set x more 1, .jump 0 1, .fin]
  else if i = 1 then [.set x more 1, .set q (n 1) 4, .fin]
  else if i = 2 then [.set s (n 1) 5, .mark 1, .fin]
  else if i = 3 then [.set q (n 1) 1, .mark 1, .set x (.atm (.var q)) 2, .fin]
  else if i = 4 then [.unl (.equal (.var x) (.num 0)) 5 1, .set x (n 1) 1, .ask q 1, .unl one 2 1, .fin, .set s (n 1) 1, .fin]
  else if i = 5 then [.unl (.equal (.var x) (.num 0)) 5 1, .set x (n 1) 1, .set x (n 0) 1, .jump 7 1, .fin, .set q (n 0) 7, .jump 7 1, .fin]
  else if i = 6 then [.set q (n 0) 3, .mark 1, .set x more 1, .set q (n 0) 1, .fin]
  else if i = 7 then [.set x more 1, .mark 2, .set s (.atm (.var x)) 2, .mark 2, .set q (n 0) 2, .fin]
  else if i = 8 then [.set x (.minus (.num 1) (.var x)) 1, .set q (n 0) 3, .fin]
  else if i = 9 then [.set s (.atm (.var x)) 1, .mark 1, .set x (.plus (.var s) (.num 1)) 1, .set q (n 0) 2, .fin]
  else if i = 10 then [.ask q 1, .unl one 0 1, .mark 2, .set x (.atm (.var q)) 1, .fin]
  else [.ask s 1, .mark 1, .unl (.less (.var x) (.var s)) 5 1, .set x more 2, .jump 2 1, .set q (.atm (.var x)) 2, .fin]
def Rlscene (K : PySem.W.Frag) : List Ty → Ty → Prop := fun τs τ => ∃ (i : Int) (x q s : Str), τs = [isD K (.int i), isD K (.str x), isD K (.str q), isD K (.str s)] ∧ τ = isD K (.list ((sceneI i x q s).map Ins.d))
section
variable {P : Program} {w : World} {K : PySem.W.Frag} {mg : Str → Option Value} {base : Heap}
abbrev P45 : List Str := ["_law_at", "_law_x", "_law_q", "_law_s", "_law_more", "_law_one", "_law_code"]
theorem sc_lscene : FnScope P45 ["_law_at", "_law_x", "_law_q", "_law_s"] (defScope (top 45)) := ⟨rfl, rfl, rfl, by decide +kernel, rfl, by decide +kernel, by decide +kernel⟩
theorem ok_lscene {f : Addr} {fd : FuncData} (F : Fun K "_law_scene" "_law_scene" (top 45) f fd) : FnOk P w K mg base CX0 1 f fd ["_law_at", "_law_x", "_law_q", "_law_s"] (spF (Rlscene K)) := by
  refine fn_bd F sc_lscene (fun τs τ ⟨_, _, _, _, h, _⟩ => by rw [h]; rfl) fun cdv A outer s_ H E τs τ hr ⟨i, x, q, s, h1, h2⟩ => ⟨fun σ H0 D g0 kD => ?_⟩
  subst h1 h2
  have nd := sc_lscene.nd
  refine wB_cons (wS_par2 4 5 rfl nd (by decide) (EV.use (τ := isD K (.tuple [.str "plus", .str x, .int 1])) (ev_tup (eds_cons ev_str (eds_cons (ev_n 1 rfl) (eds_cons ev_int eds_nil)))) g0 fun y H1 s1 q1 => EV.use (τ := isD K (.tuple [.str "equal", .str q, .int 1])) (ev_tup (eds_cons ev_str (eds_cons (ev_n 2 rfl) (eds_cons ev_int eds_nil)))) (g0.up s1) fun z H2 s2 q2 => ?_))
  have g2 := (((g0.up s1).up s2).set 4 (show (isD K (.tuple [.str "plus", .str x, .int 1])).p H2 y from dp_up s2 _ _ q1)).set 5 q2
  refine BD.run (τ := isD K (.list ((sceneI i x q s).map Ins.d))) ?_ _ H2 D g2 fun v H' s3 q3 => kD v H' ((s1.trans s2).trans s3) q3
  refine bd_if (et_eqI (ev_n 0 rfl) ev_int) (fun h => ?_) (fun h0 => ?_)
  · obtain rfl : i = 0 := of_decide_eq_true h
    exact bd_ret (ev_lst (by repeat' (first | exact eds_nil | exact ev_str | exact ev_int | exact ev_n 1 rfl | exact ev_n 2 rfl | exact ev_n 3 rfl | exact ev_n 4 rfl | exact ev_n 5 rfl | refine eds_cons ?_ ?_ | refine ev_tup ?_)))
  refine bd_if (et_eqI (ev_n 0 rfl) ev_int) (fun h => ?_) (fun h1 => ?_)
  · obtain rfl : i = 1 := of_decide_eq_true h
    exact bd_ret (ev_lst (by repeat' (first | exact eds_nil | exact ev_str | exact ev_int | exact ev_n 1 rfl | exact ev_n 2 rfl | exact ev_n 3 rfl | exact ev_n 4 rfl | exact ev_n 5 rfl | refine eds_cons ?_ ?_ | refine ev_tup ?_)))
  refine bd_if (et_eqI (ev_n 0 rfl) ev_int) (fun h => ?_) (fun h2 => ?_)
  · obtain rfl : i = 2 := of_decide_eq_true h
    exact bd_ret (ev_lst (by repeat' (first | exact eds_nil | exact ev_str | exact ev_int | exact ev_n 1 rfl | exact ev_n 2 rfl | exact ev_n 3 rfl | exact ev_n 4 rfl | exact ev_n 5 rfl | refine eds_cons ?_ ?_ | refine ev_tup ?_)))
  refine bd_if (et_eqI (ev_n 0 rfl) ev_int) (fun h => ?_) (fun h3 => ?_)
  · obtain rfl : i = 3 := of_decide_eq_true h
    exact bd_ret (ev_lst (by repeat' (first | exact eds_nil | exact ev_str | exact ev_int | exact ev_n 1 rfl | exact ev_n 2 rfl | exact ev_n 3 rfl | exact ev_n 4 rfl | exact ev_n 5 rfl | refine eds_cons ?_ ?_ | refine ev_tup ?_)))
  refine bd_if (et_eqI (ev_n 0 rfl) ev_int) (fun h => ?_) (fun h4 => ?_)
  · obtain rfl : i = 4 := of_decide_eq_true h
    refine bd_set (τ1 := isL K (((sceneI 4 x q s).map Ins.d).take 4)) 6 nd (ev_lstL (by repeat' (first | exact eds_nil | exact ev_str | exact ev_int | exact ev_n 1 rfl | exact ev_n 2 rfl | exact ev_n 3 rfl | exact ev_n 4 rfl | exact ev_n 5 rfl | refine eds_cons ?_ ?_ | refine ev_tup ?_))) ?_
    exact bd_ret (ev_isL (ev_catL (ds := ((sceneI 4 x q s).map Ins.d).take 4) (ds2 := ((sceneI 4 x q s).map Ins.d).drop 4) (ev_n 6 rfl) (ev_lstL (by repeat' (first | exact eds_nil | exact ev_str | exact ev_int | exact ev_n 1 rfl | exact ev_n 2 rfl | exact ev_n 3 rfl | exact ev_n 4 rfl | exact ev_n 5 rfl | refine eds_cons ?_ ?_ | refine ev_tup ?_))) (Nat.le_of_ble_eq_true rfl)))
  refine bd_if (et_eqI (ev_n 0 rfl) ev_int) (fun h => ?_) (fun h5 => ?_)
  · obtain rfl : i = 5 := of_decide_eq_true h
    refine bd_set (τ1 := isL K (((sceneI 5 x q s).map Ins.d).take 4)) 6 nd (ev_lstL (by repeat' (first | exact eds_nil | exact ev_str | exact ev_int | exact ev_n 1 rfl | exact ev_n 2 rfl | exact ev_n 3 rfl | exact ev_n 4 rfl | exact ev_n 5 rfl | refine eds_cons ?_ ?_ | refine ev_tup ?_))) ?_
    exact bd_ret (ev_isL (ev_catL (ds := ((sceneI 5 x q s).map Ins.d).take 4) (ds2 := ((sceneI 5 x q s).map Ins.d).drop 4) (ev_n 6 rfl) (ev_lstL (by repeat' (first | exact eds_nil | exact ev_str | exact ev_int | exact ev_n 1 rfl | exact ev_n 2 rfl | exact ev_n 3 rfl | exact ev_n 4 rfl | exact ev_n 5 rfl | refine eds_cons ?_ ?_ | refine ev_tup ?_))) (Nat.le_of_ble_eq_true rfl)))
  refine bd_if (et_eqI (ev_n 0 rfl) ev_int) (fun h => ?_) (fun h6 => ?_)
  · obtain rfl : i = 6 := of_decide_eq_true h
    exact bd_ret (ev_lst (by repeat' (first | exact eds_nil | exact ev_str | exact ev_int | exact ev_n 1 rfl | exact ev_n 2 rfl | exact ev_n 3 rfl | exact ev_n 4 rfl | exact ev_n 5 rfl | refine eds_cons ?_ ?_ | refine ev_tup ?_)))
  refine bd_if (et_eqI (ev_n 0 rfl) ev_int) (fun h => ?_) (fun h7 => ?_)
  · obtain rfl : i = 7 := of_decide_eq_true h
    exact bd_ret (ev_lst (by repeat' (first | exact eds_nil | exact ev_str | exact ev_int | exact ev_n 1 rfl | exact ev_n 2 rfl | exact ev_n 3 rfl | exact ev_n 4 rfl | exact ev_n 5 rfl | refine eds_cons ?_ ?_ | refine ev_tup ?_)))
  refine bd_if (et_eqI (ev_n 0 rfl) ev_int) (fun h => ?_) (fun h8 => ?_)
  · obtain rfl : i = 8 := of_decide_eq_true h
    exact bd_ret (ev_lst (by repeat' (first | exact eds_nil | exact ev_str | exact ev_int | exact ev_n 1 rfl | exact ev_n 2 rfl | exact ev_n 3 rfl | exact ev_n 4 rfl | exact ev_n 5 rfl | refine eds_cons ?_ ?_ | refine ev_tup ?_)))
  refine bd_if (et_eqI (ev_n 0 rfl) ev_int) (fun h => ?_) (fun h9 => ?_)
  · obtain rfl : i = 9 := of_decide_eq_true h
    exact bd_ret (ev_lst (by repeat' (first | exact eds_nil | exact ev_str | exact ev_int | exact ev_n 1 rfl | exact ev_n 2 rfl | exact ev_n 3 rfl | exact ev_n 4 rfl | exact ev_n 5 rfl | refine eds_cons ?_ ?_ | refine ev_tup ?_)))
  refine bd_if (et_eqI (ev_n 0 rfl) ev_int) (fun h => ?_) (fun h10 => ?_)
  · obtain rfl : i = 10 := of_decide_eq_true h
    exact bd_ret (ev_lst (by repeat' (first | exact eds_nil | exact ev_str | exact ev_int | exact ev_n 1 rfl | exact ev_n 2 rfl | exact ev_n 3 rfl | exact ev_n 4 rfl | exact ev_n 5 rfl | refine eds_cons ?_ ?_ | refine ev_tup ?_)))
  have e : sceneI i x q s = sceneI 11 x q s := by
    unfold sceneI
    simp only [if_neg (of_decide_eq_false h0), if_neg (of_decide_eq_false h1), if_neg (of_decide_eq_false h2), if_neg (of_decide_eq_false h3), if_neg (of_decide_eq_false h4), if_neg (of_decide_eq_false h5), if_neg (of_decide_eq_false h6), if_neg (of_decide_eq_false h7), if_neg (of_decide_eq_false h8), if_neg (of_decide_eq_false h9), if_neg (of_decide_eq_false h10)]
    rfl
  rw [e]
  refine bd_set (τ1 := isL K (((sceneI 11 x q s).map Ins.d).take 5)) 6 nd (ev_lstL (by repeat' (first | exact eds_nil | exact ev_str | exact ev_int | exact ev_n 1 rfl | exact ev_n 2 rfl | exact ev_n 3 rfl | exact ev_n 4 rfl | exact ev_n 5 rfl | refine eds_cons ?_ ?_ | refine ev_tup ?_))) ?_
  exact bd_ret (ev_isL (ev_catL (ds := ((sceneI 11 x q s).map Ins.d).take 5) (ds2 := ((sceneI 11 x q s).map Ins.d).drop 5) (ev_n 6 rfl) (ev_lstL (by repeat' (first | exact eds_nil | exact ev_str | exact ev_int | exact ev_n 1 rfl | exact ev_n 2 rfl | exact ev_n 3 rfl | exact ev_n 4 rfl | exact ev_n 5 rfl | refine eds_cons ?_ ?_ | refine ev_tup ?_))) (Nat.le_of_ble_eq_true rfl)))
end
end EC

set_option Elab.async false
set_option linter.all false
set_option maxRecDepth 100000
set_option maxHeartbeats 8000000
/-! EcP7: rules for what draws. -/
namespace EC
open PySem PySem.Spec PyProof.Rows L2
/-- an int from lo on, below hi -/
def isRg (lo hi : Int) : Ty := exT (fun i : Int => lo ≤ i ∧ i < hi) fun i => isV (.int i)
section
variable {X : Cx} {M : List Addr} {d L : Addr} {ns : List Int} {Γ : List (Option Ty)} {σ : L2.St} {H H' : Hp} {a b e : Expr} {es : List Expr} {τ τ1 τ2 : Ty} {pos p p2 : Pos} {D : Ends} {x : Str}
theorem wS_setE (j : Nat) (hN : X.N.Nodup) (hd : d ∈ M) (hm : Cutbs X M H) (f : Feed X.K M d L ns H) (g : Env Γ σ (cuts M H)) (h : EF X M d L ns Γ e τ)
    (k : ∀ v H1, Cutbs X M H1 → Feed X.K M d L ns H1 → (∀ p ∈ M, p ≠ d → H1 p = H p) → Same (cuts M H) (cuts M H1) → Env (Γ.set j (some τ)) (σ.set j (some v)) (cuts M H1) → D.nx (σ.set j (some v)) H1)
    (hi : X.N[j]? = some x := by rfl) (hx : Loc X.env.scope x := by first | exact .inl rfl | exact .inr rfl) (hs : swapsWith e (some (.Name x p2)) pos.line X.env = pure false := by rfl)
    (hf : X.fn x = true ∨ X.env.scope.names.lookup x = some .local := by first | exact .inl rfl | exact .inr rfl) : wS X (.Assign [.Name x p2] e pos) D σ H :=
  wS_set j hN (h.use hd hm f g fun v H1 m1 f1 o1 s1 g1 q1 => k v H1 m1 f1 o1 s1 (g1.set j q1)) hi hx hs hf
/-- k + draw -/
theorem ef_inc {n k : Int} {j : Nat} (hd : d ∈ M) (hb : EF X M d L ns Γ b (isR n)) : EF X M d L ns Γ (.BinOp (.Constant (.int k) j p) .Add b pos) (isRg k (k + n)) :=
  ⟨fun σ H hm f g => wE_of (pe_op op_add pe_w pe_w) ((EF.ev hd (ev_int (i := k))).use hd hm f g fun v H1 m1 f1 o1 s1 g1 q1 => hb.use hd m1 f1 g1 fun u H2 m2 f2 o2 s2 g2 q2 => by
    obtain ⟨i, i0, i1, rfl⟩ := q2
    exact ⟨k, i, dp_int q1, rfl, f2, fun p hp hpd => (o2 p hp hpd).trans (o1 p hp hpd), s1.trans s2, k + i, ⟨by omega, by omega⟩, rfl⟩)⟩
theorem EF.rg {n : Int} (h : EF X M d L ns Γ e (isR n)) : EF X M d L ns Γ e (isRg 0 n) := ⟨fun σ H hm f g => wE_mono (h.run σ H hm f g) fun v H' ⟨h1, h2, h3, i, i0, i1, e⟩ => ⟨h1, h2, h3, i, ⟨i0, i1⟩, e⟩⟩
end
end EC

set_option Elab.async false
set_option linter.all false
set_option maxRecDepth 100000
set_option maxHeartbeats 8000000
/-! EcP8: tests that draw. -/
namespace EC
open PySem PySem.Spec PyProof.Rows L2
/-- a test that draws -/
structure EFt (X : Cx) (M : List Addr) (d L : Addr) (ns : List Int) (Γ : List (Option Ty)) (e : Expr) : Prop where
  run : ∀ σ H, Cutbs X M H → Feed X.K M d L ns H → Env Γ σ (cuts M H) → wT X e σ H fun _ H' => Feed X.K M d L ns H' ∧ (∀ p ∈ M, p ≠ d → H' p = H p) ∧ Same (cuts M H) (cuts M H')
section
variable {X : Cx} {M : List Addr} {d L : Addr} {ns : List Int} {Γ : List (Option Ty)} {σ : L2.St} {H H' : Hp} {a b c e : Expr} {τ : Ty} {pos p : Pos}
/-- draw == k -/
theorem eft_eq {n k : Int} {j : Nat} (hd : d ∈ M) (ha : EF X M d L ns Γ a (isR n)) : EFt X M d L ns Γ (.Compare a [.Eq] [.Constant (.int k) j p] pos) :=
  ⟨fun σ H hm f g => wT_of (pt_cmpR op_eq pe_w pe_w (nomark _)) (ha.use hd hm f g fun v H1 m1 f1 o1 s1 g1 q1 => (EF.ev hd (ev_int (i := k))).use hd m1 f1 g1 fun u H2 m2 f2 o2 s2 g2 q2 => by
    obtain ⟨i, i0, i1, rfl⟩ := q1
    cases dp_int q2
    exact ⟨rfl, _, rfl, f2, fun p hp hpd => (o2 p hp hpd).trans (o1 p hp hpd), s1.trans s2⟩)⟩
theorem ef_ifE (hd : d ∈ M) (hc : EFt X M d L ns Γ c) (ha : EF X M d L ns Γ a τ) (hb : EF X M d L ns Γ b τ) : EF X M d L ns Γ (.IfExp c a b pos) τ :=
  ⟨fun σ H hm f g => wE_of (pe_ifExp pt_w pe_w pe_w) (wT_mono (hc.run σ H hm f g) fun k H1 ⟨f1, o1, s1⟩ => by
    have m1 := f1.cut hm hd o1
    cases k with
    | true => exact iteT (ha.use hd m1 f1 (g.up s1) fun u H2 m2 f2 o2 s2 g2 q2 => ⟨f2, fun p hp hpd => (o2 p hp hpd).trans (o1 p hp hpd), s1.trans s2, q2⟩)
    | false => exact iteF (hb.use hd m1 f1 (g.up s1) fun u H2 m2 f2 o2 s2 g2 q2 => ⟨f2, fun p hp hpd => (o2 p hp hpd).trans (o1 p hp hpd), s1.trans s2, q2⟩))⟩
end
end EC

set_option Elab.async false
set_option linter.all false
set_option maxRecDepth 100000
set_option maxHeartbeats 8000000
/-! EcQ1: drawn code is well formed, plain. -/
namespace EC
open PySem PySem.Spec PyProof.Rows L2
def atmN (N : List Str) : Atm → Prop
  | .num _ => True
  | .var x => x ∈ N
def exN (N : List Str) : Ex → Prop
  | .atm a => atmN N a
  | .plus a b => atmN N a ∧ atmN N b
  | .minus a b => atmN N a ∧ atmN N b
def tstN (N : List Str) : Tst → Prop
  | .less a b => atmN N a ∧ atmN N b
  | .equal a b => atmN N a ∧ atmN N b
/-- at a place of a code of this length -/
def insN (N : List Str) (len at_ : Nat) : Ins → Prop
  | .set x e c => x ∈ N ∧ exN N e ∧ costOk c ∧ at_ + 1 < len
  | .ask x c => x ∈ N ∧ costOk c ∧ at_ + 1 < len
  | .jump p c => p < len ∧ costOk c
  | .unl t p c => tstN N t ∧ p < len ∧ costOk c ∧ at_ + 1 < len
  | .mark c => costOk c ∧ at_ + 1 < len
  | .off c => costOk c ∧ at_ + 1 < len
  | .fin => True
def CodeN (N : List Str) (code : List Ins) : Prop := 2 ≤ code.length ∧ code.length ≤ 16 ∧ ∀ p i, code[p]? = some i → insN N code.length p i
theorem atmN_ok {P : Prg} {a : Atm} (h : atmN (P.cells.map (·.name)) a) : a.ok P := by cases a <;> exact h
theorem exN_ok {P : Prg} {e : Ex} (h : exN (P.cells.map (·.name)) e) : e.ok P := by
  cases e with
  | atm a => exact atmN_ok h
  | plus a b => exact ⟨atmN_ok h.1, atmN_ok h.2⟩
  | minus a b => exact ⟨atmN_ok h.1, atmN_ok h.2⟩
theorem tstN_ok {P : Prg} {t : Tst} (h : tstN (P.cells.map (·.name)) t) : t.ok P := by
  cases t with
  | less a b => exact ⟨atmN_ok h.1, atmN_ok h.2⟩
  | equal a b => exact ⟨atmN_ok h.1, atmN_ok h.2⟩
theorem insN_ok {P : Prg} {at_ : Nat} {i : Ins} (h : insN (P.cells.map (·.name)) P.code.length at_ i) : i.ok P at_ := by
  cases i with
  | set x e c => exact ⟨h.1, exN_ok h.2.1, h.2.2⟩
  | ask x c => exact h
  | jump p c => exact h
  | unl t p c => exact ⟨tstN_ok h.1, h.2⟩
  | mark c => exact h
  | off c => exact h
  | fin => trivial
theorem scene_ok {i : Int} {x q s : Str} (h0 : 0 ≤ i) (h1 : i < 12) : CodeN [x, q, s] (sceneI i x q s) := by
  have hi : i = 0 ∨ i = 1 ∨ i = 2 ∨ i = 3 ∨ i = 4 ∨ i = 5 ∨ i = 6 ∨ i = 7 ∨ i = 8 ∨ i = 9 ∨ i = 10 ∨ i = 11 := by omega
  rcases hi with rfl | rfl | rfl | rfl | rfl | rfl | rfl | rfl | rfl | rfl | rfl | rfl <;>
    refine ⟨Nat.le_of_ble_eq_true rfl, Nat.le_of_ble_eq_true rfl, fun p j h => ?_⟩ <;>
    rcases p with _ | _ | _ | _ | _ | _ | _ | _ | p <;>
    first
    | (cases h; done)
    | (obtain rfl := Option.some.inj h; simp [insN, exN, tstN, atmN, costOk, sceneI]; done)
    | (exact absurd h (by simp [sceneI]))
/-- another cost -/
def Ins.recost (c : Int) : Ins → Ins
  | .set x e _ => .set x e c
  | .ask x _ => .ask x c
  | .jump p _ => .jump p c
  | .unl t p _ => .unl t p c
  | .mark _ => .mark c
  | .off _ => .off c
  | .fin => .fin
theorem recost_ok {N : List Str} {len at_ : Nat} {i : Ins} {c : Int} (h : insN N len at_ i) (hc : costOk c) : insN N len at_ (i.recost c) := by
  cases i with
  | set x e k => exact ⟨h.1, h.2.1, hc, h.2.2.2⟩
  | ask x k => exact ⟨h.1, hc, h.2.2⟩
  | jump p k => exact ⟨h.1, hc⟩
  | unl t p k => exact ⟨h.1, h.2.1, hc, h.2.2.2⟩
  | mark k => exact ⟨hc, h.2⟩
  | off k => exact ⟨hc, h.2⟩
  | fin => trivial
theorem CodeN.like {N : List Str} {code code' : List Ins} (h : CodeN N code) (hl : code'.length = code.length) (hi : ∀ p i, code'[p]? = some i → insN N code.length p i) : CodeN N code' :=
  ⟨by rw [hl]; exact h.1, by rw [hl]; exact h.2.1, fun p i hp => by rw [hl]; exact hi p i hp⟩
end EC

set_option Elab.async false
set_option linter.all false
set_option maxRecDepth 100000
set_option maxHeartbeats 8000000
/-! EcP9: data that is drawn. -/
namespace EC
open PySem PySem.Spec PyProof.Rows L2
/-- data of a kind -/
def setT (K : PySem.W.Frag) (S : PyData → Prop) : Ty := exT S (isD K)
/-- a state with the feed -/
structure Dst (X : Cx) (M : List Addr) (d L : Addr) (ns : List Int) (Γ : List (Option Ty)) (σ : L2.St) (H : Hp) : Prop where
  m : Cutbs X M H
  f : Feed X.K M d L ns H
  g : Env Γ σ (cuts M H)
  hd : d ∈ M
/-- later, but for what changes -/
structure Ltr (M : List Addr) (d : Addr) (H H' : Hp) : Prop where
  o : ∀ p ∈ M, p ≠ d → H' p = H p
  s : Same (cuts M H) (cuts M H')
theorem Ltr.refl {M : List Addr} {d : Addr} {H : Hp} : Ltr M d H H := ⟨fun _ _ _ => rfl, Same.refl _⟩
theorem Ltr.trans {M : List Addr} {d : Addr} {H0 H1 H2 : Hp} (a : Ltr M d H0 H1) (b : Ltr M d H1 H2) : Ltr M d H0 H2 := ⟨fun p hp hd => (b.o p hp hd).trans (a.o p hp hd), a.s.trans b.s⟩
section
variable {X : Cx} {M : List Addr} {d L : Addr} {ns : List Int} {Γ : List (Option Ty)} {σ : L2.St} {H H' : Hp} {a b c e iter o : Expr} {es : List Expr} {τ τ1 τ2 : Ty} {pos p p2 apos cpos : Pos} {D : Ends} {x y : Str} {S T R : PyData → Prop}
theorem Dst.new_ (z : Dst X M d L ns Γ σ H) {q : Addr} (hq : H q = none) : q ∉ M := fun hm => by
  obtain ⟨u, hu, _⟩ := z.m q hm
  rw [hq] at hu
  cases hu
theorem Dst.up (z : Dst X M d L ns Γ σ H) (s : Same H H') : Dst X M d L ns Γ σ H' ∧ Ltr M d H H' := by
  have h1 := keepM z.m s
  have s1 : Same (cuts M H) (cuts M H') := cuts_mono s
  obtain ⟨a, l, c, F⟩ := z.f
  exact ⟨⟨z.m.of h1, ⟨a, l, c, F.fr (X := X) (h1 d z.hd) s1⟩, z.g.up s1, z.hd⟩, ⟨fun p hp _ => h1 p hp, s1⟩⟩
theorem Dst.set (z : Dst X M d L ns Γ σ H) (j : Nat) {v : V} (q : τ.p (cuts M H) v) : Dst X M d L ns (Γ.set j (some τ)) (σ.set j (some v)) H := ⟨z.m, z.f, z.g.set j q, z.hd⟩
theorem Dst.forget (z : Dst X M d L ns Γ σ H) (j : Nat) : Dst X M d L ns (Γ.set j none) σ H := ⟨z.m, z.f, z.g.forget j, z.hd⟩
theorem Dst.fr (z : Dst X M d L ns Γ σ H) (h : ∀ p ∈ M, H' p = H p) (s : Same (cuts M H) (cuts M H')) : Dst X M d L ns Γ σ H' ∧ Ltr M d H H' := by
  obtain ⟨a, l, c, F⟩ := z.f
  exact ⟨⟨z.m.of h, ⟨a, l, c, F.fr (X := X) (h d z.hd) s⟩, z.g.up s, z.hd⟩, ⟨fun p hp _ => h p hp, s⟩⟩
theorem wS_ifD {t : Bool} {body els : List Stmt} (z : Dst X M d L ns Γ σ H) (h : ET X Γ c t) (k1 : t = true → ∀ H1, Ltr M d H H1 → Dst X M d L ns Γ σ H1 → wB X body D σ H1) (k2 : t = false → ∀ H1, Ltr M d H H1 → Dst X M d L ns Γ σ H1 → wB X els D σ H1) : wS X (.If c body els pos) D σ H :=
  wS_ifF z.m (z.g.up cuts_same) h (fun ht H1 h1 s1 => k1 ht H1 (z.fr h1 s1).2 (z.fr h1 s1).1) (fun ht H1 h1 s1 => k2 ht H1 (z.fr h1 s1).2 (z.fr h1 s1).1)
theorem EF.go {Q : VK} (h : EF X M d L ns Γ e τ) (z : Dst X M d L ns Γ σ H) (k : ∀ v H', Ltr M d H H' → Dst X M d L ns Γ σ H' → τ.p (cuts M H') v → Q v H') : wE X e σ H Q :=
  h.use z.hd z.m z.f z.g fun v H' m f o s g q => k v H' ⟨o, s⟩ ⟨m, f, g, z.hd⟩ q
theorem EF.by_ (hd : d ∈ M) (h : ∀ σ H, Dst X M d L ns Γ σ H → wE X e σ H fun v H' => Dst X M d L ns Γ σ H' ∧ Ltr M d H H' ∧ τ.p (cuts M H') v) : EF X M d L ns Γ e τ :=
  ⟨fun σ H m f g => wE_mono (h σ H ⟨m, f, g, hd⟩) fun v H' ⟨z, l, q⟩ => ⟨z.f, l.o, l.s, q⟩⟩
theorem EF.weak (h : EF X M d L ns Γ e τ1) (k : ∀ H v, τ1.p H v → τ2.p H v) : EF X M d L ns Γ e τ2 := ⟨fun σ H m f g => wE_mono (h.run σ H m f g) fun v H' ⟨a, b, c, q⟩ => ⟨a, b, c, k _ _ q⟩⟩
/-- an expression that draws, its value a datum of a kind -/
abbrev ED (X : Cx) (M : List Addr) (d L : Addr) (ns : List Int) (Γ : List (Option Ty)) (e : Expr) (S : PyData → Prop) : Prop := EF X M d L ns Γ e (setT X.K S)
theorem ed_ev {dx : PyData} (hd : d ∈ M) (h : EV X Γ e (isD X.K dx)) (hs : S dx) : ED X M d L ns Γ e S := EF.ev hd (ev_toX dx hs h)
theorem ed_is {dx : PyData} (hd : d ∈ M) (h : EV X Γ e (isD X.K dx)) : ED X M d L ns Γ e (fun z => z = dx) := ed_ev hd h rfl
theorem ED.mono (h : ED X M d L ns Γ e S) (k : ∀ z, S z → T z) : ED X M d L ns Γ e T := h.weak fun H v ⟨z, hz, q⟩ => ⟨z, k z hz, q⟩
def rgD (lo hi : Int) : PyData → Prop := fun z => ∃ i : Int, lo ≤ i ∧ i < hi ∧ z = .int i
theorem EF.rD {n : Int} (h : EF X M d L ns Γ e (isR n)) : ED X M d L ns Γ e (rgD 0 n) := h.weak fun H v ⟨i, h0, h1, q⟩ => ⟨.int i, ⟨i, h0, h1, rfl⟩, by rw [q]; exact .int i⟩
/-- x = e -/
theorem wS_setD (j : Nat) (hN : X.N.Nodup) (z : Dst X M d L ns Γ σ H) (h : ED X M d L ns Γ e S)
    (k : ∀ dx v H1, S dx → Ltr M d H H1 → Dst X M d L ns (Γ.set j (some (isD X.K dx))) (σ.set j (some v)) H1 → D.nx (σ.set j (some v)) H1)
    (hi : X.N[j]? = some x := by rfl) (hx : Loc X.env.scope x := by first | exact .inl rfl | exact .inr rfl) (hs : swapsWith e (some (.Name x p2)) pos.line X.env = pure false := by rfl)
    (hf : X.fn x = true ∨ X.env.scope.names.lookup x = some .local := by first | exact .inl rfl | exact .inr rfl) : wS X (.Assign [.Name x p2] e pos) D σ H :=
  wS_set j hN (h.go z fun v H1 l z1 ⟨y, hy, q⟩ => k y v H1 hy l (z1.set j q)) hi hx hs hf
/-- x, y = a, b -/
theorem wS_par2D {px py p4 : Pos} {kk k2 : Nat} (i j : Nat) (hc : X.calm = true) (hN : X.N.Nodup) (hij : i ≠ j) (z : Dst X M d L ns Γ σ H) (ha : ED X M d L ns Γ a S) (hb : ED X M d L ns Γ b T)
    (k : ∀ d1 d2 v u H1, S d1 → T d2 → Ltr M d H H1 → Dst X M d L ns ((Γ.set i (some (isD X.K d1))).set j (some (isD X.K d2))) ((σ.set i (some v)).set j (some u)) H1 → D.nx ((σ.set i (some v)).set j (some u)) H1)
    (hi : X.N[i]? = some x := by rfl) (hj : X.N[j]? = some y := by rfl) (hx : X.env.scope.names.lookup x = some .local := by rfl) (hy : X.env.scope.names.lookup y = some .local := by rfl)
    (hw : swappedStores [.Tuple [.Name x px, .Name y py] kk p2] (.Tuple [a, b] k2 p4) X.env = pure (some [x, y]) := by rfl) (hs : swapsWithSole [.Tuple [.Name x px, .Name y py] kk p2] (.Tuple [a, b] k2 p4) pos.line X.env = pure false := by rfl)
    (he : starEach [a, b] X.env = (false, eval a X.env) :: starEach [b] X.env := by rfl) (he2 : starEach [b] X.env = (false, eval b X.env) :: starEach [] X.env := by rfl) :
    wS X (.Assign [.Tuple [.Name x px, .Name y py] kk p2] (.Tuple [a, b] k2 p4) pos) D σ H :=
  wS_par2 i j hc hN hij (ha.go z fun v H1 l1 z1 ⟨d1, h1, q1⟩ => hb.go z1 fun u H2 l2 z2 ⟨d2, h2, q2⟩ => k d1 d2 v u H2 h1 h2 (l1.trans l2) ((z2.set i (τ := isD X.K d1) (dp_up l2.s _ _ q1)).set j q2)) hi hj hx hy hw hs he he2
/-- the parts of a display -/
structure EFs (X : Cx) (M : List Addr) (d L : Addr) (ns : List Int) (Γ : List (Option Ty)) (es : List Expr) (S : List PyData → Prop) : Prop where
  run : ∀ σ H, Dst X M d L ns Γ σ H → wA X es σ H fun vs H' => Dst X M d L ns Γ σ H' ∧ Ltr M d H H' ∧ ∃ ds, S ds ∧ ds.length = es.length ∧ DpAll X.K (cuts M H') vs ds
theorem efs_nil : EFs X M d L ns Γ [] (fun ds => ds = []) := ⟨fun σ H z => wA_of pa_nil ⟨z, Ltr.refl, [], rfl, rfl, .nil⟩⟩
theorem efs_cons {R : List PyData → Prop} (h1 : ED X M d L ns Γ e S) (h2 : EFs X M d L ns Γ es R) (hs : starEach (e :: es) X.env = (false, eval e X.env) :: starEach es X.env := by rfl) : EFs X M d L ns Γ (e :: es) (fun ds => ∃ z r, S z ∧ R r ∧ ds = z :: r) :=
  ⟨fun σ H z => wA_of (pa_cons pe_w pa_w hs) (h1.go z fun v H1 l1 z1 ⟨y, hy, q⟩ => wA_mono (h2.run σ H1 z1) fun vs H2 ⟨z2, l2, r, hr, hz, qr⟩ => ⟨z2, l1.trans l2, _, ⟨y, r, hy, hr, rfl⟩, congrArg Nat.succ hz, .cons (dp_up l2.s _ _ q) qr⟩)⟩
theorem EFs.mono {S T : List PyData → Prop} (h : EFs X M d L ns Γ es S) (k : ∀ ds, S ds → T ds) : EFs X M d L ns Γ es T := ⟨fun σ H z => wA_mono (h.run σ H z) fun vs H' ⟨z1, l, ds, hs, hz, q⟩ => ⟨z1, l, ds, k ds hs, hz, q⟩⟩
theorem ed_tup {k : Nat} {S : List PyData → Prop} (hd : d ∈ M) (h : EFs X M d L ns Γ es S) (hl : es.length ≤ 100000 := by exact Nat.le_of_ble_eq_true rfl) : ED X M d L ns Γ (.Tuple es k pos) (fun z => ∃ ds, S ds ∧ z = .tuple ds) :=
  .by_ hd fun σ H z => wE_of (pe_tup pa_w) (wA_mono (h.run σ H z) fun vs H1 ⟨z1, l1, ds, hs, hz, q⟩ => ⟨by rw [dpAll_len q, hz]; exact sz_of hl, fun p hp => by
    have hpM := z1.new_ hp
    obtain ⟨z2, l2⟩ := z1.up (same_new hp (o := .tup vs))
    exact ⟨z2, l1.trans l2, .tuple ds, ⟨ds, hs, rfl⟩, .tup (SqT.of (by rw [cuts_out hpM]; exact upd_same)) (dpAll_up l2.s _ _ q)⟩⟩)
theorem ed_lst {S : List PyData → Prop} (hd : d ∈ M) (h : EFs X M d L ns Γ es S) (hl : es.length ≤ 100000 := by exact Nat.le_of_ble_eq_true rfl) : ED X M d L ns Γ (.List es pos) (fun z => ∃ ds, S ds ∧ z = .list ds) :=
  .by_ hd fun σ H z => wE_of (pe_lst pa_w) (wA_mono (h.run σ H z) fun vs H1 ⟨z1, l1, ds, hs, hz, q⟩ => ⟨by rw [dpAll_len q, hz]; exact sz_of hl, fun p hp => by
    have hpM := z1.new_ hp
    obtain ⟨z2, l2⟩ := z1.up (same_new hp (o := .lst vs))
    exact ⟨z2, l1.trans l2, .list ds, ⟨ds, hs, rfl⟩, .lst (SqL.of (by rw [cuts_out hpM]; exact upd_same)) (dpAll_up l2.s _ _ q)⟩⟩)
theorem ed_add (hd : d ∈ M) (ha : ED X M d L ns Γ a S) (hb : ED X M d L ns Γ b T) (h : ∀ z w, S z → T w → ∃ i j : Int, z = .int i ∧ w = .int j ∧ R (.int (i + j))) : ED X M d L ns Γ (.BinOp a .Add b pos) R :=
  .by_ hd fun σ H z => wE_of (pe_op op_add pe_w pe_w) (ha.go z fun v H1 l1 z1 ⟨d1, h1, q1⟩ => hb.go z1 fun u H2 l2 z2 ⟨d2, h2, q2⟩ => by
    obtain ⟨i, j, rfl, rfl, hr⟩ := h d1 d2 h1 h2
    exact ⟨i, j, dp_int q1, dp_int q2, z2, l1.trans l2, _, hr, .int _⟩)
/-- 1 + draw -/
theorem ed_inc {n : Int} {j : Nat} (hd : d ∈ M) (hb : ED X M d L ns Γ b (rgD 0 n)) : ED X M d L ns Γ (.BinOp (.Constant (.int 1) j p) .Add b pos) (rgD 1 (n + 1)) :=
  ed_add hd (ed_is hd (ev_int (i := 1))) hb fun z w hz ⟨i, h0, h1, e⟩ => ⟨1, i, hz, e, 1 + i, by omega, by omega, rfl⟩
/-- draw // k -/
theorem ed_div {n k : Int} {j : Nat} (hd : d ∈ M) (hb : ED X M d L ns Γ b (rgD 0 n)) (hk : 0 < k) (hk2 : k < 2 ^ 60) : ED X M d L ns Γ (.BinOp b .FloorDiv (.Constant (.int k) j p) pos) (fun z => ∃ i : Int, 0 ≤ i ∧ i < n ∧ z = .int (i / k)) :=
  .by_ hd fun σ H z => wE_of (pe_op op_fdivW pe_w pe_w) (hb.go z fun v H1 l1 z1 ⟨d1, ⟨i, h0, h1, e⟩, q1⟩ => (EF.ev hd (ev_int (i := k))).go z1 fun u H2 l2 z2 q2 => by
    subst e
    exact ⟨i, k, dp_int q1, dp_int q2, wide_div (b := 60) hk (by omega) (by decide) (by decide), z2, l1.trans l2, _, ⟨i, h0, h1, rfl⟩, .int _⟩)
/-- draw == k -/
theorem ed_eqK {n k : Int} {j : Nat} (hd : d ∈ M) (hb : ED X M d L ns Γ b (rgD 0 n)) : ED X M d L ns Γ (.Compare b [.Eq] [.Constant (.int k) j p] pos) (fun z => ∃ t : Bool, z = .bool t) :=
  .by_ hd fun σ H z => wE_of (pe_cmpR op_eq pe_w pe_w (nomark _)) (hb.go z fun v H1 l1 z1 ⟨d1, ⟨i, h0, h1, e⟩, q1⟩ => (EF.ev hd (ev_int (i := k))).go z1 fun u H2 l2 z2 q2 => by
    subst e
    cases dp_int q1
    cases dp_int q2
    exact ⟨rfl, z2, l1.trans l2, _, ⟨_, rfl⟩, .bl _⟩)
/-- a and b, a known -/
theorem ed_and {t : Bool} (hd : d ∈ M) (ha : EV X Γ a (isD X.K (.bool t))) (hb : ED X M d L ns Γ b (fun z => ∃ t : Bool, z = .bool t)) : ED X M d L ns Γ (.BoolOp .And [a, b] pos) (fun z => ∃ s : Bool, z = .bool s ∧ (s = true → t = true)) :=
  .by_ hd fun σ H z => wE_of (pe_and pe_w pe_w) ((EF.ev hd ha).go z fun v H1 l1 z1 q1 => by
    refine ⟨t, dp_bl q1, ?_⟩
    cases t with
    | true => exact iteT (wE_of (pe_one pe_w) (hb.go z1 fun u H2 l2 z2 ⟨y, ⟨s, e⟩, q2⟩ => ⟨z2, l1.trans l2, y, ⟨s, e, fun _ => rfl⟩, q2⟩))
    | false => exact iteF ⟨z1, l1, _, ⟨false, rfl, fun h => h⟩, .bl _⟩)
theorem ed_ifK {t : Bool} (hd : d ∈ M) (hc : ET X Γ c t) (ha : t = true → ED X M d L ns Γ a S) (hb : t = false → ED X M d L ns Γ b S) : ED X M d L ns Γ (.IfExp c a b pos) S :=
  .by_ hd fun σ H z => wE_of (pe_ifExp pt_w pe_w pe_w) (ET.useM M hc z.m z.g fun H1 h1 s1 g1 => by
    obtain ⟨a0, l, c, F⟩ := z.f
    have z1 : Dst X M d L ns Γ σ H1 := ⟨z.m.of h1, ⟨a0, l, c, F.fr (X := X) (h1 d hd) s1⟩, g1, hd⟩
    have l1 : Ltr M d H H1 := ⟨fun p hp _ => h1 p hp, s1⟩
    cases t with
    | true => exact iteT ((ha rfl).go z1 fun u H2 l2 z2 q => ⟨z2, l1.trans l2, q⟩)
    | false => exact iteF ((hb rfl).go z1 fun u H2 l2 z2 q => ⟨z2, l1.trans l2, q⟩))
theorem ed_catT {ds : List PyData} (hd : d ∈ M) (ha : EV X Γ a (isD X.K (.tuple ds))) (hb : ED X M d L ns Γ b S) (h : ∀ z, S z → ∃ es, z = .tuple es ∧ es ≠ [] ∧ ds ≠ [] ∧ ds.length + es.length ≤ 100000 ∧ R (.tuple (ds ++ es))) : ED X M d L ns Γ (.BinOp a .Add b pos) R :=
  .by_ hd fun σ H z => wE_of (pe_op op_catA pe_w pe_w) ((EF.ev hd ha).go z fun v H1 l1 z1 r1 => hb.go z1 fun u H2 l2 z2 ⟨y, hy, r2⟩ => by
    obtain ⟨es, rfl, n1, n2, hl, hR⟩ := h y hy
    obtain ⟨q, xs, rfl, hq, hx⟩ := dp_tup r1
    obtain ⟨q2, ys, rfl, hq2, hy⟩ := dp_tup r2
    have e1 := dpAll_len hx
    have e2 := dpAll_len hy
    refine ⟨q, q2, xs, ys, rfl, rfl, sqT_up cuts_same (sqT_up l2.s hq), sqT_up cuts_same hq2, by rw [e1, e2]; exact sz_of hl, fun e => ?_, fun _ e => ?_, fun _ _ l hl => ?_⟩
    · subst e
      cases hx
      exact absurd rfl n2
    · subst e
      cases hy
      exact absurd rfl n1
    · have hpM := z2.new_ hl
      obtain ⟨z3, l3⟩ := z2.up (same_new hl (o := .tup (xs ++ ys)))
      exact ⟨z3, (l1.trans l2).trans l3, _, hR, .tup (SqT.of (by rw [cuts_out hpM]; exact upd_same)) (dpAll_app (dpAll_up (l2.s.trans l3.s) _ _ hx) (dpAll_up l3.s _ _ hy))⟩)
theorem dpAll_mapStr {K : PySem.W.Frag} {H : Hp} : ∀ (ss : List Str), DpAll K H (ss.map V.str) (ss.map PyData.str)
  | [] => .nil
  | _ :: r => .cons (.str _) (dpAll_mapStr r)
/-- text.split() -/
theorem ed_words (hd : d ∈ M) (ho : ED X M d L ns Γ o S) (h : ∀ z, S z → ∃ (t : Str) (ws : List Str), z = .str t ∧ t.length + 2 ≤ sizeLine ∧ Txt.words t = ws ∧ R (.list (ws.map PyData.str)))
    (hbase : attributeBase o "split" X.env (eval o X.env) = eval o X.env := by rfl) (hline : (apos.endLine == pos.line) = true := by rfl) : ED X M d L ns Γ (.Call (.Attribute o "split" apos) [] [] pos) R :=
  .by_ hd fun σ H z => wE_of (pe_words pe_w hbase hline) (ho.go z fun v H1 l1 z1 ⟨y, hy, q⟩ => by
    obtain ⟨t, ws, rfl, ht, hw, hR⟩ := h y hy
    cases dp_str q
    refine ⟨⟨t, rfl⟩, t, rfl, rfl, ht, fun p hp => ?_⟩
    rw [hw]
    have hpM := z1.new_ hp
    obtain ⟨z2, l2⟩ := z1.up (same_new hp (o := .lst (ws.map V.str)))
    exact ⟨z2, l1.trans l2, _, hR, .lst (SqL.of (by rw [cuts_out hpM]; exact upd_same)) (dpAll_mapStr ws)⟩)
/-- _law_pick(feed, things) -/
theorem ed_pick {T : List PyData → Prop} (F : FnS X.prog X.w X.K X.mg X.base "_law_pick" 2 2 (spPick X.K)) (hr : Room 2 X.A) (hd : d ∈ M) (ha : EV X Γ a (isV (.ref d))) (hb : ED X M d L ns Γ b (fun z => ∃ ds, T ds ∧ z = .list ds)) (hT : ∀ ds, T ds → ds ≠ [] ∧ ds.length ≤ 100000 ∧ lfs ds = true ∧ ∀ y ∈ ds, R y) (hg : Gl X "_law_pick" := by rfl)
    (he : starEach [a, b] X.env = (false, eval a X.env) :: starEach [b] X.env := by rfl) (he2 : starEach [b] X.env = (false, eval b X.env) :: starEach [] X.env := by rfl) (hpl : (backTo pos (starEach [b] X.env)).any (·.1) = false := by rfl) : ED X M d L ns Γ (.Call (.Name "_law_pick" p) [a, b] [] pos) R :=
  ⟨fun σ H hm f g => wE_of (pe_callN F hr hg (by decide) he hpl) (wA_of (pa_cons pe_w (pa_cons pe_w pa_nil he2) he) ((EF.ev hd ha).use hd hm f g fun v H1 m1 f1 o1 s1 g1 q1 => hb.use hd m1 f1 g1 fun u H2 m2 f2 o2 s2 g2 q2 => by
    obtain rfl : v = V.ref d := q1
    obtain ⟨_, ⟨ds, hTd, rfl⟩, q2⟩ := q2
    obtain ⟨hne, hl, hlf, hR⟩ := hT ds hTd
    obtain ⟨a0, l, c, F0⟩ := f2
    refine ⟨d, L, ns, u, ds, rfl, hne, hl, dp_up (cuts_le hd) _ _ q2, ⟨a0, l, c, F0.1, dp_up (cuts_le hd) _ _ F0.2⟩, fun r H' x hx hdx f' s' => ?_⟩
    obtain ⟨a', l', c', F'⟩ := f'
    have s3 : Same (cuts M H2) (cuts M H') := cuts_sub hd s'
    have o3 : ∀ p ∈ M, p ≠ d → H' p = H2 p := fun p hp hpd => by
      obtain ⟨z, hz, _⟩ := m2 p hp
      have z2 : cuts [d] H2 p = some z := by rw [cuts_out (by simpa using hpd), hz]
      rw [hz]
      exact (cuts_some (s' p z z2)).2
    have f3 : Feed X.K M d L ns H' := ⟨a', l', c', F'.1, dp_up s3 _ _ F0.2⟩
    have o13 : ∀ p ∈ M, p ≠ d → H' p = H p := fun p hp hpd => (o3 p hp hpd).trans ((o2 p hp hpd).trans (o1 p hp hpd))
    exact ⟨f3, o13, s1.trans (s2.trans s3), x, hR x hx, lf_cuts (f3.cut hm hd o13) (lf_of_lfs hlf x hx) (dp_up cuts_same _ _ hdx)⟩))⟩
/-- a call of a pure def, what changes beside -/
theorem wE_callM {sp : Sp} {n k : Nat} {Q : VK} (F : FnS X.prog X.w X.K X.mg X.base x n k sp) (hr : Room k X.A) (h : wA X (e :: es) σ H fun vs H1 => Cutbs X M H1 ∧ sp vs (cuts M H1) (fun v H' => ∀ H2, (∀ p ∈ M, H2 p = H1 p) → cuts M H2 = H' → Q v H2) E0) (hg : Gl X x := by rfl) (hdb : (x == ("__debug__" : Str)) = false := by decide)
    (he : starEach (e :: es) X.env = (false, eval e X.env) :: starEach es X.env := by rfl) (hpl : (backTo pos (starEach es X.env)).any (·.1) = false := by rfl) : wE X (.Call (.Name x p) (e :: es) [] pos) σ H Q := by
  obtain ⟨f, fd, ps, _, hF, hm, hk, hb⟩ := F.ex
  intro pins s I
  refine wpAny_Call_Name_kw (ld_glob I hg hm (PySem.W.callWith_K (h₀ := X.base) I.ok.mod.kin hk (thn (h pos pins s I) fun us s1 ⟨vs, H1, I1, r, hcut, q1⟩ => ⟨I1.kIn, ?_⟩) he hpl) hdb)
  have r2 : Vals (vs ++ []) (us ++ []) := r.append .nil
  have q2 : sp (vs ++ []) (cuts M H1) (fun v H' => ∀ H2, (∀ p ∈ M, H2 p = H1 p) → cuts M H2 = H' → Q v H2) E0 := by rw [List.append_nil]; exact q1
  have J := inv_hide I1 hcut
  refine wpAny_call (codeAny_mono (hF.run X.A X.stack s1 (cuts M H1) ⟨us, []⟩ (us ++ []) (vs ++ []) _ E0 hr J.env0 (hb s1 us I1.kIn (by rw [← r2.length]; exact hF.len _ _ _ _ q2)) r2 q2) fun z s' hq => ?_)
  cases z with
  | error e => exact hq.elim
  | ok fl =>
    cases fl with
    | ret u =>
      obtain ⟨v, H', J', rv, qv⟩ := J.after hq
      obtain ⟨J2, hn⟩ := inv_show I1 hcut J'
      exact ⟨v, _, J2, rv, qv _ (fun p hp => back_in hp) (cuts_back hn)⟩
    | next => exact hq.elim
    | brk => exact hq.elim
    | cont => exact hq.elim
theorem allT_dp {K : PySem.W.Frag} {H : Hp} : ∀ {vs : List V} {ds : List PyData}, DpAll K H vs ds → AllT H vs (ds.map (isD K))
  | _, _, .nil => .nil
  | _, _, .cons h t => .cons h (allT_dp t)
theorem ed_call {R' : List Ty → Ty → Prop} {S : List PyData → Prop} {n k : Nat} (F : FnS X.prog X.w X.K X.mg X.base x n k (spF R')) (hr : Room k X.A) (hd : d ∈ M) (ha : EFs X M d L ns Γ (e :: es) S) (h : ∀ ds, S ds → ∃ y, T y ∧ R' (ds.map (isD X.K)) (isD X.K y)) (hg : Gl X x := by rfl) (hdb : (x == ("__debug__" : Str)) = false := by decide)
    (he : starEach (e :: es) X.env = (false, eval e X.env) :: starEach es X.env := by rfl) (hpl : (backTo pos (starEach es X.env)).any (·.1) = false := by rfl) : ED X M d L ns Γ (.Call (.Name x p) (e :: es) [] pos) T :=
  .by_ hd fun σ H z => wE_callM (M := M) F hr (wA_mono (ha.run σ H z) fun vs H1 ⟨z1, l1, ds, hs, _, q⟩ => ⟨z1.m, by
    obtain ⟨y, hT, hR⟩ := h ds hs
    refine ⟨_, _, hR, allT_dp q, fun v H' s' q' H2 h2 e2 => ?_⟩
    subst e2
    obtain ⟨a0, l, c, F0⟩ := z1.f
    exact ⟨⟨z1.m.of h2, ⟨a0, l, c, F0.fr (X := X) (h2 d hd) s'⟩, z1.g.up s', hd⟩, l1.trans ⟨fun p hp _ => h2 p hp, s'⟩, y, hT, q'⟩⟩) hg hdb he hpl
/-- for over a list that is drawn -/
theorem wS_forD {tg : Expr} {g : TG} {body : List Stmt} {S : List PyData → Prop} (hg : PG X tg g) (hc : X.calm = true) (z : Dst X M d L ns Γ σ H) (hi : ED X M d L ns Γ iter (fun y => ∃ ds, S ds ∧ y = .list ds))
    (k : ∀ ds H1, S ds → Ltr M d H H1 → Dst X M d L ns Γ σ H1 → ∃ Pv : Nat → L2.St → Hp → Prop, Pv 0 σ H1 ∧ (∀ i σ' H', Pv i σ' H' → Same (cuts M H1) H') ∧
      (∀ i dd v σ' H', ds[i]? = some dd → Dp X.K (cuts M H1) v dd → Pv i σ' H' → g v σ' H' fun σ2 H2 => wB X body { D with nx := Pv (i + 1), ct := Pv (i + 1), bk := D.nx } σ2 H2) ∧ ∀ σ' H', Pv ds.length σ' H' → D.nx σ' H')
    (hp : PassesOwn (model X.prog X.w) X.A X.env X.xe := by exact PassesOwn.never) (hs : ∀ x, foldedSetIterable iter X.env x = pure x := by intro _; rfl) : wS X (.For tg iter body [] pos) D σ H := by
  refine wS_forL hg hc (hi.go z fun v H1 l1 z1 ⟨_, ⟨ds, hS, rfl⟩, q1⟩ => ?_) hp hs
  obtain ⟨Pv, p0, ps, st, dn⟩ := k ds H1 hS l1 z1
  obtain ⟨q, xs, rfl, hq, hx⟩ := dp_lst q1
  refine ⟨q, xs, Pv, rfl, p0, fun i σ' H' _ h => sqL_up (ps i σ' H' h) hq, fun i y σ' H' hy h => ?_, fun σ' H' h => dn σ' H' (by rw [← dpAll_len hx]; exact h)⟩
  obtain ⟨dd, h2, h3⟩ := dpAll_getV hx hy
  exact st i dd y σ' H' h2 h3 h
/-- w.append(e), e drawn -/
theorem wS_appD {C : Addr} {ds : List PyData} (z : Dst X M d L ns Γ σ H) (hC : C ∈ M) (hCd : C ≠ d) (ho : EV X Γ o (isV (.ref C))) (he : ED X M d L ns Γ e S) (h : Lof X.K M H C ds) (hz : ds.length ≤ 100000)
    (k : ∀ y H1, S y → Same (cuts M H) (cuts M H1) → (∀ p ∈ M, p ≠ C → p ≠ d → H1 p = H p) → Lof X.K M H1 C (ds ++ [y]) → Dst X M d L ns Γ σ H1 → D.nx σ H1)
    (hb : attributeBase o "append" X.env (eval o X.env) = eval o X.env := by rfl) (hl : (apos.endLine == cpos.line) = true := by rfl)
    (hw : ((backTo cpos (starEach [e] X.env)).all (fun x => !x.1) && (backToKw cpos (keywordEach [] X.env)).all (fun x => x.1.isSome) && decide (([e] : List Expr).length + ([] : List Keyword).length + (if ([] : List Keyword).isEmpty then 0 else 1) < 30)) = true := by rfl)
    (hs : starEach [e] X.env = (false, eval e X.env) :: starEach [] X.env := by rfl) (hsw : swapsWith (.Call (.Attribute o "append" apos) [e] [] cpos) none pos.line X.env = pure false := by rfl) : wS X (.Expr (.Call (.Attribute o "append" apos) [e] [] cpos) pos) D σ H := by
  refine wS_expr (wE_append ((EF.ev z.hd ho).go z fun v H1 l1 z1 q1 => ?_) hb hl hw hs) hsw
  have e1 : v = .ref C := q1
  subst e1
  obtain ⟨acc, b1, b2⟩ := h.fr (l1.o C hC hCd) l1.s
  refine ⟨C, rfl, ⟨acc, b1⟩, he.go z1 fun y H2 l2 z2 ⟨dy, hy, q2⟩ => ?_⟩
  have ec : cuts M (upd H2 C (.lst (acc ++ [y]))) = cuts M H2 := cuts_upd hC
  have hlen := dpAll_len b2
  obtain ⟨a0, l, c, F0⟩ := z2.f
  refine ⟨acc, (l2.o C hC hCd).trans b1, by rw [sizeLine_eq]; omega, k dy _ hy (by rw [ec]; exact l1.s.trans l2.s) (fun p hp hne hnd => by rw [upd_ne hne]; exact (l2.o p hp hnd).trans (l1.o p hp hnd)) ⟨acc ++ [y], upd_same, ?_⟩ ⟨fun p hp => ?_, ⟨a0, l, c, by rw [upd_ne (Ne.symm hCd)]; exact F0.1, by rw [ec]; exact F0.2⟩, by rw [ec]; exact z2.g, z2.hd⟩⟩
  · rw [ec]
    exact dpAll_app (dpAll_up l2.s _ _ b2) (.cons q2 .nil)
  · by_cases hpC : p = C
    · subst hpC
      exact ⟨_, upd_same, .inl ⟨_, rfl⟩⟩
    · rw [upd_ne hpC]
      exact z2.m p hp
/-- w = [..] that will change, its parts drawn -/
theorem wS_newD {S : List PyData → Prop} (j : Nat) (hN : X.N.Nodup) (z : Dst X M d L ns Γ σ H) (he : EFs X M d L ns Γ es S) (hz2 : es.length ≤ 1000)
    (k : ∀ C ds H1, S ds → C ∉ M → Same (cuts M H) (cuts (C :: M) H1) → Lof X.K (C :: M) H1 C ds → Dst X (C :: M) d L ns (Γ.set j (some (isV (.ref C)))) (σ.set j (some (.ref C))) H1 → D.nx (σ.set j (some (.ref C))) H1)
    (hi : X.N[j]? = some x := by rfl) (hx : Loc X.env.scope x := by first | exact .inl rfl | exact .inr rfl) (hs : swapsWith (.List es p2) (some (.Name x p)) pos.line X.env = pure false := by rfl)
    (hf : X.fn x = true ∨ X.env.scope.names.lookup x = some .local := by first | exact .inl rfl | exact .inr rfl) : wS X (.Assign [.Name x p] (.List es p2) pos) D σ H := by
  refine wS_set j hN (wE_lst (wA_mono (he.run σ H z) fun vs H1 ⟨z1, l1, ds, hS, hz, q⟩ => ?_) hz2) hi hx hs hf
  refine ⟨by rw [dpAll_len q, hz]; exact sz_of (by omega), fun C hC => ?_⟩
  have hCM := z1.new_ hC
  have ec : cuts (C :: M) (upd H1 C (.lst vs)) = cuts M H1 := cuts_add hC
  obtain ⟨a0, l, c, F0⟩ := z1.f
  have hdC : d ≠ C := fun e => hCM (e ▸ z1.hd)
  have z2 : Dst X (C :: M) d L ns Γ σ (upd H1 C (.lst vs)) := ⟨fun p hp => by
    by_cases hpC : p = C
    · subst hpC
      exact ⟨_, upd_same, .inl ⟨_, rfl⟩⟩
    · rw [upd_ne hpC]
      rcases List.mem_cons.mp hp with e | e
      · exact absurd e hpC
      · exact z1.m p e, ⟨a0, l, c, by rw [upd_ne hdC]; exact F0.1, by rw [ec]; exact F0.2⟩, by rw [ec]; exact z1.g, List.mem_cons_of_mem _ z1.hd⟩
  exact k C ds _ hS hCM (by rw [ec]; exact l1.s) ⟨vs, upd_same, by rw [ec]; exact q⟩ (z2.set j (τ := isV (.ref C)) rfl)
theorem cuts_tail {C : Addr} : Same (cuts (C :: M) H) (cuts M H) := by
  rw [cuts_cons]
  exact cuts_same
/-- it changes no more -/
theorem Dst.rest {C : Addr} {ds : List PyData} (z : Dst X (C :: M) d L ns Γ σ H) (j : Nat) (hj : Γ[j]? = some (some (isV (.ref C)))) (h : Lof X.K (C :: M) H C ds) (hC : C ∉ M) (hd : d ∈ M) : Dst X M d L ns (Γ.set j (some (isD X.K (.list ds)))) σ H := by
  obtain ⟨a0, l, c, F0⟩ := z.f
  obtain ⟨a, acc, e, h1, h2⟩ := Lof.rest (X := X) h hC cuts_tail
  exact ⟨fun p hp => z.m p (List.mem_cons_of_mem _ hp), ⟨a0, l, c, F0.1, dp_up cuts_tail _ _ F0.2⟩, (z.g.up cuts_tail).re j hj (by rw [e]; exact .lst (SqL.of h1) h2), hd⟩
end
end EC

set_option Elab.async false
set_option linter.all false
set_option maxRecDepth 100000
set_option maxHeartbeats 8000000
/-! EcS1: _law_bent_code. -/
namespace EC
open PySem PySem.Spec PyProof.Rows L2
def Ins.w : Ins → Str
  | .set _ _ _ => "set"
  | .ask _ _ => "ask"
  | .jump _ _ => "jump"
  | .unl _ _ _ => "unless"
  | .mark _ => "mark"
  | .off _ => "off"
  | .fin => "end"
def Ins.fs : Ins → List PyData
  | .set x e c => [.str x, e.d, .int c]
  | .ask x c => [.str x, .int c]
  | .jump p c => [.int (p : Nat), .int c]
  | .unl t p c => [t.d, .int (p : Nat), .int c]
  | .mark c => [.int c]
  | .off c => [.int c]
  | .fin => []
theorem Ins.d_eq (i : Ins) : i.d = .tuple (.str i.w :: i.fs) := by cases i <;> rfl
theorem cutD_to {ds : List PyData} {n : Nat} (h : n ≤ ds.length) : cutD ds none (some ((n : Nat) : Int)) = ds.take n := by
  unfold cutD
  rw [HT.sIx_none, HT.sIx_nat, Nat.min_eq_left h]
  simp
theorem cutD_from {ds : List PyData} {n : Nat} (h : n ≤ ds.length) : cutD ds (some ((n : Nat) : Int)) none = ds.drop n := by
  unfold cutD
  rw [HT.sIx_none, HT.sIx_nat, Nat.min_eq_left h]
  exact List.take_of_length_le (by simp)
theorem atI_zero {y : PyData} {r : List PyData} : atI (y :: r) (0 : Int) = some y := atI_nat (xs := y :: r) (j := 0) rfl
theorem ok_plus : PyData.strOk "plus" = true := by decide +kernel
theorem ok_minus : PyData.strOk "minus" = true := by decide +kernel
theorem ex_shaped {N : List Str} (hs : ∀ x ∈ N, PyData.strOk x = true) {e : Ex} (h : exN N e) : SeqAt.shaped e.d = true := by
  have ha : ∀ a : Atm, atmN N a → a.d.canLay0 = true ∧ a.d.depth = 0 := fun a h => by
    cases a with
    | num n => exact ⟨by simp [Atm.d, PyData.canLay0], by simp [Atm.d, PyData.depth]⟩
    | var x => exact ⟨by simp [Atm.d, PyData.canLay0, hs x h], by simp [Atm.d, PyData.depth]⟩
  cases e with
  | atm a => simp [Ex.d, SeqAt.shaped, ha a h]
  | plus a b => simp [Ex.d, SeqAt.shaped, PyData.canLay0, PyData.canLayAll0, PyData.depth, PyData.depthAll, ha a h.1, ha b h.2, ok_plus]
  | minus a b => simp [Ex.d, SeqAt.shaped, PyData.canLay0, PyData.canLayAll0, PyData.depth, PyData.depthAll, ha a h.1, ha b h.2, ok_minus]
section
variable {X : Cx} {Γ : List (Option Ty)} {a : Expr} {pos p2 : Pos}
/-- a slice as a list of one's own -/
theorem ev_sliceLL {ds : List PyData} {lo hi : Option Expr} {l u : Option Int} (ha : EV X Γ a (isD X.K (.list ds))) (hl : EO X Γ lo l) (hu : EO X Γ hi u) : EV X Γ (.Subscript a (.Slice lo hi none p2) pos) (isL X.K (cutD ds l u)) := by
  obtain ⟨t1, p1, q1⟩ := hl.run
  obtain ⟨t2, p2', q2⟩ := hu.run
  exact .of (pe_slice sl_list pe_w p1 p2') fun σ H g => ha.use g fun v H1 s1 r1 => q1 σ H1 (g.up s1) _ fun H2 s2 => q2 σ H2 ((g.up s1).up s2) _ fun H3 s3 => by
    obtain ⟨q, xs, rfl, hq, hx⟩ := dp_lst r1
    exact ⟨q, xs, rfl, sqL_up (s2.trans s3) hq, fun l hl => ⟨s1.trans (s2.trans (s3.trans (same_new hl))), l, _, rfl, upd_same, dpAll_cut (dpAll_up (s2.trans (s3.trans (same_new hl))) _ _ hx) _ _⟩⟩
end
def nmD (N : List Str) : PyData → Prop := fun y => ∃ x ∈ N, y = .str x
def spBent (K : PySem.W.Frag) : Sp := fun vs H Q _ => ∃ (d L : Addr) (ns : List Int) (cv nv : V) (N : List Str) (code : List Ins), vs = [.ref d, cv, nv] ∧ CodeN N code ∧ N ≠ [] ∧ N.length ≤ 100 ∧ (∀ x ∈ N, PyData.strOk x = true) ∧ Dp K (cuts [d] H) cv (.list (code.map Ins.d)) ∧ Dp K (cuts [d] H) nv (.list (N.map PyData.str)) ∧ Feed K [d] d L ns H ∧
  ∀ (r : V) (H' : Hp) (code' : List Ins), CodeN N code' → Dp K (cuts [d] H') r (.list (code'.map Ins.d)) → Feed K [d] d L ns H' → Same (cuts [d] H) (cuts [d] H') → Q r H'
theorem lfs_strs : ∀ N : List Str, lfs (N.map PyData.str) = true
  | [] => rfl
  | _ :: r => by simp [lfs, lf, lfs_strs r]
section
variable {P : Program} {w : World} {K : PySem.W.Frag} {mg : Str → Option Value} {base : Heap}
abbrev P46 : List Str := ["_law_feed_here", "_law_code", "_law_names", "_law_at", "_law_cell", "_law_cost", "_law_sides", "_law_value_here", "_law_new"]
theorem sc_lbent : FnScope P46 ["_law_feed_here", "_law_code", "_law_names"] (defScope (top 46)) := ⟨rfl, rfl, rfl, by decide +kernel, rfl, by decide +kernel, by decide +kernel⟩
abbrev XL46 (P : Program) (w : World) (K : PySem.W.Frag) (mg : Str → Option Value) (base : Heap) (f : Addr) (cdv : Value) (A : Around) (outer : List PySem.Env) (s : Shared) (H : Hp) (E : XK) : Cx := cx P w K mg base P46 "_law_bent_code" (top 46) f cdv A outer s H E
abbrev G46 (K : PySem.W.Frag) (d : Addr) (code : List Ins) (N : List Str) (n : Nat) (cn : Str) (c : Int) (sides ed nd : PyData) : List (Option Ty) :=
  [some (isV (.ref d)), some (isD K (.list (code.map Ins.d))), some (isD K (.list (N.map PyData.str))), some (isD K (.int (n : Nat))), some (isD K (.str cn)), some (isD K (.int c)), some (isD K sides), some (isD K ed), some (isD K nd)]
theorem ok_lbent {f : Addr} {fd : FuncData} (F : Fun K "_law_bent_code" "_law_bent_code" (top 46) f fd) (B : Bi mg) (c1 : FnS P w K mg base "_law_draw" 2 1 (spDraw K)) (c2 : FnS P w K mg base "_law_pick" 2 2 (spPick K)) :
    FnOk P w K mg base CX0 3 f fd ["_law_feed_here", "_law_code", "_law_names"] (spBent K) := by
  refine F.ok sc_lbent (fun vs H Q E h => by obtain ⟨_, _, _, _, _, _, _, rfl, _⟩ := h; rfl) (fun cdv A outer s H vs Q E hr h => ⟨_, pss_w, ?_⟩)
  obtain ⟨d, L, ns, cv, nv, N, code, rfl, hcn, hN0, hNl, hNs, hcv, hnv, hf, kQ⟩ := h
  have nd := sc_lbent.nd
  have hr' : Room 2 (XL46 P w K mg base f cdv A outer s H E).A := hr
  have hu65 := room65 hr'
  have hu64 : (XL46 P w K mg base f cdv A outer s H E).A.units + 64 < cLine := Nat.lt_of_succ_lt hu65
  have hd : d ∈ [d] := by simp
  have hm : Cutbs (XL46 P w K mg base f cdv A outer s H E) [d] H := by
    obtain ⟨a, l, c, F0⟩ := hf
    exact Cutbs.one (Fof.cutb F0)
  have g0 : Env [some (isV (.ref d)), some (isD K (.list (code.map Ins.d))), some (isD K (.list (N.map PyData.str))), none, none, none, none, none, none] (L2.start P46 [.ref d, cv, nv]) (cuts [d] H) := env_start (N := P46) (τs := [isV (.ref d), isD K (.list (code.map Ins.d)), isD K (.list (N.map PyData.str))]) (.cons rfl (.cons hcv (.cons hnv .nil)))
  have z0 : Dst (XL46 P w K mg base f cdv A outer s H E) [d] d L ns _ _ H := ⟨hm, hf, g0, hd⟩
  have hlen := hcn.1
  have hlen2 := hcn.2.1
  have pk : ∀ {Γ : List (Option Ty)} {p1 p2 p3 p4 : Pos}, Γ[0]? = some (some (isV (.ref d))) → Γ[2]? = some (some (isD K (.list (N.map PyData.str)))) → ED (XL46 P w K mg base f cdv A outer s H E) [d] d L ns Γ (.Call (.Name "_law_pick" p1) [.Name "_law_feed_here" p2, .Name "_law_names" p3] [] p4) (nmD N) := fun h0 h2 =>
    ed_pick (T := fun ds => ds = N.map PyData.str) c2 hr' hd (ev_n 0 h0) (ed_ev hd (ev_n 2 h2) ⟨_, rfl, rfl⟩) fun ds e => by
      subst e
      refine ⟨by simpa using hN0, by rw [List.length_map]; omega, lfs_strs N, fun y hy => ?_⟩
      obtain ⟨x, hx, rfl⟩ := List.mem_map.mp hy
      exact ⟨x, hx, rfl⟩
  refine wB_cons (wS_setD 3 nd z0 (ef_draw c1 (hr'.mono (by decide)) hd (ev_n 0 rfl) (ev_sub (ev_lenL B (ev_n 1 rfl)) ev_int) (by rw [List.length_map]; omega) (by rw [List.length_map]; omega)).rD fun x3 v3 H1 ⟨i, i0, i1, e3⟩ l1 z1 => ?_)
  subst e3
  rw [List.length_map] at i1
  obtain ⟨n, rfl⟩ : ∃ n : Nat, i = (n : Int) := ⟨i.toNat, by omega⟩
  have hn : n + 1 < code.length := by omega
  refine wB_cons (wS_par2D 4 5 rfl nd (by decide) z1 (pk rfl rfl) (ed_inc hd (ef_draw c1 (hr'.mono (by decide)) hd (ev_n 0 rfl) ev_int (by decide) (by decide)).rD) fun x4 x5 v4 v5 H2 ⟨cn, hcnm, e4⟩ ⟨c, c0, c9, e5⟩ l2 z2 => ?_)
  subst e4 e5
  have hcost : costOk c := ⟨by omega, by omega⟩
  refine wB_cons (wS_setD 6 nd z2 (ed_lst hd (efs_cons (ed_is hd (ev_int (i := 0))) (efs_cons (ed_is hd (ev_int (i := 1))) (efs_cons (pk rfl rfl) (efs_cons (ed_tup hd (efs_cons (ed_is hd (ev_str (i := "plus"))) (efs_cons (pk rfl rfl) (efs_cons (ed_is hd (ev_int (i := 1))) efs_nil)))) efs_nil))))) fun x6 v6 H3 hx6 l3 z3 => ?_)
  obtain ⟨_, ⟨_, _, rfl, ⟨_, _, rfl, ⟨_, _, ⟨n1, hn1, rfl⟩, ⟨_, _, ⟨_, ⟨_, _, rfl, ⟨_, _, ⟨n2, hn2, rfl⟩, ⟨_, _, rfl, rfl, rfl⟩, rfl⟩, rfl⟩, rfl⟩, rfl, rfl⟩, rfl⟩, rfl⟩, rfl⟩, rfl⟩ := hx6
  have hci : code[n]? = some (code[n]'(by omega)) := List.getElem?_eq_getElem (by omega)
  generalize code[n]'(by omega) = ins at hci
  have hins := hcn.2.2 n ins hci
  refine wB_cons (wS_par2D 7 8 rfl nd (by decide) z3 (ed_pick (T := fun ds => ds = [.int 0, .int 1, .str n1, .tuple [.str "plus", .str n2, .int 1]]) (R := fun y => ∃ e : Ex, exN N e ∧ y = e.d) c2 hr' hd (ev_n 0 rfl) (ed_ev hd (ev_n 6 rfl) ⟨_, rfl, rfl⟩) fun ds e => ?_) (ed_is hd (ev_ixL (ev_n 1 rfl) (ev_n 3 rfl) (atI_nat (by rw [List.getElem?_map, hci]; rfl) : atI (code.map Ins.d) ((n : Nat) : Int) = some ins.d))) fun x7 x8 v7 v8 H4 ⟨e, he, e7⟩ e8 l4 z4 => ?_)
  · subst e
    refine ⟨by simp, by simp, rfl, fun y hy => ?_⟩
    simp only [List.mem_cons, List.not_mem_nil, or_false] at hy
    rcases hy with rfl | rfl | rfl | rfl
    · exact ⟨.atm (.num 0), trivial, rfl⟩
    · exact ⟨.atm (.num 1), trivial, rfl⟩
    · exact ⟨.atm (.var n1), hn1, rfl⟩
    · exact ⟨.plus (.var n2) (.num 1), ⟨hn2, trivial⟩, rfl⟩
  subst e7 e8
  have sx := ((l1.s.trans l2.s).trans l3.s).trans l4.s
  have h8 : ∀ j : Ins, (some (some (isD K j.d)) : Option (Option Ty)) = some (some (isD K (.tuple (.str j.w :: j.fs)))) := fun j => by rw [Ins.d_eq]
  generalize hsd : PyData.list [.int 0, .int 1, .str n1, .tuple [.str "plus", .str n2, .int 1]] = sides at z4
  have z4' : Dst (XL46 P w K mg base f cdv A outer s H E) [d] d L ns (G46 K d code N n cn c sides e.d ins.d) _ H4 := z4
  refine wB_join (fun σ' H' => ∃ j : Ins, insN N code.length n j ∧ Ltr [d] d H4 H' ∧ Dst (XL46 P w K mg base f cdv A outer s H E) [d] d L ns (G46 K d code N n cn c sides e.d j.d) σ' H') ?_ fun σ5 H5 ⟨j5, hj5, l5, z5⟩ => ?_
  · refine wS_ifD z4' (et_inT (ss := ["set", "ask"]) (ev_ix (ev_n 8 (h8 ins)) ev_int atI_zero) (ev_tup (eds_cons ev_str (eds_cons ev_str eds_nil))) rfl rfl) (fun ht Ha la za => ?_) (fun ht Ha la za => wB_nil ⟨ins, hins, la, za⟩)
    refine wB_one (wS_setD 8 nd za (ed_ifK (S := fun y => ∃ j : Ins, insN N code.length n j ∧ y = j.d) hd (et_eqD hu64 (ev_n 7 rfl) ev_int (ex_shaped hNs he) rfl rfl) (fun _ => ed_ev hd (ev_tup (eds_cons ev_str (eds_cons (ev_n 4 rfl) (eds_cons (ev_n 5 rfl) eds_nil)))) ⟨.ask cn c, ⟨hcnm, hcost, hn⟩, rfl⟩)
      (fun _ => ed_ev hd (ev_tup (eds_cons ev_str (eds_cons (ev_n 4 rfl) (eds_cons (ev_n 7 rfl) (eds_cons (ev_n 5 rfl) eds_nil))))) ⟨.set cn e c, ⟨hcnm, he, hcost, hn⟩, rfl⟩)) fun y v Hb ⟨j, hj, ey⟩ lb zb => ?_)
    subst ey
    exact ⟨j, hj, la.trans lb, zb⟩
  refine wB_join (fun σ' H' => ∃ j : Ins, insN N code.length n j ∧ Ltr [d] d H4 H' ∧ Dst (XL46 P w K mg base f cdv A outer s H E) [d] d L ns (G46 K d code N n cn c sides e.d j.d) σ' H') ?_ fun σ6 H6 ⟨j6, hj6, l6, z6⟩ => ?_
  · refine wS_ifD z5 (et_eqT (ev_ix (ev_n 8 (h8 j5)) ev_int atI_zero) ev_str) (fun ht Ha la za => ?_) (fun ht Ha la za => wB_nil ⟨j5, hj5, l5.trans la, za⟩)
    refine wB_one (wS_setD 8 nd za (ed_ev (S := fun y => ∃ j : Ins, insN N code.length n j ∧ y = j.d) hd (ev_tup (eds_cons ev_str (eds_cons (ev_n 5 rfl) eds_nil))) ⟨.off c, ⟨hcost, hn⟩, rfl⟩) fun y v Hb ⟨j, hj, ey⟩ lb zb => ?_)
    subst ey
    exact ⟨j, hj, (l5.trans la).trans lb, zb⟩
  have hl : (code.map Ins.d).length = code.length := List.length_map ..
  have hfin : (cutD (code.map Ins.d) none (some ((n : Nat) : Int)) ++ [j6.d]) ++ cutD (code.map Ins.d) (some ((n + 1 : Nat) : Int)) none = (code.set n j6).map Ins.d := by
    rw [cutD_to (by omega), cutD_from (by omega), List.map_set, List.set_eq_take_append_cons_drop, if_pos (by omega)]
    simp
  have hCN : CodeN N (code.set n j6) := hcn.like (by simp) fun p i hp => by
    rw [List.getElem?_set] at hp
    split at hp
    · rename_i e
      subst e
      split at hp
      · cases hp
        exact hj6
      · cases hp
    · exact hcn.2.2 p i hp
  have c1l : (cutD (code.map Ins.d) none (some ((n : Nat) : Int))).length ≤ 16 := by rw [cutD_to (by omega), List.length_take]; omega
  have c2l : (cutD (code.map Ins.d) (some ((n + 1 : Nat) : Int)) none).length ≤ 16 := by rw [cutD_from (by omega), List.length_drop]; omega
  refine wB_one (wS_ret ((EF.ev hd (ev_isL (ev_catL (ev_catL (ev_sliceLL (ev_n 1 rfl) eo_none (eo_some (ev_n 3 rfl))) (ev_lstL (eds_cons (ev_n 8 rfl) eds_nil)) (by simp only [List.length_cons, List.length_nil]; omega)) (ev_sliceLL (ev_n 1 rfl) (eo_some (ev_suc (ev_n 3 rfl))) eo_none) (by simp only [List.length_append, List.length_cons, List.length_nil]; omega)))).go z6 fun v H9 l9 z9 q9 => ?_))
  rw [hfin] at q9
  exact kQ v H9 _ hCN q9 z9.f ((sx.trans l6.s).trans l9.s)
end
end EC

set_option Elab.async false
set_option linter.all false
set_option maxRecDepth 100000
set_option maxHeartbeats 8000000
/-! EcS2: sorted cells, sorted texts. -/
namespace EC
open PySem PySem.Spec PyProof.Rows L2
def csort (cs : List Cell) : List Cell := cs.mergeSort (PySem.W.dataLe false Cell.d)
theorem csort_perm (cs : List Cell) : (csort cs).Perm cs := List.mergeSort_perm _ _
theorem cell_alike (c e : Cell) : PySem.W.alike c.d e.d = true := by simp [Cell.d, PySem.W.alike, PySem.W.alikeAll]
theorem cell_depth (c : Cell) : c.d.depth ≤ 4 := by simp [Cell.d, PyData.depth, PyData.depthAll]
section
variable {X : Cx} {Γ : List (Option Ty)} {a e : Expr} {pos : Pos}
theorem eachC_of {pins : List (Addr × Obj)} {σ : L2.St} {H : Hp} {s : Shared} (I : Inv X pins σ H s) : ∀ {xs : List V} {us : List Value} {ms : List Cell}, Vals xs us → DpAll X.K H xs (ms.map Cell.d) → PySem.W.EachIs (fun u m => ∃ x, RelV x u ∧ Dp X.K H x (Cell.d m)) us ms
  | _, _, [], r, h => by
    have h' : DpAll X.K H _ [] := h
    cases h'
    cases r
    exact .nil
  | _, _, m :: ms, r, h => by
    have h' : DpAll X.K H _ (m.d :: ms.map Cell.d) := h
    cases h' with
    | cons h1 h2 =>
      cases r with
      | cons r1 r2 => exact .cons ⟨_, r1, h1⟩ (eachC_of I r2 h2)
theorem eachC_back {H : Hp} : ∀ {us : List Value} {ms : List Cell}, PySem.W.EachIs (fun u m => ∃ x, RelV x u ∧ Dp X.K H x (Cell.d m)) us ms → ∃ xs, Vals xs us ∧ DpAll X.K H xs (ms.map Cell.d)
  | _, _, .nil => ⟨[], .nil, .nil⟩
  | _, _, .cons ⟨x, r, d⟩ t => by
    obtain ⟨xs, h1, h2⟩ := eachC_back t
    exact ⟨x :: xs, .cons r h1, .cons d h2⟩
theorem call_sortC (hu : X.A.units + 8 < cLine) : CallR X (.builtin "sorted") (fun vs H Q => ∃ a xs ms, vs = [.ref a] ∧ SqL X.K H a xs ∧ DpAll X.K H xs (ms.map Cell.d) ∧ ∀ p ys, H p = none → DpAll X.K H ys ((csort ms).map Cell.d) → Q (.ref p) (upd H p (.lst ys))) := by
  intro pins s σ H vs us Q I r h
  obtain ⟨a, xs, ms, rfl, hq, hd, q⟩ := h
  obtain ⟨u, rfl, rx⟩ := vals1 r
  obtain rfl : u = .ref a := rx
  obtain ⟨its, rv, pl, hz⟩ := I.list hq
  have hE := eachC_of I rv hd
  have hl : ms.length = its.length := hE.length.symm
  have hl2 := rv.length
  refine PySem.W.sorted_data (enc := Cell.d) pl.isList hE (hE.mono fun u m ⟨x, r1, d1⟩ => Dp.reads I _ _ _ d1 r1) (PySem.W.AllAlike.of cell_alike) (PySem.W.Sortable.tuples fun m => ⟨_, _, rfl⟩) (by omega) (fun m _ => by have := cell_depth m; omega) fun out ho hout => ?_
  obtain ⟨ys, v1, v2⟩ := eachC_back hout
  obtain ⟨e, he⟩ := sortedAll_at s.heap its out.toArray
  have hly := v1.length
  refine ⟨.ref (s.heap.objs.size + 1), _, I.laid (t' := s.toks) (a := s.heap.objs.size + 1) (o := .lst ys) (fun b u eb => sortedAll_old eb) (Nat.le_succ _) ?_, rfl, q _ ys (I.hok.fresh (Nat.le_succ _)) v2⟩
  exact ⟨by omega, out, e, v1, he⟩
theorem ev_sortC {p : Pos} {ms : List Cell} (hu : X.A.units + 8 < cLine) (hmg : X.mg "sorted" = none) (ha : EV X Γ a (isD X.K (.list (ms.map Cell.d)))) (hg : Gl X "sorted" := by rfl) (hs : starEach [a] X.env = [(false, eval a X.env)] := by rfl) :
    EV X Γ (.Call (.Name "sorted" p) [a] [] pos) (isD X.K (.list ((csort ms).map Cell.d))) :=
  .of (pe_callB (call_sortC hu) hg hmg rfl (pa_cons pe_w pa_nil hs) (he := hs)) fun σ H g => ha.use g fun v H1 s1 q1 => by
    obtain ⟨q, xs, rfl, h1, h2⟩ := dp_lst q1
    exact ⟨q, xs, ms, rfl, h1, h2, fun p ys hp hy => ⟨s1.trans (same_new hp), .lst (SqL.of upd_same) (dpAll_up (same_new hp) _ _ hy)⟩⟩
/-- sorted(texts) -/
theorem ev_sortS {p : Pos} {ss : List Str} (hmg : X.mg "sorted" = none) (ha : EV X Γ a (isD X.K (.list (ss.map PyData.str)))) (hl : ss.length < 64) (hg : Gl X "sorted" := by rfl) (hs : starEach [a] X.env = [(false, eval a X.env)] := by rfl) :
    EV X Γ (.Call (.Name "sorted" p) [a] [] pos) (setT X.K fun y => ∃ ts : List Str, y = .list (ts.map PyData.str) ∧ ts.length < 64) :=
  .of (pe_callB cr_sortedS hg hmg rfl (pa_cons pe_w pa_nil hs) (he := hs)) fun σ H g => ha.use g fun v H1 s1 q1 => by
    obtain ⟨q, xs, rfl, h1, h2⟩ := dp_lst q1
    cases dpAll_strs h2
    exact ⟨q, ss, rfl, h1, hl, fun ys p hp _ hpn => ⟨s1.trans (same_new hpn), _, ⟨ys, rfl, by rw [hp.length_eq]; exact hl⟩, .lst (SqL.of upd_same) (dpAll_mapStr ys)⟩⟩
/-- tuple(texts) -/
theorem ev_tupleS {p : Pos} (B : Bi X.mg) (ha : EV X Γ a (setT X.K fun y => ∃ ts : List Str, y = .list (ts.map PyData.str) ∧ ts.length < 64)) (hg : Gl X "tuple" := by rfl) (he : starEach [a] X.env = (false, eval a X.env) :: starEach [] X.env := by rfl) :
    EV X Γ (.Call (.Name "tuple" p) [a] [] pos) (setT X.K fun y => lf y = true) :=
  .of (pe_callTy call_tuple_of hg B.tuple (by decide +kernel) (pa_cons pe_w pa_nil he) (he := he)) fun σ H g => ha.use g fun v H1 s1 ⟨_, ⟨ts, e1, _⟩, q1⟩ => by
    subst e1
    obtain ⟨q, xs, rfl, hq, hx⟩ := dp_lst q1
    exact ⟨q, xs, rfl, .inl ⟨hq, fun l hl => ⟨s1.trans (same_new hl), .tuple (ts.map PyData.str), by simpa [lf] using lfs_strs ts, .tup (SqT.of upd_same) (dpAll_up (same_new hl) _ _ hx)⟩⟩⟩
end
section
variable {X : Cx} {Γ : List (Option Ty)} {σ : L2.St} {H : Hp} {M : List Addr} {d L : Addr} {ns : List Int} {e : Expr} {pos p : Pos} {D : Ends} {x y z : Str}
/-- x, y, z = a list of three -/
theorem wS_unl3 {px py pz : Pos} {kk : Nat} {d1 d2 d3 : PyData} (i j l : Nat) (hc : X.calm = true) (hN : X.N.Nodup) (w : Dst X M d L ns Γ σ H) (h : EV X Γ e (isD X.K (.list [d1, d2, d3])))
    (k : ∀ v1 v2 v3 H1, Ltr M d H H1 → Dst X M d L ns (((Γ.set i (some (isD X.K d1))).set j (some (isD X.K d2))).set l (some (isD X.K d3))) (((σ.set i (some v1)).set j (some v2)).set l (some v3)) H1 → D.nx (((σ.set i (some v1)).set j (some v2)).set l (some v3)) H1)
    (hi : X.N[i]? = some x := by rfl) (hj : X.N[j]? = some y := by rfl) (hl : X.N[l]? = some z := by rfl)
    (gx : PG X (.Name x px) (gName i) := by first | exact pg_name (by assumption) rfl (.inl rfl) (.inl rfl) | exact pg_name (by assumption) rfl (.inr rfl) (.inl rfl))
    (gy : PG X (.Name y py) (gName j) := by first | exact pg_name (by assumption) rfl (.inl rfl) (.inl rfl) | exact pg_name (by assumption) rfl (.inr rfl) (.inl rfl))
    (gz : PG X (.Name z pz) (gName l) := by first | exact pg_name (by assumption) rfl (.inl rfl) (.inl rfl) | exact pg_name (by assumption) rfl (.inr rfl) (.inl rfl))
    (hs : swapsWithSole [.Tuple [.Name x px, .Name y py, .Name z pz] kk p] e pos.line X.env = pure false := by rfl) (hw : swappedStores [.Tuple [.Name x px, .Name y py, .Name z pz] kk p] e X.env = pure none := by rfl) :
    wS X (.Assign [.Tuple [.Name x px, .Name y py, .Name z pz] kk p] e pos) D σ H :=
  wS_of (ps_asg pe_w (pg_lst (n := 3) hc (pgs_cons gx (pgs_cons gy (pgs_cons gz pgs_nil)))) hs hw) ((EF.ev w.hd h).go w fun v H1 l1 w1 r1 => by
    obtain ⟨a, xs, rfl, hq, hx⟩ := dp_lst r1
    cases hx with
    | cons h1 hx =>
      cases hx with
      | cons h2 hx =>
        cases hx with
        | cons h3 hx =>
          cases hx
          exact ⟨a, _, rfl, sqL_up cuts_same hq, rfl, _, _, rfl, _, _, rfl, _, _, rfl, rfl, k _ _ _ H1 l1 (((w1.set i (τ := isD X.K d1) h1).set j (τ := isD X.K d2) h2).set l h3)⟩)
end
end EC

set_option Elab.async false
set_option linter.all false
set_option maxRecDepth 100000
set_option maxHeartbeats 8000000
/-! EcS3: _law_program, its parts. -/
namespace EC
open PySem PySem.Spec PyProof.Rows L2
/-! ### plain -/
theorem cutD_front {ds : List PyData} (h : ds ≠ []) : cutD ds none (some (-1)) = ds.dropLast := by
  have hp : 0 < ds.length := List.length_pos_iff.mpr h
  have e : HT.sIx ds.length ds.length (some (-1)) = ds.length - 1 := by
    show (if (-1 : Int) < 0 then ((-1 : Int) + (ds.length : Int)).toNat else min (-1 : Int).toNat ds.length) = _
    rw [if_pos (by decide)]
    omega
  unfold cutD
  rw [e, HT.sIx_none, List.drop_zero, Nat.sub_zero, List.dropLast_eq_take]
/-- a row with another last figure -/
theorem recost_fs {j : Ins} {c : Int} (h : 1 < (PyData.str j.w :: j.fs).length) : (PyData.str j.w :: j.fs).dropLast ++ [.int c] = .str (j.recost c).w :: (j.recost c).fs := by
  cases j with
  | fin => exact absurd h (by simp [Ins.fs])
  | _ => rfl
theorem insN_mono {N N' : List Str} (hN : ∀ x ∈ N, x ∈ N') {len at_ : Nat} {j : Ins} (h : insN N len at_ j) : insN N' len at_ j := by
  have ha : ∀ a : Atm, atmN N a → atmN N' a := fun a => by
    cases a with
    | num n => exact fun h => h
    | var x => exact hN x
  have he : ∀ e : Ex, exN N e → exN N' e := fun e => by
    cases e with
    | atm a => exact ha a
    | plus a b => exact fun h => ⟨ha a h.1, ha b h.2⟩
    | minus a b => exact fun h => ⟨ha a h.1, ha b h.2⟩
  have ht : ∀ t : Tst, tstN N t → tstN N' t := fun t => by
    cases t with
    | less a b => exact fun h => ⟨ha a h.1, ha b h.2⟩
    | equal a b => exact fun h => ⟨ha a h.1, ha b h.2⟩
  cases j with
  | set x e c => exact ⟨hN x h.1, he e h.2.1, h.2.2⟩
  | ask x c => exact ⟨hN x h.1, h.2⟩
  | jump p c => exact h
  | unl t p c => exact ⟨ht t h.1, h.2⟩
  | mark c => exact h
  | off c => exact h
  | fin => trivial
/-- the drawn program is well formed -/
theorem drawn_ok {x q s : Str} {code : List Ins} {c1 c2 c3 : Cell} {told : PyData} (hN : [x, q, s].Nodup) (hc : CodeN [x, q, s] code) (n1 : c1.name = x) (n2 : c2.name = q) (n3 : c3.name = s) (o1 : c1.ok) (o2 : c2.ok) (o3 : c3.ok) (ht : lf told = true) :
    Prg.Ok ⟨csort [c1, c2, c3], code, told⟩ := by
  have hp := csort_perm [c1, c2, c3]
  have hpn : ((csort [c1, c2, c3]).map (·.name)).Perm [x, q, s] := by
    have := hp.map (·.name)
    simpa [n1, n2, n3] using this
  refine ⟨hpn.nodup_iff.mpr hN, fun c h => ?_, by rw [hp.length_eq]; simp, fun p i hi => ?_, hc.2.1, ht⟩
  · have h' : c ∈ [c1, c2, c3] := hp.mem_iff.mp h
    simp only [List.mem_cons, List.not_mem_nil, or_false] at h'
    rcases h' with rfl | rfl | rfl
    · exact o1
    · exact o2
    · exact o3
  · exact insN_ok (P := ⟨csort [c1, c2, c3], code, told⟩) (insN_mono (fun y hy => hpn.mem_iff.mpr hy) (hc.2.2 p i hi))
/-- three names, turned -/
theorem turned {a b c : Str} (h : [a, b, c].Nodup) (hs : ∀ y ∈ [a, b, c], PyData.strOk y = true) {t : Int} (h0 : 0 ≤ t) (h1 : t < 3) : ∃ x q s : Str, [x, q, s].Nodup ∧ (∀ y ∈ [x, q, s], PyData.strOk y = true) ∧ cutD ([a, b, c].map PyData.str) (some t) none ++ cutD ([a, b, c].map PyData.str) none (some t) = [.str x, .str q, .str s] := by
  have ht : t = 0 ∨ t = 1 ∨ t = 2 := by omega
  have hp1 : [b, c, a].Perm [a, b, c] := (List.perm_append_comm (l₁ := [b, c]) (l₂ := [a]))
  have hp2 : [c, a, b].Perm [a, b, c] := (List.perm_append_comm (l₁ := [c]) (l₂ := [a, b]))
  rcases ht with rfl | rfl | rfl
  · exact ⟨a, b, c, h, hs, rfl⟩
  · exact ⟨b, c, a, hp1.nodup_iff.mpr h, fun y hy => hs y (hp1.mem_iff.mp hy), rfl⟩
  · exact ⟨c, a, b, hp2.nodup_iff.mpr h, fun y hy => hs y (hp2.mem_iff.mp hy), rfl⟩
/-- code under way: the rows of a scene, some with another cost -/
def Und (N : List Str) (len i : Nat) (cs : List Ins) : Prop := cs.length = i ∧ ∀ p j, cs[p]? = some j → insN N len p j
theorem Und.more {N : List Str} {len i : Nat} {cs : List Ins} {j : Ins} (h : Und N len i cs) (hj : insN N len i j) : Und N len (i + 1) (cs ++ [j]) := by
  refine ⟨by simp [h.1], fun p k hk => ?_⟩
  rw [List.getElem?_append] at hk
  split at hk
  · exact h.2 p k hk
  · rename_i hp
    have hpi : p = i := by
      have := (List.getElem?_eq_some_iff.mp hk).1
      have h1 := h.1
      simp at this
      omega
    subst hpi
    rw [h.1, Nat.sub_self] at hk
    cases hk
    exact hj
theorem Und.done {N : List Str} {code cs : List Ins} (hc : CodeN N code) (h : Und N code.length code.length cs) : CodeN N cs := hc.like h.1 h.2
end EC

set_option Elab.async false
set_option linter.all false
set_option maxRecDepth 100000
set_option maxHeartbeats 8000000
/-! EcS4: _law_program. -/
namespace EC
open PySem PySem.Spec PyProof.Rows L2
theorem fs_len (j : Ins) : j.fs.length ≤ 3 := by cases j <;> simp [Ins.fs]
section
variable {X : Cx} {d L : Addr} {ns : List Int} {Γ : List (Option Ty)} {a b c : Expr} {pos p : Pos}
/-- _law_bent_code(feed, code, names) -/
theorem ed_bent {N : List Str} {code : List Ins} (F : FnS X.prog X.w X.K X.mg X.base "_law_bent_code" 3 3 (spBent X.K)) (hr : Room 3 X.A) (ha : EV X Γ a (isV (.ref d))) (hb : EV X Γ b (isD X.K (.list (code.map Ins.d)))) (hc : EV X Γ c (isD X.K (.list (N.map PyData.str)))) (hcn : CodeN N code) (hN : N ≠ []) (hl : N.length ≤ 100) (hs : ∀ x ∈ N, PyData.strOk x = true)
    (hg : Gl X "_law_bent_code" := by rfl) (he : starEach [a, b, c] X.env = (false, eval a X.env) :: starEach [b, c] X.env := by rfl) (he2 : starEach [b, c] X.env = (false, eval b X.env) :: starEach [c] X.env := by rfl) (he3 : starEach [c] X.env = (false, eval c X.env) :: starEach [] X.env := by rfl) (hpl : (backTo pos (starEach [b, c] X.env)).any (·.1) = false := by rfl) :
    ED X [d] d L ns Γ (.Call (.Name "_law_bent_code" p) [a, b, c] [] pos) (fun y => ∃ code' : List Ins, CodeN N code' ∧ y = .list (code'.map Ins.d)) :=
  .by_ (by simp) fun σ H z => wE_of (pe_callN F hr hg (by decide) he hpl) (wA_frame [d] z.m ((evs_cons ha (evs_cons hb (evs_cons hc evs_nil he3) he2) he).run σ _ z.g) fun vs H1 h1 ⟨s1, q⟩ => by
    cases q with
    | cons q1 q =>
      cases q with
      | cons q2 q =>
        cases q with
        | cons q3 q =>
          cases q
          obtain rfl : _ = V.ref d := q1
          obtain ⟨z1, l1⟩ := z.fr h1 s1
          refine ⟨d, L, ns, _, _, N, code, rfl, hcn, hN, hl, hs, q2, q3, z1.f, fun r H' code' hc' hr' f' s' => ?_⟩
          obtain ⟨a', l', c', F'⟩ := f'
          exact ⟨⟨Cutbs.one (Fof.cutb F'), ⟨a', l', c', F'⟩, z1.g.up s', z.hd⟩, l1.trans ⟨fun p hp hpd => absurd (List.mem_singleton.mp hp) hpd, s'⟩, _, ⟨code', hc', rfl⟩, hr'⟩)
end
def spProg (K : PySem.W.Frag) : Sp := fun vs H Q _ => ∃ (d L : Addr) (ns : List Int), vs = [.ref d] ∧ Feed K [d] d L ns H ∧
  ∀ (r : V) (H' : Hp) (p : Prg), p.Ok → 0 < p.code.length → Dp K (cuts [d] H') r p.d → Feed K [d] d L ns H' → Same (cuts [d] H) (cuts [d] H') → Q r H'
section
variable {P : Program} {w : World} {K : PySem.W.Frag} {mg : Str → Option Value} {base : Heap}
abbrev P47 : List Str := ["_law_feed_here", "_law_names", "_law_turn", "_law_x", "_law_q", "_law_s", "_law_code", "_law_row", "_law_is_dear", "_law_lap", "_law_top", "_law_kind", "_law_start", "_law_cells", "_law_told_here"]
theorem sc_lprog : FnScope P47 ["_law_feed_here"] (defScope (top 47)) := ⟨rfl, rfl, rfl, by decide +kernel, rfl, by decide +kernel, by decide +kernel⟩
abbrev XL47 (P : Program) (w : World) (K : PySem.W.Frag) (mg : Str → Option Value) (base : Heap) (f : Addr) (cdv : Value) (A : Around) (outer : List PySem.Env) (s : Shared) (H : Hp) (E : XK) : Cx := cx P w K mg base P47 "_law_program" (top 47) f cdv A outer s H E
abbrev G47 (K : PySem.W.Frag) (d : Addr) (nm : PyData) (t : Int) (x q s : Str) (τ6 : Ty) : List (Option Ty) :=
  [some (isV (.ref d)), some (isD K nm), some (isD K (.int t)), some (isD K (.str x)), some (isD K (.str q)), some (isD K (.str s)), some τ6, none, none, none, none, none, none, none, none]
theorem words1 : Txt.words "x q s" = (["x", "q", "s"] : List Str) := by decide +kernel
theorem words2 : Txt.words "n a m" = (["n", "a", "m"] : List Str) := by decide +kernel
theorem words3 : Txt.words "at by cup" = (["at", "by", "cup"] : List Str) := by decide +kernel
theorem words4 : Txt.words "one two six" = (["one", "two", "six"] : List Str) := by decide +kernel
theorem ok_lprog {f : Addr} {fd : FuncData} (F : Fun K "_law_program" "_law_program" (top 47) f fd) (B : Bi mg) (c1 : FnS P w K mg base "_law_draw" 2 1 (spDraw K)) (c2 : FnS P w K mg base "_law_pick" 2 2 (spPick K)) (c3 : FnS P w K mg base "_law_scene" 4 1 (spF (Rlscene K))) (c4 : FnS P w K mg base "_law_bent_code" 3 3 (spBent K)) :
    FnOk P w K mg base CX0 4 f fd ["_law_feed_here"] (spProg K) := by
  refine F.ok sc_lprog (fun vs H Q E h => by obtain ⟨_, _, _, rfl, _⟩ := h; rfl) (fun cdv A outer s_ H E' Q E hr h => ⟨_, pss_w, ?_⟩)
  obtain ⟨d, L, ns, rfl, hf, kQ⟩ := h
  have nd := sc_lprog.nd
  have hr' : Room 3 (XL47 P w K mg base f cdv A outer s_ H E).A := hr
  have hu65 := room65 hr'
  have hu8 : (XL47 P w K mg base f cdv A outer s_ H E).A.units + 8 < cLine := Nat.lt_of_le_of_lt (Nat.add_le_add_left (by decide : 8 ≤ 65) _) hu65
  have hr1 := hr'.mono (show 1 ≤ 3 by decide)
  have hr2 := hr'.mono (show 2 ≤ 3 by decide)
  have hd : d ∈ [d] := by simp
  have hm : Cutbs (XL47 P w K mg base f cdv A outer s_ H E) [d] H := by
    obtain ⟨a, l, c, F0⟩ := hf
    exact Cutbs.one (Fof.cutb F0)
  have g0 : Env [some (isV (.ref d)), none, none, none, none, none, none, none, none, none, none, none, none, none, none] (L2.start P47 [.ref d]) (cuts [d] H) := env_start (N := P47) (τs := [isV (.ref d)]) (.cons rfl .nil)
  have z0 : Dst (XL47 P w K mg base f cdv A outer s_ H E) [d] d L ns _ _ H := ⟨hm, hf, g0, hd⟩
  -- names
  refine wB_cons (wS_setD 1 nd z0 (ed_words (S := fun y => y ∈ [PyData.str "x q s", .str "n a m", .str "at by cup", .str "one two six"]) (R := fun y => ∃ a b c : Str, [a, b, c].Nodup ∧ (∀ y ∈ [a, b, c], PyData.strOk y = true) ∧ y = .list ([a, b, c].map PyData.str)) hd
    (ed_pick (T := fun ds => ds = [PyData.str "x q s", .str "n a m", .str "at by cup", .str "one two six"]) c2 hr2 hd (ev_n 0 rfl) (ed_ev hd (ev_lst (eds_cons ev_str (eds_cons ev_str (eds_cons ev_str (eds_cons ev_str eds_nil))))) ⟨_, rfl, rfl⟩) (fun ds e => by subst e; exact ⟨by simp, by simp, rfl, fun y hy => hy⟩)) fun y hy => ?_) fun x1 v1 H1 ⟨a, b, c, hab, hao, e1⟩ l1 z1 => ?_)
  · simp only [List.mem_cons, List.not_mem_nil, or_false] at hy
    rcases hy with rfl | rfl | rfl | rfl
    · exact ⟨_, _, rfl, sz_of (by decide +kernel), words1, "x", "q", "s", by decide +kernel, by decide +kernel, rfl⟩
    · exact ⟨_, _, rfl, sz_of (by decide +kernel), words2, "n", "a", "m", by decide +kernel, by decide +kernel, rfl⟩
    · exact ⟨_, _, rfl, sz_of (by decide +kernel), words3, "at", "by", "cup", by decide +kernel, by decide +kernel, rfl⟩
    · exact ⟨_, _, rfl, sz_of (by decide +kernel), words4, "one", "two", "six", by decide +kernel, by decide +kernel, rfl⟩
  subst e1
  -- turn
  refine wB_cons (wS_setD 2 nd z1 (ef_draw c1 hr1 hd (ev_n 0 rfl) ev_int (by decide) (by decide)).rD fun x2 v2 H2 ⟨t, t0, t3, e2⟩ l2 z2 => ?_)
  subst e2
  obtain ⟨x, q, s, hN, hNs, hcut⟩ := turned hab hao t0 t3
  refine wB_cons (wS_unl3 (d1 := .str x) (d2 := .str q) (d3 := .str s) 3 4 5 rfl nd z2 (by
    rw [← hcut]
    exact ev_isL (ev_catL (ev_sliceLL (ev_n 1 rfl) (eo_some (ev_n 2 rfl)) eo_none) (ev_sliceLL (ev_n 1 rfl) eo_none (eo_some (ev_n 2 rfl))) (by
      have z := congrArg List.length hcut
      rw [List.length_append] at z
      rw [z]
      exact Nat.le_of_ble_eq_true rfl))) fun v3 v4 v5 H3 l3 z3 => ?_)
  have s3 : Same (cuts [d] H) (cuts [d] H3) := (l1.s.trans l2.s).trans l3.s
  clear hcut hab hao
  generalize PyData.list ([a, b, c].map PyData.str) = nm at z3
  -- code
  refine wB_cons (wS_newD 6 nd z3 efs_nil (by decide) fun C ds H4 hds hC s4 lof4 z4 => ?_)
  subst hds
  have hCd : C ≠ d := fun e => hC (by simp [e])
  have hd2 : d ∈ [C, d] := by simp
  have hC2 : C ∈ [C, d] := by simp
  refine wB_cons (wS_forD (S := fun ds => ∃ i : Int, 0 ≤ i ∧ i < 12 ∧ ds = (sceneI i x q s).map Ins.d) (pg_name (i := 7) nd rfl (.inl rfl)) rfl z4 (ed_call c3 hr1 hd2 (efs_cons (ef_draw c1 hr1 hd2 (ev_n 0 rfl) (ev_int (i := 12)) (by decide) (by decide)).rD (efs_cons (ed_is hd2 (ev_n 3 rfl)) (efs_cons (ed_is hd2 (ev_n 4 rfl)) (efs_cons (ed_is hd2 (ev_n 5 rfl)) efs_nil)))) fun ds hds => ?_) fun ds H5 ⟨i, i0, i12, eds⟩ l5 z5 => ?_)
  · obtain ⟨_, _, ⟨i, i0, i1, rfl⟩, ⟨_, _, rfl, ⟨_, _, rfl, ⟨_, _, rfl, rfl, rfl⟩, rfl⟩, rfl⟩, rfl⟩ := hds
    exact ⟨.list ((sceneI i x q s).map Ins.d), ⟨_, ⟨i, i0, i1, rfl⟩, rfl⟩, i, x, q, s, rfl, rfl⟩
  subst eds
  have hsc := scene_ok (x := x) (q := q) (s := s) i0 i12
  generalize sceneI i x q s = sc at hsc
  have z5' : Dst (XL47 P w K mg base f cdv A outer s_ H E) [C, d] d L ns (G47 K d nm t x q s (isV (.ref C))) _ H5 := z5
  refine ⟨fun n σ' H' => ∃ cs : List Ins, Und [x, q, s] sc.length n cs ∧ Lof K [C, d] H' C (cs.map Ins.d) ∧ Dst (XL47 P w K mg base f cdv A outer s_ H E) [C, d] d L ns (G47 K d nm t x q s (isV (.ref C))) σ' H' ∧ Same (cuts [C, d] H5) (cuts [C, d] H'),
    ⟨[], ⟨rfl, fun p j h => by cases h⟩, lof4.fr (l5.o C hC2 hCd) l5.s, z5', Same.refl _⟩, (fun _ _ _ h => by obtain ⟨_, _, _, _, z⟩ := h; exact z.trans cuts_same), fun n dd v σ' H' hdd hv h => ?_, fun σ' H' h => ?_⟩
  · obtain ⟨cs, und, lof, zz, sz⟩ := h
    rw [List.getElem?_map] at hdd
    cases hj : sc[n]? with
    | none => rw [hj] at hdd; cases hdd
    | some j =>
      rw [hj] at hdd
      have hdd' : j.d = dd := Option.some.inj hdd
      subst hdd'
      have hjn := hsc.2.2 n j hj
      have h7 : ∀ j : Ins, (some (some (isD K j.d)) : Option (Option Ty)) = some (some (isD K (.tuple (.str j.w :: j.fs)))) := fun j => by rw [Ins.d_eq]
      have za := zz.set 7 (τ := isD K j.d) (dp_up sz _ _ hv)
      refine wB_cons (wS_setD 8 nd za (ed_and (t := decide ((1 : Int) < (((PyData.str j.w :: j.fs).length : Nat) : Int))) hd2 (ev_cmpI (g := fun i j => decide (j < i)) op_gt (nomark _) (ev_lenT B (ev_n 7 (h7 j))) ev_int) (ed_eqK hd2 (ef_draw c1 hr1 hd2 (ev_n 0 rfl) (ev_int (i := 2)) (by decide) (by decide)).rD)) fun bx bv Hb ⟨k, ek, hk⟩ lb zb => ?_)
      subst ek
      have lofb := lof.fr (lb.o C hC2 hCd) lb.s
      have hcsl : cs.length ≤ 16 := by
        have h1 := (List.getElem?_eq_some_iff.mp hj).1
        have h2 := und.1
        have h3 := hsc.2.1
        omega
      refine wB_one (wS_appD (S := fun y => ∃ j' : Ins, insN [x, q, s] sc.length n j' ∧ y = j'.d) zb hC2 hCd (ev_n 6 rfl) (ed_ifK (t := k) hd2 (et_val (ev_n 8 rfl)) (fun hkt => ed_catT hd2 (ev_sliceT (ev_n 7 (h7 j)) eo_none (eo_some (ev_neg ev_int))) (ed_tup hd2 (efs_cons (ed_inc hd2 (ef_draw c1 hr1 hd2 (ev_n 0 rfl) (ev_int (i := 6)) (by decide) (by decide)).rD) efs_nil)) fun y hy => ?_) (fun _ => ed_ev hd2 (ev_n 7 rfl) ⟨j, hjn, rfl⟩)) lofb (by rw [List.length_map]; omega) fun y Hc ⟨j', hj', ey⟩ sc' _ lofc zc => ?_)
      · obtain ⟨_, ⟨_, _, ⟨cc, cc1, cc7, rfl⟩, rfl, rfl⟩, rfl⟩ := hy
        have h1 : 1 < (PyData.str j.w :: j.fs).length := by
          have := of_decide_eq_true (hk hkt)
          omega
        have h3 := fs_len j
        have ef : cutD (PyData.str j.w :: j.fs) none (some (-1)) = (PyData.str j.w :: j.fs).dropLast := cutD_front (by simp)
        refine ⟨[.int cc], rfl, by simp, ?_, ?_, j.recost cc, recost_ok hjn ⟨by omega, by omega⟩, ?_⟩
        · show cutD (PyData.str j.w :: j.fs) none (some (-1)) ≠ []
          rw [ef]
          intro e
          have := congrArg List.length e
          rw [List.length_dropLast] at this
          simp only [List.length_cons, List.length_nil] at this h1
          omega
        · show (cutD (PyData.str j.w :: j.fs) none (some (-1))).length + _ ≤ _
          rw [ef, List.length_dropLast, List.length_cons, List.length_singleton]
          omega
        · show PyData.tuple (cutD (PyData.str j.w :: j.fs) none (some (-1)) ++ _) = _
          rw [ef, recost_fs h1, Ins.d_eq]
      · subst ey
        refine ⟨cs ++ [j'], und.more hj', by rw [List.map_append]; exact lofc, (zc.forget 8).forget 7, (sz.trans lb.s).trans sc'⟩
  obtain ⟨cs, und, lof, zz, sz⟩ := h
  rw [List.length_map] at und
  have hcs := und.done hsc
  have hC1 : C ∉ [d] := hC
  have z6 : Dst (XL47 P w K mg base f cdv A outer s_ H E) [d] d L ns (G47 K d nm t x q s (isD K (.list (cs.map Ins.d)))) σ' H' := zz.rest 6 rfl lof hC1 hd
  have s6 : Same (cuts [d] H) (cuts [d] H') := ((s3.trans s4).trans (l5.s.trans sz)).trans cuts_tail
  clear zz lof und sz z5 z5' lof4 z4 l5 s4 l1 l2 l3 z1 z2 z3 hC hCd hC1 hC2 hd2 hsc
  -- bends
  refine wB_cons (wS_forR (pg_name (i := 9) nd rfl (.inl rfl)) rfl B.range ((ef_draw c1 hr1 hd (ev_n 0 rfl) (ev_int (i := 3)) (by decide) (by decide)).go z6 fun v7 H7 l7 z7 ⟨m, m0, m3, e7⟩ => ?_))
  refine ⟨m, fun n σ' H' => ∃ code : List Ins, CodeN [x, q, s] code ∧ Dst (XL47 P w K mg base f cdv A outer s_ H E) [d] d L ns (G47 K d nm t x q s (isD K (.list (code.map Ins.d)))) σ' H' ∧ Same (cuts [d] H7) (cuts [d] H'), e7, m0, by omega, ⟨cs, hcs, z7, Same.refl _⟩, fun n σ' H' hn h => ?_, fun σ' H' h => ?_⟩
  · obtain ⟨code, hcode, zz, sz⟩ := h
    refine wB_one (wS_setD 6 nd (zz.set 9 (τ := isD K (.int (n : Nat))) (.int _)) (ed_bent (N := [x, q, s]) c4 hr' (ev_n 0 rfl) (ev_n 6 rfl) (ev_lst (eds_cons (ev_n 3 rfl) (eds_cons (ev_n 4 rfl) (eds_cons (ev_n 5 rfl) eds_nil)))) hcode (by simp) (by simp) hNs) fun y yv Hb ⟨code', hc', ey⟩ lb zb => ?_)
    subst ey
    exact ⟨code', hc', zb.forget 9, sz.trans lb.s⟩
  obtain ⟨code, hcode, zz, sz⟩ := h
  have s7 := (s6.trans l7.s).trans sz
  clear z7 z6 hcs l7 s6
  -- top, kind
  refine wB_cons (wS_par2D 10 11 rfl nd (by decide) zz (ed_inc hd (ef_draw c1 hr1 hd (ev_n 0 rfl) (ev_int (i := 3)) (by decide) (by decide)).rD) (ed_pick (T := fun ds => ds = [PyData.str "kept", .str "kept", .str "kept", .str "saved"]) (R := fun y => ∃ k : Str, (k = "saved" ∨ k = "kept") ∧ y = .str k) c2 hr2 hd (ev_n 0 rfl) (ed_ev hd (ev_lst (eds_cons ev_str (eds_cons ev_str (eds_cons ev_str (eds_cons ev_str eds_nil))))) ⟨_, rfl, rfl⟩) (fun ds e => by
    subst e
    refine ⟨by simp, by simp, rfl, fun y hy => ?_⟩
    simp only [List.mem_cons, List.not_mem_nil, or_false] at hy
    rcases hy with rfl | rfl | rfl | rfl
    · exact ⟨_, .inr rfl, rfl⟩
    · exact ⟨_, .inr rfl, rfl⟩
    · exact ⟨_, .inr rfl, rfl⟩
    · exact ⟨_, .inl rfl, rfl⟩)) fun x10 x11 v10 v11 H8 ⟨tp, tp1, tp4, e10⟩ ⟨kd, hkd, e11⟩ l8 z8 => ?_)
  subst e10 e11
  -- start
  refine wB_cons (wS_setD 12 nd z8 (ef_ifE hd (eft_eq hd (ef_draw c1 hr1 hd (ev_n 0 rfl) (ev_int (i := 3)) (by decide) (by decide))) (ef_draw (n := tp + 1) c1 hr1 hd (ev_n 0 rfl) (ev_add (ev_n 10 rfl) ev_int) (by omega) (by omega)).rD (ed_ev hd (ev_int (i := 0)) ⟨0, by omega, by omega, rfl⟩)) fun x12 v12 H9 ⟨st, st0, st1, e12⟩ l9 z9 => ?_)
  subst e12
  -- cells
  refine wB_cons (wS_newD 13 nd z9 (efs_cons (ed_is hd (ev_tup (eds_cons (ev_n 3 rfl) (eds_cons (ev_n 11 rfl) (eds_cons (ev_n 10 rfl) (eds_cons (ev_n 12 rfl) eds_nil)))))) (efs_cons (ed_tup hd (efs_cons (ed_is hd (ev_n 4 rfl)) (efs_cons (ed_is hd (ev_str (i := "quick"))) (efs_cons (ed_is hd (ev_int (i := 1))) (efs_cons (ef_draw c1 hr1 hd (ev_n 0 rfl) (ev_int (i := 2)) (by decide) (by decide)).rD efs_nil))))) efs_nil)) (by decide) fun C ds H10 hds hC s10 lof10 z10 => ?_)
  obtain ⟨_, _, rfl, ⟨_, _, ⟨_, ⟨_, _, rfl, ⟨_, _, rfl, ⟨_, _, rfl, ⟨_, _, ⟨qs, qs0, qs2, rfl⟩, rfl, rfl⟩, rfl⟩, rfl⟩, rfl⟩, rfl⟩, rfl, rfl⟩, rfl⟩ := hds
  have hCd : C ≠ d := fun e => hC (by simp [e])
  have hd2 : d ∈ [C, d] := by simp
  have hC2 : C ∈ [C, d] := by simp
  refine wB_cons (wS_appD (S := fun y => ∃ c3 : Cell, c3.name = s ∧ c3.ok ∧ y = c3.d) z10 hC2 hCd (ev_n 13 rfl) (ED.mono (ed_tup hd2 (efs_cons (ed_is hd2 (ev_n 5 rfl)) (efs_cons (ed_pick (T := fun ds => ds = [PyData.str "saved", .str "saved", .str "kept"]) (R := fun y => ∃ k : Str, (k = "saved" ∨ k = "kept") ∧ y = .str k) c2 hr2 hd2 (ev_n 0 rfl) (ed_ev hd2 (ev_lst (eds_cons ev_str (eds_cons ev_str (eds_cons ev_str eds_nil)))) ⟨_, rfl, rfl⟩) (fun ds e => by
    subst e
    refine ⟨by simp, by simp, rfl, fun y hy => ?_⟩
    simp only [List.mem_cons, List.not_mem_nil, or_false] at hy
    rcases hy with rfl | rfl | rfl
    · exact ⟨_, .inl rfl, rfl⟩
    · exact ⟨_, .inl rfl, rfl⟩
    · exact ⟨_, .inr rfl, rfl⟩)) (efs_cons (ed_is hd2 (ev_int (i := 1))) (efs_cons (ed_div hd2 (ef_draw c1 hr1 hd2 (ev_n 0 rfl) (ev_int (i := 4)) (by decide) (by decide)).rD (by decide) (by decide)) efs_nil))))) fun y hy => ?_) lof10 (by simp) fun y H11 ⟨c3, n3, o3, ey⟩ s11 _ lof11 z11 => ?_)
  · obtain ⟨_, ⟨_, _, rfl, ⟨_, _, ⟨k, hk, rfl⟩, ⟨_, _, rfl, ⟨_, _, ⟨i, i0, i4, rfl⟩, rfl, rfl⟩, rfl⟩, rfl⟩, rfl⟩, rfl⟩ := hy
    refine ⟨⟨s, k, 1, i / 3⟩, rfl, ⟨.inr hk, ?_, ?_, show (1 : Int) ≤ 9 by decide⟩, rfl⟩
    · exact Int.ediv_nonneg i0 (by decide)
    · show i / 3 ≤ 1
      omega
  subst ey
  have z12 := z11.rest 13 rfl lof11 hC hd
  have s12 : Same (cuts [d] H) (cuts [d] H11) := ((((s7.trans l8.s).trans l9.s).trans s10).trans s11).trans cuts_tail
  -- told
  refine wB_cons (wS_setD 14 nd z12 (ed_pick (T := fun ds => ds ≠ [] ∧ ds.length ≤ 100 ∧ lfs ds = true) (R := fun y => lf y = true) c2 hr2 hd (ev_n 0 rfl) (ED.mono (ed_lst hd (efs_cons (ed_ev (S := fun y => lf y = true) hd (ev_tup (eds_cons (ev_n 3 rfl) eds_nil)) rfl) (efs_cons (ed_ev (S := fun y => lf y = true) hd (ev_tup (eds_cons (ev_n 5 rfl) eds_nil)) rfl) (efs_cons (EF.ev hd (ev_tupleS B (ev_sortS (ss := [x, s]) B.sorted (ev_lst (eds_cons (ev_n 3 rfl) (eds_cons (ev_n 5 rfl) eds_nil))) (by simp)))) (efs_cons (ed_ev (S := fun y => lf y = true) hd (ev_tup (eds_cons (ev_n 3 rfl) eds_nil)) rfl) (efs_cons (ed_ev (S := fun y => lf y = true) hd (ev_tup eds_nil) rfl) efs_nil)))))) fun y hy => ?_) fun ds ⟨h1, h2, h3⟩ => ⟨h1, by omega, h3, lf_of_lfs h3⟩) fun told v14 H12 htold l12 z13 => ?_)
  · obtain ⟨_, ⟨y1, _, h1, ⟨y2, _, h2, ⟨y3, _, h3, ⟨y4, _, h4, ⟨y5, _, h5, rfl, rfl⟩, rfl⟩, rfl⟩, rfl⟩, rfl⟩, rfl⟩ := hy
    exact ⟨_, ⟨by simp, by simp, by simp [lfs, h1, h2, h3, h4, h5]⟩, rfl⟩
  refine wB_one (wS_ret ((EF.ev hd (ev_tup (eds_cons (ev_tupleL B (ev_sortC (ms := [⟨x, kd, tp, st⟩, ⟨q, "quick", 1, qs⟩, c3]) hu8 B.sorted (ev_n 13 rfl))) (eds_cons (ev_tupleL B (ev_n 6 rfl)) (eds_cons (ev_n 14 rfl) eds_nil))))).go z13 fun v H13 l13 z14 q14 => ?_))
  refine kQ v H13 ⟨csort [⟨x, kd, tp, st⟩, ⟨q, "quick", 1, qs⟩, c3], code, told⟩ (drawn_ok hN hcode rfl rfl n3 ⟨.inr hkd, st0, ?_, ?_⟩ ⟨.inl rfl, qs0, ?_, show (1 : Int) ≤ 9 by decide⟩ o3 htold) (by have := hcode.1; show 0 < code.length; omega) q14 z14.f ((s12.trans l12.s).trans l13.s)
  · show st ≤ tp
    omega
  · show tp ≤ 9
    omega
  · show qs ≤ 1
    omega
end
end EC

set_option Elab.async false
set_option linter.all false
set_option maxRecDepth 100000
set_option maxHeartbeats 8000000
/-! EcS5: _law_other. -/
namespace EC
open PySem PySem.Spec PyProof.Rows L2
/-! ### plain: a drawn waking -/
def DrawnV : List Cell → List Int → Prop
  | [], [] => True
  | c :: cs, v :: vs => ((0 ≤ v ∧ v ≤ c.top) ∧ (c.kind = "quick" → v = c.start)) ∧ DrawnV cs vs
  | _, _ => False
theorem DrawnV.ok : ∀ {cs : List Cell} {vs : List Int}, DrawnV cs vs → valsOk cs vs
  | [], [], _ => trivial
  | _ :: _, _ :: _, h => ⟨h.1.1, DrawnV.ok h.2⟩
theorem DrawnV.len : ∀ {cs : List Cell} {vs : List Int}, DrawnV cs vs → vs.length = cs.length
  | [], [], _ => rfl
  | _ :: _, _ :: _, h => congrArg Nat.succ (DrawnV.len h.2)
theorem DrawnV.snoc {c : Cell} {v : Int} (hv : (0 ≤ v ∧ v ≤ c.top) ∧ (c.kind = "quick" → v = c.start)) : ∀ {cs : List Cell} {vs : List Int}, DrawnV cs vs → DrawnV (cs ++ [c]) (vs ++ [v])
  | [], [], _ => ⟨hv, trivial⟩
  | _ :: _, _ :: _, h => ⟨h.1, DrawnV.snoc hv h.2⟩
theorem savedOf_snoc {c : Cell} {v : Int} : ∀ {cs : List Cell} {vs : List Int}, DrawnV cs vs → savedOf (cs ++ [c]) (vs ++ [v]) = savedOf cs vs ++ (if c.sv = true then [v] else [])
  | [], [], _ => by
    show (if c.sv = true then v :: savedOf [] [] else savedOf [] []) = _
    by_cases h : c.sv = true <;> simp [h, savedOf]
  | e :: cs, u :: vs, h => by
    have ih := savedOf_snoc (c := c) (v := v) h.2
    simp only [List.cons_append, savedOf]
    split
    · rw [ih]
      rfl
    · exact ih
theorem wake_drawn : ∀ {cs : List Cell} {vs : List Int}, (∀ c ∈ cs, c.ok) → DrawnV cs vs → wakeVals cs vs (savedOf cs vs) = vs
  | [], [], _, _ => rfl
  | c :: cs, v :: vs, hc, h => by
    have ih := wake_drawn (fun x hx => hc x (by simp [hx])) h.2
    by_cases hs : c.sv = true
    · simp [wakeVals, savedOf, hs, ih]
    · rcases (hc c (by simp)).1 with k | k | k
      · have e := h.1.2 k
        have hn : ¬ c.kind = "kept" := by rw [k]; decide
        simp [wakeVals, savedOf, hs, ih, hn, e]
      · exact absurd (by simp [Cell.sv, k]) hs
      · simp [wakeVals, savedOf, hs, ih, k]
theorem other_good {p : Prg} (hp : p.Ok) {n : Nat} {vs : List Int} (hn : n < p.code.length) (h : DrawnV p.cells vs) : GoodW p ⟨n, savedOf p.cells vs, n, vs⟩ := by
  refine ⟨⟨hn, hn, savedOf_ok h.ok, h.ok⟩, ?_⟩
  unfold Prg.wake
  simp only [wake_drawn hp.cell h]
section
variable {X : Cx} {M : List Addr} {d L C : Addr} {ns : List Int} {Γ : List (Option Ty)} {σ : L2.St} {H H' : Hp} {a b c e iter o : Expr} {es : List Expr} {pos p p2 apos cpos : Pos} {D : Ends} {x y : Str} {Q : VK}
/-- [..] that will change -/
theorem wE_newD {S : List PyData → Prop} (z : Dst X M d L ns Γ σ H) (he : EFs X M d L ns Γ es S) (hz2 : es.length ≤ 1000)
    (k : ∀ C ds H1, S ds → C ∉ M → Same (cuts M H) (cuts (C :: M) H1) → (∀ p ∈ M, p ≠ d → H1 p = H p) → Lof X.K (C :: M) H1 C ds → Dst X (C :: M) d L ns Γ σ H1 → Q (.ref C) H1) : wE X (.List es pos) σ H Q := by
  refine wE_lst (wA_mono (he.run σ H z) fun vs H1 ⟨z1, l1, ds, hS, hz, q⟩ => ?_) hz2
  refine ⟨by rw [dpAll_len q, hz]; exact sz_of (by omega), fun C hC => ?_⟩
  have hCM := z1.new_ hC
  have ec : cuts (C :: M) (upd H1 C (.lst vs)) = cuts M H1 := cuts_add hC
  obtain ⟨a0, l, c, F0⟩ := z1.f
  have hdC : d ≠ C := fun e => hCM (e ▸ z1.hd)
  have z2 : Dst X (C :: M) d L ns Γ σ (upd H1 C (.lst vs)) := ⟨fun p hp => by
    by_cases hpC : p = C
    · subst hpC
      exact ⟨_, upd_same, .inl ⟨_, rfl⟩⟩
    · rw [upd_ne hpC]
      rcases List.mem_cons.mp hp with e | e
      · exact absurd e hpC
      · exact z1.m p e, ⟨a0, l, c, by rw [upd_ne hdC]; exact F0.1, by rw [ec]; exact F0.2⟩, by rw [ec]; exact z1.g, List.mem_cons_of_mem _ z1.hd⟩
  exact k C ds _ hS hCM (by rw [ec]; exact l1.s) (fun p hp hpd => by rw [upd_ne (fun e : p = C => hCM (by rw [← e]; exact hp))]; exact l1.o p hp hpd) ⟨vs, upd_same, by rw [ec]; exact q⟩ z2
/-- w.extend(e), e a list of one's own -/
theorem wS_extD {ds es' : List PyData} (z : Dst X M d L ns Γ σ H) (hC : C ∈ M) (hCd : C ≠ d) (i : Nat) (hi : Γ[i]? = some (some (isV (.ref C)))) (he : EV X Γ e (isL X.K es')) (h : Lof X.K M H C ds) (hz : ds.length + es'.length ≤ 100000)
    (k : ∀ H1, Same (cuts M H) (cuts M H1) → (∀ p ∈ M, p ≠ C → H1 p = H p) → Lof X.K M H1 C (ds ++ es') → Dst X M d L ns Γ σ H1 → D.nx σ H1)
    (hN : X.N[i]? = some x := by rfl) (hv : Vis X.env.scope x := by first | exact .inl rfl | exact .inr (.inl rfl) | exact .inr (.inr rfl)) (hd : (x == ("__debug__" : Str)) = false := by decide) (hcd : (x == ("__classdict__" : Str)) = false := by decide)
    (hb : attributeBase (.Name x p) "extend" X.env (eval (.Name x p) X.env) = eval (.Name x p) X.env := by rfl) (hl : (apos.endLine == cpos.line) = true := by rfl)
    (hw : ((backTo cpos (starEach [e] X.env)).all (fun x => !x.1) && (backToKw cpos (keywordEach [] X.env)).all (fun x => x.1.isSome) && decide (([e] : List Expr).length + ([] : List Keyword).length + (if ([] : List Keyword).isEmpty then 0 else 1) < 30)) = true := by rfl)
    (hs : starEach [e] X.env = (false, eval e X.env) :: starEach [] X.env := by rfl) (hsw : swapsWith (.Call (.Attribute (.Name x p) "extend" apos) [e] [] cpos) none pos.line X.env = pure false := by rfl) : wS X (.Expr (.Call (.Attribute (.Name x p) "extend" apos) [e] [] cpos) pos) D σ H := by
  refine wS_expr (wE_extL z.m hC (wE_nm i z.g hi ⟨rfl, rfl⟩ hN hv hd hcd) h (wE_mono (he.run σ _ z.g) fun v H1 ⟨s, q, acc, e1, h1, h2⟩ => ⟨s, q, acc, e1, h1, h2⟩) hz (fun H1 s1 o1 lof1 => ?_) hb hl hw hs) hsw
  obtain ⟨a0, l, c, F0⟩ := z.f
  refine k H1 s1 o1 lof1 ⟨fun p hp => ?_, ⟨a0, l, c, (o1 d z.hd (Ne.symm hCd)).trans F0.1, dp_up s1 _ _ F0.2⟩, z.g.up s1, z.hd⟩
  by_cases hpC : p = C
  · subst hpC
    exact lof1.cutb
  · rw [o1 p hp hpC]
    exact z.m p hp
/-- for over a tuple -/
theorem wS_forTD {tg : Expr} {g : TG} {body : List Stmt} {ds : List PyData} (hg : PG X tg g) (hc : X.calm = true) (z : Dst X M d L ns Γ σ H) (hi : EV X Γ iter (isD X.K (.tuple ds)))
    (k : ∀ H1, Ltr M d H H1 → Dst X M d L ns Γ σ H1 → ∃ Pv : Nat → L2.St → Hp → Prop, Pv 0 σ H1 ∧ (∀ i σ' H', Pv i σ' H' → Same (cuts M H1) H') ∧
      (∀ i dd v σ' H', ds[i]? = some dd → Dp X.K (cuts M H1) v dd → Pv i σ' H' → g v σ' H' fun σ2 H2 => wB X body { D with nx := Pv (i + 1), ct := Pv (i + 1), bk := D.nx } σ2 H2) ∧ ∀ σ' H', Pv ds.length σ' H' → D.nx σ' H')
    (hp : PassesOwn (model X.prog X.w) X.A X.env X.xe := by exact PassesOwn.never) (hs : ∀ x, foldedSetIterable iter X.env x = pure x := by intro _; rfl) : wS X (.For tg iter body [] pos) D σ H := by
  refine wS_of (ps_for hp hc (pi_tup pe_w) hg pss_w hs) ((EF.ev z.hd hi).go z fun v H1 l1 z1 q1 => ?_)
  obtain ⟨a, xs, rfl, hq, hx⟩ := dp_tup q1
  obtain ⟨Pv, p0, ps, st, dn⟩ := k H1 l1 z1
  refine ⟨a, rfl, ⟨xs, sqT_up cuts_same hq⟩, for_it walk_tup Pv p0 (fun i σ H _ h => sqT_up (ps i σ H h) hq) (fun i y σ H H' _ h yy => ?_) fun σ' H' h => dn σ' H' (by rw [← dpAll_len hx]; exact h)⟩
  obtain ⟨rfl, hy⟩ := yy
  obtain ⟨dd, h2, h3⟩ := dpAll_getV hx hy
  exact st i dd y σ _ h2 h3 h
end
def spOther (K : PySem.W.Frag) : Sp := fun vs H Q _ => ∃ (d L : Addr) (ns : List Int) (pv : V) (p : Prg), vs = [.ref d, pv] ∧ p.Ok ∧ 0 < p.code.length ∧ Dp K (cuts [d] H) pv p.d ∧ Feed K [d] d L ns H ∧
  ∀ (r : V) (H' : Hp) (wk : Mom), GoodW p wk → Dp K (cuts [d] H') r wk.d → Feed K [d] d L ns H' → Same (cuts [d] H) (cuts [d] H') → Q r H'
section
variable {P : Program} {w : World} {K : PySem.W.Frag} {mg : Str → Option Value} {base : Heap}
abbrev P61 : List Str := ["_law_feed_here", "_law_program_here", "_law_place", "_law_saved", "_law_values", "_law_cell", "_law_value_here"]
theorem sc_lother : FnScope P61 ["_law_feed_here", "_law_program_here"] (defScope (top 61)) := ⟨rfl, rfl, rfl, by decide +kernel, rfl, by decide +kernel, by decide +kernel⟩
abbrev XL61 (P : Program) (w : World) (K : PySem.W.Frag) (mg : Str → Option Value) (base : Heap) (f : Addr) (cdv : Value) (A : Around) (outer : List PySem.Env) (s : Shared) (H : Hp) (E : XK) : Cx := cx P w K mg base P61 "_law_other" (top 61) f cdv A outer s H E
abbrev G61 (K : PySem.W.Frag) (p : Prg) (d C1 C2 : Addr) (n : Nat) : List (Option Ty) :=
  [some (isV (.ref d)), some (isD K p.d), some (isD K (.int (n : Nat))), some (isV (.ref C1)), some (isV (.ref C2)), none, none]
theorem ok_lother {f : Addr} {fd : FuncData} (F : Fun K "_law_other" "_law_other" (top 61) f fd) (B : Bi mg) (c1 : FnS P w K mg base "_law_draw" 2 1 (spDraw K)) : FnOk P w K mg base CX0 2 f fd ["_law_feed_here", "_law_program_here"] (spOther K) := by
  refine F.ok sc_lother (fun vs H Q E h => by obtain ⟨_, _, _, _, _, rfl, _⟩ := h; rfl) (fun cdv A outer s_ H E' Q E hr h => ⟨_, pss_w, ?_⟩)
  obtain ⟨d, L, ns, pv, p, rfl, hp, hpc, hpv, hf, kQ⟩ := h
  have nd := sc_lother.nd
  have hr1 : Room 1 (XL61 P w K mg base f cdv A outer s_ H E).A := hr
  have hd : d ∈ [d] := by simp
  have hm : Cutbs (XL61 P w K mg base f cdv A outer s_ H E) [d] H := by
    obtain ⟨a, l, c, F0⟩ := hf
    exact Cutbs.one (Fof.cutb F0)
  have g0 : Env [some (isV (.ref d)), some (isD K p.d), none, none, none, none, none] (L2.start P61 [.ref d, pv]) (cuts [d] H) := env_start (N := P61) (τs := [isV (.ref d), isD K p.d]) (.cons rfl (.cons hpv .nil))
  have z0 : Dst (XL61 P w K mg base f cdv A outer s_ H E) [d] d L ns _ _ H := ⟨hm, hf, g0, hd⟩
  have hcode := hp.ncode
  have hl : (p.code.map Ins.d).length = p.code.length := List.length_map ..
  refine wB_cons (wS_par3 2 3 4 rfl nd (by decide) (by decide) (by decide) ((ef_draw (n := ((p.code.map Ins.d).length : Nat)) c1 hr1 hd (ev_n 0 rfl) (ev_lenT B (ev_ix (ds := [.tuple (p.cells.map Cell.d), .tuple (p.code.map Ins.d), p.told]) (i := 1) (ev_n 1 rfl) ev_int rfl)) (by omega) (by omega)).go z0 fun v2 H1 l1 z1 ⟨i, i0, i1, e2⟩ => wE_newD z1 efs_nil (by decide) fun C1 ds H2 hds hC1 s2 o2 lof2 z2 => wE_newD z2 efs_nil (by decide) fun C2 ds' H3 hds' hC2 s3 o3 lof3 z3 => ?_))
  subst hds hds'
  obtain ⟨n, rfl⟩ : ∃ n : Nat, i = (n : Int) := ⟨i.toNat, by omega⟩
  have hn : n < p.code.length := by omega
  have hC1d : C1 ≠ d := fun e => hC1 (by simp [e])
  have hC2d : C2 ≠ d := fun e => hC2 (by simp [e])
  have hC21 : C2 ≠ C1 := fun e => hC2 (by simp [e])
  have m1 : C1 ∈ [C2, C1, d] := by simp
  have m2 : C2 ∈ [C2, C1, d] := by simp
  have md : d ∈ [C2, C1, d] := by simp
  have lofs : Lof K [C2, C1, d] H3 C1 ([] : List PyData) := lof2.fr2 (o3 C1 (by simp) hC1d) s3
  have z4 : Dst (XL61 P w K mg base f cdv A outer s_ H E) [C2, C1, d] d L ns (G61 K p d C1 C2 n) (((L2.start P61 [.ref d, pv]).set 2 (some v2)).set 3 (some (.ref C1)) |>.set 4 (some (.ref C2))) H3 :=
    ((z3.set 2 (τ := isD K (.int (n : Nat))) (v := v2) (by rw [e2]; exact .int _)).set 3 (τ := isV (.ref C1)) (v := .ref C1) rfl).set 4 (τ := isV (.ref C2)) (v := .ref C2) rfl
  have s04 : Same (cuts [d] H) (cuts [C2, C1, d] H3) := (l1.s.trans s2).trans s3
  refine wB_cons (wS_forTD (ds := p.cells.map Cell.d) (pg_name (i := 5) nd rfl (.inl rfl)) rfl z4 (ev_ix (ds := [.tuple (p.cells.map Cell.d), .tuple (p.code.map Ins.d), p.told]) (i := 0) (ev_n 1 rfl) ev_int rfl) fun H5 l5 z5 => ?_)
  refine ⟨fun j σ' H' => ∃ vs : List Int, DrawnV (p.cells.take j) vs ∧ Lof K [C2, C1, d] H' C2 (vs.map PyData.int) ∧ Lof K [C2, C1, d] H' C1 ((savedOf (p.cells.take j) vs).map PyData.int) ∧ Dst (XL61 P w K mg base f cdv A outer s_ H E) [C2, C1, d] d L ns (G61 K p d C1 C2 n) σ' H' ∧ Same (cuts [C2, C1, d] H5) (cuts [C2, C1, d] H'),
    ⟨[], trivial, lof3.fr (l5.o C2 m2 hC2d) l5.s, lofs.fr (l5.o C1 m1 hC1d) l5.s, z5, Same.refl _⟩, (fun _ _ _ h => by obtain ⟨_, _, _, _, _, z⟩ := h; exact z.trans cuts_same), fun j dd v σ' H' hdd hv h => ?_, fun σ' H' h => ?_⟩
  · obtain ⟨vs, hvs, lv, ls, zz, sz⟩ := h
    rw [List.getElem?_map] at hdd
    cases hj : p.cells[j]? with
    | none => rw [hj] at hdd; cases hdd
    | some c =>
      rw [hj] at hdd
      have hdd' : c.d = dd := Option.some.inj hdd
      subst hdd'
      have hco := hp.cell c (List.mem_of_getElem? hj)
      have htk : p.cells.take (j + 1) = p.cells.take j ++ [c] := by rw [List.take_succ, hj]; rfl
      have hjl := (List.getElem?_eq_some_iff.mp hj).1
      have hnc := hp.ncell
      have hvl := hvs.len
      rw [List.length_take] at hvl
      have hsl : (savedOf (p.cells.take j) vs).length ≤ vs.length := by
        have : ∀ (cs : List Cell) (vs : List Int), (savedOf cs vs).length ≤ vs.length := fun cs => by
          induction cs with
          | nil => intro vs; simp [savedOf]
          | cons c cs ih =>
            intro vs
            cases vs with
            | nil => simp [savedOf]
            | cons v vs =>
              have := ih vs
              simp only [savedOf]
              split
              · simp only [List.length_cons]; omega
              · simp only [List.length_cons]; omega
        exact this _ _
      have za := zz.set 5 (τ := isD K c.d) (dp_up sz _ _ hv)
      have ec : c.d = .tuple [.str c.name, .str c.kind, .int c.top, .int c.start] := rfl
      refine wB_cons (wS_setD (S := fun y => ∃ v : Int, ((0 ≤ v ∧ v ≤ c.top) ∧ (c.kind = "quick" → v = c.start)) ∧ y = .int v) 6 nd za (ed_ifK (t := decide (c.kind = "quick")) md (et_eqT (ev_ix (ds := [.str c.name, .str c.kind, .int c.top, .int c.start]) (i := 1) (ev_n 5 rfl) ev_int rfl) ev_str)
        (fun ht => ed_ev md (ev_ix (ds := [.str c.name, .str c.kind, .int c.top, .int c.start]) (i := 3) (ev_n 5 rfl) ev_int rfl) ⟨c.start, ⟨⟨hco.2.1, hco.2.2.1⟩, fun _ => rfl⟩, rfl⟩)
        (fun ht => ED.mono (ef_draw (n := c.top + 1) c1 hr1 md (ev_n 0 rfl) (ev_add (ev_ix (ds := [.str c.name, .str c.kind, .int c.top, .int c.start]) (i := 2) (ev_n 5 rfl) ev_int rfl) ev_int) (by have := hco.2; omega) (by have := hco.2; omega)).rD fun y ⟨k, k0, k1, ey⟩ => ⟨k, ⟨⟨k0, by omega⟩, fun hq => absurd hq (of_decide_eq_false ht)⟩, ey⟩)) fun y yv Hb ⟨k, hk, ey⟩ lb zb => ?_)
      subst ey
      have lvb := lv.fr (lb.o C2 m2 hC2d) lb.s
      have lsb := ls.fr (lb.o C1 m1 hC1d) lb.s
      refine wB_cons (wS_appD (S := fun y => y = .int k) zb m2 hC2d (ev_n 4 rfl) (ed_is md (ev_n 6 rfl)) lvb (by rw [List.length_map]; omega) fun y Hc ey sc oc lvc zc => ?_)
      subst ey
      have lsc := lsb.fr (oc C1 m1 (Ne.symm hC21) hC1d) sc
      have hsv : c.sv = decide (c.kind = "saved") := rfl
      refine wB_one (wS_extD (es' := (if c.sv = true then [k] else []).map PyData.int) zc m1 hC1d 3 rfl (ev_ifE (k := decide (c.kind = "saved")) (et_eqT (ev_ix (ds := [.str c.name, .str c.kind, .int c.top, .int c.start]) (i := 1) (ev_n 5 rfl) ev_int rfl) ev_str) (fun ht => by
          rw [hsv, ht]
          exact ev_lstL (ds := [.int k]) (eds_cons (ev_n 6 rfl) eds_nil)) (fun ht => by
          rw [hsv, ht]
          exact ev_lstL (ds := []) eds_nil)) lsc (by rw [List.length_map, List.length_map]; split <;> simp <;> omega) fun He se oe lse ze => ?_)
      have lve := lvc.fr (oe C2 m2 hC21) se
      refine ⟨vs ++ [k], ?_, by rw [List.map_append]; exact lve, ?_, (ze.forget 6).forget 5, ((sz.trans lb.s).trans sc).trans se⟩
      · rw [htk]
        exact hvs.snoc hk
      · rw [htk, savedOf_snoc hvs, List.map_append]
        exact lse
  obtain ⟨vs, hvs, lv, ls, zz, sz⟩ := h
  have htk : p.cells.take (p.cells.map Cell.d).length = p.cells := by rw [List.length_map]; exact List.take_length
  rw [htk] at hvs ls
  have z6 := zz.rest 4 rfl lv hC2 (by simp)
  have z7 := z6.rest 3 rfl (ls.fr2 rfl cuts_tail) hC1 hd
  have s7 : Same (cuts [d] H) (cuts [d] H') := ((s04.trans (l5.s.trans sz)).trans cuts_tail).trans cuts_tail
  exact wB_one (wS_ret ((EF.ev hd (ev_tup (eds_cons (ev_tup (eds_cons (ev_n 2 rfl) (eds_cons (ev_tupleL B (ev_n 3 rfl)) eds_nil))) (eds_cons (ev_n 2 rfl) (eds_cons (ev_tupleL B (ev_n 4 rfl)) eds_nil))))).go z7 fun v H9 l9 z9 q9 => kQ v H9 ⟨n, savedOf p.cells vs, n, vs⟩ (other_good hp hn hvs) q9 z9.f (s7.trans l9.s)))
end
end EC

set_option Elab.async false
set_option linter.all false
set_option maxRecDepth 100000
set_option maxHeartbeats 8000000
/-! EcS6: law. -/
namespace EC
open PySem PySem.Spec PyProof.Rows L2
theorem cutD_mem {α : Type} {f : α → PyData} {ms : List α} {l u : Option Int} : ∃ ns : List α, cutD (ms.map f) l u = ns.map f ∧ ∀ m ∈ ns, m ∈ ms := by
  unfold cutD
  simp only [← List.map_drop, ← List.map_take, List.length_map]
  exact ⟨_, rfl, fun m hm => List.mem_of_mem_drop (List.mem_of_mem_take hm)⟩
section
variable {X : Cx} {d L : Addr} {ns : List Int} {Γ : List (Option Ty)} {a b c : Expr} {pos p : Pos}
/-- _law_program(feed) -/
theorem ed_prog (F : FnS X.prog X.w X.K X.mg X.base "_law_program" 1 4 (spProg X.K)) (hr : Room 4 X.A) (ha : EV X Γ a (isV (.ref d))) (hg : Gl X "_law_program" := by rfl) (he : starEach [a] X.env = (false, eval a X.env) :: starEach [] X.env := by rfl) (hpl : (backTo pos (starEach [] X.env)).any (·.1) = false := by rfl) :
    ED X [d] d L ns Γ (.Call (.Name "_law_program" p) [a] [] pos) (fun y => ∃ p : Prg, p.Ok ∧ 0 < p.code.length ∧ y = p.d) :=
  .by_ (by simp) fun σ H z => wE_of (pe_callN F hr hg (by decide) he hpl) (wA_frame [d] z.m ((evs_cons ha evs_nil he).run σ _ z.g) fun vs H1 h1 ⟨s1, q⟩ => by
    cases q with
    | cons q1 q =>
      cases q
      obtain rfl : _ = V.ref d := q1
      obtain ⟨z1, l1⟩ := z.fr h1 s1
      refine ⟨d, L, ns, rfl, z1.f, fun r H' p hp hpc hr' f' s' => ?_⟩
      obtain ⟨a', l', c', F'⟩ := f'
      exact ⟨⟨Cutbs.one (Fof.cutb F'), ⟨a', l', c', F'⟩, z1.g.up s', z.hd⟩, l1.trans ⟨fun p hp hpd => absurd (List.mem_singleton.mp hp) hpd, s'⟩, _, ⟨p, hp, hpc, rfl⟩, hr'⟩)
/-- _law_other(feed, program) -/
theorem ed_other {pr : Prg} (F : FnS X.prog X.w X.K X.mg X.base "_law_other" 2 2 (spOther X.K)) (hr : Room 2 X.A) (ha : EV X Γ a (isV (.ref d))) (hb : EV X Γ b (isD X.K pr.d)) (hp : pr.Ok) (hpc : 0 < pr.code.length) (hg : Gl X "_law_other" := by rfl)
    (he : starEach [a, b] X.env = (false, eval a X.env) :: starEach [b] X.env := by rfl) (he2 : starEach [b] X.env = (false, eval b X.env) :: starEach [] X.env := by rfl) (hpl : (backTo pos (starEach [b] X.env)).any (·.1) = false := by rfl) :
    ED X [d] d L ns Γ (.Call (.Name "_law_other" p) [a, b] [] pos) (fun y => ∃ wk : Mom, GoodW pr wk ∧ y = wk.d) :=
  .by_ (by simp) fun σ H z => wE_of (pe_callN F hr hg (by decide) he hpl) (wA_frame [d] z.m ((evs_cons ha (evs_cons hb evs_nil he2) he).run σ _ z.g) fun vs H1 h1 ⟨s1, q⟩ => by
    cases q with
    | cons q1 q =>
      cases q with
      | cons q2 q =>
        cases q
        obtain rfl : _ = V.ref d := q1
        obtain ⟨z1, l1⟩ := z.fr h1 s1
        refine ⟨d, L, ns, _, pr, rfl, hp, hpc, q2, z1.f, fun r H' wk hw hr' f' s' => ?_⟩
        obtain ⟨a', l', c', F'⟩ := f'
        exact ⟨⟨Cutbs.one (Fof.cutb F'), ⟨a', l', c', F'⟩, z1.g.up s', z.hd⟩, l1.trans ⟨fun p hp hpd => absurd (List.mem_singleton.mp hp) hpd, s'⟩, _, ⟨wk, hw, rfl⟩, hr'⟩)
end
def spLaw (K : PySem.W.Frag) : Sp := fun vs H Q _ => ∃ (a : Addr) (ns : List Int), vs = [.ref a] ∧ SqL K H a (ns.map V.int) ∧ ∀ H', Q (.bl true) H'
section
variable {P : Program} {w : World} {K : PySem.W.Frag} {mg : Str → Option Value} {base : Heap}
abbrev P62 : List Str := ["_law_script", "_law_feed_here", "_law_lap", "_law_program_here", "_law_net_here", "_law_waking_here", "_law_turn"]
theorem sc_law : FnScope P62 ["_law_script"] (defScope (top 62)) := ⟨rfl, rfl, rfl, by decide +kernel, rfl, by decide +kernel, by decide +kernel⟩
abbrev XL62 (P : Program) (w : World) (K : PySem.W.Frag) (mg : Str → Option Value) (base : Heap) (f : Addr) (cdv : Value) (A : Around) (outer : List PySem.Env) (s : Shared) (H : Hp) (E : XK) : Cx := cx P w K mg base P62 "law" (top 62) f cdv A outer s H E
abbrev G62 (d : Addr) : List (Option Ty) := [none, some (isV (.ref d)), none, none, none, none, none]
abbrev G62p (K : PySem.W.Frag) (P : Program) (w : World) (d : Addr) (p : Prg) : List (Option Ty) := [none, some (isV (.ref d)), none, some (isD K p.d), some (netT K P w p), none, none]
theorem ok_law {f : Addr} {fd : FuncData} (F : Fun K "law" "law" (top 62) f fd) (B : Bi mg) (c1 : FnS P w K mg base "_law_feed" 1 1 (spF (Rlfeed K))) (c2 : FnS P w K mg base "_law_program" 1 4 (spProg K)) (c3 : FnS P w K mg base "_law_net" 2 5 (spF (Rlnet K P w)))
    (c4 : FnGS P w K mg base "_law_waking_right" 2 12 (spF (Rlright K))) (c5 : FnS P w K mg base "_law_other" 2 2 (spOther K)) : FnG P w K mg base 13 f fd ["_law_script"] (spLaw K) := by
  refine gun_of F sc_law (fun vs H Q E h => by obtain ⟨_, _, rfl, _⟩ := h; rfl) fun cdv A outer s H vs Q E hg hr h => ?_
  obtain ⟨a, ns0, rfl, hS, kQ⟩ := h
  have nd := sc_law.nd
  have hr' : Room 12 (XL62 P w K mg base f cdv A outer s H E).A := hr
  have g0 : Env [some (isD K (.list (ns0.map PyData.int))), none, none, none, none, none, none] (L2.start P62 [.ref a]) H := env_start (N := P62) (τs := [isD K (.list (ns0.map PyData.int))]) (.cons (.lst hS (dpAll_mapInt ns0)) .nil)
  refine wB_cons (wS_set 1 nd (EV.use (X := XL62 P w K mg base f cdv A outer s H E) (τ := feedX K) (ev_call c1 (hr'.mono (by decide)) (evs_cons (ev_n 0 rfl) evs_nil) ⟨ns0, rfl, rfl⟩) g0 fun v H1 s1 ⟨d, L, ns, ev, hf⟩ => ?_))
  subst ev
  have hd : d ∈ [d] := by simp
  have hm : Cutbs (XL62 P w K mg base f cdv A outer s H E) [d] H1 := by
    obtain ⟨a, l, c, F0⟩ := hf
    exact Cutbs.one (Fof.cutb F0)
  have g1 : Env (G62 d) ((L2.start P62 [.ref a]).set 1 (some (.ref d))) (cuts [d] H1) := Env.mut (H0 := cuts [d] H1) (((g0.up s1).set 1 (τ := isV (.ref d)) (v := .ref d) rfl).forget 0) (stbG_none (stbG_some stb_V (stbG_none (stbG_none (stbG_none (stbG_none (stbG_none stbG_nil))))))) (Same.refl _) (cutbs_tup hm)
  have z1 : Dst (XL62 P w K mg base f cdv A outer s H E) [d] d L ns (G62 d) _ H1 := ⟨hm, hf, g1, hd⟩
  clear g1 hm g0
  refine wB_cons (wS_forRM (n := 3) (pg_name (i := 2) nd rfl (.inl rfl)) rfl B.range z1.m z1.g (ev_int (i := 3)) (by decide) fun H2 h2 s2 _ => ?_)
  refine ⟨fun _ σ' H' => Dst (XL62 P w K mg base f cdv A outer s H E) [d] d L ns (G62 d) σ' H', (z1.fr h2 s2).1, fun i σ' H' _ zz => ?_, fun σ' H' _ => wB_one (wS_ret (wE_of pe_bl (kQ H')))⟩
  have z3 := (zz.set 2 (τ := isD K (.int (i : Nat))) (v := .int (i : Nat)) (.int _)).forget 2
  refine wB_cons (wS_setD 3 nd z3 (ed_prog c2 (hr'.mono (by decide)) (ev_n 1 rfl)) fun y yv H4 ⟨p, hp, hpc, ey⟩ l4 z4 => ?_)
  subst ey
  refine wB_cons (wS_set 4 nd ((EF.ev hd (ev_call c3 (hr'.mono (by decide)) (evs_cons (ev_n 3 rfl) (evs_cons ev_int evs_nil)) ⟨p, hp, hpc, rfl, rfl⟩)).go z4 fun v H5 l5 z5 q5 => ?_))
  have z6 : Dst (XL62 P w K mg base f cdv A outer s H E) [d] d L ns (G62p K P w d p) _ H5 := z5.set 4 (τ := netT K P w p) q5
  refine wB_cons (wS_forD (S := fun ds => ∃ ms : List Mom, (∀ m ∈ ms, GoodW p m) ∧ ds = ms.map Mom.d) (pg_name (i := 5) nd rfl (.inl rfl)) rfl z6 (.by_ hd fun σ H z => ?_) fun ds H7 ⟨ms, hms, eds⟩ l7 z7 => ?_)
  · obtain ⟨o, ho, g'⟩ := Env.openX (Γ := [none, some (isV (.ref d)), none, some (isD K p.d), none, none, none]) 4 z.g (show (4 : Nat) < 7 from by decide)
    cases o with
    | none => exact EV.useM [d] (τ := isD K (.list ([] : List PyData))) (ev_ifE (et_isNotNon (ev_n 4 rfl)) (fun h => by cases h) (fun _ => ev_lst eds_nil)) z.m g' fun v H1 h1 s1 _ q1 => ⟨(z.fr h1 s1).1, (z.fr h1 s1).2, _, ⟨[], ⟨[], (fun m hm => by cases hm), rfl⟩, rfl⟩, q1⟩
    | some l =>
      obtain ⟨hl, _⟩ := ho l rfl
      obtain ⟨ms, e, hsub⟩ := cutD_mem (f := Mom.d) (ms := l.map (·.1)) (l := none) (u := some 5)
      exact EV.useM [d] (τ := isD K (.list (cutD ((l.map (·.1)).map Mom.d) none (some 5)))) (ev_ifE (et_isNotNonN (l := l) (ev_n 4 rfl)) (fun _ => ev_sliceL (ev_nlist rfl B.list (ev_n 4 rfl)) eo_none (eo_some ev_int)) (fun h => by cases h)) z.m g' fun v H1 h1 s1 _ q1 => ⟨(z.fr h1 s1).1, (z.fr h1 s1).2, _, ⟨_, ⟨ms, fun m hm => by
        obtain ⟨y, hy, rfl⟩ := List.mem_map.mp (hsub m hm)
        exact hl y hy, rfl⟩, rfl⟩, by rw [← e]; exact q1⟩
  subst eds
  refine ⟨fun _ σ' H' => Dst (XL62 P w K mg base f cdv A outer s H E) [d] d L ns (G62p K P w d p) σ' H' ∧ Same (cuts [d] H7) (cuts [d] H'), ⟨z7, Same.refl _⟩, (fun _ _ _ h => h.2.trans cuts_same), fun j dd v σ' H' hdd hv ⟨zz, sz⟩ => ?_, fun σ' H' ⟨zz, _⟩ => ?_⟩
  · rw [List.getElem?_map] at hdd
    cases hj : ms[j]? with
    | none => rw [hj] at hdd; cases hdd
    | some m =>
      rw [hj] at hdd
      have hdd' : m.d = dd := Option.some.inj hdd
      subst hdd'
      have za := zz.set 5 (τ := isD K m.d) (dp_up sz _ _ hv)
      exact wB_one (wS_ifD za (et_not (k := true) (et_val (ev_callG c4 hg hr' (evs_cons (ev_n 3 rfl) (evs_cons (ev_n 5 rfl) evs_nil)) ⟨p, m, hp, hms m (List.mem_of_getElem? hj), rfl, rfl⟩))) (fun h => by cases h) (fun _ Ha la zb => wB_nil ⟨zb.forget 5, sz.trans la.s⟩))
  refine wB_one (wS_forRM (n := 2) (pg_name (i := 6) nd rfl (.inl rfl)) rfl B.range zz.m zz.g (ev_int (i := 2)) (by decide) fun H8 h8 s8 _ => ?_)
  refine ⟨fun _ σ' H' => Dst (XL62 P w K mg base f cdv A outer s H E) [d] d L ns (G62p K P w d p) σ' H', (zz.fr h8 s8).1, fun j σ' H' _ zz => ?_, fun σ' H' zz => (zz.forget 4).forget 3⟩
  have z9 := (zz.set 6 (τ := isD K (.int (j : Nat))) (v := .int (j : Nat)) (.int _)).forget 6
  refine wB_one (wS_if (wT_of (pt_not pt_w) (wT_of (pt_val pe_w (by intro _; rfl)) (wE_of (pe_callG c4 hg hr' rfl (by decide) rfl rfl) (wA_of (pa_cons pe_w (pa_cons pe_w pa_nil)) ((EF.ev hd (ev_n 3 rfl)).go z9 fun v1 Ha la za qa => (ed_other (pr := p) c5 (hr'.mono (by decide)) (ev_n 1 rfl) (ev_n 3 rfl) hp hpc).go za fun v2 Hb lb zb qb => ?_))))))
  obtain ⟨_, ⟨wk, hwk, rfl⟩, q2⟩ := qb
  refine ⟨[isD K p.d, isD K wk.d], isD K (.bool true), ⟨p, wk, hp, hwk, rfl, rfl⟩, .cons (dp_up cuts_same _ _ (dp_up lb.s _ _ qa)) (.cons (dp_up cuts_same _ _ q2) .nil), fun v3 Hc sc qc => ⟨true, dp_bl qc, ?_⟩⟩
  exact iteF (wB_nil (zb.up sc).1)
end
end EC

set_option Elab.async false
set_option linter.all false
set_option maxRecDepth 100000
set_option maxHeartbeats 8000000
/-! EcJ1: every def's promise from where it stands (printed by genj1.py). -/
namespace EC
open PySem PySem.Spec PyProof.Rows L2
/-- a def of the module stands at its name -/
def GDef (K : PySem.W.Frag) (mg : Str → Option Value) (x : Str) (st : Stmt) : Prop := ∃ (f : Addr) (fd : FuncData), Fun K x x st f fd ∧ mg x = some (.ref f)
/-- a method of the class -/
def MDef (K : PySem.W.Frag) (C : Addr) (m qual : Str) (st : Stmt) : Prop := ∃ (f : Addr) (fd : FuncData), Fun K m qual st f fd ∧ Meth K C m f
section
variable {P : Program} {w : World} {K : PySem.W.Frag} {mg : Str → Option Value} {base : Heap} {C : Addr} {t : Tok} {x m qual : Str} {st : Stmt} {ps : List Str} {n k : Nat} {sp : Sp}
theorem GDef.fns (T : GDef K mg x st) (h : ∀ f fd, Fun K x x st f fd → FnOk P w K mg base CX0 k f fd ps sp) (hb : ∀ f fd, Fun K x x st f fd → Binds K fd ps []) (hn : ps.length = n) : FnS P w K mg base x n k sp := by
  obtain ⟨f, fd, F, hm⟩ := T
  exact ⟨f, fd, ps, hn, h f fd F, hm, F.kp, hb f fd F⟩
theorem MDef.met (T : MDef K C m qual st) (h : ∀ f fd, Fun K m qual st f fd → FnOk P w K mg base CX0 k f fd ps sp) (hb : ∀ f fd, Fun K m qual st f fd → Binds K fd ps []) (hn : ps.length = n) : MetS P w K mg base C m n k sp := by
  obtain ⟨f, fd, F, hm⟩ := T
  exact ⟨f, fd, ps, hn, h f fd F, hm, hb f fd F⟩
/-- the text, as it stands behind the top -/
structure Txt (K : PySem.W.Frag) (mg : Str → Option Value) (C : Addr) (t : Tok) : Prop where
  B : Bi mg
  hrp : mg "repr" = none
  hE : mg "ENDLESS" = some (.str "endless" t)
  aw : AwC K C
  ini : ∃ (f : Addr) (fd : FuncData), Fun K "__init__" "Awake.__init__" (inClass (top 36) 0) f fd ∧ Mk K C f
  mgC : mg "Awake" = some (.ref C)
  req : ∃ (f : Addr) (fd : FuncData), FunD K "require_usable" "require_usable" (defArgs (top 27)) (defBody (top 27)) (defScope (top 27)) [.int (-1)] [] f fd ∧ mg "require_usable" = some (.ref f)
  d_is_integer : GDef K mg "is_integer" (top 6)
  d_is_number : GDef K mg "is_number" (top 7)
  d_cost_due : GDef K mg "cost_due" (top 29)
  d_values_by_name : GDef K mg "values_by_name" (top 9)
  d_sum_value : GDef K mg "sum_value" (top 10)
  d_test_holds : GDef K mg "test_holds" (top 11)
  d_cell_index : GDef K mg "cell_index" (top 12)
  d_with_value : GDef K mg "with_value" (top 13)
  d_saved_values : GDef K mg "saved_values" (top 15)
  d_require_place : GDef K mg "require_place" (top 28)
  d_cost_at : GDef K mg "cost_at" (top 30)
  d_does_fit : GDef K mg "does_fit" (top 14)
  d_are_values : GDef K mg "are_values" (top 19)
  d_is_place : GDef K mg "is_place" (top 20)
  d_is_moment : GDef K mg "is_moment" (top 21)
  d_need_moment : GDef K mg "need_moment" (top 22)
  d_steps_for : GDef K mg "steps_for" (top 23)
  d_stepped : GDef K mg "stepped" (top 16)
  d_moment_after_step : GDef K mg "moment_after_step" (top 24)
  d_steps_of : GDef K mg "steps_of" (top 35)
  d_woken : GDef K mg "woken" (top 17)
  d_waking_of : GDef K mg "waking_of" (top 25)
  d_key_of : GDef K mg "key_of" (top 33)
  d_width_of_key : GDef K mg "width_of_key" (top 34)
  m_moments : MDef K C "moments" "Awake.moments" (inClass (top 36) 1)
  m_moments_behind : MDef K C "moments_behind" "Awake.moments_behind" (inClass (top 36) 2)
  m_rounds : MDef K C "rounds" "Awake.rounds" (inClass (top 36) 3)
  m_most_key : MDef K C "most_key" "Awake.most_key" (inClass (top 36) 5)
  m_fall_key : MDef K C "fall_key" "Awake.fall_key" (inClass (top 36) 6)
  m_all_most : MDef K C "all_most" "Awake.all_most" (inClass (top 36) 4)
  m_falls : MDef K C "falls" "Awake.falls" (inClass (top 36) 7)
  d_awake_from : GDef K mg "awake_from" (top 38)
  d_most_spent : GDef K mg "most_spent" (top 39)
  d_falls_from : GDef K mg "falls_from" (top 40)
  d_law_value : GDef K mg "_law_value" (top 48)
  d_law_holds : GDef K mg "_law_holds" (top 49)
  d_law_first : GDef K mg "_law_first" (top 50)
  d_law_due : GDef K mg "_law_due" (top 51)
  d_law_steps : GDef K mg "_law_steps" (top 52)
  d_law_told : GDef K mg "_law_told" (top 58)
  d_law_after : GDef K mg "_law_after" (top 53)
  d_law_waking : GDef K mg "_law_waking" (top 54)
  d_law_awake : GDef K mg "_law_awake" (top 55)
  d_law_falls : GDef K mg "_law_falls" (top 56)
  d_law_set : GDef K mg "_law_set" (top 59)
  d_law_net : GDef K mg "_law_net" (top 57)
  d_lright : GDef K mg "_law_waking_right" (top 60)
  d_law_draw : GDef K mg "_law_draw" (top 43)
  d_law_pick : GDef K mg "_law_pick" (top 44)
  d_law_feed : GDef K mg "_law_feed" (top 42)
  d_law_scene : GDef K mg "_law_scene" (top 45)
  d_law_bent_code : GDef K mg "_law_bent_code" (top 46)
  d_law_program : GDef K mg "_law_program" (top 47)
  d_law_other : GDef K mg "_law_other" (top 61)
theorem law_all (T : Txt K mg C t) {f : Addr} {fd : FuncData} (F : Fun K "law" "law" (top 62) f fd) : FnG P w K mg base 13 f fd ["_law_script"] (spLaw K) := by
  have B := T.B
  have c := T.aw
  have isInt : FnS P w K mg base "is_integer" 1 1 (spF (RisInt K)) := T.d_is_integer.fns (fun _ _ F => ok_isInt F B) (fun _ _ F => F.binds fun _ _ _ _ _ _ us hl => match us, hl with | [_], _ => rfl) rfl
  have isNum : FnS P w K mg base "is_number" 1 2 (spF (RisNum K)) := T.d_is_number.fns (fun _ _ F => ok_isNum F isInt) (fun _ _ F => F.binds fun _ _ _ _ _ _ us hl => match us, hl with | [_], _ => rfl) rfl
  have costDue : FnS P w K mg base "cost_due" 1 1 (spF (RcostDue K)) := T.d_cost_due.fns (fun _ _ F => ok_costDue F) (fun _ _ F => F.binds fun _ _ _ _ _ _ us hl => match us, hl with | [_], _ => rfl) rfl
  have valsBy : FnS P w K mg base "values_by_name" 2 1 (spF (RvalsBy K)) := T.d_values_by_name.fns (fun _ _ F => ok_valsBy F B) (fun _ _ F => F.binds fun _ _ _ _ _ _ us hl => match us, hl with | [_, _], _ => rfl) rfl
  have sumA : FnS P w K mg base "sum_value" 2 1 (spF (RsumA K)) := T.d_sum_value.fns (fun _ _ F => ok_sumA F B) (fun _ _ F => F.binds fun _ _ _ _ _ _ us hl => match us, hl with | [_, _], _ => rfl) rfl
  have sum : FnS P w K mg base "sum_value" 2 2 (spF (Rsum K)) := T.d_sum_value.fns (fun _ _ F => ok_sum F B sumA) (fun _ _ F => F.binds fun _ _ _ _ _ _ us hl => match us, hl with | [_, _], _ => rfl) rfl
  have test : FnS P w K mg base "test_holds" 2 2 (spF (Rtest K)) := T.d_test_holds.fns (fun _ _ F => ok_test F B sumA) (fun _ _ F => F.binds fun _ _ _ _ _ _ us hl => match us, hl with | [_, _], _ => rfl) rfl
  have cellIx : FnS P w K mg base "cell_index" 2 1 (spF (RcellIx K)) := T.d_cell_index.fns (fun _ _ F => ok_cellIx F) (fun _ _ F => F.binds fun _ _ _ _ _ _ us hl => match us, hl with | [_, _], _ => rfl) rfl
  have withVal : FnS P w K mg base "with_value" 4 2 (spF (RwithVal K)) := T.d_with_value.fns (fun _ _ F => ok_withVal F cellIx) (fun _ _ F => F.binds fun _ _ _ _ _ _ us hl => match us, hl with | [_, _, _, _], _ => rfl) rfl
  have saved : FnS P w K mg base "saved_values" 2 1 (spF (Rsaved K)) := T.d_saved_values.fns (fun _ _ F => ok_saved F B) (fun _ _ F => F.binds fun _ _ _ _ _ _ us hl => match us, hl with | [_, _], _ => rfl) rfl
  have req : FnSd P w K mg base "require_usable" [.int (-1)] 1 (spF (RreqUse K)) := by
    obtain ⟨f, fd, F, hm⟩ := T.req
    obtain ⟨ds, hv, hb⟩ := FunD.binds1 (ps := N27) F 2 0 (by simp) rfl (fun TT kV doc pm an cdv ct us its h1 h2 => by
      match us, its, h1, h2 with
      | [u1, u2], [i1], _, _ => exact ⟨_, rfl, rfl⟩)
    exact ⟨f, fd, N27, ds, ok_reqUse F, hm, F.kp, hv, hb⟩
  have reqPl : FnS P w K mg base "require_place" 2 3 (spF (RreqPl K)) := T.d_require_place.fns (fun _ _ F => ok_reqPl F B isNum req) (fun _ _ F => F.binds fun _ _ _ _ _ _ us hl => match us, hl with | [_, _], _ => rfl) rfl
  have costAt : FnS P w K mg base "cost_at" 2 4 (spF (RcostAt K)) := T.d_cost_at.fns (fun _ _ F => ok_costAt F reqPl costDue) (fun _ _ F => F.binds fun _ _ _ _ _ _ us hl => match us, hl with | [_, _], _ => rfl) rfl
  have doesFit : FnS P w K mg base "does_fit" 3 3 (spF (RdoesFit K)) := T.d_does_fit.fns (fun _ _ F => ok_doesFit F B isNum cellIx) (fun _ _ F => F.binds fun _ _ _ _ _ _ us hl => match us, hl with | [_, _, _], _ => rfl) rfl
  have areVals : FnS P w K mg base "are_values" 2 3 (spF (RareVals K)) := T.d_are_values.fns (fun _ _ F => ok_areVals F B isNum) (fun _ _ F => F.binds fun _ _ _ _ _ _ us hl => match us, hl with | [_, _], _ => rfl) rfl
  have isPl : FnS P w K mg base "is_place" 2 3 (spF (RisPl K)) := T.d_is_place.fns (fun _ _ F => ok_isPl F B isNum) (fun _ _ F => F.binds fun _ _ _ _ _ _ us hl => match us, hl with | [_, _], _ => rfl) rfl
  have isMom : FnS P w K mg base "is_moment" 2 4 (spF (RisMom K)) := T.d_is_moment.fns (fun _ _ F => ok_isMom F B isPl areVals) (fun _ _ F => F.binds fun _ _ _ _ _ _ us hl => match us, hl with | [_, _], _ => rfl) rfl
  have needMom : FnS P w K mg base "need_moment" 2 5 (spF (RneedMom K)) := T.d_need_moment.fns (fun _ _ F => ok_needMom F isMom) (fun _ _ F => F.binds fun _ _ _ _ _ _ us hl => match us, hl with | [_, _], _ => rfl) rfl
  have stepsFor : FnS P w K mg base "steps_for" 2 6 (spF (RstepsFor K)) := T.d_steps_for.fns (fun _ _ F => ok_stepsFor F B needMom cellIx) (fun _ _ F => F.binds fun _ _ _ _ _ _ us hl => match us, hl with | [_, _], _ => rfl) rfl
  have stepped : FnS P w K mg base "stepped" 3 3 (spF (Rstepped K)) := T.d_stepped.fns (fun _ _ F => ok_stepped F cellIx sum valsBy withVal test saved) (fun _ _ F => F.binds fun _ _ _ _ _ _ us hl => match us, hl with | [_, _, _], _ => rfl) rfl
  have afterStep : FnS P w K mg base "moment_after_step" 3 6 (spF (Rstepped K)) := T.d_moment_after_step.fns (fun _ _ F => ok_afterStep F needMom doesFit stepped) (fun _ _ F => F.binds fun _ _ _ _ _ _ us hl => match us, hl with | [_, _, _], _ => rfl) rfl
  have stepsOf : FnS P w K mg base "steps_of" 2 7 (spF (RstepsOf K)) := T.d_steps_of.fns (fun _ _ F => ok_stepsOf F stepsFor afterStep) (fun _ _ F => F.binds fun _ _ _ _ _ _ us hl => match us, hl with | [_, _], _ => rfl) rfl
  have woken : FnS P w K mg base "woken" 2 1 (spF (Rwoken K)) := T.d_woken.fns (fun _ _ F => ok_woken F B) (fun _ _ F => F.binds fun _ _ _ _ _ _ us hl => match us, hl with | [_, _], _ => rfl) rfl
  have wakingOf : FnS P w K mg base "waking_of" 2 6 (spF (Rwoken K)) := T.d_waking_of.fns (fun _ _ F => ok_wakingOf F needMom woken) (fun _ _ F => F.binds fun _ _ _ _ _ _ us hl => match us, hl with | [_, _], _ => rfl) rfl
  have keyOf : FnS P w K mg base "key_of" 1 1 (spF (RkeyOf K)) := T.d_key_of.fns (fun _ _ F => ok_keyOf F T.hE) (fun _ _ F => F.binds fun _ _ _ _ _ _ us hl => match us, hl with | [_], _ => rfl) rfl
  have widthOf : FnS P w K mg base "width_of_key" 1 1 (spF (RwidthOf K)) := T.d_width_of_key.fns (fun _ _ F => ok_widthOf F T.hE) (fun _ _ F => F.binds fun _ _ _ _ _ _ us hl => match us, hl with | [_], _ => rfl) rfl
  have moments : MetS P w K mg base C "moments" 1 1 (spF (Rmoments K P w C)) := T.m_moments.met (fun _ _ F => ok_moments F B c) (fun _ _ F => F.binds fun _ _ _ _ _ _ us hl => match us, hl with | [_], _ => rfl) rfl
  have moments_behind : MetS P w K mg base C "moments_behind" 2 1 (spF (Rbehind K P w C)) := T.m_moments_behind.met (fun _ _ F => ok_behind F c) (fun _ _ F => F.binds fun _ _ _ _ _ _ us hl => match us, hl with | [_, _], _ => rfl) rfl
  have rounds : MetS P w K mg base C "rounds" 1 2 (spF (Rrounds K P w C)) := T.m_rounds.met (fun _ _ F => ok_rounds F c moments) (fun _ _ F => F.binds fun _ _ _ _ _ _ us hl => match us, hl with | [_], _ => rfl) rfl
  have most_key : MetS P w K mg base C "most_key" 2 1 (spF (RmostKey K P w C)) := T.m_most_key.met (fun _ _ F => ok_mostKey F c) (fun _ _ F => F.binds fun _ _ _ _ _ _ us hl => match us, hl with | [_, _], _ => rfl) rfl
  have fall_key : MetS P w K mg base C "fall_key" 2 5 (spF (RfallKey K P w C)) := T.m_fall_key.met (fun _ _ F => ok_fallKey F c most_key costAt) (fun _ _ F => F.binds fun _ _ _ _ _ _ us hl => match us, hl with | [_, _], _ => rfl) rfl
  have all_most : MetS P w K mg base C "all_most" 1 5 (spF (RallMost K P w C)) := T.m_all_most.met (fun _ _ F => ok_allMost F B c rounds costAt keyOf T.hE) (fun _ _ F => F.binds fun _ _ _ _ _ _ us hl => match us, hl with | [_], _ => rfl) rfl
  have falls : MetS P w K mg base C "falls" 1 7 (spF (Rfalls K P w C)) := T.m_falls.met (fun _ _ F => ok_falls F c moments fall_key wakingOf) (fun _ _ F => F.binds fun _ _ _ _ _ _ us hl => match us, hl with | [_], _ => rfl) rfl
  have mkA : MkS P w K mg base C "Awake" 3 8 (spInit K P w C) := by
    obtain ⟨f, fd, F, hM⟩ := T.ini
    exact ⟨f, fd, _, rfl, ok_init F c stepsOf moments_behind all_most, hM, F.binds fun _ _ _ _ _ _ us hl => match us, hl with | [_, _, _], _ => rfl, T.mgC⟩
  have awake : FnS P w K mg base "awake_from" 2 10 (spF (Rawake K P w C)) := T.d_awake_from.fns (fun _ _ F => ok_awake F isMom wakingOf mkA) (fun _ _ F => F.binds fun _ _ _ _ _ _ us hl => match us, hl with | [_, _], _ => rfl) rfl
  have mostSpent : FnS P w K mg base "most_spent" 2 11 (spF (RmostSpent K)) := T.d_most_spent.fns (fun _ _ F => ok_mostSpent F B c awake moments most_key widthOf) (fun _ _ F => F.binds fun _ _ _ _ _ _ us hl => match us, hl with | [_, _], _ => rfl) rfl
  have fallsFrom : FnS P w K mg base "falls_from" 2 11 (spF (RfallsFrom K)) := T.d_falls_from.fns (fun _ _ F => ok_fallsFrom F B c awake falls widthOf) (fun _ _ F => F.binds fun _ _ _ _ _ _ us hl => match us, hl with | [_, _], _ => rfl) rfl
  have lvalA : FnS P w K mg base "_law_value" 3 1 (spF (RlvalA K)) := T.d_law_value.fns (fun _ _ F => ok_lvalA F B) (fun _ _ F => F.binds fun _ _ _ _ _ _ us hl => match us, hl with | [_, _, _], _ => rfl) rfl
  have lval : FnS P w K mg base "_law_value" 3 2 (spF (Rlval K)) := T.d_law_value.fns (fun _ _ F => ok_lval F B lvalA) (fun _ _ F => F.binds fun _ _ _ _ _ _ us hl => match us, hl with | [_, _, _], _ => rfl) rfl
  have lholds : FnS P w K mg base "_law_holds" 3 2 (spF (Rlholds K)) := T.d_law_holds.fns (fun _ _ F => ok_lholds F lvalA) (fun _ _ F => F.binds fun _ _ _ _ _ _ us hl => match us, hl with | [_, _, _], _ => rfl) rfl
  have lfirst : FnS P w K mg base "_law_first" 1 1 (spF (Rlfirst K)) := T.d_law_first.fns (fun _ _ F => ok_lfirst F B) (fun _ _ F => F.binds fun _ _ _ _ _ _ us hl => match us, hl with | [_], _ => rfl) rfl
  have ldue : FnS P w K mg base "_law_due" 2 1 (spF (Rldue K)) := T.d_law_due.fns (fun _ _ F => ok_ldue F) (fun _ _ F => F.binds fun _ _ _ _ _ _ us hl => match us, hl with | [_, _], _ => rfl) rfl
  have lsteps : FnS P w K mg base "_law_steps" 2 1 (spF (Rlsteps K)) := T.d_law_steps.fns (fun _ _ F => ok_lsteps F B) (fun _ _ F => F.binds fun _ _ _ _ _ _ us hl => match us, hl with | [_, _], _ => rfl) rfl
  have ltold : FnS P w K mg base "_law_told" 1 1 (spF (Rltold K)) := T.d_law_told.fns (fun _ _ F => ok_ltold F) (fun _ _ F => F.binds fun _ _ _ _ _ _ us hl => match us, hl with | [_], _ => rfl) rfl
  have lafter : FnS P w K mg base "_law_after" 3 3 (spF (Rstepped K)) := T.d_law_after.fns (fun _ _ F => ok_lafter F B lval lholds) (fun _ _ F => F.binds fun _ _ _ _ _ _ us hl => match us, hl with | [_, _, _], _ => rfl) rfl
  have lwaking : FnS P w K mg base "_law_waking" 2 1 (spF (Rwoken K)) := T.d_law_waking.fns (fun _ _ F => ok_lwaking F B) (fun _ _ F => F.binds fun _ _ _ _ _ _ us hl => match us, hl with | [_, _], _ => rfl) rfl
  have lawake : FnS P w K mg base "_law_awake" 3 4 (spF (RlawAwake K P w)) := T.d_law_awake.fns (fun _ _ F => ok_lawake F B lsteps lafter ldue) (fun _ _ F => F.binds fun _ _ _ _ _ _ us hl => match us, hl with | [_, _, _], _ => rfl) rfl
  have lfalls : FnS P w K mg base "_law_falls" 2 2 (spF (RlawFalls K P w)) := T.d_law_falls.fns (fun _ _ F => ok_lfalls F B ldue lwaking) (fun _ _ F => F.binds fun _ _ _ _ _ _ us hl => match us, hl with | [_, _], _ => rfl) rfl
  have lset : FnS P w K mg base "_law_set" 1 2 (spF (Rlset K P w)) := T.d_law_set.fns (fun _ _ F => ok_lset F B ltold) (fun _ _ F => F.binds fun _ _ _ _ _ _ us hl => match us, hl with | [_], _ => rfl) rfl
  have lnet : FnS P w K mg base "_law_net" 2 5 (spF (Rlnet K P w)) := T.d_law_net.fns (fun _ _ F => ok_lnet F B lfirst lawake lfalls) (fun _ _ F => F.binds fun _ _ _ _ _ _ us hl => match us, hl with | [_, _], _ => rfl) rfl
  have lright : FnGS P w K mg base "_law_waking_right" 2 12 (spF (Rlright K)) := by
    obtain ⟨f, fd, F, hm⟩ := T.d_lright
    exact ⟨f, fd, _, rfl, ok_lright F T.hrp lawake mostSpent fallsFrom lset lfalls, hm, F.kp, F.binds fun _ _ _ _ _ _ us hl => match us, hl with | [_, _], _ => rfl⟩
  have ldraw : FnS P w K mg base "_law_draw" 2 1 (spDraw K) := T.d_law_draw.fns (fun _ _ F => ok_ldraw F B) (fun _ _ F => F.binds fun _ _ _ _ _ _ us hl => match us, hl with | [_, _], _ => rfl) rfl
  have lpick : FnS P w K mg base "_law_pick" 2 2 (spPick K) := T.d_law_pick.fns (fun _ _ F => ok_lpick F B ldraw) (fun _ _ F => F.binds fun _ _ _ _ _ _ us hl => match us, hl with | [_, _], _ => rfl) rfl
  have lfeed : FnS P w K mg base "_law_feed" 1 1 (spF (Rlfeed K)) := T.d_law_feed.fns (fun _ _ F => ok_lfeed F B) (fun _ _ F => F.binds fun _ _ _ _ _ _ us hl => match us, hl with | [_], _ => rfl) rfl
  have lscene : FnS P w K mg base "_law_scene" 4 1 (spF (Rlscene K)) := T.d_law_scene.fns (fun _ _ F => ok_lscene F) (fun _ _ F => F.binds fun _ _ _ _ _ _ us hl => match us, hl with | [_, _, _, _], _ => rfl) rfl
  have lbent : FnS P w K mg base "_law_bent_code" 3 3 (spBent K) := T.d_law_bent_code.fns (fun _ _ F => ok_lbent F B ldraw lpick) (fun _ _ F => F.binds fun _ _ _ _ _ _ us hl => match us, hl with | [_, _, _], _ => rfl) rfl
  have lprog : FnS P w K mg base "_law_program" 1 4 (spProg K) := T.d_law_program.fns (fun _ _ F => ok_lprog F B ldraw lpick lscene lbent) (fun _ _ F => F.binds fun _ _ _ _ _ _ us hl => match us, hl with | [_], _ => rfl) rfl
  have lother : FnS P w K mg base "_law_other" 2 2 (spOther K) := T.d_law_other.fns (fun _ _ F => ok_lother F B ldraw) (fun _ _ F => F.binds fun _ _ _ _ _ _ us hl => match us, hl with | [_, _], _ => rfl) rfl
  exact ok_law F B lfeed lprog lnet lright lother
end
end EC

set_option Elab.async false
set_option linter.all false
set_option maxRecDepth 100000
set_option maxHeartbeats 8000000
/-! EcJ2: the end for a law that calls repr; the facts behind the top. -/
namespace EC
open PySem PySem.Spec PyProof.Rows L2
section
variable {P : Program} {w : World} {K : PySem.W.Frag} {mg mb : Str → Option Value} {k : Nat} {fa a C : Addr} {fd : FuncData} {x : Str} {S1 : Shared} {vs : List Value} {ns : List Int} {t : Tok}
/-- the law's run at its caller, no guard up -/
theorem law_runG (hR : Room k callerA) (hF : ∀ hp : Heap, K.In hp → hp.Ns mainGlobals mg → FnG P w K mg hp k fa fd [x] (spLaw K)) (hBind : ∀ (s : Shared) (u : Value), BindsTo s fd ⟨[u], []⟩ [(x, u)]) (hK : K.In S1.heap) (hG : S1.heap.Ns mainGlobals mg)
    (hB : S1.heap.Ns builtinsNs mb) (hBoot : ∀ y : Str, y ≠ "__name__" → mb y = bootBuiltins y) (hLim : S1.heap.NoLimit) (hGen : S1.gens = #[]) (hInt : IntsAre vs ns) (hLen : ns.length ≤ sizeLine) (hA : S1.heap.get? a = some { cls := .type "list", data := .seq vs.toArray }) :
    codeAny (model P w) callerA (.call (.ref fa) ⟨[.ref a], []⟩) (fun r S2 => r = .ok (.ret (.bool true)) ∧ OldK S1.heap S2.heap ∧ S2.os = S1.os ∧ AllBare S2.gens) S1 := by
  have rV : Vals (ns.map V.int) vs := vals_ints hInt
  have nV := hInt.length
  obtain ⟨ob, hob⟩ : ∃ ob : Obj, ob = { cls := .type "list", data := .seq vs.toArray } := ⟨_, rfl⟩
  rw [← hob] at hA
  -- the script is tracked, unless it is the module's own
  obtain ⟨Hs, hHs⟩ : ∃ Hs : Hp, Hs = fun b => if b = a ∧ K.lookup a = none then some (.frz ob (.lst (ns.map V.int))) else none := ⟨_, rfl⟩
  have only : ∀ b u, Hs b = some u → b = a ∧ K.lookup a = none ∧ u = .frz ob (.lst (ns.map V.int)) := fun b u e => by
    rw [hHs] at e
    by_cases z : b = a ∧ K.lookup a = none
    · have e' := (if_pos z).symm.trans e
      exact ⟨z.1, z.2, (Option.some.inj e').symm⟩
    · have e' := (if_neg z).symm.trans e
      cases e'
  have nsT : ∀ {b : Addr} {m : Str → Option Value}, S1.heap.Ns b m → (hidT S1.heap Hs).Ns b m := by
    rintro b m ⟨o, es, ep, h1, h2, h3⟩
    refine ⟨o, es, ep, hidT_get h1 ?_, h2, h3⟩
    cases z : Hs b with
    | none => rfl
    | some u =>
      obtain ⟨rfl, _, _⟩ := only b u z
      rw [hA] at h1
      cases h1
      rw [hob] at h2
      have h2' : Data.seq vs.toArray _ = Data.dict es ep := h2
      cases h2'
  have inT : K.In (hidT S1.heap Hs) := fun b o h1 => hidT_get (hK b o h1) (by
    cases z : Hs b with
    | none => rfl
    | some u =>
      obtain ⟨rfl, hn, _⟩ := only b u z
      rw [hn] at h1
      cases h1)
  have modT : Mod K mg (hidT S1.heap Hs) := ⟨inT, nsT hG, ⟨mb, nsT hB, hBoot⟩, by
    obtain ⟨mc, l1, l2⟩ := hLim
    exact ⟨mc, nsT l1, l2⟩⟩
  have okT : HOk P w Hs S1.heap := fun b u z => by
    obtain ⟨rfl, _, rfl⟩ := only b u z
    exact ⟨hA, by rw [List.length_map]; exact hLen, vs, _, rV, by rw [hA, hob]⟩
  have sq : SqL K Hs a (ns.map V.int) := by
    cases z : K.lookup a with
    | none => exact .inl (.inr ⟨ob, by rw [hHs]; exact if_pos ⟨rfl, z⟩⟩)
    | some o =>
      have h1 := hK a o z
      rw [hA] at h1
      have h1' : ob = o := Option.some.inj h1
      subst h1'
      subst hob
      exact .inr ⟨_, vs.toArray, _, z, rfl, rfl, rfl, by rw [List.size_toArray, nV]; exact hLen, by simpa using rV⟩
  have env : Env0 P w K mg (hidT S1.heap Hs) callerA [] S1 Hs := ⟨rfl, modT, fun b o h1 => of_hidT h1, Nat.le_of_eq (hidT_size _ _), trivial, (fun b hb => by cases hb), okT, .of_eq hGen⟩
  refine codeAny_mono ((hF _ inT (nsT hG)).run callerA [] S1 Hs ⟨[.ref a], []⟩ [.ref a] [.ref a] (fun v _ => v = .bl true) (fun _ _ _ => False) rfl hR env (hBind S1 (.ref a)) (.cons rfl .nil) ⟨a, ns, rfl, sq, fun _ => rfl⟩) fun r S2 h => ?_
  cases r with
  | error e => exact False.elim h
  | ok fl =>
    cases fl with
    | next => exact False.elim h
    | brk => exact False.elim h
    | cont => exact False.elim h
    | ret u =>
      obtain ⟨v, H2, h1, h2, h3, h4, h5, h6⟩ := h
      have h6' : v = .bl true := h6
      subst h6'
      obtain rfl : u = Value.bool true := h5
      refine ⟨rfl, .of_keep fun b o g1 => ?_, h1, h2⟩
      cases z : Hs b with
      | none => exact h3.keep b o g1 z (fun y => by cases y) (by simp)
      | some u =>
        obtain ⟨rfl, _, rfl⟩ := only b u z
        obtain ⟨g2, _⟩ := h4 _ _ (h3.frzs _ ob _ z)
        rw [hA] at g1
        cases g1
        exact g2
end
theorem walkG {l : PySem.W.OpenLaw} {q : Program} {loose : List Str} {XP : (Str → Option Value) → Heap → Prop} {YP : World → Heap → Prop} {d : DefRec} {K : Params → PySem.W.Frag} (hn : l.most = some 63) (hdf : d.params.defaults = [])
    (hY : ∀ (w : World) (h : Heap), YP w h → (K w.params).In h)
    (F : ∀ (w : World) (mg : Str → Option Value) (fa : Addr) (h : Heap), (K w.params).In h → h.Ns mainGlobals mg → mg d.name = some (.ref fa) →
      ∃ fd : FuncData, (∀ (s : Shared) (u : Value), BindsTo s fd ⟨[u], []⟩ [("_law_script", u)]) ∧ ∀ hp : Heap, (K w.params).In hp → hp.Ns mainGlobals mg → FnG l.prog w (K w.params) mg hp 13 fa fd ["_law_script"] (spLaw (K w.params))) :
    PySem.W.WalkO q loose XP YP l.row.toRowW d [] (fun f vs => PySem.call f vs) := by
  refine Att.attach_call hn hdf fun w S0 S1 mg mb fa o pm cd doc a vs ns G Y _ _ _ hmg hobj hints hlen hgen => ?_
  obtain ⟨fd, hb, hF⟩ := F w mg fa _ (hY w _ Y) G.T.g hmg
  exact law_runG ⟨rfl, by decide, by decide⟩ hF hb (hY w _ Y) G.T.g G.T.b G.T.builtins G.T.nolimit hgen hints (Nat.le_trans hlen (by decide)) hobj
/-! ### facts behind the top -/
section
variable {P : Program} {w : World} {K : PySem.W.Frag} {h : Heap} {mg : Str → Option Value} {f C : Addr} {x m qual : Str} {st : Stmt} {oc kV doc pm cdv ct dV : Value} {od an : Option Addr} {osl : Array (Option Value)} {t : Tok}
theorem gdef_mk (X : K.In h) (G : h.Ns mainGlobals mg) (a : PySem.W.nsIn K mainGlobals x = some (some (.ref f))) (l : K.lookup f = some ⟨oc, od, .func (PySem.W.fnOf x x (defArgs st) (defBody st) (defScope st) .none kV doc pm an cdv ct), osl⟩) (c : PySem.W.codeIn K cdv x = true) (k : PySem.W.keepIn K (.ref f) = true) : GDef K mg x st :=
  ⟨f, _, fun_mk l c k, PySem.W.mg_of X G a⟩
theorem mdef_mk (a : PySem.W.findIn K (.ref C) m = some (some (.ref f))) (i : PySem.W.isFn K (.ref f) = true) (l : K.lookup f = some ⟨oc, od, .func (PySem.W.fnOf m qual (defArgs st) (defBody st) (defScope st) .none kV doc pm an cdv ct), osl⟩) (c : PySem.W.codeIn K cdv qual = true) (k : PySem.W.keepIn K (.ref f) = true) : MDef K C m qual st :=
  ⟨f, _, fun_mk l c k, a, i, k⟩
theorem ini_mk (a : PySem.W.findIn K (.ref C) "__init__" = some (some (.ref f))) (i : PySem.W.isFn K (.ref f) = true) (l : K.lookup f = some ⟨oc, od, .func (PySem.W.fnOf "__init__" qual (defArgs st) (defBody st) (defScope st) .none kV doc pm an cdv ct), osl⟩) (c : PySem.W.codeIn K cdv qual = true) (k : PySem.W.keepIn K (.ref f) = true)
    (mk : PySem.W.makesIn K C = true) (kc : PySem.W.keepIn K (.ref C) = true) : ∃ (f : Addr) (fd : FuncData), Fun K "__init__" qual st f fd ∧ Mk K C f := ⟨f, _, fun_mk l c k, mk, a, i, kc⟩
theorem req_mk {DT : Addr} {oc2 : Value} {od2 : Option Addr} {t2 : Tok} {n2 : Nat} {sl2 : Array (Option Value)} (X : K.In h) (G : h.Ns mainGlobals mg) (a : PySem.W.nsIn K mainGlobals x = some (some (.ref f))) (l : K.lookup f = some ⟨oc, od, .func (PySem.W.fnOf x x (defArgs st) (defBody st) (defScope st) (.ref DT) kV doc pm an cdv ct), osl⟩) (c : PySem.W.codeIn K cdv x = true)
    (k : PySem.W.keepIn K (.ref f) = true) (dd : K.lookup DT = some ⟨oc2, od2, .seq #[.int (-1) t2] n2, sl2⟩) : ∃ (f : Addr) (fd : FuncData), FunD K x x (defArgs st) (defBody st) (defScope st) [.int (-1)] [] f fd ∧ mg x = some (.ref f) :=
  ⟨f, _, ⟨⟨oc, od, .ref DT, kV, doc, pm, an, cdv, ct, osl, rfl, l, c, .inr ⟨by simp, DT, _, [.int (-1) t2], n2, rfl, dd, rfl, .cons ⟨t2, rfl⟩ .nil⟩, .inl rfl⟩, k⟩, PySem.W.mg_of X G a⟩
theorem fin_mk {fa : Addr} (X : K.In h) (G : h.Ns mainGlobals mg) (hfa : mg "law" = some (.ref fa)) (aC : PySem.W.nsIn K mainGlobals "Awake" = some (some (.ref C))) (aE : PySem.W.nsIn K mainGlobals "ENDLESS" = some (some (.str "endless" t)))
    (a : PySem.W.nsIn K mainGlobals "law" = some (some (.ref f))) (l : K.lookup f = some ⟨oc, od, .func (PySem.W.fnOf "law" "law" (defArgs (top 62)) (defBody (top 62)) (defScope (top 62)) .none kV doc pm an cdv ct), osl⟩) (c : PySem.W.codeIn K cdv "law" = true) (k : PySem.W.keepIn K (.ref f) = true)
    (T : mg "Awake" = some (.ref C) → mg "ENDLESS" = some (.str "endless" t) → Txt K mg C t) :
    ∃ fd : FuncData, (∀ (s : Shared) (u : Value), BindsTo s fd ⟨[u], []⟩ [("_law_script", u)]) ∧ ∀ hp : Heap, K.In hp → hp.Ns mainGlobals mg → FnG P w K mg hp 13 fa fd ["_law_script"] (spLaw K) := by
  have e := hfa.symm.trans (PySem.W.mg_of X G a)
  cases e
  exact ⟨_, fun s u => .of_eq rfl, fun hp _ _ => law_all (T (PySem.W.mg_of X G aC) (PySem.W.mg_of X G aE)) (fun_mk l c k)⟩
end
end EC

set_option Elab.async false
set_option linter.all false
set_option maxRecDepth 100000
set_option maxHeartbeats 8000000
/-! EcJ3: the theorem (printed by genj3.py). -/
namespace EC
open PySem PySem.Spec PyProof.Rows L2
section
variable {K : PySem.W.Frag} {h : Heap} {mg : Str → Option Value} {C : Addr}
theorem bi_mk (X : K.In h) (G : h.Ns mainGlobals mg) (b0 : PySem.W.nsIn K mainGlobals "isinstance" = some none) (b1 : PySem.W.nsIn K mainGlobals "int" = some none) (b2 : PySem.W.nsIn K mainGlobals "bool" = some none) (b3 : PySem.W.nsIn K mainGlobals "str" = some none) (b4 : PySem.W.nsIn K mainGlobals "tuple" = some none) (b5 : PySem.W.nsIn K mainGlobals "len" = some none) (b6 : PySem.W.nsIn K mainGlobals "all" = some none) (b7 : PySem.W.nsIn K mainGlobals "zip" = some none) (b8 : PySem.W.nsIn K mainGlobals "enumerate" = some none) (b9 : PySem.W.nsIn K mainGlobals "range" = some none) (b10 : PySem.W.nsIn K mainGlobals "list" = some none) (b11 : PySem.W.nsIn K mainGlobals "sorted" = some none) (b12 : PySem.W.nsIn K mainGlobals "min" = some none) (b13 : PySem.W.nsIn K mainGlobals "max" = some none) (b14 : PySem.W.nsIn K mainGlobals "repr" = some none) : Bi mg :=
  ⟨PySem.W.mg_none_of X G b0, PySem.W.mg_none_of X G b1, PySem.W.mg_none_of X G b2, PySem.W.mg_none_of X G b3, PySem.W.mg_none_of X G b4, PySem.W.mg_none_of X G b5, PySem.W.mg_none_of X G b6, PySem.W.mg_none_of X G b7, PySem.W.mg_none_of X G b8, PySem.W.mg_none_of X G b9, PySem.W.mg_none_of X G b10, PySem.W.mg_none_of X G b11, PySem.W.mg_none_of X G b12, PySem.W.mg_none_of X G b13, PySem.W.mg_none_of X G b14⟩
theorem awc_mk (pg : PySem.W.plainGet K C Str.empty = true) (hd : PySem.W.hasDictIn K C = true) (po : PySem.W.plainOver K C = true) (sa : PySem.W.findIn K (.ref C) "__setattr__" = some (some (.builtin "object.__setattr__")))
    (n0 : PySem.W.findIn K (.ref C) "held_program" = some none) (n1 : PySem.W.findIn K (.ref C) "held_waking" = some none) (n2 : PySem.W.findIn K (.ref C) "held_steps" = some none) (n3 : PySem.W.findIn K (.ref C) "held_behind" = some none) (n4 : PySem.W.findIn K (.ref C) "held_most" = some none) : AwC K C := ⟨⟨pg, hd, po, sa⟩, n0, n1, n2, n3, n4⟩
end
end EC
open PySem PySem.W PyProof.Rows in
set_option maxRecDepth 100000 in
set_option maxHeartbeats 0 in
theorem PySem.Challenge.cw_enoughcharge_k81_whole_stretches_holds : PySem.Challenge.rw_enoughcharge_k81_whole_stretches.Holds := by
  w_on; o_law; k_head; (case hw => w_witness2)
  k_fill
  refine EC.walkG (l := PySem.Challenge.rw_enoughcharge_k81_whole_stretches) rfl rfl (fun w h Y => PySem.W.kIn_of Y) ?F
  case F =>
    intro w mg fa h KX G hmg
    refine' EC.fin_mk KX G hmg ?aC ?aE ?a ?l ?c ?k (fun hC hE => ?T)
    (case aC => k_is)
    (case aE => k_is)
    (case a => k_is)
    (case l => k_is)
    (case c => k_is)
    (case k => k_is)
    case T =>
      refine' EC.Txt.mk ?B ?hrp hE ?aw ?ini hC ?req ?d_is_integer ?d_is_number ?d_cost_due ?d_values_by_name ?d_sum_value ?d_test_holds ?d_cell_index ?d_with_value ?d_saved_values ?d_require_place ?d_cost_at ?d_does_fit ?d_are_values ?d_is_place ?d_is_moment ?d_need_moment ?d_steps_for ?d_stepped ?d_moment_after_step ?d_steps_of ?d_woken ?d_waking_of ?d_key_of ?d_width_of_key ?m_moments ?m_moments_behind ?m_rounds ?m_most_key ?m_fall_key ?m_all_most ?m_falls ?d_awake_from ?d_most_spent ?d_falls_from ?d_law_value ?d_law_holds ?d_law_first ?d_law_due ?d_law_steps ?d_law_told ?d_law_after ?d_law_waking ?d_law_awake ?d_law_falls ?d_law_set ?d_law_net ?d_lright ?d_law_draw ?d_law_pick ?d_law_feed ?d_law_scene ?d_law_bent_code ?d_law_program ?d_law_other
      case B =>
        refine' EC.bi_mk KX G ?b0 ?b1 ?b2 ?b3 ?b4 ?b5 ?b6 ?b7 ?b8 ?b9 ?b10 ?b11 ?b12 ?b13 ?b14
        (case b0 => k_is)
        (case b1 => k_is)
        (case b2 => k_is)
        (case b3 => k_is)
        (case b4 => k_is)
        (case b5 => k_is)
        (case b6 => k_is)
        (case b7 => k_is)
        (case b8 => k_is)
        (case b9 => k_is)
        (case b10 => k_is)
        (case b11 => k_is)
        (case b12 => k_is)
        (case b13 => k_is)
        (case b14 => k_is)
      case hrp =>
        refine' PySem.W.mg_none_of KX G ?r
        (case r => k_is)
      case aw =>
        refine' EC.awc_mk ?pg ?hd ?po ?sa ?n0 ?n1 ?n2 ?n3 ?n4
        (case pg => k_is)
        (case hd => k_is)
        (case po => k_is)
        (case sa => k_is)
        (case n0 => k_is)
        (case n1 => k_is)
        (case n2 => k_is)
        (case n3 => k_is)
        (case n4 => k_is)
      case ini =>
        refine' EC.ini_mk ?a ?i ?l ?c ?k ?mk ?kc
        (case a => k_is)
        (case i => k_is)
        (case l => k_is)
        (case c => k_is)
        (case k => k_is)
        (case mk => k_is)
        (case kc => k_is)
      case req =>
        refine' EC.req_mk KX G ?a ?l ?c ?k ?dd
        (case a => k_is)
        (case l => k_is)
        (case c => k_is)
        (case k => k_is)
        (case dd => k_is)
      case d_is_integer =>
        refine' EC.gdef_mk KX G ?a ?l ?c ?k
        (case a => k_is)
        (case l => k_is)
        (case c => k_is)
        (case k => k_is)
      case d_is_number =>
        refine' EC.gdef_mk KX G ?a ?l ?c ?k
        (case a => k_is)
        (case l => k_is)
        (case c => k_is)
        (case k => k_is)
      case d_cost_due =>
        refine' EC.gdef_mk KX G ?a ?l ?c ?k
        (case a => k_is)
        (case l => k_is)
        (case c => k_is)
        (case k => k_is)
      case d_values_by_name =>
        refine' EC.gdef_mk KX G ?a ?l ?c ?k
        (case a => k_is)
        (case l => k_is)
        (case c => k_is)
        (case k => k_is)
      case d_sum_value =>
        refine' EC.gdef_mk KX G ?a ?l ?c ?k
        (case a => k_is)
        (case l => k_is)
        (case c => k_is)
        (case k => k_is)
      case d_test_holds =>
        refine' EC.gdef_mk KX G ?a ?l ?c ?k
        (case a => k_is)
        (case l => k_is)
        (case c => k_is)
        (case k => k_is)
      case d_cell_index =>
        refine' EC.gdef_mk KX G ?a ?l ?c ?k
        (case a => k_is)
        (case l => k_is)
        (case c => k_is)
        (case k => k_is)
      case d_with_value =>
        refine' EC.gdef_mk KX G ?a ?l ?c ?k
        (case a => k_is)
        (case l => k_is)
        (case c => k_is)
        (case k => k_is)
      case d_saved_values =>
        refine' EC.gdef_mk KX G ?a ?l ?c ?k
        (case a => k_is)
        (case l => k_is)
        (case c => k_is)
        (case k => k_is)
      case d_require_place =>
        refine' EC.gdef_mk KX G ?a ?l ?c ?k
        (case a => k_is)
        (case l => k_is)
        (case c => k_is)
        (case k => k_is)
      case d_cost_at =>
        refine' EC.gdef_mk KX G ?a ?l ?c ?k
        (case a => k_is)
        (case l => k_is)
        (case c => k_is)
        (case k => k_is)
      case d_does_fit =>
        refine' EC.gdef_mk KX G ?a ?l ?c ?k
        (case a => k_is)
        (case l => k_is)
        (case c => k_is)
        (case k => k_is)
      case d_are_values =>
        refine' EC.gdef_mk KX G ?a ?l ?c ?k
        (case a => k_is)
        (case l => k_is)
        (case c => k_is)
        (case k => k_is)
      case d_is_place =>
        refine' EC.gdef_mk KX G ?a ?l ?c ?k
        (case a => k_is)
        (case l => k_is)
        (case c => k_is)
        (case k => k_is)
      case d_is_moment =>
        refine' EC.gdef_mk KX G ?a ?l ?c ?k
        (case a => k_is)
        (case l => k_is)
        (case c => k_is)
        (case k => k_is)
      case d_need_moment =>
        refine' EC.gdef_mk KX G ?a ?l ?c ?k
        (case a => k_is)
        (case l => k_is)
        (case c => k_is)
        (case k => k_is)
      case d_steps_for =>
        refine' EC.gdef_mk KX G ?a ?l ?c ?k
        (case a => k_is)
        (case l => k_is)
        (case c => k_is)
        (case k => k_is)
      case d_stepped =>
        refine' EC.gdef_mk KX G ?a ?l ?c ?k
        (case a => k_is)
        (case l => k_is)
        (case c => k_is)
        (case k => k_is)
      case d_moment_after_step =>
        refine' EC.gdef_mk KX G ?a ?l ?c ?k
        (case a => k_is)
        (case l => k_is)
        (case c => k_is)
        (case k => k_is)
      case d_steps_of =>
        refine' EC.gdef_mk KX G ?a ?l ?c ?k
        (case a => k_is)
        (case l => k_is)
        (case c => k_is)
        (case k => k_is)
      case d_woken =>
        refine' EC.gdef_mk KX G ?a ?l ?c ?k
        (case a => k_is)
        (case l => k_is)
        (case c => k_is)
        (case k => k_is)
      case d_waking_of =>
        refine' EC.gdef_mk KX G ?a ?l ?c ?k
        (case a => k_is)
        (case l => k_is)
        (case c => k_is)
        (case k => k_is)
      case d_key_of =>
        refine' EC.gdef_mk KX G ?a ?l ?c ?k
        (case a => k_is)
        (case l => k_is)
        (case c => k_is)
        (case k => k_is)
      case d_width_of_key =>
        refine' EC.gdef_mk KX G ?a ?l ?c ?k
        (case a => k_is)
        (case l => k_is)
        (case c => k_is)
        (case k => k_is)
      case m_moments =>
        refine' EC.mdef_mk ?a ?i ?l ?c ?k
        (case a => k_is)
        (case i => k_is)
        (case l => k_is)
        (case c => k_is)
        (case k => k_is)
      case m_moments_behind =>
        refine' EC.mdef_mk ?a ?i ?l ?c ?k
        (case a => k_is)
        (case i => k_is)
        (case l => k_is)
        (case c => k_is)
        (case k => k_is)
      case m_rounds =>
        refine' EC.mdef_mk ?a ?i ?l ?c ?k
        (case a => k_is)
        (case i => k_is)
        (case l => k_is)
        (case c => k_is)
        (case k => k_is)
      case m_most_key =>
        refine' EC.mdef_mk ?a ?i ?l ?c ?k
        (case a => k_is)
        (case i => k_is)
        (case l => k_is)
        (case c => k_is)
        (case k => k_is)
      case m_fall_key =>
        refine' EC.mdef_mk ?a ?i ?l ?c ?k
        (case a => k_is)
        (case i => k_is)
        (case l => k_is)
        (case c => k_is)
        (case k => k_is)
      case m_all_most =>
        refine' EC.mdef_mk ?a ?i ?l ?c ?k
        (case a => k_is)
        (case i => k_is)
        (case l => k_is)
        (case c => k_is)
        (case k => k_is)
      case m_falls =>
        refine' EC.mdef_mk ?a ?i ?l ?c ?k
        (case a => k_is)
        (case i => k_is)
        (case l => k_is)
        (case c => k_is)
        (case k => k_is)
      case d_awake_from =>
        refine' EC.gdef_mk KX G ?a ?l ?c ?k
        (case a => k_is)
        (case l => k_is)
        (case c => k_is)
        (case k => k_is)
      case d_most_spent =>
        refine' EC.gdef_mk KX G ?a ?l ?c ?k
        (case a => k_is)
        (case l => k_is)
        (case c => k_is)
        (case k => k_is)
      case d_falls_from =>
        refine' EC.gdef_mk KX G ?a ?l ?c ?k
        (case a => k_is)
        (case l => k_is)
        (case c => k_is)
        (case k => k_is)
      case d_law_value =>
        refine' EC.gdef_mk KX G ?a ?l ?c ?k
        (case a => k_is)
        (case l => k_is)
        (case c => k_is)
        (case k => k_is)
      case d_law_holds =>
        refine' EC.gdef_mk KX G ?a ?l ?c ?k
        (case a => k_is)
        (case l => k_is)
        (case c => k_is)
        (case k => k_is)
      case d_law_first =>
        refine' EC.gdef_mk KX G ?a ?l ?c ?k
        (case a => k_is)
        (case l => k_is)
        (case c => k_is)
        (case k => k_is)
      case d_law_due =>
        refine' EC.gdef_mk KX G ?a ?l ?c ?k
        (case a => k_is)
        (case l => k_is)
        (case c => k_is)
        (case k => k_is)
      case d_law_steps =>
        refine' EC.gdef_mk KX G ?a ?l ?c ?k
        (case a => k_is)
        (case l => k_is)
        (case c => k_is)
        (case k => k_is)
      case d_law_told =>
        refine' EC.gdef_mk KX G ?a ?l ?c ?k
        (case a => k_is)
        (case l => k_is)
        (case c => k_is)
        (case k => k_is)
      case d_law_after =>
        refine' EC.gdef_mk KX G ?a ?l ?c ?k
        (case a => k_is)
        (case l => k_is)
        (case c => k_is)
        (case k => k_is)
      case d_law_waking =>
        refine' EC.gdef_mk KX G ?a ?l ?c ?k
        (case a => k_is)
        (case l => k_is)
        (case c => k_is)
        (case k => k_is)
      case d_law_awake =>
        refine' EC.gdef_mk KX G ?a ?l ?c ?k
        (case a => k_is)
        (case l => k_is)
        (case c => k_is)
        (case k => k_is)
      case d_law_falls =>
        refine' EC.gdef_mk KX G ?a ?l ?c ?k
        (case a => k_is)
        (case l => k_is)
        (case c => k_is)
        (case k => k_is)
      case d_law_set =>
        refine' EC.gdef_mk KX G ?a ?l ?c ?k
        (case a => k_is)
        (case l => k_is)
        (case c => k_is)
        (case k => k_is)
      case d_law_net =>
        refine' EC.gdef_mk KX G ?a ?l ?c ?k
        (case a => k_is)
        (case l => k_is)
        (case c => k_is)
        (case k => k_is)
      case d_lright =>
        refine' EC.gdef_mk KX G ?a ?l ?c ?k
        (case a => k_is)
        (case l => k_is)
        (case c => k_is)
        (case k => k_is)
      case d_law_draw =>
        refine' EC.gdef_mk KX G ?a ?l ?c ?k
        (case a => k_is)
        (case l => k_is)
        (case c => k_is)
        (case k => k_is)
      case d_law_pick =>
        refine' EC.gdef_mk KX G ?a ?l ?c ?k
        (case a => k_is)
        (case l => k_is)
        (case c => k_is)
        (case k => k_is)
      case d_law_feed =>
        refine' EC.gdef_mk KX G ?a ?l ?c ?k
        (case a => k_is)
        (case l => k_is)
        (case c => k_is)
        (case k => k_is)
      case d_law_scene =>
        refine' EC.gdef_mk KX G ?a ?l ?c ?k
        (case a => k_is)
        (case l => k_is)
        (case c => k_is)
        (case k => k_is)
      case d_law_bent_code =>
        refine' EC.gdef_mk KX G ?a ?l ?c ?k
        (case a => k_is)
        (case l => k_is)
        (case c => k_is)
        (case k => k_is)
      case d_law_program =>
        refine' EC.gdef_mk KX G ?a ?l ?c ?k
        (case a => k_is)
        (case l => k_is)
        (case c => k_is)
        (case k => k_is)
      case d_law_other =>
        refine' EC.gdef_mk KX G ?a ?l ?c ?k
        (case a => k_is)
        (case l => k_is)
        (case c => k_is)
        (case k => k_is)
