import PyProof.Rows.All
import Wide.All
import OpenK.AllK
import Wide.FinOn
import HandS.Codes
import HandS.Conv
import HandS.Deep
import HandS.DictComp
import HandS.DictTup
import HandS.Evl
import HandS.ExcField
import HandS.ExcInit
import HandS.ExcSuper
import HandS.ForExc
import HandS.ForMost
import HandS.Head0
import HandS.Head1
import HandS.Head2
import HandS.HeadEnd
import HandS.HeadHook1
import HandS.HeadHook2
import HandS.IsInst
import HandS.More
import HandS.NoneIn
import HandS.SetBool
import HandS.Slots
import HandS.SlotsOwn
import HandS.SortRule
import HandS.Star
import HandS.Steps
import HandS.Style
import HandS.TupLe
import HandS.TupSets
import HandS.Walk
import KE.KDictCopyH
import KE.KExcIs
import KE.KExcPX
import KE.KExcSuper
import KE.KOpsOwn
import KE.KStateDown
import KE.KTryMore
import OpenK.KMeth
import OpenK.KWalk
import PyProof.DictMoreH
import PySem.Challenge.RW_poleribbons_k86_whole_needed_and_then_la
set_option Elab.async false
set_option linter.all false
set_option maxRecDepth 100000
set_option maxHeartbeats 4000000
set_option maxHeartbeats 4000000
/-! Wa: data (Dt), what a value stands for (Rp), readings by data (tD, cD, aD), the rules of operators. -/
namespace Pr
open PySem PySem.Spec PyProof.Rows L2

/-- data: plain data, an instance by its class's name and its slots, a dict with tuple keys, a dict with int or text keys -/
inductive Dt where
  | p (d : PyData)
  | ob (c : Str) (fs : List Dt)
  | dT (kvs : List (List Key × PyData))
  | dK (kvs : List (Key × PyData))
  | r (a : Addr)
  | li (ds : List Dt)
  | tu (ds : List Dt)

abbrev Dt.i (n : Int) : Dt := .p (.int n)
abbrev Dt.b (b : Bool) : Dt := .p (.bool b)
abbrev Dt.s (x : Str) : Dt := .p (.str x)
abbrev Dt.t (ds : List PyData) : Dt := .p (.tuple ds)
abbrev Dt.l (ds : List PyData) : Dt := .p (.list ds)
abbrev Dt.n : Dt := .p .none

/-- the class of that name -/
abbrev ga (K : PySem.W.Frag) (x : Str) : Addr := He.ga K x
/-- the def of that name in a class -/
abbrev ma (K : PySem.W.Frag) (x m : Str) : Addr := He.ma K (He.ga K x) m

/-- tuples of ints: they may be keys, so their object is told exactly -/
def kz : List PyData → Bool
  | [] => false
  | ds => ds.all fun d => match d with | .int _ => true | _ => false
mutual
inductive Dp (K : PySem.W.Frag) (H : Hp) : V → PyData → Prop
  | non : Dp K H .non .none
  | bl (b : Bool) : Dp K H (.bl b) (.bool b)
  | int (i : Int) : Dp K H (.int i) (.int i)
  | str (x : Str) : Dp K H (.str x) (.str x)
  | lst {a : Addr} {xs : List V} {ds : List PyData} : SqL K H a xs → DpAll K H xs ds → Dp K H (.ref a) (.list ds)
  | tup {a : Addr} {xs : List V} {ds : List PyData} : SqT K H a xs → (kz ds = true → H a = some (.tup xs)) → DpAll K H xs ds → Dp K H (.ref a) (.tuple ds)
inductive DpAll (K : PySem.W.Frag) (H : Hp) : List V → List PyData → Prop
  | nil : DpAll K H [] []
  | cons {v : V} {vs : List V} {d : PyData} {ds : List PyData} : Dp K H v d → DpAll K H vs ds → DpAll K H (v :: vs) (d :: ds)
end
section
variable {K : PySem.W.Frag} {H : Hp}
mutual
/-- .. as the kit's rules take it -/
theorem Dp.kit : ∀ {v : V} {d : PyData}, Dp K H v d → L2.Dp K H v d
  | _, _, .non => .non
  | _, _, .bl b => .bl b
  | _, _, .int i => .int i
  | _, _, .str x => .str x
  | _, _, .lst s h => .lst s (DpAll.kit h)
  | _, _, .tup s _ h => .tup s (DpAll.kit h)
theorem DpAll.kit : ∀ {vs : List V} {ds : List PyData}, DpAll K H vs ds → L2.DpAll K H vs ds
  | _, _, .nil => .nil
  | _, _, .cons h t => .cons (Dp.kit h) (DpAll.kit t)
end
end
def KvP {κ : Type} (K : PySem.W.Frag) (H : Hp) : List (κ × V) → List (κ × PyData) → Prop := Paired fun (p : κ × V) (q : κ × PyData) => p.1 = q.1 ∧ Dp K H p.2 q.2

mutual
inductive Rp (K : PySem.W.Frag) (H : Hp) : V → Dt → Prop
  | p {v : V} {d : PyData} : Dp K H v d → Rp K H v (.p d)
  | ob {a dx : Addr} {c : Str} {vs : List V} {fs : List Dt} : SlX.Slt H a (ga K c) dx (vs.map some) → RpAll K H vs fs → Rp K H (.ref a) (.ob c fs)
  | dT {a : Addr} {kvs : List (List Key × V)} {ds : List (List Key × PyData)} : Rd H a (.dT kvs) → KvP K H kvs ds → Rp K H (.ref a) (.dT ds)
  | dK {a : Addr} {kvs : List (Key × V)} {ds : List (Key × PyData)} : Rd H a (.dK kvs) → KvP K H kvs ds → Rp K H (.ref a) (.dK ds)
  | r (a : Addr) : Rp K H (.ref a) (.r a)
  | li {a : Addr} {vs : List V} {ds : List Dt} : SqL K H a vs → RpAll K H vs ds → Rp K H (.ref a) (.li ds)
  | tu {a : Addr} {vs : List V} {ds : List Dt} : SqT K H a vs → RpAll K H vs ds → Rp K H (.ref a) (.tu ds)
inductive RpAll (K : PySem.W.Frag) (H : Hp) : List V → List Dt → Prop
  | nil : RpAll K H [] []
  | cons {v : V} {vs : List V} {d : Dt} {ds : List Dt} : Rp K H v d → RpAll K H vs ds → RpAll K H (v :: vs) (d :: ds)
end

section
variable {K : PySem.W.Frag} {H H' : Hp}
theorem rd_mono {a : Addr} {u : HO} (e : Same H H') (h : Rd H a u) : Rd H' a u := by
  rcases h with h | ⟨o, h⟩
  · exact .inl (e a _ h)
  · exact .inr ⟨o, e a _ h⟩
theorem sqL_mono {a : Addr} {xs : List V} (e : Same H H') (h : SqL K H a xs) : SqL K H' a xs := h.elim (fun h => .inl (rd_mono e h)) .inr
theorem sqT_mono {a : Addr} {xs : List V} (e : Same H H') (h : SqT K H a xs) : SqT K H' a xs := h.elim (fun h => .inl (rd_mono e h)) .inr
theorem slt_mono {a C dx : Addr} {vs : List (Option V)} (e : Same H H') (h : SlX.Slt H a C dx vs) : SlX.Slt H' a C dx vs := by
  rcases h with ⟨h1, h2⟩ | ⟨h1, h2⟩
  · exact .inl ⟨e _ _ h1, h2⟩
  · exact .inr ⟨e _ _ h1, e _ _ h2⟩
mutual
theorem dp_mono (e : Same H H') : ∀ {v : V} {d : PyData}, Dp K H v d → Dp K H' v d
  | _, _, .non => .non
  | _, _, .bl b => .bl b
  | _, _, .int i => .int i
  | _, _, .str x => .str x
  | _, _, .lst s h => .lst (sqL_mono e s) (dpAll_mono e h)
  | _, _, .tup s z h => .tup (sqT_mono e s) (fun k => e _ _ (z k)) (dpAll_mono e h)
theorem dpAll_mono (e : Same H H') : ∀ {vs : List V} {ds : List PyData}, DpAll K H vs ds → DpAll K H' vs ds
  | _, _, .nil => .nil
  | _, _, .cons h t => .cons (dp_mono e h) (dpAll_mono e t)
end
theorem kvP_mono {κ : Type} (e : Same H H') {a : List (κ × V)} {b : List (κ × PyData)} (h : KvP K H a b) : KvP K H' a b :=
  Paired.mapP h fun _ _ z => ⟨z.1, dp_mono e z.2⟩
mutual
theorem Rp.mono (e : Same H H') : ∀ {v : V} {d : Dt}, Rp K H v d → Rp K H' v d
  | _, _, .p h => .p (dp_mono e h)
  | _, _, .ob s h => .ob (slt_mono e s) (RpAll.mono e h)
  | _, _, .dT s h => .dT (rd_mono e s) (kvP_mono e h)
  | _, _, .dK s h => .dK (rd_mono e s) (kvP_mono e h)
  | _, _, .r a => .r a
  | _, _, .li s h => .li (sqL_mono e s) (RpAll.mono e h)
  | _, _, .tu s h => .tu (sqT_mono e s) (RpAll.mono e h)
theorem RpAll.mono (e : Same H H') : ∀ {vs : List V} {ds : List Dt}, RpAll K H vs ds → RpAll K H' vs ds
  | _, _, .nil => .nil
  | _, _, .cons h t => .cons (Rp.mono e h) (RpAll.mono e t)
end
theorem Rp.toDp {v : V} {d : PyData} (h : Rp K H v (.p d)) : Dp K H v d := by cases h with | p h => exact h
theorem RpAll.length : ∀ {vs : List V} {ds : List Dt}, RpAll K H vs ds → vs.length = ds.length
  | _, _, .nil => rfl
  | _, _, .cons _ t => congrArg (· + 1) (RpAll.length t)
theorem RpAll.get : ∀ {vs : List V} {ds : List Dt} {i : Nat} {d : Dt}, RpAll K H vs ds → ds[i]? = some d → ∃ v, vs[i]? = some v ∧ Rp K H v d
  | _, _, _, _, .nil, e => by simp at e
  | _, _, 0, _, .cons r _, e => by simp at e; subst e; exact ⟨_, rfl, r⟩
  | _, _, i + 1, d, .cons _ t, e => by
    obtain ⟨v, h1, h2⟩ := RpAll.get (i := i) (d := d) t (by simpa using e)
    exact ⟨v, by simpa using h1, h2⟩
theorem dpAll_length : ∀ {vs : List V} {ds : List PyData}, DpAll K H vs ds → vs.length = ds.length
  | _, _, .nil => rfl
  | _, _, .cons _ t => congrArg (· + 1) (dpAll_length t)
theorem dpAll_get : ∀ {vs : List V} {ds : List PyData} {i : Nat} {d : PyData}, DpAll K H vs ds → ds[i]? = some d → ∃ v, vs[i]? = some v ∧ Dp K H v d
  | _, _, _, _, .nil, e => by simp at e
  | _, _, 0, _, .cons r _, e => by simp at e; subst e; exact ⟨_, rfl, r⟩
  | _, _, i + 1, d, .cons _ t, e => by
    obtain ⟨v, h1, h2⟩ := dpAll_get (i := i) (d := d) t (by simpa using e)
    exact ⟨v, by simpa using h1, h2⟩
theorem dpAll_get2 : ∀ {vs : List V} {ds : List PyData} {i : Nat} {v : V}, DpAll K H vs ds → vs[i]? = some v → ∃ d, ds[i]? = some d ∧ Dp K H v d
  | _, _, _, _, .nil, e => by simp at e
  | _, _, 0, _, .cons r _, e => by simp at e; subst e; exact ⟨_, rfl, r⟩
  | _, _, i + 1, v, .cons _ t, e => by
    obtain ⟨d, h1, h2⟩ := dpAll_get2 (i := i) (v := v) t (by simpa using e)
    exact ⟨d, by simpa using h1, h2⟩
theorem dpAll_append : ∀ {vs ws : List V} {ds es : List PyData}, DpAll K H vs ds → DpAll K H ws es → DpAll K H (vs ++ ws) (ds ++ es)
  | _, _, _, _, .nil, s => s
  | _, _, _, _, .cons r t, s => .cons r (dpAll_append t s)
theorem dp_int {v : V} {n : Int} (h : Dp K H v (.int n)) : v = .int n := by cases h; rfl
theorem dp_bl {v : V} {n : Bool} (h : Dp K H v (.bool n)) : v = .bl n := by cases h; rfl
theorem dp_str {v : V} {n : Str} (h : Dp K H v (.str n)) : v = .str n := by cases h; rfl
theorem dp_non {v : V} (h : Dp K H v .none) : v = .non := by cases h; rfl
theorem dp_tup {v : V} {ds : List PyData} (h : Dp K H v (.tuple ds)) : ∃ a xs, v = .ref a ∧ SqT K H a xs ∧ DpAll K H xs ds := by cases h with | tup s _ h => exact ⟨_, _, rfl, s, h⟩
theorem dp_lst {v : V} {ds : List PyData} (h : Dp K H v (.list ds)) : ∃ a xs, v = .ref a ∧ SqL K H a xs ∧ DpAll K H xs ds := by cases h with | lst s h => exact ⟨_, _, rfl, s, h⟩
theorem Rp.i_inv {v : V} {n : Int} (h : Rp K H v (.p (.int n))) : v = .int n := dp_int h.toDp
theorem Rp.b_inv {v : V} {n : Bool} (h : Rp K H v (.p (.bool n))) : v = .bl n := dp_bl h.toDp
theorem Rp.s_inv {v : V} {n : Str} (h : Rp K H v (.p (.str n))) : v = .str n := dp_str h.toDp
theorem Rp.n_inv {v : V} (h : Rp K H v (.p .none)) : v = .non := dp_non h.toDp
theorem Rp.ob_inv {v : V} {c : Str} {fs : List Dt} (h : Rp K H v (.ob c fs)) : ∃ a dx vs, v = .ref a ∧ SlX.Slt H a (ga K c) dx (vs.map some) ∧ RpAll K H vs fs := by
  cases h with | ob s r => exact ⟨_, _, _, rfl, s, r⟩
theorem Rp.dT_inv {v : V} {ds : List (List Key × PyData)} (h : Rp K H v (.dT ds)) : ∃ a kvs, v = .ref a ∧ Rd H a (.dT kvs) ∧ KvP K H kvs ds := by cases h with | dT s r => exact ⟨_, _, rfl, s, r⟩
theorem Rp.dK_inv {v : V} {ds : List (Key × PyData)} (h : Rp K H v (.dK ds)) : ∃ a kvs, v = .ref a ∧ Rd H a (.dK kvs) ∧ KvP K H kvs ds := by cases h with | dK s r => exact ⟨_, _, rfl, s, r⟩
end

/-! ### environments -/
abbrev De := List (Option Dt)
structure EnvD (K : PySem.W.Frag) (σ : L2.St) (H : Hp) (δ : De) : Prop where
  len : σ.length = δ.length
  at_ : ∀ (i : Nat) (d : Dt), δ[i]? = some (some d) → ∃ v, σ[i]? = some (some v) ∧ Rp K H v d
section
variable {K : PySem.W.Frag} {σ : L2.St} {H H' : Hp} {δ : De}
theorem EnvD.mono (E : EnvD K σ H δ) (e : Same H H') : EnvD K σ H' δ := ⟨E.len, fun i d h => let ⟨v, a, b⟩ := E.at_ i d h; ⟨v, a, b.mono e⟩⟩
theorem EnvD.set (E : EnvD K σ H δ) {v : V} {d : Dt} (i : Nat) (r : Rp K H v d) : EnvD K (σ.set i (some v)) H (δ.set i (some d)) := by
  refine ⟨by rw [List.length_set, List.length_set, E.len], fun j d' h => ?_⟩
  by_cases hj : i = j
  · subst hj
    have hlt : i < δ.length := by
      by_cases q : i < δ.length
      · exact q
      · rw [List.getElem?_eq_none (by rw [List.length_set]; omega)] at h; cases h
    rw [List.getElem?_set_self hlt] at h
    cases h
    exact ⟨v, by rw [List.getElem?_set_self (by rw [E.len]; exact hlt)], r⟩
  · rw [List.getElem?_set_ne hj] at h ⊢
    exact E.at_ j d' h
theorem EnvD.none (E : EnvD K σ H δ) (o : Option V) (i : Nat) : EnvD K (σ.set i o) H (δ.set i Option.none) := by
  refine ⟨by rw [List.length_set, List.length_set, E.len], fun j d' h => ?_⟩
  by_cases hj : i = j
  · subst hj
    by_cases q : i < δ.length
    · rw [List.getElem?_set_self q] at h; cases h
    · rw [List.getElem?_eq_none (by rw [List.length_set]; omega)] at h; cases h
  · rw [List.getElem?_set_ne hj] at h ⊢
    exact E.at_ j d' h
theorem envD_start {N : List Str} {vs : List V} {ds : List Dt} (r : RpAll K H vs ds) (hl : vs.length ≤ N.length) : EnvD K (L2.start N vs) H (ds.map some ++ List.replicate (N.length - ds.length) Option.none) := by
  have e := r.length
  refine ⟨by unfold L2.start; rw [List.length_append, List.length_append, List.length_map, List.length_map, List.length_replicate, List.length_replicate]; omega, fun i d h => ?_⟩
  by_cases hi : i < ds.length
  · rw [List.getElem?_append_left (by rw [List.length_map]; exact hi), List.getElem?_map] at h
    cases q : ds[i]? with
    | none => rw [q] at h; cases h
    | some d' =>
      rw [q] at h
      have h' : d' = d := Option.some.inj (Option.some.inj h)
      subst h'
      obtain ⟨v, a, b⟩ := r.get q
      refine ⟨v, ?_, b⟩
      unfold L2.start
      rw [List.getElem?_append_left (by rw [List.length_map]; omega), List.getElem?_map, a]
      rfl
  · rw [List.getElem?_append_right (by rw [List.length_map]; omega), List.getElem?_replicate] at h
    split at h <;> cases h
end

/-! ### readings by data -/
def tD (K : PySem.W.Frag) (δ : De) (d : Dt) : TE := fun σ H Q => EnvD K σ H δ ∧ ∀ v H', Same H H' → Rp K H' v d → Q v H'
/-- .. a new list: its address was free -/
def tN (K : PySem.W.Frag) (δ : De) (ds : List PyData) : TE := fun σ H Q => EnvD K σ H δ ∧ ∀ p vs H', H p = none → Same H H' → H' p = some (.lst vs) → DpAll K H' vs ds → Q (.ref p) H'
def cD (K : PySem.W.Frag) (δ : De) (b : Bool) : TT := fun σ H Q => EnvD K σ H δ ∧ ∀ H', Same H H' → Q b H'
def aD (K : PySem.W.Frag) (δ : De) (ds : List Dt) : TA := fun σ H Q => EnvD K σ H δ ∧ ∀ vs H', Same H H' → RpAll K H' vs ds → Q vs H'

section
variable {X : Cx}
theorem PE_imp {e : Expr} {t t' : TE} (h : PE X e t) (i : ∀ σ H Q, t' σ H Q → t σ H Q) : PE X e t' := ⟨fun pins s σ H Q I q => h.run pins s σ H Q I (i σ H Q q)⟩
theorem PT_imp {e : Expr} {t t' : TT} (h : PT X e t) (i : ∀ σ H Q, t' σ H Q → t σ H Q) : PT X e t' := ⟨fun pins s σ H Q I q => h.run pins s σ H Q I (i σ H Q q)⟩
theorem PW_imp {e : Expr} {t t' : TT} (h : PW X e t) (i : ∀ σ H Q, t' σ H Q → t σ H Q) : PW X e t' := ⟨fun w pins s σ H Q I q => h.run w pins s σ H Q I (i σ H Q q)⟩
theorem PA_imp {es : List Expr} {t t' : TA} (h : PA X es t) (i : ∀ σ H Q, t' σ H Q → t σ H Q) : PA X es t' := ⟨fun pos pins s σ H Q I q => h.run pos pins s σ H Q I (i σ H Q q)⟩
theorem PS_imp {st : Stmt} {t t' : TS} (h : PS X st t) (i : ∀ D σ H, t' D σ H → t D σ H) : PS X st t' := ⟨fun pins s σ H D I q => h.run pins s σ H D I (i D σ H q)⟩
theorem PSs_imp {st : List Stmt} {t t' : TS} (h : PSs X st t) (i : ∀ D σ H, t' D σ H → t D σ H) : PSs X st t' := ⟨fun pins s σ H D I q => h.run pins s σ H D I (i D σ H q)⟩

variable {δ : De} {a b c e : Expr} {d d1 d2 : Dt} {pos : Pos}
theorem d_new {ds : List PyData} (h : PE X e (tN X.K δ ds)) : PE X e (tD X.K δ (.l ds)) :=
  PE_imp h fun σ H Q ⟨E, q⟩ => ⟨E, fun p vs H' _ s hp hd => q _ H' s (.p (.lst (SqL.of hp) hd))⟩
theorem d_eqv (h : PE X e (tD X.K δ d1)) (q : d1 = d) : PE X e (tD X.K δ d) := q ▸ h
theorem c_eqv {b1 b2 : Bool} (h : PT X e (cD X.K δ b1)) (q : b1 = b2) : PT X e (cD X.K δ b2) := q ▸ h

theorem d_var (i : Nat) {x : Str} (hd : δ[i]? = some (some d)) (hN : X.N[i]? = some x := by rfl) (hv : Vis X.env.scope x := by first | exact Or.inl rfl | exact Or.inr (Or.inl rfl) | exact Or.inr (Or.inr rfl))
    (h1 : (x == ("__debug__" : Str)) = false := by decide) (h2 : (x == ("__classdict__" : Str)) = false := by decide) : PE X (.Name x pos) (tD X.K δ d) :=
  PE_imp (pe_var hN hv h1 h2) fun σ H Q ⟨E, q⟩ => let ⟨v, a, r⟩ := E.at_ i d hd; ⟨v, a, q v H (Same.refl H) r⟩
theorem d_int {i : Int} {j pos} : PE X (.Constant (.int i) j pos) (tD X.K δ (.i i)) := PE_imp pe_int fun σ H Q ⟨_, q⟩ => q _ H (Same.refl H) (.p (.int i))
theorem d_bl {b : Bool} {j pos} : PE X (.Constant (.bool b) j pos) (tD X.K δ (.b b)) := PE_imp pe_bl fun σ H Q ⟨_, q⟩ => q _ H (Same.refl H) (.p (.bl b))
theorem d_non {j pos} : PE X (.Constant .none j pos) (tD X.K δ .n) := PE_imp pe_non fun σ H Q ⟨_, q⟩ => q _ H (Same.refl H) (.p .non)
theorem d_str {x : Str} {j pos} : PE X (.Constant (.str x) j pos) (tD X.K δ (.s x)) := PE_imp pe_str fun σ H Q ⟨_, q⟩ => q _ H (Same.refl H) (.p (.str x))
/-- a value of the module's text -/
theorem d_glob {x : Str} {v : V} {u : Value} (hg : Gl X x) (hm : X.mg x = some u) (r : RelV v u) (hr : ∀ H, Rp X.K H v d) (hd : (x == ("__debug__" : Str)) = false := by decide) : PE X (.Name x pos) (tD X.K δ d) :=
  PE_imp (pe_glob hg hm r hd) fun σ H Q ⟨_, q⟩ => q _ H (Same.refl H) (hr H)

/-- what two operands give -/
def R2D (K : PySem.W.Frag) (r : R2) (d1 d2 d : Dt) : Prop := ∀ x y H (Q : VK), Rp K H x d1 → Rp K H y d2 → (∀ v H', Same H H' → Rp K H' v d → Q v H') → r x y H Q
theorem bin_D {r : R2} (hr : R2D X.K r d1 d2 d) : ∀ σ H Q, tD X.K δ d σ H Q → tOp r (tD X.K δ d1) (tD X.K δ d2) σ H Q := fun σ H Q ⟨E, q⟩ =>
  ⟨E, fun x H1 s1 r1 => ⟨E.mono s1, fun y H2 s2 r2 => hr x y H2 Q (r1.mono s2) r2 fun v H' s3 rv => q v H' ((s1.trans s2).trans s3) rv⟩⟩
theorem bin_C {r : R2} {k : Bool} (hr : R2D X.K r d1 d2 (.b k)) : ∀ σ H Q, cD X.K δ k σ H Q → tTest (tOp r (tD X.K δ d1) (tD X.K δ d2)) σ H Q := fun σ H Q ⟨E, q⟩ =>
  ⟨E, fun x H1 s1 r1 => ⟨E.mono s1, fun y H2 s2 r2 => hr x y H2 _ (r1.mono s2) r2 fun v H' s3 rv => ⟨k, rv.b_inv, q H' ((s1.trans s2).trans s3)⟩⟩⟩
theorem d_bin {op : Operator} {r : R2} (ho : OpR X (binaryOp op) r) (hr : R2D X.K r d1 d2 d) (ha : PE X a (tD X.K δ d1)) (hb : PE X b (tD X.K δ d2)) : PE X (.BinOp a op b pos) (tD X.K δ d) := PE_imp (pe_op ho ha hb) (bin_D hr)
theorem d_cmp {op : CmpOp} {r : R2} (ho : OpR X (compareOp op) r) (hr : R2D X.K r d1 d2 d) (hm : behindInMarks op b = false) (ha : PE X a (tD X.K δ d1)) (hb : PE X b (tD X.K δ d2)) : PE X (.Compare a [op] [b] pos) (tD X.K δ d) := PE_imp (pe_cmpR ho ha hb hm) (bin_D hr)
theorem c_cmp {op : CmpOp} {r : R2} {k : Bool} (ho : OpR X (compareOp op) r) (hr : R2D X.K r d1 d2 (.b k)) (hm : behindInMarks op b = false) (ha : PE X a (tD X.K δ d1)) (hb : PE X b (tD X.K δ d2)) : PT X (.Compare a [op] [b] pos) (cD X.K δ k) := PT_imp (pt_cmpR ho ha hb hm) (bin_C hr)
end
section
variable {K : PySem.W.Frag}
theorem r2_I0 {g : Int → Int → V} {i j : Int} {d : Dt} (h : ∀ H, Rp K H (g i j) d) : R2D K (rI0 g) (.i i) (.i j) d := fun x y H Q r1 r2 q => ⟨i, j, r1.i_inv, r2.i_inv, q _ H (Same.refl H) (h H)⟩
theorem r2_I {C : Int → Int → Prop} {g : Int → Int → V} {i j : Int} {d : Dt} (c : C i j) (h : ∀ H, Rp K H (g i j) d) : R2D K (rI C g) (.i i) (.i j) d := fun x y H Q r1 r2 q => ⟨i, j, r1.i_inv, r2.i_inv, c, q _ H (Same.refl H) (h H)⟩
theorem r2_eqD {d e : PyData} (h1 : SeqAt.shaped d = true) (h2 : SeqAt.shaped e = true) : R2D K (rEqD K) (.p d) (.p e) (.b (PyData.eqv d e)) := fun x y H Q r1 r2 q => ⟨d, e, r1.toDp.kit, r2.toDp.kit, h1, h2, q _ H (Same.refl H) (.p (.bl _))⟩
theorem r2_neD {d e : PyData} (h1 : SeqAt.shaped d = true) (h2 : SeqAt.shaped e = true) : R2D K (rNeD K) (.p d) (.p e) (.b (!PyData.eqv d e)) := fun x y H Q r1 r2 q => ⟨d, e, r1.toDp.kit, r2.toDp.kit, h1, h2, q _ H (Same.refl H) (.p (.bl _))⟩
theorem r2_inD {d : PyData} {ds : List PyData} (h1 : SeqAt.shaped d = true) (h2 : SeqAt.shaped (.list ds) = true) : R2D K (rInD K) (.p d) (.l ds) (.b (ds.any fun z => PyData.eqv z d)) := fun x y H Q r1 r2 q => ⟨d, ds, r1.toDp.kit, r2.toDp.kit, h1, h2, q _ H (Same.refl H) (.p (.bl _))⟩
theorem r2_ninD {d : PyData} {ds : List PyData} (h1 : SeqAt.shaped d = true) (h2 : SeqAt.shaped (.list ds) = true) : R2D K (rNotInD K) (.p d) (.l ds) (.b (!ds.any fun z => PyData.eqv z d)) := fun x y H Q r1 r2 q => ⟨d, ds, r1.toDp.kit, r2.toDp.kit, h1, h2, q _ H (Same.refl H) (.p (.bl _))⟩
end
section
variable {X : Cx} {δ : De} {a b c e : Expr} {i j : Int} {k k1 k2 : Bool} {d d1 d2 : Dt} {pos : Pos}
theorem d_add (ha : PE X a (tD X.K δ (.i i))) (hb : PE X b (tD X.K δ (.i j))) : PE X (.BinOp a .Add b pos) (tD X.K δ (.i (i + j))) := d_bin op_add (r2_I0 fun _ => .p (.int _)) ha hb
theorem d_sub (ha : PE X a (tD X.K δ (.i i))) (hb : PE X b (tD X.K δ (.i j))) : PE X (.BinOp a .Sub b pos) (tD X.K δ (.i (i - j))) := d_bin op_sub (r2_I0 fun _ => .p (.int _)) ha hb
theorem d_mul (c : CMul i j) (ha : PE X a (tD X.K δ (.i i))) (hb : PE X b (tD X.K δ (.i j))) : PE X (.BinOp a .Mult b pos) (tD X.K δ (.i (i * j))) := d_bin op_mul (r2_I c fun _ => .p (.int _)) ha hb
theorem d_fdiv (c : CDiv i j) (ha : PE X a (tD X.K δ (.i i))) (hb : PE X b (tD X.K δ (.i j))) : PE X (.BinOp a .FloorDiv b pos) (tD X.K δ (.i (i / j))) := d_bin op_fdiv (r2_I c fun _ => .p (.int _)) ha hb
theorem d_mod (c : 0 < j) (ha : PE X a (tD X.K δ (.i i))) (hb : PE X b (tD X.K δ (.i j))) : PE X (.BinOp a .Mod b pos) (tD X.K δ (.i (i % j))) := d_bin op_mod (r2_I c fun _ => .p (.int _)) ha hb
theorem d_lt (ha : PE X a (tD X.K δ (.i i))) (hb : PE X b (tD X.K δ (.i j))) : PE X (.Compare a [.Lt] [b] pos) (tD X.K δ (.b (decide (i < j)))) := d_cmp op_lt (r2_I0 fun _ => .p (.bl _)) (nomark _) ha hb
theorem d_le (ha : PE X a (tD X.K δ (.i i))) (hb : PE X b (tD X.K δ (.i j))) : PE X (.Compare a [.LtE] [b] pos) (tD X.K δ (.b (decide (i ≤ j)))) := d_cmp op_le (r2_I0 fun _ => .p (.bl _)) (nomark _) ha hb
theorem d_gt (ha : PE X a (tD X.K δ (.i i))) (hb : PE X b (tD X.K δ (.i j))) : PE X (.Compare a [.Gt] [b] pos) (tD X.K δ (.b (decide (j < i)))) := d_cmp op_gt (r2_I0 fun _ => .p (.bl _)) (nomark _) ha hb
theorem d_ge (ha : PE X a (tD X.K δ (.i i))) (hb : PE X b (tD X.K δ (.i j))) : PE X (.Compare a [.GtE] [b] pos) (tD X.K δ (.b (decide (j ≤ i)))) := d_cmp op_ge (r2_I0 fun _ => .p (.bl _)) (nomark _) ha hb
theorem c_lt (ha : PE X a (tD X.K δ (.i i))) (hb : PE X b (tD X.K δ (.i j))) : PT X (.Compare a [.Lt] [b] pos) (cD X.K δ (decide (i < j))) := c_cmp op_lt (r2_I0 fun _ => .p (.bl _)) (nomark _) ha hb
theorem c_le (ha : PE X a (tD X.K δ (.i i))) (hb : PE X b (tD X.K δ (.i j))) : PT X (.Compare a [.LtE] [b] pos) (cD X.K δ (decide (i ≤ j))) := c_cmp op_le (r2_I0 fun _ => .p (.bl _)) (nomark _) ha hb
theorem c_gt (ha : PE X a (tD X.K δ (.i i))) (hb : PE X b (tD X.K δ (.i j))) : PT X (.Compare a [.Gt] [b] pos) (cD X.K δ (decide (j < i))) := c_cmp op_gt (r2_I0 fun _ => .p (.bl _)) (nomark _) ha hb
theorem c_ge (ha : PE X a (tD X.K δ (.i i))) (hb : PE X b (tD X.K δ (.i j))) : PT X (.Compare a [.GtE] [b] pos) (cD X.K δ (decide (j ≤ i))) := c_cmp op_ge (r2_I0 fun _ => .p (.bl _)) (nomark _) ha hb
variable {p q : PyData} (hu : X.A.units + 65 < cLine) (h1 : SeqAt.shaped p = true) (h2 : SeqAt.shaped q = true)
include hu h1 h2
theorem d_eq (ha : PE X a (tD X.K δ (.p p))) (hb : PE X b (tD X.K δ (.p q))) : PE X (.Compare a [.Eq] [b] pos) (tD X.K δ (.b (PyData.eqv p q))) := d_cmp (op_eqD (by omega)) (r2_eqD h1 h2) (nomark _) ha hb
theorem d_ne (ha : PE X a (tD X.K δ (.p p))) (hb : PE X b (tD X.K δ (.p q))) : PE X (.Compare a [.NotEq] [b] pos) (tD X.K δ (.b (!PyData.eqv p q))) := d_cmp (op_neD (by omega)) (r2_neD h1 h2) (nomark _) ha hb
theorem c_eq (ha : PE X a (tD X.K δ (.p p))) (hb : PE X b (tD X.K δ (.p q))) : PT X (.Compare a [.Eq] [b] pos) (cD X.K δ (PyData.eqv p q)) := c_cmp (op_eqD (by omega)) (r2_eqD h1 h2) (nomark _) ha hb
theorem c_ne (ha : PE X a (tD X.K δ (.p p))) (hb : PE X b (tD X.K δ (.p q))) : PT X (.Compare a [.NotEq] [b] pos) (cD X.K δ (!PyData.eqv p q)) := c_cmp (op_neD (by omega)) (r2_neD h1 h2) (nomark _) ha hb
end
section
variable {X : Cx} {δ : De} {a b c e : Expr} {i j : Int} {k k1 k2 : Bool} {d d1 d2 : Dt} {pos : Pos} {p : PyData} {ds : List PyData} (hu : X.A.units + 65 < cLine) (h1 : SeqAt.shaped p = true) (h2 : SeqAt.shaped (.list ds) = true)
include hu h1 h2
theorem d_in (ha : PE X a (tD X.K δ (.p p))) (hb : PE X b (tD X.K δ (.l ds))) (hm : behindInMarks .In b = false := by rfl) : PE X (.Compare a [.In] [b] pos) (tD X.K δ (.b (ds.any fun z => PyData.eqv z p))) := d_cmp (op_inD hu) (r2_inD h1 h2) hm ha hb
theorem d_nin (ha : PE X a (tD X.K δ (.p p))) (hb : PE X b (tD X.K δ (.l ds))) (hm : behindInMarks .NotIn b = false := by rfl) : PE X (.Compare a [.NotIn] [b] pos) (tD X.K δ (.b (!ds.any fun z => PyData.eqv z p))) := d_cmp (op_notInD hu) (r2_ninD h1 h2) hm ha hb
theorem c_in (ha : PE X a (tD X.K δ (.p p))) (hb : PE X b (tD X.K δ (.l ds))) (hm : behindInMarks .In b = false := by rfl) : PT X (.Compare a [.In] [b] pos) (cD X.K δ (ds.any fun z => PyData.eqv z p)) := c_cmp (op_inD hu) (r2_inD h1 h2) hm ha hb
theorem c_nin (ha : PE X a (tD X.K δ (.p p))) (hb : PE X b (tD X.K δ (.l ds))) (hm : behindInMarks .NotIn b = false := by rfl) : PT X (.Compare a [.NotIn] [b] pos) (cD X.K δ (!ds.any fun z => PyData.eqv z p)) := c_cmp (op_notInD hu) (r2_ninD h1 h2) hm ha hb
end
end Pr
set_option maxHeartbeats 4000000
/-! Wb: and, or, not, if; displays, subscripts, slices, len, isinstance, fields, dicts' get, calls by data. -/
namespace Pr
open PySem PySem.Spec PyProof.Rows L2

section
variable {X : Cx} {δ : De} {a b c e f : Expr} {es rest : List Expr} {i j : Int} {k k1 k2 : Bool} {d d1 d2 : Dt} {ds : List Dt} {ps : List PyData} {pos : Pos}
/-! ### tests -/
theorem pw_never {e : Expr} : PW X e (fun _ _ _ => False) := ⟨fun _ _ _ _ _ _ _ h => h.elim⟩
theorem pe_never {e : Expr} : PE X e (fun _ _ _ => False) := ⟨fun _ _ _ _ _ _ h => h.elim⟩
theorem pt_never {e : Expr} : PT X e (fun _ _ _ => False) := ⟨fun _ _ _ _ _ _ h => h.elim⟩
theorem c_val (h : PE X e (tD X.K δ (.b k))) (he : ∀ whole, isTrue e X.env whole = (do let v ← whole; standAt e.pos; holding [v] (truthy v)) := by intro _; rfl) : PT X e (cD X.K δ k) :=
  PT_imp (pt_val h he) fun σ H Q ⟨E, q⟩ => ⟨E, fun v H' s r => ⟨k, r.b_inv, q H' s⟩⟩
theorem c_not (h : PT X a (cD X.K δ k)) : PT X (.UnaryOp .Not a pos) (cD X.K δ (!k)) := PT_imp (pt_not h) fun σ H Q ⟨E, q⟩ => ⟨E, fun H' s => q H' s⟩
theorem w_and1 (h : PT X a (cD X.K δ k)) : PW X (.BoolOp .And [a] pos) (cD X.K δ k) := pw_and1 h
theorem w_or1 (h : PT X a (cD X.K δ k)) : PW X (.BoolOp .Or [a] pos) (cD X.K δ k) := pw_or1 h
theorem w_and (h1 : PT X a (cD X.K δ k1)) (h2 : k1 = true → PW X (.BoolOp .And (b :: rest) pos) (cD X.K δ k2)) : PW X (.BoolOp .And (a :: b :: rest) pos) (cD X.K δ (k1 && k2)) := by
  cases k1 with
  | true => exact PW_imp (pw_and h1 (h2 rfl)) fun σ H Q ⟨E, q⟩ => ⟨E, fun H' s => ⟨E.mono s, fun H2 s2 => q H2 (s.trans s2)⟩⟩
  | false => exact PW_imp (pw_and h1 pw_never) fun σ H Q ⟨E, q⟩ => ⟨E, fun H' s => q H' s⟩
theorem w_or (h1 : PT X a (cD X.K δ k1)) (h2 : k1 = false → PW X (.BoolOp .Or (b :: rest) pos) (cD X.K δ k2)) : PW X (.BoolOp .Or (a :: b :: rest) pos) (cD X.K δ (k1 || k2)) := by
  cases k1 with
  | false => exact PW_imp (pw_or h1 (h2 rfl)) fun σ H Q ⟨E, q⟩ => ⟨E, fun H' s => ⟨E.mono s, fun H2 s2 => q H2 (s.trans s2)⟩⟩
  | true => exact PW_imp (pw_or h1 pw_never) fun σ H Q ⟨E, q⟩ => ⟨E, fun H' s => q H' s⟩
theorem d_one {op} (h : PE X a (tD X.K δ d)) : PE X (.BoolOp op [a] pos) (tD X.K δ d) := pe_one h
theorem d_and (h1 : PE X a (tD X.K δ (.b k1))) (h2 : k1 = true → PE X (.BoolOp .And (b :: rest) pos) (tD X.K δ (.b k2))) : PE X (.BoolOp .And (a :: b :: rest) pos) (tD X.K δ (.b (k1 && k2))) := by
  cases k1 with
  | true => exact PE_imp (pe_and h1 (h2 rfl)) fun σ H Q ⟨E, q⟩ => ⟨E, fun v H' s r => ⟨true, r.b_inv, ⟨E.mono s, fun v2 H2 s2 r2 => q v2 H2 (s.trans s2) r2⟩⟩⟩
  | false => exact PE_imp (pe_and h1 pe_never) fun σ H Q ⟨E, q⟩ => ⟨E, fun v H' s r => ⟨false, r.b_inv, q _ H' s (.p (.bl _))⟩⟩
theorem d_or (h1 : PE X a (tD X.K δ (.b k1))) (h2 : k1 = false → PE X (.BoolOp .Or (b :: rest) pos) (tD X.K δ (.b k2))) : PE X (.BoolOp .Or (a :: b :: rest) pos) (tD X.K δ (.b (k1 || k2))) := by
  cases k1 with
  | false => exact PE_imp (pe_or h1 (h2 rfl)) fun σ H Q ⟨E, q⟩ => ⟨E, fun v H' s r => ⟨false, r.b_inv, ⟨E.mono s, fun v2 H2 s2 r2 => q v2 H2 (s.trans s2) r2⟩⟩⟩
  | true => exact PE_imp (pe_or h1 pe_never) fun σ H Q ⟨E, q⟩ => ⟨E, fun v H' s r => ⟨true, r.b_inv, q _ H' s (.p (.bl _))⟩⟩
theorem d_not (h : PE X a (tD X.K δ (.b k))) : PE X (.UnaryOp .Not a pos) (tD X.K δ (.b (!k))) :=
  PE_imp (pe_not h) fun σ H Q ⟨E, q⟩ => ⟨E, fun v H' s r => ⟨k, r.b_inv, q _ H' s (.p (.bl _))⟩⟩
theorem d_if (hc : PT X c (cD X.K δ k)) (ha : k = true → PE X a (tD X.K δ d)) (hb : k = false → PE X b (tD X.K δ d)) : PE X (.IfExp c a b pos) (tD X.K δ d) := by
  cases k with
  | true => exact PE_imp (pe_ifExp hc (ha rfl) pe_never) fun σ H Q ⟨E, q⟩ => ⟨E, fun H' s => ⟨E.mono s, fun v2 H2 s2 r2 => q v2 H2 (s.trans s2) r2⟩⟩
  | false => exact PE_imp (pe_ifExp hc pe_never (hb rfl)) fun σ H Q ⟨E, q⟩ => ⟨E, fun H' s => ⟨E.mono s, fun v2 H2 s2 r2 => q v2 H2 (s.trans s2) r2⟩⟩

/-! ### argument lists, displays -/
theorem a_nil : PA X [] (aD X.K δ []) := PA_imp pa_nil fun σ H Q ⟨_, q⟩ => q [] H (Same.refl H) .nil
theorem a_cons (h : PE X e (tD X.K δ d)) (hr : PA X es (aD X.K δ ds)) (hs : starEach (e :: es) X.env = (false, eval e X.env) :: starEach es X.env := by rfl) : PA X (e :: es) (aD X.K δ (d :: ds)) :=
  PA_imp (pa_cons h hr hs) fun σ H Q ⟨E, q⟩ => ⟨E, fun v H1 s1 r1 => ⟨E.mono s1, fun vs H2 s2 r2 => q (v :: vs) H2 (s1.trans s2) (.cons (r1.mono s2) r2)⟩⟩
theorem rpAll_p {K : PySem.W.Frag} {H : Hp} : ∀ {ps : List PyData} {vs : List V}, RpAll K H vs (ps.map Dt.p) → DpAll K H vs ps
  | [], _, h => by cases h; exact .nil
  | p :: ps, _, h => by
    rw [List.map_cons] at h
    cases h with
    | cons r t => exact .cons r.toDp (rpAll_p t)
theorem same_new {H : Hp} {p : Addr} {o : HO} (h : H p = none) : Same H (upd H p o) := fun a u e => by rw [upd_ne (ne_of_none e h)]; exact e
theorem d_tupP (h : PA X es (aD X.K δ (ps.map Dt.p))) (hl : ps.length ≤ 1000 := by decide) {x1} : PE X (.Tuple es x1 pos) (tD X.K δ (.t ps)) :=
  PE_imp (pe_tup h) fun σ H Q ⟨E, q⟩ => ⟨E, fun vs H' s r => by
    have e := dpAll_length (rpAll_p r)
    exact ⟨Evl.sz_of (by omega), fun p hp => q _ _ (s.trans (same_new hp)) (.p (.tup (SqT.of upd_same) (fun _ => upd_same) (dpAll_mono (same_new hp) (rpAll_p r))))⟩⟩
theorem d_lstP (h : PA X es (aD X.K δ (ps.map Dt.p))) (hl : ps.length ≤ 1000 := by decide) : PE X (.List es pos) (tN X.K δ ps) :=
  PE_imp (pe_lst h) fun σ H Q ⟨E, q⟩ => ⟨E, fun vs H' s r => by
    have e := dpAll_length (rpAll_p r)
    exact ⟨Evl.sz_of (by omega), fun p hp => q p vs _ (s.free hp) (s.trans (same_new hp)) upd_same (dpAll_mono (same_new hp) (rpAll_p r))⟩⟩
theorem d_tup2 {p1 p2 : PyData} (h : PA X es (aD X.K δ [.p p1, .p p2])) {x1} : PE X (.Tuple es x1 pos) (tD X.K δ (.t [p1, p2])) := d_tupP (ps := [p1, p2]) h (by simp)
theorem d_tup3 {p1 p2 p3 : PyData} (h : PA X es (aD X.K δ [.p p1, .p p2, .p p3])) {x1} : PE X (.Tuple es x1 pos) (tD X.K δ (.t [p1, p2, p3])) := d_tupP (ps := [p1, p2, p3]) h (by simp)

/-! ### subscripts -/
theorem atI_dp {K : PySem.W.Frag} {H : Hp} {xs : List V} {ds : List PyData} {i : Int} {d : PyData} (r : DpAll K H xs ds) (h : atI ds i = some d) : ∃ v, atI xs i = some v ∧ Dp K H v d := by
  unfold atI at h ⊢
  rw [dpAll_length r]
  cases q : ixN ds.length i with
  | none => rw [q] at h; cases h
  | some n =>
    rw [q] at h
    obtain ⟨v, a, b⟩ := dpAll_get r (show ds[n]? = some d from h)
    exact ⟨v, a, b⟩
theorem r2_ixT {K : PySem.W.Frag} {p : PyData} (h : atI ps i = some p) : R2D K (rIxT K) (.t ps) (.i i) (.p p) := fun x y H Q r1 r2 q => by
  obtain ⟨a, xs, rfl, s, rr⟩ := dp_tup r1.toDp
  obtain ⟨v, e, r⟩ := atI_dp rr h
  exact ⟨a, xs, i, v, rfl, r2.i_inv, s, e, q v H (Same.refl H) (.p r)⟩
theorem r2_ixL {K : PySem.W.Frag} {p : PyData} (h : atI ps i = some p) : R2D K (rIxL K) (.l ps) (.i i) (.p p) := fun x y H Q r1 r2 q => by
  obtain ⟨a, xs, rfl, s, rr⟩ := dp_lst r1.toDp
  obtain ⟨v, e, r⟩ := atI_dp rr h
  exact ⟨a, xs, i, v, rfl, r2.i_inv, s, e, q v H (Same.refl H) (.p r)⟩
theorem r2_ixS {K : PySem.W.Frag} {z : Str} {c : Nat} (hz : z.length ≤ 100000) (h : atI z.cps.toList i = some c) : R2D K rIxS (.s z) (.i i) (.s ⟨#[c]⟩) := fun x y H Q r1 r2 q =>
  ⟨z, i, c, r1.s_inv, r2.i_inv, Evl.sz_of hz, h, q _ H (Same.refl H) (.p (.str _))⟩
theorem d_subs {r : R2} (hr : IxR X r) (h : R2D X.K r d1 d2 d) (ha : PE X a (tD X.K δ d1)) (hb : PE X b (tD X.K δ d2)) (hs : PlainIx b := by intro _ _; rfl) : PE X (.Subscript a b pos) (tD X.K δ d) := PE_imp (pe_ix hr ha hb hs) (bin_D h)
theorem d_ixT {p : PyData} (h : atI ps i = some p) (ha : PE X a (tD X.K δ (.t ps))) (hb : PE X b (tD X.K δ (.i i))) (hs : PlainIx b := by intro _ _; rfl) : PE X (.Subscript a b pos) (tD X.K δ (.p p)) := d_subs ix_tup (r2_ixT h) ha hb hs
theorem d_ixL {p : PyData} (h : atI ps i = some p) (ha : PE X a (tD X.K δ (.l ps))) (hb : PE X b (tD X.K δ (.i i))) (hs : PlainIx b := by intro _ _; rfl) : PE X (.Subscript a b pos) (tD X.K δ (.p p)) := d_subs ix_list (r2_ixL h) ha hb hs
theorem d_ixS {z : Str} {n : Nat} (hz : z.length ≤ 100000) (h : atI z.cps.toList i = some n) (ha : PE X a (tD X.K δ (.s z))) (hb : PE X b (tD X.K δ (.i i))) (hs : PlainIx b := by intro _ _; rfl) : PE X (.Subscript a b pos) (tD X.K δ (.s ⟨#[n]⟩)) := d_subs ix_str (r2_ixS hz h) ha hb hs

/-! ### len, isinstance, other built-ins by one argument list -/
def RCD (K : PySem.W.Frag) (r : List V → Hp → VK → Prop) (ds : List Dt) (d : Dt) : Prop := ∀ vs H (Q : VK), RpAll K H vs ds → (∀ v H', Same H H' → Rp K H' v d → Q v H') → r vs H Q
theorem call_D {r : List V → Hp → VK → Prop} {t : TA} (hr : RCD X.K r ds d) : ∀ σ H Q, tD X.K δ d σ H Q → tCB r (aD X.K δ ds) σ H Q := fun σ H Q ⟨E, q⟩ =>
  ⟨E, fun vs H1 s1 r1 => hr vs H1 Q r1 fun v H' s rv => q v H' (s1.trans s) rv⟩
theorem rpAll_1 {K : PySem.W.Frag} {H : Hp} {vs : List V} (h : RpAll K H vs [d]) : ∃ v, vs = [v] ∧ Rp K H v d := by
  cases h with | cons r t => cases t; exact ⟨_, rfl, r⟩
theorem rpAll_2 {K : PySem.W.Frag} {H : Hp} {vs : List V} (h : RpAll K H vs [d1, d2]) : ∃ v w, vs = [v, w] ∧ Rp K H v d1 ∧ Rp K H w d2 := by
  cases h with | cons r t => cases t with | cons r2 t => cases t; exact ⟨_, _, rfl, r, r2⟩
theorem rc_lenT {K : PySem.W.Frag} : RCD K (fun xs H Q => ∃ p ys, xs = [V.ref p] ∧ (SqL K H p ys ∨ SqT K H p ys) ∧ Q (.int ys.length) H) [.t ps] (.i ps.length) := fun vs H Q r q => by
  obtain ⟨v, rfl, rv⟩ := rpAll_1 r
  obtain ⟨a, xs, rfl, s, rr⟩ := dp_tup rv.toDp
  exact ⟨a, xs, rfl, .inr s, q _ H (Same.refl H) (by rw [dpAll_length rr]; exact .p (.int _))⟩
theorem rc_lenL {K : PySem.W.Frag} : RCD K (fun xs H Q => ∃ p ys, xs = [V.ref p] ∧ (SqL K H p ys ∨ SqT K H p ys) ∧ Q (.int ys.length) H) [.l ps] (.i ps.length) := fun vs H Q r q => by
  obtain ⟨v, rfl, rv⟩ := rpAll_1 r
  obtain ⟨a, xs, rfl, s, rr⟩ := dp_lst rv.toDp
  exact ⟨a, xs, rfl, .inl s, q _ H (Same.refl H) (by rw [dpAll_length rr]; exact .p (.int _))⟩
theorem d_callB {id : String} {x : Str} {r : List V → Hp → VK → Prop} {p : Pos} (hc : CallR X (.builtin id) r) (hr : RCD X.K r ds d) (hg : Gl X x) (hm : X.mg x = none) (hv : bootBuiltins x = some (.builtin id)) (ha : PA X (e :: es) (aD X.K δ ds)) (hn : x ≠ "__name__" := by decide) (hdb : (x == ("__debug__" : Str)) = false := by decide)
    (he : starEach (e :: es) X.env = (false, eval e X.env) :: starEach es X.env := by rfl) (hpl : (backTo pos (starEach es X.env)).any (·.1) = false := by rfl) : PE X (.Call (.Name x p) (e :: es) [] pos) (tD X.K δ d) :=
  PE_imp (pe_callB hc hg hm hv ha hn hdb he hpl) (call_D (t := aD X.K δ ds) hr)
theorem d_callTy {T : String} {x : Str} {r : List V → Hp → VK → Prop} {p : Pos} (hc : CallR X (.type T) r) (hr : RCD X.K r ds d) (hg : Gl X x) (hm : X.mg x = none) (hv : bootBuiltins x = some (.type T)) (ha : PA X (e :: es) (aD X.K δ ds)) (hn : x ≠ "__name__" := by decide) (hdb : (x == ("__debug__" : Str)) = false := by decide)
    (he : starEach (e :: es) X.env = (false, eval e X.env) :: starEach es X.env := by rfl) (hpl : (backTo pos (starEach es X.env)).any (·.1) = false := by rfl) : PE X (.Call (.Name x p) (e :: es) [] pos) (tD X.K δ d) :=
  PE_imp (pe_callTy hc hg hm hv ha hn hdb he hpl) (call_D (t := aD X.K δ ds) hr)
theorem d_lenT {p : Pos} (hg : Gl X "len") (hm : X.mg "len" = none) (ha : PA X (e :: es) (aD X.K δ [.t ps])) (he : starEach (e :: es) X.env = (false, eval e X.env) :: starEach es X.env := by rfl) (hpl : (backTo pos (starEach es X.env)).any (·.1) = false := by rfl) : PE X (.Call (.Name "len" p) (e :: es) [] pos) (tD X.K δ (.i ps.length)) := d_callB call_len_seq rc_lenT hg hm PySem.boot_len ha (by decide) (by decide) he hpl
theorem d_lenL {p : Pos} (hg : Gl X "len") (hm : X.mg "len" = none) (ha : PA X (e :: es) (aD X.K δ [.l ps])) (he : starEach (e :: es) X.env = (false, eval e X.env) :: starEach es X.env := by rfl) (hpl : (backTo pos (starEach es X.env)).any (·.1) = false := by rfl) : PE X (.Call (.Name "len" p) (e :: es) [] pos) (tD X.K δ (.i ps.length)) := d_callB call_len_seq rc_lenL hg hm PySem.boot_len ha (by decide) (by decide) he hpl
theorem rc_lenS {K : PySem.W.Frag} {z : Str} (hz : z.length ≤ 100000) : RCD K (fun xs H Q => ∃ z : Str, xs = [V.str z] ∧ z.length ≤ sizeLine ∧ Q (.int z.length) H) [.s z] (.i z.length) := fun vs H Q r q => by
  obtain ⟨v, rfl, rv⟩ := rpAll_1 r
  exact ⟨z, by rw [rv.s_inv], Evl.sz_of hz, q _ H (Same.refl H) (.p (.int _))⟩
theorem d_lenS {p : Pos} {z : Str} (hz : z.length ≤ 100000) (hg : Gl X "len") (hm : X.mg "len" = none) (ha : PA X (e :: es) (aD X.K δ [.s z])) (he : starEach (e :: es) X.env = (false, eval e X.env) :: starEach es X.env := by rfl) (hpl : (backTo pos (starEach es X.env)).any (·.1) = false := by rfl) : PE X (.Call (.Name "len" p) (e :: es) [] pos) (tD X.K δ (.i z.length)) := d_callB call_len_str (rc_lenS hz) hg hm PySem.boot_len ha (by decide) (by decide) he hpl
theorem d_intB {p : Pos} (hg : Gl X "int") (hm : X.mg "int" = none) (ha : PA X (e :: es) (aD X.K δ [.b k])) (he : starEach (e :: es) X.env = (false, eval e X.env) :: starEach es X.env := by rfl) (hpl : (backTo pos (starEach es X.env)).any (·.1) = false := by rfl) :
    PE X (.Call (.Name "int" p) (e :: es) [] pos) (tD X.K δ (.i (if k then 1 else 0))) :=
  d_callTy call_int1 (fun vs H Q r q => by
    obtain ⟨v, rfl, rv⟩ := rpAll_1 r
    exact .inr ⟨k, by rw [rv.b_inv], q _ H (Same.refl H) (.p (.int _))⟩) hg hm boot_int ha (by decide) (by decide) he hpl
theorem d_intI {p : Pos} (hg : Gl X "int") (hm : X.mg "int" = none) (ha : PA X (e :: es) (aD X.K δ [.i i])) (he : starEach (e :: es) X.env = (false, eval e X.env) :: starEach es X.env := by rfl) (hpl : (backTo pos (starEach es X.env)).any (·.1) = false := by rfl) :
    PE X (.Call (.Name "int" p) (e :: es) [] pos) (tD X.K δ (.i i)) :=
  d_callTy call_int1 (fun vs H Q r q => by
    obtain ⟨v, rfl, rv⟩ := rpAll_1 r
    exact .inl ⟨i, by rw [rv.i_inv], q _ H (Same.refl H) (.p (.int _))⟩) hg hm boot_int ha (by decide) (by decide) he hpl
theorem d_max2 {p : Pos} (hc : X.calm = true) (hg : Gl X "max") (hm : X.mg "max" = none) (hv : bootBuiltins "max" = some (.builtin "max")) (ha : PA X (e :: es) (aD X.K δ [.i i, .i j])) (he : starEach (e :: es) X.env = (false, eval e X.env) :: starEach es X.env := by rfl) (hpl : (backTo pos (starEach es X.env)).any (·.1) = false := by rfl) :
    PE X (.Call (.Name "max" p) (e :: es) [] pos) (tD X.K δ (.i (max i j))) :=
  d_callB (call_max2 hc) (fun vs H Q r q => by
    obtain ⟨v, w, rfl, rv, rw'⟩ := rpAll_2 r
    refine ⟨i, j, by rw [rv.i_inv, rw'.i_inv], ?_⟩
    have e : (if j > i then j else i) = max i j := by rw [Int.max_def]; split <;> split <;> omega
    rw [e]
    exact q _ H (Same.refl H) (.p (.int _))) hg hm hv ha (by decide) (by decide) he hpl
/-- the type's name of plain data -/
def tyName : PyData → String
  | .none => "NoneType"
  | .bool _ => "bool"
  | .int _ => "int"
  | .str _ => "str"
  | .list _ => "list"
  | .tuple _ => "tuple"
  | .dict _ => "dict"
theorem tyX_of {K : PySem.W.Frag} {H : Hp} {v : V} {p : PyData} (h : Dp K H v p) : TyX K H v (.type (tyName p)) := by
  cases h with
  | non => exact .base .non
  | bl b => exact .base (.bl b)
  | int i => exact .base (.int i)
  | str x => exact .base (.str x)
  | lst s r =>
    rcases s with (s | ⟨o, s⟩) | ⟨o, its, n, s, c, _⟩
    · exact .base (.lst s)
    · exact .base (.frz s)
    · exact .kList s c
  | tup s _ r =>
    rcases s with (s | ⟨o, s⟩) | ⟨o, its, n, s, c, _⟩
    · exact .base (.tup s)
    · exact .fTuple s
    · exact .kTuple s c
theorem d_isi {p q : Pos} {pd : PyData} {T : Str} {Ts ty : String} (hg : Gl X "isinstance") (hm : X.mg "isinstance" = none) (hgT : Gl X T) (hmT : X.mg T = none) (hvT : bootBuiltins T = some (.type Ts)) (hk : kitB ty Ts = some k)
    (ha : PE X e (tD X.K δ (.p pd))) (hty : tyName pd = ty := by rfl) (hv : bootBuiltins "isinstance" = some (.builtin "isinstance") := by decide +kernel) (hn : T ≠ "__name__" := by decide) (hdb : (T == ("__debug__" : Str)) = false := by decide)
    (hs : starEach [e, .Name T q] X.env = (false, eval e X.env) :: starEach [.Name T q] X.env := by rfl) : PE X (.Call (.Name "isinstance" p) [e, .Name T q] [] pos) (tD X.K δ (.b k)) := by
  refine PE_imp (pe_callB call_isi hg hm hv (pa_cons ha (pa_cons (pe_bltn (v := .ty Ts) hgT hmT hvT rfl hn hdb) pa_nil) hs) (by decide) (by decide) hs) fun σ H Q ⟨E, z⟩ => ?_
  exact ⟨E, fun v H1 s1 r1 => ⟨v, .ty Ts, _, _, k, rfl, .ty Ts, tyX_of r1.toDp, kit_ty (hty ▸ hk), z _ H1 s1 (.p (.bl _))⟩⟩

/-! ### slots -/
structure SlF (K : PySem.W.Frag) (c f : Str) (i : Nat) : Prop where
  cl : SlX.SCls K (ga K c)
  sl : ∃ p, SlX.Slot1 K (ga K c) f p i
theorem map_some_get {vs : List V} {n : Nat} {v : V} (h : vs[n]? = some v) : (vs.map some)[n]? = some (some v) := by rw [List.getElem?_map, h]; rfl
theorem d_fld {c : Str} {fs : List Dt} {fn : Str} {n : Nat} (S : SlF X.K c fn n) (hd : fs[n]? = some d) (ha : PE X e (tD X.K δ (.ob c fs))) (hb : attributeBase e fn X.env (eval e X.env) = eval e X.env := by rfl) : PE X (.Attribute e fn pos) (tD X.K δ d) := by
  obtain ⟨p, hp⟩ := S.sl
  refine PE_imp (SlX.pe_sl ha hb) fun σ H Q ⟨E, z⟩ => ⟨E, fun v H1 s1 r1 => ?_⟩
  obtain ⟨a, dx, vs, rfl, sl, rr⟩ := r1.ob_inv
  obtain ⟨v, e, r⟩ := rr.get hd
  exact ⟨a, _, dx, p, _, n, v, rfl, sl, S.cl, hp, map_some_get e, z v H1 s1 r⟩

/-! ### dicts -/
def kD : Key → PyData
  | .inl i => .int i
  | .inr x => .str x
def valD {κ : Type} [DecidableEq κ] (kvs : List (κ × PyData)) (k : κ) : Option PyData := (kvs.find? fun kv => decide (kv.1 = k)).map (·.2)
theorem kvP_val {κ : Type} [DecidableEq κ] {K : PySem.W.Frag} {H : Hp} (k : κ) : ∀ {kvs : List (κ × V)} {ds : List (κ × PyData)}, KvP K H kvs ds → (∀ d, valD ds k = some d → ∃ v, valV kvs k = some v ∧ Dp K H v d) ∧ (valD ds k = none → valV kvs k = none)
  | [], [], _ => ⟨fun d h => (nomatch h), fun _ => rfl⟩
  | p :: kvs, q :: ds, .cons r t => by
    have ih := kvP_val k t
    by_cases h : q.1 = k
    · have e1 : valD (q :: ds) k = some q.2 := by simp [valD, List.find?_cons, h]
      exact ⟨fun d z => by rw [e1] at z; cases z; exact ⟨p.2, valV_pos (r.1.trans h), r.2⟩, fun z => by rw [e1] at z; cases z⟩
    · have e1 : valD (q :: ds) k = valD ds k := by simp [valD, List.find?_cons, h]
      have e2 : valV (p :: kvs) k = valV kvs k := valV_neg (by rw [r.1]; exact h)
      rw [e1, e2]
      exact ih
/-- d.get(k, x), d with int or text keys -/
theorem d_dget2 {kvs : List (Key × PyData)} {kx : Key} {p2 : PyData} {apos cpos : Pos} (hu : X.A.units + 1 < cLine) (ho : PE X a (tD X.K δ (.dK kvs))) (he : PE X b (tD X.K δ (.p (kD kx)))) (hf : PE X c (tD X.K δ (.p p2))) (m : M2 X a "get" apos b c cpos) :
    PE X (.Call (.Attribute a "get" apos) [b, c] [] cpos) (tD X.K δ (.p ((valD kvs kx).getD p2))) :=
  PE_imp (pe_dget2 hu ho he hf m) fun σ H Q ⟨E, z⟩ => ⟨E, fun v H1 s1 r1 => by
    obtain ⟨ad, kv, rfl, hd, rr⟩ := r1.dK_inv
    refine ⟨ad, rfl, .inl ⟨kv, hd⟩, E.mono s1, fun y H2 s2 r2 => ⟨E.mono (s1.trans s2), fun w H3 s3 r3 => ?_⟩⟩
    have ey : y = kV kx := by
      cases kx with
      | inl i => exact r2.i_inv
      | inr x => exact r2.s_inv
    subst ey
    obtain ⟨h1, h2⟩ := kvP_val kx (kvP_mono (s2.trans s3) rr)
    show ∃ o, DGet H3 ad (kV kx) o ∧ Q (o.getD w) H3
    refine ⟨valV kv kx, .inl ⟨kv, kx, rd_mono (s2.trans s3) hd, rfl, rfl⟩, ?_⟩
    cases q : valD kvs kx with
    | none =>
      rw [h2 q]
      refine z w H3 ((s1.trans s2).trans s3) ?_
      rw [q]
      exact r3
    | some d =>
      obtain ⟨v, e, r⟩ := h1 d q
      rw [e]
      refine z v H3 ((s1.trans s2).trans s3) ?_
      rw [q]
      exact .p r⟩
/-- d[k], d with int or text keys -/
theorem d_dsub {kvs : List (Key × PyData)} {kx : Key} {pd : PyData} (hu : X.A.units + 1 < cLine) (hk : valD kvs kx = some pd) (ho : PE X a (tD X.K δ (.dK kvs))) (he : PE X b (tD X.K δ (.p (kD kx)))) (hs : NoSl b := by intro _ _; rfl) : PE X (.Subscript a b pos) (tD X.K δ (.p pd)) :=
  PE_imp (pe_dget hu ho he hs) fun σ H Q ⟨E, z⟩ => ⟨E, fun v H1 s1 r1 => by
    obtain ⟨ad, kv, rfl, hd, rr⟩ := r1.dK_inv
    refine ⟨E.mono s1, fun y H2 s2 r2 => ?_⟩
    have ey : y = kV kx := by
      cases kx with
      | inl i => exact r2.i_inv
      | inr x => exact r2.s_inv
    subst ey
    obtain ⟨h1, h2⟩ := kvP_val kx (kvP_mono s2 rr)
    obtain ⟨v, e, r⟩ := h1 pd hk
    refine ⟨ad, v, rfl, ?_, z v H2 (s1.trans s2) (.p r)⟩
    rw [← e]
    exact .inl ⟨kv, kx, rd_mono s2 hd, rfl, rfl⟩⟩
/-- a key of a dict with tuple keys, as plain data -/
abbrev tkD (k : List Key) : PyData := .tuple (k.map kD)
theorem tk_vals {K : PySem.W.Frag} {H : Hp} : ∀ {ks : List Key} {xs : List V}, DpAll K H xs (ks.map kD) → xs = ks.map kV
  | [], _, h => by cases h; rfl
  | k :: ks, _, h => by
    rw [List.map_cons] at h
    cases h with
    | cons r t =>
      rw [List.map_cons, tk_vals t]
      congr 1
      cases k with
      | inl i => exact dp_int r
      | inr x => exact dp_str r
end
end Pr
set_option maxHeartbeats 4000000
/-! Wc: statements by data, a def's promise by data, calls of such defs. -/
namespace Pr
open PySem PySem.Spec PyProof.Rows L2

/-- what comes: from the heap ahead, a value, the heap behind -/
abbrev Oc := Hp → V → Hp → Prop
def oD (K : PySem.W.Frag) (d : Dt) : Oc := fun _ v H' => Rp K H' v d
def oN (K : PySem.W.Frag) (ds : List PyData) : Oc := fun H v H' => ∃ p vs, v = .ref p ∧ H p = none ∧ H' p = some (.lst vs) ∧ DpAll K H' vs ds
class Bk (O : Oc) : Prop where
  back : ∀ {H0 H : Hp} {v : V} {H' : Hp}, Same H0 H → O H v H' → O H0 v H'
instance {K : PySem.W.Frag} {d : Dt} : Bk (oD K d) := ⟨fun _ h => h⟩
instance {K : PySem.W.Frag} {ds : List PyData} : Bk (oN K ds) := ⟨fun s ⟨p, vs, e, h, r⟩ => ⟨p, vs, e, s.free h, r⟩⟩
def tO (K : PySem.W.Frag) (δ : De) (O : Oc) : TE := fun σ H Q => EnvD K σ H δ ∧ ∀ v H', Same H H' → O H v H' → Q v H'
def sO (K : PySem.W.Frag) (δ : De) (O : Oc) : TS := fun D σ H => EnvD K σ H δ ∧ ∀ v H', Same H H' → O H v H' → D.rt v H'
def sN (K : PySem.W.Frag) (δ δ' : De) : TS := fun D σ H => EnvD K σ H δ ∧ ∀ σ' H', Same H H' → EnvD K σ' H' δ' → D.nx σ' H'

section
variable {X : Cx} {δ δ1 : De} {O : Oc} {a b c e : Expr} {es : List Expr} {st : Stmt} {body els rest : List Stmt} {k : Bool} {d d1 d2 : Dt} {ds : List Dt} {ps : List PyData} {pos : Pos}
theorem o_D (h : PE X e (tD X.K δ d)) : PE X e (tO X.K δ (oD X.K d)) := h
theorem o_N (h : PE X e (tN X.K δ ps)) : PE X e (tO X.K δ (oN X.K ps)) := PE_imp h fun σ H Q ⟨E, q⟩ => ⟨E, fun p vs H' hp s hl hd => q _ H' s ⟨p, vs, rfl, hp, hl, hd⟩⟩
theorem q_ret (h : PE X e (tO X.K δ O)) : PSs X [.Return (some e) pos] (sO X.K δ O) := PSs_imp (pss_one (ps_ret h)) fun D σ H ⟨E, q⟩ => ⟨E, q⟩
theorem q_retD (h : PE X e (tD X.K δ d)) : PSs X [.Return (some e) pos] (sO X.K δ (oD X.K d)) := q_ret h
theorem q_retE (h : PE X e (tD X.K δ d1)) (hd : d1 = d) : PSs X [.Return (some e) pos] (sO X.K δ (oD X.K d)) := hd ▸ q_ret h
theorem q_retN (h : PE X e (tN X.K δ ps)) : PSs X [.Return (some e) pos] (sO X.K δ (oN X.K ps)) := q_ret (o_N h)
theorem q_seq [Bk O] (h : PS X st (sN X.K δ δ1)) (hr : PSs X rest (sO X.K δ1 O)) : PSs X (st :: rest) (sO X.K δ O) :=
  PSs_imp (pss_cons h hr) fun D σ H ⟨E, q⟩ => ⟨E, fun σ' H' s E' => ⟨E', fun v H2 s2 o => q v H2 (s.trans s2) (Bk.back s o)⟩⟩
theorem q_if [Bk O] (hc : PT X c (cD X.K δ k)) (ht : k = true → PSs X body (sO X.K δ O)) (hf : k = false → PSs X rest (sO X.K δ O)) : PSs X (.If c body [] pos :: rest) (sO X.K δ O) := by
  cases k with
  | true => exact PSs_imp (pss_cons (ps_if hc (ht rfl) pss_nil) pss_never) fun D σ H ⟨E, q⟩ => ⟨E, fun H' s => ⟨E.mono s, fun v H2 s2 o => q v H2 (s.trans s2) (Bk.back s o)⟩⟩
  | false => exact PSs_imp (pss_cons (ps_if hc pss_never pss_nil) (hf rfl)) fun D σ H ⟨E, q⟩ => ⟨E, fun H' s => ⟨E.mono s, fun v H2 s2 o => q v H2 (s.trans s2) (Bk.back s o)⟩⟩
theorem q_if2 [Bk O] (hc : PT X c (cD X.K δ k)) (ht : k = true → PSs X body (sO X.K δ O)) (hf : k = false → PSs X els (sO X.K δ O)) : PSs X [.If c body els pos] (sO X.K δ O) := by
  cases k with
  | true => exact PSs_imp (pss_one (ps_if hc (ht rfl) pss_never)) fun D σ H ⟨E, q⟩ => ⟨E, fun H' s => ⟨E.mono s, fun v H2 s2 o => q v H2 (s.trans s2) (Bk.back s o)⟩⟩
  | false => exact PSs_imp (pss_one (ps_if hc pss_never (hf rfl))) fun D σ H ⟨E, q⟩ => ⟨E, fun H' s => ⟨E.mono s, fun v H2 s2 o => q v H2 (s.trans s2) (Bk.back s o)⟩⟩
/-- x = e -/
theorem n_set (i : Nat) {x : Str} {pos' : Pos} (hN : X.N.Nodup) (hi : X.N[i]? = some x) (hx : Loc X.env.scope x) (he : PE X e (tD X.K δ d)) (hs : swapsWith e (some (.Name x pos')) pos.line X.env = pure false := by rfl)
    (hf : X.fn x = true ∨ X.env.scope.names.lookup x = some .local := by first | exact .inl rfl | exact .inr rfl | assumption) : PS X (.Assign [.Name x pos'] e pos) (sN X.K δ (δ.set i (some d))) :=
  PS_imp (ps_set hN hi hx he hs hf) fun D σ H ⟨E, q⟩ => ⟨E, fun v H' s r => q _ H' s ((E.mono s).set i r)⟩
/-- a, b = e1, e2 -/
theorem n_par {i j : Nat} {x y : Str} {px py pt : Pos} {kt k2 pt2} (hc : X.calm = true) (hN : X.N.Nodup) (hi : X.N[i]? = some x) (hj : X.N[j]? = some y) (hij : i ≠ j)
    (hx : X.env.scope.names.lookup x = some .local) (hy : X.env.scope.names.lookup y = some .local) (ha : PA X [a, b] (aD X.K δ [d1, d2]))
    (hw : swappedStores [.Tuple [.Name x px, .Name y py] kt pt] (.Tuple [a, b] k2 pt2) X.env = pure (some [x, y]))
    (hs : swapsWithSole [.Tuple [.Name x px, .Name y py] kt pt] (.Tuple [a, b] k2 pt2) pos.line X.env = pure false := by rfl) :
    PS X (.Assign [.Tuple [.Name x px, .Name y py] kt pt] (.Tuple [a, b] k2 pt2) pos) (sN X.K δ ((δ.set i (some d1)).set j (some d2))) :=
  PS_imp (ps_par hc hN hi hj hij hx hy ha hw hs) fun D σ H ⟨E, q⟩ => ⟨E, fun vs H' s r => by
    obtain ⟨v, w, rfl, r1, r2⟩ := rpAll_2 r
    exact ⟨v, w, rfl, q _ H' s (((E.mono s).set i r1).set j r2)⟩⟩

/-! ### targets by data -/
/-- the slots but those at is are as they were -/
def Agr (is : List Nat) (σ σ' : L2.St) : Prop := σ'.length = σ.length ∧ ∀ j, j ∉ is → σ'[j]? = σ[j]?
theorem Agr.refl (is : List Nat) (σ : L2.St) : Agr is σ σ := ⟨rfl, fun _ _ => rfl⟩
theorem Agr.trans {i1 i2 : List Nat} {σ σ1 σ2 : L2.St} (a : Agr i1 σ σ1) (b : Agr i2 σ1 σ2) : Agr (i1 ++ i2) σ σ2 :=
  ⟨b.1.trans a.1, fun j hj => (b.2 j fun z => hj (List.mem_append_right _ z)).trans (a.2 j fun z => hj (List.mem_append_left _ z))⟩
def gD (K : PySem.W.Frag) (δ : De) (d : Dt) (is : List Nat) (δ' : De) : TG := fun v σ H Q => EnvD K σ H δ ∧ Rp K H v d ∧ ∀ σ', EnvD K σ' H δ' → Agr is σ σ' → Q σ' H
def gsD (K : PySem.W.Frag) (δ : De) (ds : List Dt) (is : List Nat) (δ' : De) : TGs := fun vs σ H Q => EnvD K σ H δ ∧ RpAll K H vs ds ∧ ∀ σ', EnvD K σ' H δ' → Agr is σ σ' → Q σ' H
theorem PG_imp {tg : Expr} {t t' : TG} (h : PG X tg t) (i : ∀ v σ H Q, t' v σ H Q → t v σ H Q) : PG X tg t' := ⟨fun pins s σ H v u Q I r q => h.run pins s σ H v u Q I r (i v σ H Q q)⟩
theorem PGs_imp {tg : List Expr} {t t' : TGs} (h : PGs X tg t) (i : ∀ v σ H Q, t' v σ H Q → t v σ H Q) : PGs X tg t' := ⟨fun pins s σ H v u Q I r q => h.run pins s σ H v u Q I r (i v σ H Q q)⟩
theorem g_name (i : Nat) {x : Str} (hN : X.N.Nodup) (hi : X.N[i]? = some x) (hx : Loc X.env.scope x) (hf : X.fn x = true ∨ X.env.scope.names.lookup x = some .local := by first | exact .inl rfl | exact .inr rfl | assumption) : PG X (.Name x pos) (gD X.K δ d [i] (δ.set i (some d))) :=
  PG_imp (pg_name hN hi hx hf) fun v σ H Q ⟨E, r, q⟩ => q _ (E.set i r) ⟨by simp, fun j hj => List.getElem?_set_ne fun e => hj (by simp [e])⟩
theorem gs_nil : PGs X [] (gsD X.K δ [] [] δ) := PGs_imp pgs_nil fun vs σ H Q ⟨E, r, q⟩ => by cases r; exact ⟨rfl, q σ E (Agr.refl _ _)⟩
theorem gs_cons {δ2 : De} {is1 is2 : List Nat} (h1 : PG X e (gD X.K δ d is1 δ1)) (h2 : PGs X es (gsD X.K δ1 ds is2 δ2)) (hs : (assignEach (e :: es) X.env).map (·.2) = assign e X.env :: (assignEach es X.env).map (·.2) := by rfl) : PGs X (e :: es) (gsD X.K δ (d :: ds) (is1 ++ is2) δ2) :=
  PGs_imp (pgs_cons h1 h2 hs) fun vs σ H Q ⟨E, r, q⟩ => by
    cases r with
    | cons r t => exact ⟨_, _, rfl, E, r, fun σ' E' k' => ⟨E', t, fun σ2 E2 k2 => q σ2 E2 (k'.trans k2)⟩⟩
theorem rpAll_ofP {K : PySem.W.Frag} {H : Hp} : ∀ {ps : List PyData} {vs : List V}, DpAll K H vs ps → RpAll K H vs (ps.map Dt.p)
  | _, _, .nil => .nil
  | _, _, .cons r t => .cons (.p r) (rpAll_ofP t)
/-- (a, b, ..) = a tuple -/
theorem g_tup {δ2 : De} {is : List Nat} {kk n : Nat} (hc : X.calm = true) (h : PGs X es (gsD X.K δ (ps.map Dt.p) is δ2)) (hl : ps.length = n) (hn : (assignEach es X.env).length = n := by rfl) (hst : (assignEach es X.env).findIdx? (·.1) = none := by rfl) :
    PG X (.Tuple es kk pos) (gD X.K δ (.t ps) is δ2) :=
  PG_imp (pg_tup hc h hn hst) fun v σ H Q ⟨E, r, q⟩ => by
    obtain ⟨a, xs, rfl, s, rr⟩ := dp_tup r.toDp
    exact ⟨a, xs, rfl, s, (dpAll_length rr).trans hl, E, rpAll_ofP rr, q⟩
/-- target = e -/
theorem n_asg {tg : Expr} {δ2 : De} {is : List Nat} (he : PE X e (tD X.K δ d)) (hg : PG X tg (gD X.K δ d is δ2)) (hs : swapsWithSole [tg] e pos.line X.env = pure false := by rfl) (hw : swappedStores [tg] e X.env = pure none := by rfl)
    (h1 : (assignEach [tg] X.env).map (·.2) = [assign tg X.env] := by rfl) : PS X (.Assign [tg] e pos) (sN X.K δ δ2) :=
  PS_imp (ps_asg he hg hs hw h1) fun D σ H ⟨E, q⟩ => ⟨E, fun v H' s r => ⟨E.mono s, r, fun σ' E' _ => q σ' H' s E'⟩⟩
end

/-! ### promises by data -/
def spO (K : PySem.W.Frag) (R : List Dt → Oc → Prop) : Sp := fun vs H Q _ => ∃ ds O, RpAll K H vs ds ∧ R ds O ∧ ∀ v H', Same H H' → O H v H' → Q v H'
abbrev RD := List Dt → Dt → Prop
abbrev RN := List Dt → List PyData → Prop
def spD (K : PySem.W.Frag) (R : RD) : Sp := fun vs H Q _ => ∃ ds d, RpAll K H vs ds ∧ R ds d ∧ ∀ v H', Same H H' → Rp K H' v d → Q v H'
def spN (K : PySem.W.Frag) (R : RN) : Sp := fun vs H Q _ => ∃ ds ps, RpAll K H vs ds ∧ R ds ps ∧ ∀ p ws H', H p = none → Same H H' → H' p = some (.lst ws) → DpAll K H' ws ps → Q (.ref p) H'

/-- a def of the text as it stands behind the top, its statement st -/
structure FnAt (K : PySem.W.Frag) (qual : Str) (st : Stmt) (f : Addr) : Prop where
  ex : ∃ (name : Str) (oc : Value) (od : Option Addr) (kV doc pm : Value) (an : Option Addr) (cdv ct : Value) (osl : Array (Option Value)),
    K.lookup f = some ⟨oc, od, .func (PySem.W.fnOf name qual (defArgs st) (defBody st) (defScope st) .none kV doc pm an cdv ct), osl⟩ ∧ PySem.W.codeIn K cdv qual = true
  kp : PySem.W.keepIn K (.ref f) = true
/-- how its arguments bind -/
def BindAt (st : Stmt) (ps : List Str) : Prop := ∀ (name qual : Str) (kV doc pm : Value) (an : Option Addr) (cdv ct : Value) (us : List Value), us.length = ps.length → bindArgs (PySem.W.fnOf name qual (defArgs st) (defBody st) (defScope st) .none kV doc pm an cdv ct) ⟨us, []⟩ = pure (ps.zip us)
section
variable {P : Program} {w : World} {K : PySem.W.Frag} {mg : Str → Option Value} {base : Heap} {CX : CXT} {k : Nat} {f : Addr} {qual : Str} {st : Stmt} {N ps : List Str} {sp : Sp}
theorem fnR_of (F : FnAt K qual st f) (S : FnScope N ps (defScope st)) (B : BindAt st ps) (len : ∀ vs H Q E, sp vs H Q E → vs.length = ps.length)
    (hbody : ∀ (cdv : Value) (A : Around) (outer : List Env) (s : Shared) (H : Hp) (vs : List V) (Q : VK) (E : XK), Room k (A.deeper (envOfC qual (defScope st) s.heap.objs.size f cdv)) → sp vs H Q E →
      ∃ t, PSs (cxOf CX P w K mg base N qual (defScope st) f cdv A outer s H E) (defBody st) t ∧ t { nx := fun _ H' => Q .non H', rt := Q } (L2.start N vs) H) : FnR P w K mg base CX (k + 1) f sp := by
  obtain ⟨name, oc, od, kV, doc, pm, an, cdv, ct, osl, lk, hcd⟩ := F.ex
  have G : FnOk P w K mg base CX (k + 1) f _ ps sp := fn_of lk hcd S len fun A outer s H vs Q E hr hsp => hbody cdv A outer s H vs Q E hr hsp
  have R := G.raw (ds := []) (dvs := []) (.all (B name qual kV doc pm an cdv ct)) .nil
  exact R.imp fun vs H Q E h => by rw [List.append_nil]; exact h
/-- a def that hands back data of data -/
theorem fnR_D {R : RD} (F : FnAt K qual st f) (S : FnScope N ps (defScope st)) (B : BindAt st ps) (hl : ∀ ds d, R ds d → ds.length = ps.length)
    (hbody : ∀ (cdv : Value) (A : Around) (outer : List Env) (s : Shared) (H : Hp) (E : XK), Room k (A.deeper (envOfC qual (defScope st) s.heap.objs.size f cdv)) → ∀ ds d, R ds d →
      PSs (cxOf CX0 P w K mg base N qual (defScope st) f cdv A outer s H E).nox (defBody st) (sO K (ds.map some ++ List.replicate (N.length - ds.length) none) (oD K d))) : FnR P w K mg base CX0 (k + 1) f (spD K R) := by
  refine fnR_of F S B (fun vs H Q E ⟨ds, d, r, h, _⟩ => r.length.trans (hl ds d h)) fun cdv A outer s H vs Q E hr ⟨ds, d, r, h, q⟩ => ⟨_, (hbody cdv A outer s H E hr ds d h).nox, ?_⟩
  have hpl : ps.length ≤ N.length := by have := congrArg List.length S.pre; rw [List.length_take] at this; omega
  exact ⟨envD_start r (by rw [r.length, hl ds d h]; exact hpl), q⟩
theorem fnR_N {R : RN} (F : FnAt K qual st f) (S : FnScope N ps (defScope st)) (B : BindAt st ps) (hl : ∀ ds d, R ds d → ds.length = ps.length)
    (hbody : ∀ (cdv : Value) (A : Around) (outer : List Env) (s : Shared) (H : Hp) (E : XK), Room k (A.deeper (envOfC qual (defScope st) s.heap.objs.size f cdv)) → ∀ ds d, R ds d →
      PSs (cxOf CX0 P w K mg base N qual (defScope st) f cdv A outer s H E).nox (defBody st) (sO K (ds.map some ++ List.replicate (N.length - ds.length) none) (oN K d))) : FnR P w K mg base CX0 (k + 1) f (spN K R) := by
  refine fnR_of F S B (fun vs H Q E ⟨ds, d, r, h, _⟩ => r.length.trans (hl ds d h)) fun cdv A outer s H vs Q E hr ⟨ds, d, r, h, q⟩ => ⟨_, (hbody cdv A outer s H E hr ds d h).nox, ?_⟩
  have hpl : ps.length ≤ N.length := by have := congrArg List.length S.pre; rw [List.length_take] at this; omega
  exact ⟨envD_start r (by rw [r.length, hl ds d h]; exact hpl), fun v H' s ⟨p, ws, e, h1, h2, h3⟩ => e ▸ q p ws H' h1 s h2 h3⟩
end

/-! ### calls -/
section
variable {X : Cx} {CX : CXT} {δ : De} {k : Nat} {f C g : Addr} {sp : Sp} {E : XK} {x m c : Str} {p pos apos : Pos} {e o fe : Expr} {es : List Expr} {ta tf : TE} {t : TA} {ds fs : List Dt} {d : Dt} {ps : List PyData} {R : RD} {RN' : RN}
/-- x(e, ..), x a def of the module, by values -/
theorem pe_callR (F : FnR X.prog X.w X.K X.mg X.base CX k f sp) (hr : Room k X.A) (hg : Gl X x) (hm : X.mg x = some (.ref f)) (hk : PySem.W.keepIn X.K (.ref f) = true) (hx : Passes CX X E) (ha : PA X (e :: es) t) (hdb : (x == ("__debug__" : Str)) = false := by decide)
    (he : starEach (e :: es) X.env = (false, eval e X.env) :: starEach es X.env := by rfl) (hpl : (backTo pos (starEach es X.env)).any (·.1) = false := by rfl) : PE X (.Call (.Name x p) (e :: es) [] pos) (fun σ H Q => t σ H fun vs H1 => sp vs H1 Q E) :=
  ⟨fun pins s σ H Q I h => wpAny_Call_Name_kw (ld_glob I hg hm (PySem.W.callWith_K (h₀ := X.base) I.ok.mod.kin hk (thn (ha.run pos pins s σ H _ I h) fun us s1 ⟨vs, H1, I1, r, q⟩ => ⟨I1.kIn, wpAny_call (run_fnR F hr hx I1 r q)⟩) he hpl) hdb)⟩
theorem d_call (F : FnR X.prog X.w X.K X.mg X.base CX0 k f (spD X.K R)) (hr : Room k X.A) (hg : Gl X x) (hm : X.mg x = some (.ref f)) (hk : PySem.W.keepIn X.K (.ref f) = true) (hR : R ds d) (ha : PA X (e :: es) (aD X.K δ ds)) (hdb : (x == ("__debug__" : Str)) = false := by decide)
    (he : starEach (e :: es) X.env = (false, eval e X.env) :: starEach es X.env := by rfl) (hpl : (backTo pos (starEach es X.env)).any (·.1) = false := by rfl) : PE X (.Call (.Name x p) (e :: es) [] pos) (tD X.K δ d) :=
  PE_imp (pe_callR F hr hg hm hk pass0 ha hdb he hpl) fun σ H Q ⟨En, q⟩ => ⟨En, fun vs H1 s r => ⟨ds, d, r, hR, fun v H' s2 rv => q v H' (s.trans s2) rv⟩⟩
theorem d_callN (F : FnR X.prog X.w X.K X.mg X.base CX0 k f (spN X.K RN')) (hr : Room k X.A) (hg : Gl X x) (hm : X.mg x = some (.ref f)) (hk : PySem.W.keepIn X.K (.ref f) = true) (hR : RN' ds ps) (ha : PA X (e :: es) (aD X.K δ ds)) (hdb : (x == ("__debug__" : Str)) = false := by decide)
    (he : starEach (e :: es) X.env = (false, eval e X.env) :: starEach es X.env := by rfl) (hpl : (backTo pos (starEach es X.env)).any (·.1) = false := by rfl) : PE X (.Call (.Name x p) (e :: es) [] pos) (tN X.K δ ps) :=
  PE_imp (pe_callR F hr hg hm hk pass0 ha hdb he hpl) fun σ H Q ⟨En, q⟩ => ⟨En, fun vs H1 s r => ⟨ds, ps, r, hR, fun p ws H' hp s2 hl hd => q p ws H' (s.free hp) (s.trans s2) hl hd⟩⟩
/-- o.m(e, ..) of an instance -/
theorem d_meth {pl : Sem Bool} (hc : SlX.SCls X.K (ga X.K c)) (hm : Meth X.K (ga X.K c) m g) (F : FnR X.prog X.w X.K X.mg X.base CX0 k g (spD X.K R)) (hr : Room k X.A) (hR : R (.ob c fs :: ds) d) (ho : PE X o (tD X.K δ (.ob c fs))) (ha : PA X (e :: es) (aD X.K δ ds))
    (hst : starEach (e :: es) X.env = (false, eval e X.env) :: starEach es X.env := by rfl) (hpl : (backTo pos (starEach es X.env)).any (·.1) = false := by rfl)
    (ht : eval (.Call (.Attribute o m apos) (e :: es) [] pos) X.env = (do
      let ov ← eval o X.env
      standAt apos.atName
      let (f, first) ← holding [ov] (getMethod ov m pl)
      callWith pos f first (backTo pos (starEach (e :: es) X.env)) (backToKw pos (keywordEach [] X.env))) := by rfl) : PE X (.Call (.Attribute o m apos) (e :: es) [] pos) (tD X.K δ d) :=
  PE_imp (SlX.pe_methSl ho hc hm F hr pass0 ha hst hpl ht) fun σ H Q ⟨En, q⟩ => ⟨En, fun v H1 s1 r1 => by
    obtain ⟨a, dx, vs, rfl, sl, rr⟩ := id r1.ob_inv
    exact ⟨a, dx, _, rfl, sl, En.mono s1, fun ws H2 s2 r2 => ⟨_, d, .cons (r1.mono s2) r2, hR, fun v H' s3 rv => q v H' ((s1.trans s2).trans s3) rv⟩⟩⟩
theorem d_methN {pl : Sem Bool} (hc : SlX.SCls X.K (ga X.K c)) (hm : Meth X.K (ga X.K c) m g) (F : FnR X.prog X.w X.K X.mg X.base CX0 k g (spN X.K RN')) (hr : Room k X.A) (hR : RN' (.ob c fs :: ds) ps) (ho : PE X o (tD X.K δ (.ob c fs))) (ha : PA X (e :: es) (aD X.K δ ds))
    (hst : starEach (e :: es) X.env = (false, eval e X.env) :: starEach es X.env := by rfl) (hpl : (backTo pos (starEach es X.env)).any (·.1) = false := by rfl)
    (ht : eval (.Call (.Attribute o m apos) (e :: es) [] pos) X.env = (do
      let ov ← eval o X.env
      standAt apos.atName
      let (f, first) ← holding [ov] (getMethod ov m pl)
      callWith pos f first (backTo pos (starEach (e :: es) X.env)) (backToKw pos (keywordEach [] X.env))) := by rfl) : PE X (.Call (.Attribute o m apos) (e :: es) [] pos) (tN X.K δ ps) :=
  PE_imp (SlX.pe_methSl ho hc hm F hr pass0 ha hst hpl ht) fun σ H Q ⟨En, q⟩ => ⟨En, fun v H1 s1 r1 => by
    obtain ⟨a, dx, vs, rfl, sl, rr⟩ := id r1.ob_inv
    exact ⟨a, dx, _, rfl, sl, En.mono s1, fun ws H2 s2 r2 => ⟨_, ps, .cons (r1.mono s2) r2, hR, fun p ws H' hp s3 hl hd => q p ws H' ((s1.trans s2).free hp) ((s1.trans s2).trans s3) hl hd⟩⟩⟩
theorem d_meth0 {pl : Sem Bool} (hc : SlX.SCls X.K (ga X.K c)) (hm : Meth X.K (ga X.K c) m g) (F : FnR X.prog X.w X.K X.mg X.base CX0 k g (spD X.K R)) (hr : Room k X.A) (hR : R [.ob c fs] d) (ho : PE X o (tD X.K δ (.ob c fs)))
    (ht : eval (.Call (.Attribute o m apos) [] [] pos) X.env = (do
      let ov ← eval o X.env
      standAt apos.atName
      let (f, first) ← holding [ov] (getMethod ov m pl)
      callWith pos f first (backTo pos (starEach [] X.env)) (backToKw pos (keywordEach [] X.env))) := by rfl) : PE X (.Call (.Attribute o m apos) [] [] pos) (tD X.K δ d) :=
  PE_imp (SlX.pe_methSl0 ho hc hm F hr pass0 ht) fun σ H Q ⟨En, q⟩ => ⟨En, fun v H1 s1 r1 => by
    obtain ⟨a, dx, vs, rfl, sl, rr⟩ := id r1.ob_inv
    exact ⟨a, dx, _, rfl, sl, _, d, .cons r1 .nil, hR, fun v H' s3 rv => q v H' (s1.trans s3) rv⟩⟩
theorem d_methN0 {pl : Sem Bool} (hc : SlX.SCls X.K (ga X.K c)) (hm : Meth X.K (ga X.K c) m g) (F : FnR X.prog X.w X.K X.mg X.base CX0 k g (spN X.K RN')) (hr : Room k X.A) (hR : RN' [.ob c fs] ps) (ho : PE X o (tD X.K δ (.ob c fs)))
    (ht : eval (.Call (.Attribute o m apos) [] [] pos) X.env = (do
      let ov ← eval o X.env
      standAt apos.atName
      let (f, first) ← holding [ov] (getMethod ov m pl)
      callWith pos f first (backTo pos (starEach [] X.env)) (backToKw pos (keywordEach [] X.env))) := by rfl) : PE X (.Call (.Attribute o m apos) [] [] pos) (tN X.K δ ps) :=
  PE_imp (SlX.pe_methSl0 ho hc hm F hr pass0 ht) fun σ H Q ⟨En, q⟩ => ⟨En, fun v H1 s1 r1 => by
    obtain ⟨a, dx, vs, rfl, sl, rr⟩ := id r1.ob_inv
    exact ⟨a, dx, _, rfl, sl, _, ps, .cons r1 .nil, hR, fun p ws H' hp s3 hl hd => q p ws H' (s1.free hp) (s1.trans s3) hl hd⟩⟩
/-- what the text says of a property -/
structure PropF (K : PySem.W.Frag) (c f : Str) (g : Addr) : Prop where
  cl : SlX.SCls K (ga K c)
  ex : ∃ p, PySem.W.findIn K (.ref (ga K c)) f = some (some (.ref p)) ∧ PySem.W.specialIn K (.ref p) "__get__" = some (some (.builtin "property.__get__")) ∧ PySem.W.takesIn K (.ref p) = some true ∧ ∃ rest, PySem.W.recIn K p "property" = some (.ref g :: rest)
theorem d_prop (T : PropF X.K c m g) (F : FnR X.prog X.w X.K X.mg X.base CX0 k g (spD X.K R)) (hr : Room (k + 1) X.A) (hR : R [.ob c fs] d) (ho : PE X o (tD X.K δ (.ob c fs))) (hb : attributeBase o m X.env (eval o X.env) = eval o X.env := by rfl) : PE X (.Attribute o m pos) (tD X.K δ d) := by
  obtain ⟨p, h1, h2, h3, h4⟩ := T.ex
  exact PE_imp (SlX.pe_propSl (E := E0) ho T.cl h1 h2 h3 h4 F hr (fun _ _ _ _ z => z) hb) fun σ H Q ⟨En, q⟩ => ⟨En, fun v H1 s1 r1 => by
    obtain ⟨a, dx, vs, rfl, sl, rr⟩ := id r1.ob_inv
    exact ⟨a, dx, _, rfl, sl, _, d, .cons r1 .nil, hR, fun v H' s3 rv => q v H' (s1.trans s3) rv⟩⟩
/-- fe(e, ..), fe an instance -/
theorem d_callO (hc : StX.CallO X.K (ga X.K c) g) (F : FnR X.prog X.w X.K X.mg X.base CX0 k g (spD X.K R)) (hr : Room k X.A) (hR : R (.ob c fs :: ds) d) (ho : PE X fe (tD X.K δ (.ob c fs))) (ha : PA X (e :: es) (aD X.K δ ds))
    (ht : eval (.Call fe (e :: es) [] pos) X.env = (do callWith pos (← eval fe X.env) [] (backTo pos (starEach (e :: es) X.env)) (backToKw pos (keywordEach [] X.env))) := by rfl)
    (he : starEach (e :: es) X.env = (false, eval e X.env) :: starEach es X.env := by rfl) (hpl : (backTo pos (starEach es X.env)).any (·.1) = false := by rfl) : PE X (.Call fe (e :: es) [] pos) (tD X.K δ d) :=
  PE_imp (StX.pe_callO (E := E0) ho hc F hr pass0 ha ht he hpl) fun σ H Q ⟨En, q⟩ => ⟨En, fun v H1 s1 r1 => by
    obtain ⟨a, dx, vs, rfl, sl, rr⟩ := id r1.ob_inv
    exact ⟨a, rfl, En.mono s1, fun ws H2 s2 r2 => ⟨.inl ⟨dx, _, slt_mono s2 sl⟩, _, d, .cons (r1.mono s2) r2, hR, fun v H' s3 rv => q v H' ((s1.trans s2).trans s3) rv⟩⟩⟩
end
end Pr
set_option maxHeartbeats 4000000
/-! Tx (printed by gen_tx.py): the text by places; what the top leaves. -/
namespace Pr
open PySem PySem.Spec PyProof.Rows L2
def topS (i : Nat) : Stmt := PySem.Challenge.pw_poleribbons_k86_whole_needed_and_then_la.main.body.getD i (.Pass ⟨0, 0, 0, 0⟩)
abbrev st_is_integer : Stmt := topS 14
abbrev st_is_count : Stmt := topS 15
abbrev st_is_number : Stmt := topS 16
abbrev st_are_bits : Stmt := topS 17
abbrev st_is_reader : Stmt := topS 18
abbrev st_bit_at : Stmt := topS 21
abbrev st_are_parts : Stmt := topS 28
abbrev st_truth_of : Stmt := topS 29
abbrev st_to_undo : Stmt := topS 40
abbrev st_undo_many : Stmt := topS 41
abbrev st_law_bag : Stmt := topS 43
abbrev st_law_take : Stmt := topS 44
abbrev st_law_alike : Stmt := topS 45
abbrev st_law_pick : Stmt := topS 46
abbrev st_law_bit : Stmt := topS 47
abbrev st_law_parts : Stmt := topS 48
abbrev st_law_truth : Stmt := topS 49
abbrev st_law_meetings : Stmt := topS 50
abbrev st_law_ahead : Stmt := topS 51
abbrev st_law_rule_of : Stmt := topS 52
abbrev st_law_state : Stmt := topS 53
abbrev st_law_can : Stmt := topS 54
abbrev st_law_ends : Stmt := topS 55
abbrev st_law_deed : Stmt := topS 56
abbrev st_law_is_done : Stmt := topS 57
abbrev st_law_did : Stmt := topS 58
abbrev st_law_begun : Stmt := topS 59
abbrev st_law_led : Stmt := topS 60
abbrev st_law_turned_back : Stmt := topS 61
abbrev st_law_stands : Stmt := topS 62
abbrev st_law_needed_right : Stmt := topS 63
abbrev st_law_taken_right : Stmt := topS 64
abbrev st_law : Stmt := topS 65
abbrev st_Word_init : Stmt := inClass (topS 25) 1
abbrev st_Word_early : Stmt := inClass (topS 25) 2
abbrev st_Word_again : Stmt := inClass (topS 25) 3
abbrev st_Rule_init : Stmt := inClass (topS 32) 1
abbrev st_Rule_by : Stmt := inClass (topS 32) 2
abbrev st_Rule_always : Stmt := inClass (topS 32) 3
abbrev st_Rule_of : Stmt := inClass (topS 32) 4
abbrev st_Rule_call : Stmt := inClass (topS 32) 5
abbrev st_Rule_parts : Stmt := inClass (topS 32) 8
abbrev st_Rule_invert : Stmt := inClass (topS 32) 12
abbrev st_Rule_and : Stmt := inClass (topS 32) 13
abbrev st_Rule_or : Stmt := inClass (topS 32) 14
abbrev st_Rule_xor : Stmt := inClass (topS 32) 15
abbrev st_Floor_init : Stmt := inClass (topS 35) 1
abbrev st_Floor_is_next : Stmt := inClass (topS 35) 2
abbrev st_Floor_is_end : Stmt := inClass (topS 35) 3
abbrev st_Floor_counted : Stmt := inClass (topS 35) 4
abbrev st_Floor_can_do : Stmt := inClass (topS 35) 5
abbrev st_Floor_do : Stmt := inClass (topS 35) 6
abbrev st_Evening_init : Stmt := inClass (topS 36) 1
abbrev st_Evening_suns : Stmt := inClass (topS 36) 2
abbrev st_Evening_moons : Stmt := inClass (topS 36) 3
abbrev st_Evening_first : Stmt := inClass (topS 36) 4
abbrev st_Evening_rule : Stmt := inClass (topS 36) 5
abbrev st_Evening_is_place : Stmt := inClass (topS 36) 8
abbrev st_Evening_is_deed : Stmt := inClass (topS 36) 9
abbrev st_Evening_laid : Stmt := inClass (topS 36) 10
abbrev st_Evening_above : Stmt := inClass (topS 36) 11
abbrev st_Evening_can : Stmt := inClass (topS 36) 12
abbrev st_Evening_ends : Stmt := inClass (topS 36) 13
abbrev st_Evening_lacking : Stmt := inClass (topS 36) 14
abbrev st_Evening_needed : Stmt := inClass (topS 36) 15
abbrev st_Evening_do : Stmt := inClass (topS 36) 16
abbrev st_Evening_log : Stmt := inClass (topS 36) 17
abbrev st_Evening_floor_behind : Stmt := inClass (topS 36) 18
abbrev st_Evening_begin_anew : Stmt := inClass (topS 36) 19
abbrev st_Evening_undo : Stmt := inClass (topS 36) 20
abbrev st_Evening_redo : Stmt := inClass (topS 36) 21
abbrev st_Evening_finish : Stmt := inClass (topS 36) 22
abbrev st_Evening_past : Stmt := inClass (topS 36) 26
abbrev st_Evening_copied : Stmt := inClass (topS 36) 27
abbrev st_Dance_init : Stmt := inClass (topS 38) 1
abbrev st_Dance_is_meeting : Stmt := inClass (topS 38) 6
abbrev st_Dance_need_meeting : Stmt := inClass (topS 38) 7
abbrev st_Dance_meetings : Stmt := inClass (topS 38) 8
abbrev st_Dance_size : Stmt := inClass (topS 38) 9
abbrev st_Dance_behind : Stmt := inClass (topS 38) 12
abbrev st_Dance_ahead : Stmt := inClass (topS 38) 13
abbrev st_Dance_level : Stmt := inClass (topS 38) 14
abbrev st_Refused_init : Stmt := inClass (topS 8) 0
abbrev st_Nothing_init : Stmt := inClass (topS 10) 0
/-- the getter of a property, the def of a static method -/
def recAd (K : PySem.W.Frag) (t : String) (x m : Str) : Addr := match PySem.W.recIn K (ma K x m) t with
  | some (.ref g :: _) => g
  | _ => 0
/-- a static method -/
structure StatF (K : PySem.W.Frag) (c m : Str) (g : Addr) : Prop where
  rd : PySem.W.readsIn K (ga K c) (.type "type") = true
  gt : PySem.W.specialIn K (.ref (ga K c)) "__getattribute__" = some (some (.builtin "type.__getattribute__"))
  at_ : PySem.W.findCls K (.ref (ga K c)) (.type "type") m = some (.get (.builtin "staticmethod.__get__") (.ref (ma K c m)) .none (.ref (ga K c)))
  rc : ∃ rest, PySem.W.recIn K (ma K c m) "staticmethod" = some (.ref g :: rest)
/-- an operator's def -/
structure OwnF (K : PySem.W.Frag) (c m : Str) (g : Addr) : Prop where
  at_ : PySem.W.findIn K (.ref (ga K c)) m = some (some (.ref g))
  fn : PySem.W.isFn K (.ref g) = true
  fi : PySem.W.fnIn K g = true
  first : PySem.W.selfFirst K (ga K c) = true
structure Tx (K : PySem.W.Frag) (mg : Str → Option Value) : Prop where
  g_is_integer : mg "is_integer" = some (.ref (ga K "is_integer"))
  f_is_integer : FnAt K "is_integer" st_is_integer (ga K "is_integer")
  g_is_count : mg "is_count" = some (.ref (ga K "is_count"))
  f_is_count : FnAt K "is_count" st_is_count (ga K "is_count")
  g_is_number : mg "is_number" = some (.ref (ga K "is_number"))
  f_is_number : FnAt K "is_number" st_is_number (ga K "is_number")
  g_are_bits : mg "are_bits" = some (.ref (ga K "are_bits"))
  f_are_bits : FnAt K "are_bits" st_are_bits (ga K "are_bits")
  g_is_reader : mg "is_reader" = some (.ref (ga K "is_reader"))
  f_is_reader : FnAt K "is_reader" st_is_reader (ga K "is_reader")
  g_bit_at : mg "bit_at" = some (.ref (ga K "bit_at"))
  f_bit_at : FnAt K "bit_at" st_bit_at (ga K "bit_at")
  g_are_parts : mg "are_parts" = some (.ref (ga K "are_parts"))
  f_are_parts : FnAt K "are_parts" st_are_parts (ga K "are_parts")
  g_truth_of : mg "truth_of" = some (.ref (ga K "truth_of"))
  f_truth_of : FnAt K "truth_of" st_truth_of (ga K "truth_of")
  g_to_undo : mg "to_undo" = some (.ref (ga K "to_undo"))
  f_to_undo : FnAt K "to_undo" st_to_undo (ga K "to_undo")
  g_undo_many : mg "undo_many" = some (.ref (ga K "undo_many"))
  f_undo_many : FnAt K "undo_many" st_undo_many (ga K "undo_many")
  g_law_bag : mg "_law_bag" = some (.ref (ga K "_law_bag"))
  f_law_bag : FnAt K "_law_bag" st_law_bag (ga K "_law_bag")
  g_law_take : mg "_law_take" = some (.ref (ga K "_law_take"))
  f_law_take : FnAt K "_law_take" st_law_take (ga K "_law_take")
  g_law_alike : mg "_law_alike" = some (.ref (ga K "_law_alike"))
  f_law_alike : FnAt K "_law_alike" st_law_alike (ga K "_law_alike")
  g_law_pick : mg "_law_pick" = some (.ref (ga K "_law_pick"))
  f_law_pick : FnAt K "_law_pick" st_law_pick (ga K "_law_pick")
  g_law_bit : mg "_law_bit" = some (.ref (ga K "_law_bit"))
  f_law_bit : FnAt K "_law_bit" st_law_bit (ga K "_law_bit")
  g_law_parts : mg "_law_parts" = some (.ref (ga K "_law_parts"))
  f_law_parts : FnAt K "_law_parts" st_law_parts (ga K "_law_parts")
  g_law_truth : mg "_law_truth" = some (.ref (ga K "_law_truth"))
  f_law_truth : FnAt K "_law_truth" st_law_truth (ga K "_law_truth")
  g_law_meetings : mg "_law_meetings" = some (.ref (ga K "_law_meetings"))
  f_law_meetings : FnAt K "_law_meetings" st_law_meetings (ga K "_law_meetings")
  g_law_ahead : mg "_law_ahead" = some (.ref (ga K "_law_ahead"))
  f_law_ahead : FnAt K "_law_ahead" st_law_ahead (ga K "_law_ahead")
  g_law_rule_of : mg "_law_rule_of" = some (.ref (ga K "_law_rule_of"))
  f_law_rule_of : FnAt K "_law_rule_of" st_law_rule_of (ga K "_law_rule_of")
  g_law_state : mg "_law_state" = some (.ref (ga K "_law_state"))
  f_law_state : FnAt K "_law_state" st_law_state (ga K "_law_state")
  g_law_can : mg "_law_can" = some (.ref (ga K "_law_can"))
  f_law_can : FnAt K "_law_can" st_law_can (ga K "_law_can")
  g_law_ends : mg "_law_ends" = some (.ref (ga K "_law_ends"))
  f_law_ends : FnAt K "_law_ends" st_law_ends (ga K "_law_ends")
  g_law_deed : mg "_law_deed" = some (.ref (ga K "_law_deed"))
  f_law_deed : FnAt K "_law_deed" st_law_deed (ga K "_law_deed")
  g_law_is_done : mg "_law_is_done" = some (.ref (ga K "_law_is_done"))
  f_law_is_done : FnAt K "_law_is_done" st_law_is_done (ga K "_law_is_done")
  g_law_did : mg "_law_did" = some (.ref (ga K "_law_did"))
  f_law_did : FnAt K "_law_did" st_law_did (ga K "_law_did")
  g_law_begun : mg "_law_begun" = some (.ref (ga K "_law_begun"))
  f_law_begun : FnAt K "_law_begun" st_law_begun (ga K "_law_begun")
  g_law_led : mg "_law_led" = some (.ref (ga K "_law_led"))
  f_law_led : FnAt K "_law_led" st_law_led (ga K "_law_led")
  g_law_turned_back : mg "_law_turned_back" = some (.ref (ga K "_law_turned_back"))
  f_law_turned_back : FnAt K "_law_turned_back" st_law_turned_back (ga K "_law_turned_back")
  g_law_stands : mg "_law_stands" = some (.ref (ga K "_law_stands"))
  f_law_stands : FnAt K "_law_stands" st_law_stands (ga K "_law_stands")
  g_law_needed_right : mg "_law_needed_right" = some (.ref (ga K "_law_needed_right"))
  f_law_needed_right : FnAt K "_law_needed_right" st_law_needed_right (ga K "_law_needed_right")
  g_law_taken_right : mg "_law_taken_right" = some (.ref (ga K "_law_taken_right"))
  f_law_taken_right : FnAt K "_law_taken_right" st_law_taken_right (ga K "_law_taken_right")
  g_law : mg "law" = some (.ref (ga K "law"))
  f_law : FnAt K "law" st_law (ga K "law")
  b_isinstance : mg "isinstance" = none
  b_int : mg "int" = none
  b_bool : mg "bool" = none
  b_str : mg "str" = none
  b_all : mg "all" = none
  b_len : mg "len" = none
  b_tuple : mg "tuple" = none
  b_range : mg "range" = none
  b_sorted : mg "sorted" = none
  b_max : mg "max" = none
  b_list : mg "list" = none
  b_abs : mg "abs" = none
  b_repr : mg "repr" = none
  b_enumerate : mg "enumerate" = none
  b_super : mg "super" = none
  g_Word : mg "Word" = some (.ref (ga K "Word"))
  c_Word : SlX.SCls K (ga K "Word")
  i_Word : SlX.SIsi K (ga K "Word")
  k_Word : Mk K (ga K "Word") (ma K "Word" "__init__")
  s_Word_its_again : SlF K "Word" "its_again" 0
  s_Word_its_early : SlF K "Word" "its_early" 1
  m_Word_init : Meth K (ga K "Word") "__init__" (ma K "Word" "__init__")
  f_Word_init : FnAt K "Word.__init__" st_Word_init (ma K "Word" "__init__")
  p_Word_early : PropF K "Word" "early" (recAd K "property" "Word" "early")
  f_Word_early : FnAt K "Word.early" st_Word_early (recAd K "property" "Word" "early")
  p_Word_again : PropF K "Word" "again" (recAd K "property" "Word" "again")
  f_Word_again : FnAt K "Word.again" st_Word_again (recAd K "property" "Word" "again")
  g_Rule : mg "Rule" = some (.ref (ga K "Rule"))
  c_Rule : SlX.SCls K (ga K "Rule")
  i_Rule : SlX.SIsi K (ga K "Rule")
  k_Rule : Mk K (ga K "Rule") (ma K "Rule" "__init__")
  s_Rule_its_parts : SlF K "Rule" "its_parts" 0
  m_Rule_init : Meth K (ga K "Rule") "__init__" (ma K "Rule" "__init__")
  f_Rule_init : FnAt K "Rule.__init__" st_Rule_init (ma K "Rule" "__init__")
  a_Rule_by : StatF K "Rule" "by" (recAd K "staticmethod" "Rule" "by")
  f_Rule_by : FnAt K "Rule.by" st_Rule_by (recAd K "staticmethod" "Rule" "by")
  a_Rule_always : StatF K "Rule" "always" (recAd K "staticmethod" "Rule" "always")
  f_Rule_always : FnAt K "Rule.always" st_Rule_always (recAd K "staticmethod" "Rule" "always")
  a_Rule_of : StatF K "Rule" "of" (recAd K "staticmethod" "Rule" "of")
  f_Rule_of : FnAt K "Rule.of" st_Rule_of (recAd K "staticmethod" "Rule" "of")
  m_Rule_call : Meth K (ga K "Rule") "__call__" (ma K "Rule" "__call__")
  f_Rule_call : FnAt K "Rule.__call__" st_Rule_call (ma K "Rule" "__call__")
  m_Rule_parts : Meth K (ga K "Rule") "parts" (ma K "Rule" "parts")
  f_Rule_parts : FnAt K "Rule.parts" st_Rule_parts (ma K "Rule" "parts")
  m_Rule_invert : Meth K (ga K "Rule") "__invert__" (ma K "Rule" "__invert__")
  f_Rule_invert : FnAt K "Rule.__invert__" st_Rule_invert (ma K "Rule" "__invert__")
  m_Rule_and : Meth K (ga K "Rule") "__and__" (ma K "Rule" "__and__")
  f_Rule_and : FnAt K "Rule.__and__" st_Rule_and (ma K "Rule" "__and__")
  m_Rule_or : Meth K (ga K "Rule") "__or__" (ma K "Rule" "__or__")
  f_Rule_or : FnAt K "Rule.__or__" st_Rule_or (ma K "Rule" "__or__")
  m_Rule_xor : Meth K (ga K "Rule") "__xor__" (ma K "Rule" "__xor__")
  f_Rule_xor : FnAt K "Rule.__xor__" st_Rule_xor (ma K "Rule" "__xor__")
  g_Floor : mg "Floor" = some (.ref (ga K "Floor"))
  c_Floor : SlX.SCls K (ga K "Floor")
  i_Floor : SlX.SIsi K (ga K "Floor")
  k_Floor : Mk K (ga K "Floor") (ma K "Floor" "__init__")
  s_Floor_floor_moons : SlF K "Floor" "floor_moons" 0
  s_Floor_floor_rule : SlF K "Floor" "floor_rule" 1
  s_Floor_floor_suns : SlF K "Floor" "floor_suns" 2
  s_Floor_on_moon : SlF K "Floor" "on_moon" 3
  s_Floor_on_sun : SlF K "Floor" "on_sun" 4
  s_Floor_truths : SlF K "Floor" "truths" 5
  m_Floor_init : Meth K (ga K "Floor") "__init__" (ma K "Floor" "__init__")
  f_Floor_init : FnAt K "Floor.__init__" st_Floor_init (ma K "Floor" "__init__")
  m_Floor_is_next : Meth K (ga K "Floor") "is_next" (ma K "Floor" "is_next")
  f_Floor_is_next : FnAt K "Floor.is_next" st_Floor_is_next (ma K "Floor" "is_next")
  m_Floor_is_end : Meth K (ga K "Floor") "is_end" (ma K "Floor" "is_end")
  f_Floor_is_end : FnAt K "Floor.is_end" st_Floor_is_end (ma K "Floor" "is_end")
  m_Floor_counted : Meth K (ga K "Floor") "counted" (ma K "Floor" "counted")
  f_Floor_counted : FnAt K "Floor.counted" st_Floor_counted (ma K "Floor" "counted")
  m_Floor_can_do : Meth K (ga K "Floor") "can_do" (ma K "Floor" "can_do")
  f_Floor_can_do : FnAt K "Floor.can_do" st_Floor_can_do (ma K "Floor" "can_do")
  m_Floor_do : Meth K (ga K "Floor") "do" (ma K "Floor" "do")
  f_Floor_do : FnAt K "Floor.do" st_Floor_do (ma K "Floor" "do")
  g_Evening : mg "Evening" = some (.ref (ga K "Evening"))
  c_Evening : SlX.SCls K (ga K "Evening")
  i_Evening : SlX.SIsi K (ga K "Evening")
  k_Evening : Mk K (ga K "Evening") (ma K "Evening" "__init__")
  s_Evening_its_first : SlF K "Evening" "its_first" 0
  s_Evening_its_floor : SlF K "Evening" "its_floor" 1
  s_Evening_its_log : SlF K "Evening" "its_log" 2
  s_Evening_its_moons : SlF K "Evening" "its_moons" 3
  s_Evening_its_suns : SlF K "Evening" "its_suns" 4
  s_Evening_its_undone : SlF K "Evening" "its_undone" 5
  m_Evening_init : Meth K (ga K "Evening") "__init__" (ma K "Evening" "__init__")
  f_Evening_init : FnAt K "Evening.__init__" st_Evening_init (ma K "Evening" "__init__")
  p_Evening_suns : PropF K "Evening" "suns" (recAd K "property" "Evening" "suns")
  f_Evening_suns : FnAt K "Evening.suns" st_Evening_suns (recAd K "property" "Evening" "suns")
  p_Evening_moons : PropF K "Evening" "moons" (recAd K "property" "Evening" "moons")
  f_Evening_moons : FnAt K "Evening.moons" st_Evening_moons (recAd K "property" "Evening" "moons")
  p_Evening_first : PropF K "Evening" "first" (recAd K "property" "Evening" "first")
  f_Evening_first : FnAt K "Evening.first" st_Evening_first (recAd K "property" "Evening" "first")
  p_Evening_rule : PropF K "Evening" "rule" (recAd K "property" "Evening" "rule")
  f_Evening_rule : FnAt K "Evening.rule" st_Evening_rule (recAd K "property" "Evening" "rule")
  m_Evening_is_place : Meth K (ga K "Evening") "is_place" (ma K "Evening" "is_place")
  f_Evening_is_place : FnAt K "Evening.is_place" st_Evening_is_place (ma K "Evening" "is_place")
  m_Evening_is_deed : Meth K (ga K "Evening") "is_deed" (ma K "Evening" "is_deed")
  f_Evening_is_deed : FnAt K "Evening.is_deed" st_Evening_is_deed (ma K "Evening" "is_deed")
  m_Evening_laid : Meth K (ga K "Evening") "laid" (ma K "Evening" "laid")
  f_Evening_laid : FnAt K "Evening.laid" st_Evening_laid (ma K "Evening" "laid")
  m_Evening_above : Meth K (ga K "Evening") "above" (ma K "Evening" "above")
  f_Evening_above : FnAt K "Evening.above" st_Evening_above (ma K "Evening" "above")
  m_Evening_can : Meth K (ga K "Evening") "can" (ma K "Evening" "can")
  f_Evening_can : FnAt K "Evening.can" st_Evening_can (ma K "Evening" "can")
  m_Evening_ends : Meth K (ga K "Evening") "ends" (ma K "Evening" "ends")
  f_Evening_ends : FnAt K "Evening.ends" st_Evening_ends (ma K "Evening" "ends")
  m_Evening_lacking : Meth K (ga K "Evening") "lacking" (ma K "Evening" "lacking")
  f_Evening_lacking : FnAt K "Evening.lacking" st_Evening_lacking (ma K "Evening" "lacking")
  m_Evening_needed : Meth K (ga K "Evening") "needed" (ma K "Evening" "needed")
  f_Evening_needed : FnAt K "Evening.needed" st_Evening_needed (ma K "Evening" "needed")
  m_Evening_do : Meth K (ga K "Evening") "do" (ma K "Evening" "do")
  f_Evening_do : FnAt K "Evening.do" st_Evening_do (ma K "Evening" "do")
  m_Evening_log : Meth K (ga K "Evening") "log" (ma K "Evening" "log")
  f_Evening_log : FnAt K "Evening.log" st_Evening_log (ma K "Evening" "log")
  m_Evening_floor_behind : Meth K (ga K "Evening") "floor_behind" (ma K "Evening" "floor_behind")
  f_Evening_floor_behind : FnAt K "Evening.floor_behind" st_Evening_floor_behind (ma K "Evening" "floor_behind")
  m_Evening_begin_anew : Meth K (ga K "Evening") "begin_anew" (ma K "Evening" "begin_anew")
  f_Evening_begin_anew : FnAt K "Evening.begin_anew" st_Evening_begin_anew (ma K "Evening" "begin_anew")
  m_Evening_undo : Meth K (ga K "Evening") "undo" (ma K "Evening" "undo")
  f_Evening_undo : FnAt K "Evening.undo" st_Evening_undo (ma K "Evening" "undo")
  m_Evening_redo : Meth K (ga K "Evening") "redo" (ma K "Evening" "redo")
  f_Evening_redo : FnAt K "Evening.redo" st_Evening_redo (ma K "Evening" "redo")
  m_Evening_finish : Meth K (ga K "Evening") "finish" (ma K "Evening" "finish")
  f_Evening_finish : FnAt K "Evening.finish" st_Evening_finish (ma K "Evening" "finish")
  m_Evening_past : Meth K (ga K "Evening") "past" (ma K "Evening" "past")
  f_Evening_past : FnAt K "Evening.past" st_Evening_past (ma K "Evening" "past")
  m_Evening_copied : Meth K (ga K "Evening") "copied" (ma K "Evening" "copied")
  f_Evening_copied : FnAt K "Evening.copied" st_Evening_copied (ma K "Evening" "copied")
  g_Dance : mg "Dance" = some (.ref (ga K "Dance"))
  c_Dance : SlX.SCls K (ga K "Dance")
  i_Dance : SlX.SIsi K (ga K "Dance")
  k_Dance : Mk K (ga K "Dance") (ma K "Dance" "__init__")
  s_Dance_its_moons : SlF K "Dance" "its_moons" 0
  s_Dance_its_rounds : SlF K "Dance" "its_rounds" 1
  s_Dance_its_rule : SlF K "Dance" "its_rule" 2
  s_Dance_its_suns : SlF K "Dance" "its_suns" 3
  m_Dance_init : Meth K (ga K "Dance") "__init__" (ma K "Dance" "__init__")
  f_Dance_init : FnAt K "Dance.__init__" st_Dance_init (ma K "Dance" "__init__")
  m_Dance_is_meeting : Meth K (ga K "Dance") "is_meeting" (ma K "Dance" "is_meeting")
  f_Dance_is_meeting : FnAt K "Dance.is_meeting" st_Dance_is_meeting (ma K "Dance" "is_meeting")
  m_Dance_need_meeting : Meth K (ga K "Dance") "need_meeting" (ma K "Dance" "need_meeting")
  f_Dance_need_meeting : FnAt K "Dance.need_meeting" st_Dance_need_meeting (ma K "Dance" "need_meeting")
  m_Dance_meetings : Meth K (ga K "Dance") "meetings" (ma K "Dance" "meetings")
  f_Dance_meetings : FnAt K "Dance.meetings" st_Dance_meetings (ma K "Dance" "meetings")
  m_Dance_size : Meth K (ga K "Dance") "size" (ma K "Dance" "size")
  f_Dance_size : FnAt K "Dance.size" st_Dance_size (ma K "Dance" "size")
  m_Dance_behind : Meth K (ga K "Dance") "behind" (ma K "Dance" "behind")
  f_Dance_behind : FnAt K "Dance.behind" st_Dance_behind (ma K "Dance" "behind")
  m_Dance_ahead : Meth K (ga K "Dance") "ahead" (ma K "Dance" "ahead")
  f_Dance_ahead : FnAt K "Dance.ahead" st_Dance_ahead (ma K "Dance" "ahead")
  m_Dance_level : Meth K (ga K "Dance") "level" (ma K "Dance" "level")
  f_Dance_level : FnAt K "Dance.level" st_Dance_level (ma K "Dance" "level")
  o_invert : OwnF K "Rule" "__invert__" (ma K "Rule" "__invert__")
  o_and : OwnF K "Rule" "__and__" (ma K "Rule" "__and__")
  o_or : OwnF K "Rule" "__or__" (ma K "Rule" "__or__")
  o_xor : OwnF K "Rule" "__xor__" (ma K "Rule" "__xor__")
  kk_Word : PySem.W.kitOne K (.ref (ga K "Word")) (.ref (ga K "Word")) = some true
  kk_Rule : PySem.W.kitOne K (.ref (ga K "Rule")) (.ref (ga K "Rule")) = some true
  o_call : StX.CallO K (ga K "Rule") (ma K "Rule" "__call__")
  t_READERS : mg "READERS" = some (.ref (ga K "READERS")) ∧ ∀ H, SqT K H (ga K "READERS") [.str "turns", .str "others", .str "rounds", .str "suns", .str "moons"]
  t_PAIRS : mg "PAIRS" = some (.ref (ga K "PAIRS")) ∧ ∀ H, SqT K H (ga K "PAIRS") [.str "and", .str "or", .str "unlike"]
  t_MOST : ∃ t, mg "MOST" = some (.int 200 t)
end Pr
set_option maxHeartbeats 4000000
/-! Hd1 (printed by gen_hd.py): what the Hook looks at. -/
namespace Pr
open PySem PySem.Spec PyProof.Rows L2
/-- where a def stands: a global, a method, a property's getter, a static method's def -/
inductive Pl where
  | g (x : Str)
  | m (c x : Str)
  | p (c x : Str)
  | s (c x : Str)
def Pl.ad (K : PySem.W.Frag) : Pl → Addr
  | .g x => ga K x
  | .m c x => ma K c x
  | .p c x => recAd K "property" c x
  | .s c x => recAd K "staticmethod" c x
abbrev Fd : Type := Pl × Str × Stmt
abbrev FnV : Type := Option (Str × Arguments × FuncBody × Scope × Addr × List (Str × Addr) × Value × Addr)
def fnO (K : PySem.W.Frag) (a : Addr) : FnV := match K.lookup a with
  | some ⟨_, _, .func fd, _⟩ => some (fd.qualname, fd.params, fd.body, fd.scope, fd.globals, fd.closure, fd.defaults, fd.builtins)
  | _ => none
def fnB (K : PySem.W.Frag) (a : Addr) (q : Str) : Bool := PySem.W.keepIn K (.ref a) && (match K.lookup a with
  | some ⟨_, _, .func fd, _⟩ => PySem.W.codeIn K fd.code q
  | _ => false)
def fnE (q : Str) (st : Stmt) : FnV := some (q, defArgs st, .stmts (defBody st), defScope st, mainGlobals, [], .none, builtinsNs)
/-! ### own errors' __init__: class, qualified name, statement -/
abbrev Ed : Type := Str × Str × Stmt
abbrev FeV : Type := Option (Str × Arguments × FuncBody × Scope × Addr × List Str × Value × Addr)
def feO (K : PySem.W.Frag) (a : Addr) : FeV := match K.lookup a with
  | some ⟨_, _, .func fd, _⟩ => some (fd.qualname, fd.params, fd.body, fd.scope, fd.globals, fd.closure.map (·.1), fd.defaults, fd.builtins)
  | _ => none
def feE (q : Str) (st : Stmt) : FeV := some (q, defArgs st, .stmts (defBody st), defScope st, mainGlobals, ["__class__"], .none, builtinsNs)
def supB (P : Program) (K : PySem.W.Frag) (C f : Addr) (q : Str) : Bool := (match K.lookup f with
  | some ⟨_, _, .func fd, _⟩ => (match fd.closure, fd.code with
    | [(_, cc)], .ref cda => PySem.W.codeIn K (.ref cda) q && ((match K.lookup cda with
      | some ⟨_, _, .fields vs, _⟩ => (match (vs[2]? : Option Value) with
        | some (Value.str file _) => ((P.main.file : Str) == file)
        | _ => false)
      | _ => false) && (match K.lookup cc with
      | some ⟨_, _, .cell (some (.ref D)), _⟩ => decide (D = C)
      | _ => false))
    | _, _ => false)
  | _ => false) && (decide (PySem.W.ks_superIn K C C "__init__" = some (some (.builtin "ValueError.__init__"))) && (decide (PySem.W.subIn K (.ref C) (.type "ValueError") = some true) && (decide (PySem.W.mroIn K C (.ref C) = some true) && (decide (PySem.W.nsIn K cStatics "thirdparty.any" = some none) && !(P.main.scope.names.lookup ("super" : Str)).isSome))))
/-! ### facts -/
inductive Fc where
  | glo (x : Str)
  | free (x : Str)
  | int (x : Str) (i : Int)
  | tup (x : Str) (vs : List He.Dv)
  | scls (c : Str)
  | sisi (c : Str)
  | mk (c : Str)
  | slot (c f : Str) (i : Nat)
  | meth (c m : Str)
  | prop (c m : Str)
  | stat (c m : Str)
  | own (c m : Str)
  | callO (c m : Str)
  | kit (c d : Str) (b : Bool)
  | exm (c d : Str) (b : Bool)
  | noat (c f : Str)
  | xf (c : Str)
  | xc (c : Str)
  | err (c : Str)
def veq (a b : Option (Option Value)) : Bool := decide (a = b)
def ckT (K : PySem.W.Frag) (t : String) (p g : Addr) : Bool := match PySem.W.recIn K p t with
  | some (.ref f :: _) => decide (f = g)
  | _ => false
def oexB (K : PySem.W.Frag) (C : Addr) : Bool := (match K.lookup C with
  | some ⟨.type "type", _, .cls cd, sl⟩ => (match cd.mro, sl.toList with
    | .ref D :: bm, [_, _, _, _, some (.builtin n), _] => decide (D = C) && (decide (n = "ValueError.__new__") && (!cd.hasDel && (cd.hasDict && PySem.HandSPX.refsVE bm)))
    | _, _ => false)
  | _ => false) && (veq (PySem.W.findIn K (.ref C) "__setattr__") (some (some (.builtin "object.__setattr__"))) && (decide (PySem.W.subIn K (.ref C) (.type "BaseException") = some true) && (decide (PySem.W.typeIn K (.ref C) = some (.type "type")) && PySem.W.keepIn K (.ref C))))
def Fc.ok (K : PySem.W.Frag) : Fc → Bool
  | .glo x => (He.Fa.glo x).ok K
  | .free x => (He.Fa.free x).ok K
  | .int x i => (He.Fa.int x i).ok K
  | .tup x vs => He.tupB K x vs
  | .scls c => PySem.W.plainGet K (ga K c) Str.empty && (PySem.W.isClsIn K (ga K c) && (PySem.W.plainOver K (ga K c) && veq (PySem.W.findIn K (.ref (ga K c)) "__setattr__") (some (some (.builtin "object.__setattr__")))))
  | .sisi c => veq (PySem.W.findIn K (.ref (ga K c)) "__class__") (some (some (.builtin "object.__class__"))) && (veq (PySem.W.specialIn K (.builtin "object.__class__") "__get__") (some (some (.builtin "getset_descriptor.__get__"))) && (decide (PySem.W.takesIn K (.builtin "object.__class__") = some true) && decide (PySem.W.mroIn K (ga K c) (.type "object") = some true)))
  | .mk c => PySem.W.makesIn K (ga K c) && (veq (PySem.W.findIn K (.ref (ga K c)) "__init__") (some (some (.ref (ma K c "__init__")))) && (PySem.W.isFn K (.ref (ma K c "__init__")) && PySem.W.keepIn K (.ref (ga K c))))
  | .slot c f i => (match PySem.W.findIn K (.ref (ga K c)) f with
    | some (some (.ref p)) => veq (PySem.W.specialIn K (.ref p) "__get__") (some (some (.builtin "member_descriptor.__get__"))) && (decide (PySem.W.takesIn K (.ref p) = some true) && (decide (PySem.W.typeIn K (.ref p) = some (.type "member_descriptor")) && (decide (PySem.W.slotIn K p (ga K c) = some i) && decide (i < 1000))))
    | _ => false)
  | .meth c m => veq (PySem.W.findIn K (.ref (ga K c)) m) (some (some (.ref (ma K c m)))) && (PySem.W.isFn K (.ref (ma K c m)) && PySem.W.keepIn K (.ref (ma K c m)))
  | .prop c m => (match PySem.W.findIn K (.ref (ga K c)) m with
    | some (some (.ref p)) => veq (PySem.W.specialIn K (.ref p) "__get__") (some (some (.builtin "property.__get__"))) && (decide (PySem.W.takesIn K (.ref p) = some true) && ckT K "property" p (recAd K "property" c m))
    | _ => false)
  | .stat c m => PySem.W.readsIn K (ga K c) (.type "type") && (veq (PySem.W.specialIn K (.ref (ga K c)) "__getattribute__") (some (some (.builtin "type.__getattribute__"))) && ((match PySem.W.findCls K (.ref (ga K c)) (.type "type") m with
    | some (.get (.builtin n) (.ref a) .none (.ref b)) => decide (n = "staticmethod.__get__") && (decide (a = ma K c m) && decide (b = ga K c))
    | _ => false) && ckT K "staticmethod" (ma K c m) (recAd K "staticmethod" c m)))
  | .own c m => veq (PySem.W.findIn K (.ref (ga K c)) m) (some (some (.ref (ma K c m)))) && (PySem.W.isFn K (.ref (ma K c m)) && (PySem.W.fnIn K (ma K c m) && PySem.W.selfFirst K (ga K c)))
  | .callO c m => veq (PySem.W.findIn K (.ref (ga K c)) "__call__") (some (some (.ref (ma K c m)))) && (PySem.W.isFn K (.ref (ma K c m)) && PySem.W.fnIn K (ma K c m))
  | .kit c d b => decide (PySem.W.kitOne K (.ref (ga K c)) (.ref (ga K d)) = some b)
  | .exm c d b => decide (PySem.W.exmOne K (.ref (ga K c)) (.ref (ga K d)) = some b)
  | .noat c f => veq (PySem.W.findIn K (.ref (ga K c)) f) (some none)
  | .xf c => xfB K (ga K c)
  | .xc c => (PySem.W.clsIn K (ga K c)).isSome && (veq (PySem.W.findIn K (.ref (ga K c)) "__getattribute__") (some (some (.builtin "BaseException.__getattribute__"))) && (veq (PySem.W.findIn K (.ref (ga K c)) "__getattr__") (some none) && (decide (PySem.W.subIn K (.ref (ga K c)) (.type "BaseException") = some true) &&
      (veq (PySem.W.findIn K (.ref (ga K c)) "__class__") (some (some (.builtin "object.__class__"))) && (veq (PySem.W.specialIn K (.builtin "object.__class__") "__get__") (some (some (.builtin "getset_descriptor.__get__"))) && (decide (PySem.W.takesIn K (.builtin "object.__class__") = some true) && decide (PySem.W.mroIn K (ga K c) (.type "object") = some true)))))))
  | .err c => oexB K (ga K c) && (veq (PySem.W.findIn K (.ref (ga K c)) "__init__") (some (some (.ref (ma K c "__init__")))) && decide (PySem.W.typeIn K (.ref (ma K c "__init__")) = some (.type "function")))

def fcs0 : List Fc := [.glo "is_integer", .glo "is_count", .glo "is_number", .glo "are_bits", .glo "is_reader", .glo "bit_at", .glo "are_parts", .glo "truth_of", .glo "to_undo", .glo "undo_many", .glo "_law_bag", .glo "_law_take", .glo "_law_alike", .glo "_law_pick", .glo "_law_bit", .glo "_law_parts", .glo "_law_truth", .glo "_law_meetings", .glo "_law_ahead", .glo "_law_rule_of"]
def fcs1 : List Fc := [.glo "_law_state", .glo "_law_can", .glo "_law_ends", .glo "_law_deed", .glo "_law_is_done", .glo "_law_did", .glo "_law_begun", .glo "_law_led", .glo "_law_turned_back", .glo "_law_stands", .glo "_law_needed_right", .glo "_law_taken_right", .glo "law", .free "isinstance", .free "int", .free "bool", .free "str", .free "all", .free "len", .free "tuple"]
def fcs2 : List Fc := [.free "range", .free "sorted", .free "max", .free "list", .free "abs", .free "repr", .free "enumerate", .free "super", .glo "Word", .scls "Word", .sisi "Word", .mk "Word", .slot "Word" "its_again" 0, .slot "Word" "its_early" 1, .meth "Word" "__init__", .prop "Word" "early", .prop "Word" "again", .glo "Rule", .scls "Rule", .sisi "Rule"]
def fcs3 : List Fc := [.mk "Rule", .slot "Rule" "its_parts" 0, .meth "Rule" "__init__", .stat "Rule" "by", .stat "Rule" "always", .stat "Rule" "of", .meth "Rule" "__call__", .meth "Rule" "parts", .meth "Rule" "__invert__", .meth "Rule" "__and__", .meth "Rule" "__or__", .meth "Rule" "__xor__", .glo "Floor", .scls "Floor", .sisi "Floor", .mk "Floor", .slot "Floor" "floor_moons" 0, .slot "Floor" "floor_rule" 1, .slot "Floor" "floor_suns" 2, .slot "Floor" "on_moon" 3]
def fcs4 : List Fc := [.slot "Floor" "on_sun" 4, .slot "Floor" "truths" 5, .meth "Floor" "__init__", .meth "Floor" "is_next", .meth "Floor" "is_end", .meth "Floor" "counted", .meth "Floor" "can_do", .meth "Floor" "do", .glo "Evening", .scls "Evening", .sisi "Evening", .mk "Evening", .slot "Evening" "its_first" 0, .slot "Evening" "its_floor" 1, .slot "Evening" "its_log" 2, .slot "Evening" "its_moons" 3, .slot "Evening" "its_suns" 4, .slot "Evening" "its_undone" 5, .meth "Evening" "__init__", .prop "Evening" "suns"]
def fcs5 : List Fc := [.prop "Evening" "moons", .prop "Evening" "first", .prop "Evening" "rule", .meth "Evening" "is_place", .meth "Evening" "is_deed", .meth "Evening" "laid", .meth "Evening" "above", .meth "Evening" "can", .meth "Evening" "ends", .meth "Evening" "lacking", .meth "Evening" "needed", .meth "Evening" "do", .meth "Evening" "log", .meth "Evening" "floor_behind", .meth "Evening" "begin_anew", .meth "Evening" "undo", .meth "Evening" "redo", .meth "Evening" "finish", .meth "Evening" "past", .meth "Evening" "copied"]
def fcs6 : List Fc := [.glo "Dance", .scls "Dance", .sisi "Dance", .mk "Dance", .slot "Dance" "its_moons" 0, .slot "Dance" "its_rounds" 1, .slot "Dance" "its_rule" 2, .slot "Dance" "its_suns" 3, .meth "Dance" "__init__", .meth "Dance" "is_meeting", .meth "Dance" "need_meeting", .meth "Dance" "meetings", .meth "Dance" "size", .meth "Dance" "behind", .meth "Dance" "ahead", .meth "Dance" "level", .own "Rule" "__invert__", .own "Rule" "__and__", .own "Rule" "__or__", .own "Rule" "__xor__"]
def fcs7 : List Fc := [.kit "Word" "Word" true, .kit "Rule" "Rule" true, .callO "Rule" "__call__", .glo "READERS", .tup "READERS" [.str "turns", .str "others", .str "rounds", .str "suns", .str "moons"], .glo "PAIRS", .tup "PAIRS" [.str "and", .str "or", .str "unlike"], .int "MOST" 200, .glo "Refused", .err "Refused", .glo "Nothing", .err "Nothing", .noat "Refused" "deed", .xf "Refused", .xc "Refused", .xc "Nothing", .glo "RibbonError", .exm "Refused" "RibbonError" true, .exm "Nothing" "RibbonError" true, .glo "NoDeed"]
def fcs8 : List Fc := [.glo "Full", .glo "NoEntry", .kit "Refused" "NoDeed" false, .kit "Refused" "Refused" true, .kit "Refused" "Full" false, .kit "Nothing" "Nothing" true, .kit "Nothing" "NoEntry" false]
def fcs : List Fc := fcs0 ++ (fcs1 ++ (fcs2 ++ (fcs3 ++ (fcs4 ++ (fcs5 ++ (fcs6 ++ (fcs7 ++ (fcs8))))))))
def fds0 : List Fd := [(.g "is_integer", "is_integer", st_is_integer), (.g "is_count", "is_count", st_is_count), (.g "is_number", "is_number", st_is_number), (.g "are_bits", "are_bits", st_are_bits), (.g "is_reader", "is_reader", st_is_reader), (.g "bit_at", "bit_at", st_bit_at), (.g "are_parts", "are_parts", st_are_parts), (.g "truth_of", "truth_of", st_truth_of), (.g "to_undo", "to_undo", st_to_undo), (.g "undo_many", "undo_many", st_undo_many), (.g "_law_bag", "_law_bag", st_law_bag), (.g "_law_take", "_law_take", st_law_take), (.g "_law_alike", "_law_alike", st_law_alike), (.g "_law_pick", "_law_pick", st_law_pick), (.g "_law_bit", "_law_bit", st_law_bit), (.g "_law_parts", "_law_parts", st_law_parts), (.g "_law_truth", "_law_truth", st_law_truth), (.g "_law_meetings", "_law_meetings", st_law_meetings), (.g "_law_ahead", "_law_ahead", st_law_ahead), (.g "_law_rule_of", "_law_rule_of", st_law_rule_of), (.g "_law_state", "_law_state", st_law_state), (.g "_law_can", "_law_can", st_law_can), (.g "_law_ends", "_law_ends", st_law_ends), (.g "_law_deed", "_law_deed", st_law_deed), (.g "_law_is_done", "_law_is_done", st_law_is_done), (.g "_law_did", "_law_did", st_law_did), (.g "_law_begun", "_law_begun", st_law_begun), (.g "_law_led", "_law_led", st_law_led), (.g "_law_turned_back", "_law_turned_back", st_law_turned_back), (.g "_law_stands", "_law_stands", st_law_stands)]
def fds1 : List Fd := [(.g "_law_needed_right", "_law_needed_right", st_law_needed_right), (.g "_law_taken_right", "_law_taken_right", st_law_taken_right), (.g "law", "law", st_law), (.m "Word" "__init__", "Word.__init__", st_Word_init), (.p "Word" "early", "Word.early", st_Word_early), (.p "Word" "again", "Word.again", st_Word_again), (.m "Rule" "__init__", "Rule.__init__", st_Rule_init), (.s "Rule" "by", "Rule.by", st_Rule_by), (.s "Rule" "always", "Rule.always", st_Rule_always), (.s "Rule" "of", "Rule.of", st_Rule_of), (.m "Rule" "__call__", "Rule.__call__", st_Rule_call), (.m "Rule" "parts", "Rule.parts", st_Rule_parts), (.m "Rule" "__invert__", "Rule.__invert__", st_Rule_invert), (.m "Rule" "__and__", "Rule.__and__", st_Rule_and), (.m "Rule" "__or__", "Rule.__or__", st_Rule_or), (.m "Rule" "__xor__", "Rule.__xor__", st_Rule_xor), (.m "Floor" "__init__", "Floor.__init__", st_Floor_init), (.m "Floor" "is_next", "Floor.is_next", st_Floor_is_next), (.m "Floor" "is_end", "Floor.is_end", st_Floor_is_end), (.m "Floor" "counted", "Floor.counted", st_Floor_counted), (.m "Floor" "can_do", "Floor.can_do", st_Floor_can_do), (.m "Floor" "do", "Floor.do", st_Floor_do), (.m "Evening" "__init__", "Evening.__init__", st_Evening_init), (.p "Evening" "suns", "Evening.suns", st_Evening_suns), (.p "Evening" "moons", "Evening.moons", st_Evening_moons), (.p "Evening" "first", "Evening.first", st_Evening_first), (.p "Evening" "rule", "Evening.rule", st_Evening_rule), (.m "Evening" "is_place", "Evening.is_place", st_Evening_is_place), (.m "Evening" "is_deed", "Evening.is_deed", st_Evening_is_deed), (.m "Evening" "laid", "Evening.laid", st_Evening_laid)]
def fds2 : List Fd := [(.m "Evening" "above", "Evening.above", st_Evening_above), (.m "Evening" "can", "Evening.can", st_Evening_can), (.m "Evening" "ends", "Evening.ends", st_Evening_ends), (.m "Evening" "lacking", "Evening.lacking", st_Evening_lacking), (.m "Evening" "needed", "Evening.needed", st_Evening_needed), (.m "Evening" "do", "Evening.do", st_Evening_do), (.m "Evening" "log", "Evening.log", st_Evening_log), (.m "Evening" "floor_behind", "Evening.floor_behind", st_Evening_floor_behind), (.m "Evening" "begin_anew", "Evening.begin_anew", st_Evening_begin_anew), (.m "Evening" "undo", "Evening.undo", st_Evening_undo), (.m "Evening" "redo", "Evening.redo", st_Evening_redo), (.m "Evening" "finish", "Evening.finish", st_Evening_finish), (.m "Evening" "past", "Evening.past", st_Evening_past), (.m "Evening" "copied", "Evening.copied", st_Evening_copied), (.m "Dance" "__init__", "Dance.__init__", st_Dance_init), (.m "Dance" "is_meeting", "Dance.is_meeting", st_Dance_is_meeting), (.m "Dance" "need_meeting", "Dance.need_meeting", st_Dance_need_meeting), (.m "Dance" "meetings", "Dance.meetings", st_Dance_meetings), (.m "Dance" "size", "Dance.size", st_Dance_size), (.m "Dance" "behind", "Dance.behind", st_Dance_behind), (.m "Dance" "ahead", "Dance.ahead", st_Dance_ahead), (.m "Dance" "level", "Dance.level", st_Dance_level)]
def fds : List Fd := fds0 ++ (fds1 ++ (fds2))
def eds : List Ed := [("Refused", "Refused.__init__", st_Refused_init), ("Nothing", "Nothing.__init__", st_Nothing_init)]
abbrev Al : Type := Bool × List FnV × List FeV
def obsK (K : PySem.W.Frag) : Al := ((fcs.all fun f => f.ok K) && ((fds.all fun d => fnB K (d.1.ad K) d.2.1) && eds.all fun d => supB PySem.Challenge.pw_poleribbons_k86_whole_needed_and_then_la K (ga K d.1) (ma K d.1 "__init__") d.2.1), fds.map fun d => fnO K (d.1.ad K), eds.map fun d => feO K (ma K d.1 "__init__"))
def valK : Al := (true, fds.map fun d => fnE d.2.1 d.2.2, eds.map fun d => feE d.2.1 d.2.2)
def SaysP (K : PySem.W.Frag) : Prop := obsK K = valK
end Pr
set_option maxHeartbeats 0
/-! Rm: what is looked at behind the top. -/
namespace Pr
open PySem PySem.W PySem.Calls PyProof.Rows
abbrev RR : OpenRow := OpenLaw.row PySem.Challenge.rw_poleribbons_k86_whole_needed_and_then_la
abbrev qV : Program := view RR.prog [65]
def names1 : List PySem.Str := ["_wall", "RibbonError", "Wrong", "NoRule", "NoMeeting", "NotLaid", "NoDeed", "Refused", "Full", "Nothing", "NoEntry", "READERS", "is_integer", "is_count", "is_number", "are_bits", "is_reader", "common_multiple", "bit_at", "text_of", "put_together", "turned_about", "Word", "PAIRS", "are_parts", "truth_of", "words_in", "size_of", "Rule"]
def names2 : List PySem.Str := ["MOST", "Floor", "Evening", "Dance", "to_undo", "undo_many", "_law_bag", "_law_take", "_law_alike", "_law_pick", "_law_bit", "_law_parts", "_law_truth", "_law_meetings", "_law_ahead", "_law_rule_of", "_law_state", "_law_can", "_law_ends", "_law_deed", "_law_is_done", "_law_did", "_law_begun", "_law_led", "_law_turned_back", "_law_stands", "_law_needed_right", "_law_taken_right"]
def names : List PySem.Str := names1 ++ names2
/-- what an object names, as far as it is looked at -/
def refsX (o : Obj) : List Addr := match o.data with
  | .dict es _ => es.toList.flatMap fun e => He.refV e.val
  | .func fd => He.refV fd.code ++ fd.closure.map (·.2)
  | .cls cd => cd.ns :: cd.mro.flatMap He.refV
  | .fields vs => (match o.cls with
    | .type t => (match t == "property" || t == "staticmethod" with
      | true => vs.toList.flatMap He.refV
      | false => [])
    | _ => [])
  | _ => []
def growX (g : Addr → Option Obj) (as : List Addr) : List Addr := (as ++ as.flatMap fun a => match g a with
  | some o => refsX o
  | none => []).eraseDups
/-- the list is read through before it goes on -/
def frA {α : Type} : List Addr → (List Addr → α) → α
  | [], k => k []
  | a :: r, k => HandSHeadRun.frNat a fun a => frA r fun r => k (a :: r)
theorem frA_eq {α : Type} : ∀ (l : List Addr) (k : List Addr → α), frA l k = k l
  | [], k => rfl
  | a :: r, k => by
    show HandSHeadRun.frNat a (fun a => frA r fun r => k (a :: r)) = _
    rw [HandSHeadRun.frNat_eq, frA_eq r]
def frK {α : Type} : List (Addr × Obj) → (List (Addr × Obj) → α) → α
  | [], k => k []
  | (a, o) :: r, k => frK r fun r => k ((a, o) :: r)
theorem frK_eq {α : Type} : ∀ (l : List (Addr × Obj)) (k : List (Addr × Obj) → α), frK l k = k l
  | [], k => rfl
  | (a, o) :: r, k => by
    show frK r (fun r => k ((a, o) :: r)) = _
    rw [frK_eq r]
def asF (g : Addr → Option Obj) : Nat → List Addr → List Addr
  | 0, as => as
  | n + 1, as => asF g n (growX g as)
def growF {α : Type} (g : Addr → Option Obj) : Nat → List Addr → (List Addr → α) → α
  | 0, as, k => k as
  | n + 1, as, k => frA (growX g as) fun as => growF g n as k
theorem growF_eq {α : Type} (g : Addr → Option Obj) : ∀ (n : Nat) (as : List Addr) (k : List Addr → α), growF g n as k = k (asF g n as)
  | 0, as, k => rfl
  | n + 1, as, k => by
    show frA (growX g as) (fun as => growF g n as k) = _
    rw [frA_eq, growF_eq g n]
    rfl
/-- the part of the heap that is looked at -/
def partG (g : Addr → Option Obj) : PySem.W.Frag := He.frG g (asF g 5 [mainGlobals, cStatics])
/-- looked at, read through first -/
def prt {α : Type} (f : PySem.W.Frag → α) (s : PySem.W.SharedT) : α := growF (HandSHeadRun.getT s) 5 [mainGlobals, cStatics] fun as => frK (He.frG (HandSHeadRun.getT s) as) f
theorem prt_eq {α : Type} (f : PySem.W.Frag → α) (s : PySem.W.SharedT) : prt f s = f (partG (HandSHeadRun.getT s)) := by
  unfold prt
  rw [growF_eq, frK_eq]
  rfl
def hkP : PySem.W.Hook where
  α := Al
  obs := fun s => obsK (partG s.heap.get?)
  val := fun _ => valK
  says := fun _ h => ∃ K : PySem.W.Frag, K.In h ∧ SaysP K
  of := fun _ _ e => ⟨_, He.frG_in, e⟩
  keeps := fun _ _ _ ⟨K, hK, c⟩ k => ⟨K, PySem.W.Frag.In.keeps hK k, c⟩
def obP (s : PySem.W.SharedT) : Al := obsK (partG (HandSHeadRun.getT s))
theorem obP_eq (s : PySem.W.SharedT) : obP s = hkP.obs s.abs := by
  have e : HandSHeadRun.getT s = s.abs.heap.get? := funext (HandSHeadRun.getT_eq s)
  show obsK (partG (HandSHeadRun.getT s)) = obsK (partG s.abs.heap.get?)
  rw [e]
/-- the state behind the top -/
noncomputable abbrev endP (w : World) (os : OsState) : Option SharedT := HandSHeadRun.endF (HandSHeadRun.stepQ (HandSHeadRun.denQ HandSHeadRun.tabQ) RR.prog w) 20000 RR.prog w os
def chkF (l : List Fc) (K : PySem.W.Frag) : Bool := l.all fun f => f.ok K
def chkD (l : List Fd) (K : PySem.W.Frag) : Bool × List FnV := (l.all fun d => fnB K (d.1.ad K) d.2.1, l.map fun d => fnO K (d.1.ad K))
def lokD (l : List Fd) : Bool × List FnV := (true, l.map fun d => fnE d.2.1 d.2.2)
def chkE (l : List Ed) (K : PySem.W.Frag) : Bool × List FeV := (l.all fun d => supB PySem.Challenge.pw_poleribbons_k86_whole_needed_and_then_la K (ga K d.1) (ma K d.1 "__init__") d.2.1, l.map fun d => feO K (ma K d.1 "__init__"))
def lokE (l : List Ed) : Bool × List FeV := (true, l.map fun d => feE d.2.1 d.2.2)
theorem obsK_of {K : PySem.W.Frag} (A : chkF (fcs0 ++ fcs1) K = true) (B : chkF (fcs2 ++ fcs3) K = true) (C : chkF (fcs4 ++ fcs5) K = true) (D : chkF (fcs6 ++ (fcs7 ++ fcs8)) K = true)
    (d0 : chkD fds0 K = lokD fds0) (d1 : chkD fds1 K = lokD fds1) (d2 : chkD fds2 K = lokD fds2) (ee : chkE eds K = lokE eds) : obsK K = valK := by
  have f : (fcs.all fun f => f.ok K) = true := by
    unfold chkF at A B C D
    simp only [List.all_append, Bool.and_eq_true] at A B C D
    show ((fcs0 ++ (fcs1 ++ (fcs2 ++ (fcs3 ++ (fcs4 ++ (fcs5 ++ (fcs6 ++ (fcs7 ++ fcs8)))))))).all fun f => f.ok K) = true
    simp only [List.all_append, A, B, C, D, Bool.and_self]
  have b0 := congrArg Prod.fst d0
  have b1 := congrArg Prod.fst d1
  have b2 := congrArg Prod.fst d2
  have l0 := congrArg Prod.snd d0
  have l1 := congrArg Prod.snd d1
  have l2 := congrArg Prod.snd d2
  have be := congrArg Prod.fst ee
  have le := congrArg Prod.snd ee
  unfold chkD lokD at b0 b1 b2 l0 l1 l2
  unfold chkE lokE at be le
  have g : (fds.all fun d => fnB K (d.1.ad K) d.2.1) = true := by
    show ((fds0 ++ (fds1 ++ fds2)).all fun d => fnB K (d.1.ad K) d.2.1) = true
    rw [List.all_append, List.all_append]
    exact Bool.and_eq_true_iff.mpr ⟨b0, Bool.and_eq_true_iff.mpr ⟨b1, b2⟩⟩
  have gl : (fds.map fun d => fnO K (d.1.ad K)) = fds.map fun d => fnE d.2.1 d.2.2 := by
    show ((fds0 ++ (fds1 ++ fds2)).map fun d => fnO K (d.1.ad K)) = (fds0 ++ (fds1 ++ fds2)).map fun d => fnE d.2.1 d.2.2
    rw [List.map_append, List.map_append, List.map_append, List.map_append]
    exact congr (congrArg _ l0) (congr (congrArg _ l1) l2)
  refine Prod.ext ?_ (Prod.ext gl le)
  show ((fcs.all fun f => f.ok K) && ((fds.all fun d => fnB K (d.1.ad K) d.2.1) && _)) = true
  rw [f, g]
  exact be
abbrev LookEq (w : World) : Prop := ∀ os, (endP w os).map (fun s => (HandSHeadRun.looksF RR.prog (boot_heap w.params) s.abs, HandSHeadRun.seenQ qV names (importedModules RR.prog.main.body) (fun s => xlAt qV [] s && recOk RR.toRowW.records s) s.abs)) = some (true, openGood qV names)
theorem runP_of {w : World} (h0 : LookEq w)
    (hA : ∀ os, (endP w os).map (prt (chkF (fcs0 ++ fcs1))) = some true) (hB : ∀ os, (endP w os).map (prt (chkF (fcs2 ++ fcs3))) = some true) (hC : ∀ os, (endP w os).map (prt (chkF (fcs4 ++ fcs5))) = some true) (hD : ∀ os, (endP w os).map (prt (chkF (fcs6 ++ (fcs7 ++ fcs8)))) = some true)
    (g0 : ∀ os, (endP w os).map (prt (chkD fds0)) = some (lokD fds0)) (g1 : ∀ os, (endP w os).map (prt (chkD fds1)) = some (lokD fds1)) (g2 : ∀ os, (endP w os).map (prt fun K => (chkD fds2 K, chkE eds K)) = some (lokD fds2, lokE eds)) : HandSHeadRun.RunEq RR qV hkP obP 20000 names w := by
  intro os
  have h0 := h0 os
  have hA := hA os
  have hB := hB os
  have hC := hC os
  have hD := hD os
  have g0 := g0 os
  have g1 := g1 os
  have g2 := g2 os
  show (endP w os).map _ = _
  generalize endP w os = o at h0 hA hB hC hD g0 g1 g2
  cases o with
  | none => cases h0
  | some s =>
    have q1 : HandSHeadRun.looksF RR.prog (boot_heap w.params) s.abs = true := congrArg Prod.fst (Option.some.inj h0)
    have q2 : HandSHeadRun.seenQ qV names (importedModules RR.prog.main.body) (fun s => xlAt qV [] s && recOk RR.toRowW.records s) s.abs = openGood qV names := congrArg Prod.snd (Option.some.inj h0)
    have hA := Option.some.inj hA
    have hB := Option.some.inj hB
    have hC := Option.some.inj hC
    have hD := Option.some.inj hD
    have g0 := Option.some.inj g0
    have g1 := Option.some.inj g1
    have g2 := Option.some.inj g2
    rw [prt_eq] at hA hB hC hD g0 g1 g2
    exact congrArg some (Prod.ext q1 (Prod.ext q2 (obsK_of hA hB hC hD g0 g1 (congrArg Prod.fst g2) (congrArg Prod.snd g2))))
end Pr
set_option maxHeartbeats 0
/-! Rn: the top's run, by equations of the kernel. -/
namespace Pr
open PySem PySem.W PySem.Calls PyProof.Rows
theorem run0 (w : World) : LookEq w := by
  intro os
  kernel_rfl
theorem runA (w : World) (os : OsState) : (endP w os).map (prt (chkF (fcs0 ++ fcs1))) = some true := by
  kernel_rfl
theorem runB (w : World) (os : OsState) : (endP w os).map (prt (chkF (fcs2 ++ fcs3))) = some true := by
  kernel_rfl
theorem runC (w : World) (os : OsState) : (endP w os).map (prt (chkF (fcs4 ++ fcs5))) = some true := by
  kernel_rfl
theorem runD (w : World) (os : OsState) : (endP w os).map (prt (chkF (fcs6 ++ (fcs7 ++ fcs8)))) = some true := by
  kernel_rfl
theorem runE (w : World) (os : OsState) : (endP w os).map (prt (chkD fds0)) = some (lokD fds0) := by
  kernel_rfl
theorem runF (w : World) (os : OsState) : (endP w os).map (prt (chkD fds1)) = some (lokD fds1) := by
  kernel_rfl
theorem runG (w : World) (os : OsState) : (endP w os).map (prt (fun K => (chkD fds2 K, chkE eds K))) = some (lokD fds2, lokE eds) := by
  kernel_rfl
theorem runP (w : World) : HandSHeadRun.RunEq RR qV hkP obP 20000 names w := runP_of (run0 w) (runA w) (runB w) (runC w) (runD w) (runE w) (runF w) (runG w)
set_option maxHeartbeats 4000000
end Pr
set_option maxHeartbeats 4000000
/-! Ty (printed by gen_ty.py): scopes and arguments of the defs. -/
namespace Pr
open PySem PySem.Spec PyProof.Rows L2
abbrev N_is_integer : List Str := ["thing"]
theorem sc_is_integer : FnScope N_is_integer ["thing"] (defScope st_is_integer) := ⟨rfl, rfl, rfl, by decide +kernel, rfl, by decide +kernel, by decide +kernel⟩
theorem bn_is_integer : BindAt st_is_integer ["thing"] := fun _ _ _ _ _ _ _ _ us hl => match us, hl with | [_], _ => rfl
abbrev N_is_count : List Str := ["thing"]
theorem sc_is_count : FnScope N_is_count ["thing"] (defScope st_is_count) := ⟨rfl, rfl, rfl, by decide +kernel, rfl, by decide +kernel, by decide +kernel⟩
theorem bn_is_count : BindAt st_is_count ["thing"] := fun _ _ _ _ _ _ _ _ us hl => match us, hl with | [_], _ => rfl
abbrev N_is_number : List Str := ["thing"]
theorem sc_is_number : FnScope N_is_number ["thing"] (defScope st_is_number) := ⟨rfl, rfl, rfl, by decide +kernel, rfl, by decide +kernel, by decide +kernel⟩
theorem bn_is_number : BindAt st_is_number ["thing"] := fun _ _ _ _ _ _ _ _ us hl => match us, hl with | [_], _ => rfl
abbrev N_are_bits : List Str := ["thing", "sign"]
theorem sc_are_bits : FnScope N_are_bits ["thing"] (defScope st_are_bits) := ⟨rfl, rfl, rfl, by decide +kernel, rfl, by decide +kernel, by decide +kernel⟩
theorem bn_are_bits : BindAt st_are_bits ["thing"] := fun _ _ _ _ _ _ _ _ us hl => match us, hl with | [_], _ => rfl
abbrev N_is_reader : List Str := ["thing"]
theorem sc_is_reader : FnScope N_is_reader ["thing"] (defScope st_is_reader) := ⟨rfl, rfl, rfl, by decide +kernel, rfl, by decide +kernel, by decide +kernel⟩
theorem bn_is_reader : BindAt st_is_reader ["thing"] := fun _ _ _ _ _ _ _ _ us hl => match us, hl with | [_], _ => rfl
abbrev N_bit_at : List Str := ["early", "again", "x"]
theorem sc_bit_at : FnScope N_bit_at ["early", "again", "x"] (defScope st_bit_at) := ⟨rfl, rfl, rfl, by decide +kernel, rfl, by decide +kernel, by decide +kernel⟩
theorem bn_bit_at : BindAt st_bit_at ["early", "again", "x"] := fun _ _ _ _ _ _ _ _ us hl => match us, hl with | [_, _, _], _ => rfl
abbrev N_are_parts : List Str := ["thing"]
theorem sc_are_parts : FnScope N_are_parts ["thing"] (defScope st_are_parts) := ⟨rfl, rfl, rfl, by decide +kernel, rfl, by decide +kernel, by decide +kernel⟩
theorem bn_are_parts : BindAt st_are_parts ["thing"] := fun _ _ _ _ _ _ _ _ us hl => match us, hl with | [_], _ => rfl
abbrev N_truth_of : List Str := ["parts", "numbers", "one", "other"]
theorem sc_truth_of : FnScope N_truth_of ["parts", "numbers"] (defScope st_truth_of) := ⟨rfl, rfl, rfl, by decide +kernel, rfl, by decide +kernel, by decide +kernel⟩
theorem bn_truth_of : BindAt st_truth_of ["parts", "numbers"] := fun _ _ _ _ _ _ _ _ us hl => match us, hl with | [_, _], _ => rfl
abbrev N_to_undo : List Str := ["dance", "meetings", "found", "meeting", "later"]
theorem sc_to_undo : FnScope N_to_undo ["dance", "meetings"] (defScope st_to_undo) := ⟨rfl, rfl, rfl, by decide +kernel, rfl, by decide +kernel, by decide +kernel⟩
theorem bn_to_undo : BindAt st_to_undo ["dance", "meetings"] := fun _ _ _ _ _ _ _ _ us hl => match us, hl with | [_, _], _ => rfl
abbrev N_undo_many : List Str := ["suns", "moons", "rounds", "meeting", "part", "r", "i", "j", "found"]
theorem sc_undo_many : FnScope N_undo_many ["suns", "moons", "rounds", "meeting"] (defScope st_undo_many) := ⟨rfl, rfl, rfl, by decide +kernel, rfl, by decide +kernel, by decide +kernel⟩
theorem bn_undo_many : BindAt st_undo_many ["suns", "moons", "rounds", "meeting"] := fun _ _ _ _ _ _ _ _ us hl => match us, hl with | [_, _, _, _], _ => rfl
abbrev N_law_bag : List Str := ["_law_script", "_law_cell"]
theorem sc_law_bag : FnScope N_law_bag ["_law_script"] (defScope st_law_bag) := ⟨rfl, rfl, rfl, by decide +kernel, rfl, by decide +kernel, by decide +kernel⟩
theorem bn_law_bag : BindAt st_law_bag ["_law_script"] := fun _ _ _ _ _ _ _ _ us hl => match us, hl with | [_], _ => rfl
abbrev N_law_take : List Str := ["_law_bag_here", "_law_many", "_law_cell", "_law_mixed", "_law_value", "_law_begin", "_law_second"]
theorem sc_law_take : FnScope N_law_take ["_law_bag_here", "_law_many"] (defScope st_law_take) := ⟨rfl, rfl, rfl, by decide +kernel, rfl, by decide +kernel, by decide +kernel⟩
theorem bn_law_take : BindAt st_law_take ["_law_bag_here", "_law_many"] := fun _ _ _ _ _ _ _ _ us hl => match us, hl with | [_, _], _ => rfl
abbrev N_law_alike : List Str := ["_law_found", "_law_due"]
theorem sc_law_alike : FnScope N_law_alike ["_law_found", "_law_due"] (defScope st_law_alike) := ⟨rfl, rfl, rfl, by decide +kernel, rfl, by decide +kernel, by decide +kernel⟩
theorem bn_law_alike : BindAt st_law_alike ["_law_found", "_law_due"] := fun _ _ _ _ _ _ _ _ us hl => match us, hl with | [_, _], _ => rfl
abbrev N_law_pick : List Str := ["_law_bag_here", "_law_things"]
theorem sc_law_pick : FnScope N_law_pick ["_law_bag_here", "_law_things"] (defScope st_law_pick) := ⟨rfl, rfl, rfl, by decide +kernel, rfl, by decide +kernel, by decide +kernel⟩
theorem bn_law_pick : BindAt st_law_pick ["_law_bag_here", "_law_things"] := fun _ _ _ _ _ _ _ _ us hl => match us, hl with | [_, _], _ => rfl
abbrev N_law_bit : List Str := ["_law_word", "_law_x", "_law_early", "_law_again"]
theorem sc_law_bit : FnScope N_law_bit ["_law_word", "_law_x"] (defScope st_law_bit) := ⟨rfl, rfl, rfl, by decide +kernel, rfl, by decide +kernel, by decide +kernel⟩
theorem bn_law_bit : BindAt st_law_bit ["_law_word", "_law_x"] := fun _ _ _ _ _ _ _ _ us hl => match us, hl with | [_, _], _ => rfl
abbrev N_law_parts : List Str := ["_law_bag_here", "_law_deep", "_law_lead", "_law_periods", "_law_way", "_law_one", "_law_other", "_law_k", "_law_early", "_law_again"]
theorem sc_law_parts : FnScope N_law_parts ["_law_bag_here", "_law_deep", "_law_lead", "_law_periods"] (defScope st_law_parts) := ⟨rfl, rfl, rfl, by decide +kernel, rfl, by decide +kernel, by decide +kernel⟩
theorem bn_law_parts : BindAt st_law_parts ["_law_bag_here", "_law_deep", "_law_lead", "_law_periods"] := fun _ _ _ _ _ _ _ _ us hl => match us, hl with | [_, _, _, _], _ => rfl
abbrev N_law_truth : List Str := ["_law_parts_here", "_law_r", "_law_i", "_law_j", "_law_n", "_law_m", "_law_some", "_law_part", "_law_numbers"]
theorem sc_law_truth : FnScope N_law_truth ["_law_parts_here", "_law_r", "_law_i", "_law_j", "_law_n", "_law_m"] (defScope st_law_truth) := ⟨rfl, rfl, rfl, by decide +kernel, rfl, by decide +kernel, by decide +kernel⟩
theorem bn_law_truth : BindAt st_law_truth ["_law_parts_here", "_law_r", "_law_i", "_law_j", "_law_n", "_law_m"] := fun _ _ _ _ _ _ _ _ us hl => match us, hl with | [_, _, _, _, _, _], _ => rfl
abbrev N_law_meetings : List Str := ["_law_n", "_law_m", "_law_many", "_law_found", "_law_r", "_law_i", "_law_j"]
theorem sc_law_meetings : FnScope N_law_meetings ["_law_n", "_law_m", "_law_many"] (defScope st_law_meetings) := ⟨rfl, rfl, rfl, by decide +kernel, rfl, by decide +kernel, by decide +kernel⟩
theorem bn_law_meetings : BindAt st_law_meetings ["_law_n", "_law_m", "_law_many"] := fun _ _ _ _ _ _ _ _ us hl => match us, hl with | [_, _, _], _ => rfl
abbrev N_law_ahead : List Str := ["_law_one", "_law_other"]
theorem sc_law_ahead : FnScope N_law_ahead ["_law_one", "_law_other"] (defScope st_law_ahead) := ⟨rfl, rfl, rfl, by decide +kernel, rfl, by decide +kernel, by decide +kernel⟩
theorem bn_law_ahead : BindAt st_law_ahead ["_law_one", "_law_other"] := fun _ _ _ _ _ _ _ _ us hl => match us, hl with | [_, _], _ => rfl
abbrev N_law_rule_of : List Str := ["_law_bag_here", "_law_parts_here", "_law_one", "_law_other"]
theorem sc_law_rule_of : FnScope N_law_rule_of ["_law_bag_here", "_law_parts_here"] (defScope st_law_rule_of) := ⟨rfl, rfl, rfl, by decide +kernel, rfl, by decide +kernel, by decide +kernel⟩
theorem bn_law_rule_of : BindAt st_law_rule_of ["_law_bag_here", "_law_parts_here"] := fun _ _ _ _ _ _ _ _ us hl => match us, hl with | [_, _], _ => rfl
abbrev N_law_state : List Str := ["_law_n", "_law_m", "_law_first", "_law_log", "_law_laid", "_law_parts_here", "_law_word", "_law_what"]
theorem sc_law_state : FnScope N_law_state ["_law_n", "_law_m", "_law_first", "_law_log"] (defScope st_law_state) := ⟨rfl, rfl, rfl, by decide +kernel, rfl, by decide +kernel, by decide +kernel⟩
theorem bn_law_state : BindAt st_law_state ["_law_n", "_law_m", "_law_first", "_law_log"] := fun _ _ _ _ _ _ _ _ us hl => match us, hl with | [_, _, _, _], _ => rfl
abbrev N_law_can : List Str := ["_law_laid", "_law_n", "_law_m", "_law_many", "_law_spot", "_law_open_ones", "_law_one"]
theorem sc_law_can : FnScope N_law_can ["_law_laid", "_law_n", "_law_m"] (defScope st_law_can) := ⟨rfl, rfl, rfl, by decide +kernel, rfl, by decide +kernel, by decide +kernel⟩
theorem bn_law_can : BindAt st_law_can ["_law_laid", "_law_n", "_law_m"] := fun _ _ _ _ _ _ _ _ us hl => match us, hl with | [_, _, _], _ => rfl
abbrev N_law_ends : List Str := ["_law_laid", "_law_spot", "_law_one"]
theorem sc_law_ends : FnScope N_law_ends ["_law_laid"] (defScope st_law_ends) := ⟨rfl, rfl, rfl, by decide +kernel, rfl, by decide +kernel, by decide +kernel⟩
theorem bn_law_ends : BindAt st_law_ends ["_law_laid"] := fun _ _ _ _ _ _ _ _ us hl => match us, hl with | [_], _ => rfl
abbrev N_law_deed : List Str := ["_law_bag_here", "_law_n", "_law_m", "_law_laid", "_law_way", "_law_ends_here", "_law_spot"]
theorem sc_law_deed : FnScope N_law_deed ["_law_bag_here", "_law_n", "_law_m", "_law_laid"] (defScope st_law_deed) := ⟨rfl, rfl, rfl, by decide +kernel, rfl, by decide +kernel, by decide +kernel⟩
theorem bn_law_deed : BindAt st_law_deed ["_law_bag_here", "_law_n", "_law_m", "_law_laid"] := fun _ _ _ _ _ _ _ _ us hl => match us, hl with | [_, _, _, _], _ => rfl
abbrev N_law_is_done : List Str := ["_law_n", "_law_m", "_law_laid", "_law_deed_here"]
theorem sc_law_is_done : FnScope N_law_is_done ["_law_n", "_law_m", "_law_laid", "_law_deed_here"] (defScope st_law_is_done) := ⟨rfl, rfl, rfl, by decide +kernel, rfl, by decide +kernel, by decide +kernel⟩
theorem bn_law_is_done : BindAt st_law_is_done ["_law_n", "_law_m", "_law_laid", "_law_deed_here"] := fun _ _ _ _ _ _ _ _ us hl => match us, hl with | [_, _, _, _], _ => rfl
abbrev N_law_did : List Str := ["_law_evening", "_law_deed_here", "e", "_law_sorts"]
theorem sc_law_did : FnScope N_law_did ["_law_evening", "_law_deed_here"] (defScope st_law_did) := ⟨rfl, rfl, rfl, by decide +kernel, rfl, by decide +kernel, by decide +kernel⟩
theorem bn_law_did : BindAt st_law_did ["_law_evening", "_law_deed_here"] := fun _ _ _ _ _ _ _ _ us hl => match us, hl with | [_, _], _ => rfl
abbrev N_law_begun : List Str := ["_law_bag_here", "_law_n", "_law_m"]
theorem sc_law_begun : FnScope N_law_begun ["_law_bag_here"] (defScope st_law_begun) := ⟨rfl, rfl, rfl, by decide +kernel, rfl, by decide +kernel, by decide +kernel⟩
theorem bn_law_begun : BindAt st_law_begun ["_law_bag_here"] := fun _ _ _ _ _ _ _ _ us hl => match us, hl with | [_], _ => rfl
abbrev N_law_led : List Str := ["_law_bag_here", "_law_evening", "_law_log", "_law_gone", "_law_first", "_law_many", "_law_n", "_law_m", "_law_k", "_law_way", "_law_deed_here", "_law_good"]
theorem sc_law_led : FnScope N_law_led ["_law_bag_here", "_law_evening", "_law_log", "_law_gone", "_law_first", "_law_many"] (defScope st_law_led) := ⟨rfl, rfl, rfl, by decide +kernel, rfl, by decide +kernel, by decide +kernel⟩
theorem bn_law_led : BindAt st_law_led ["_law_bag_here", "_law_evening", "_law_log", "_law_gone", "_law_first", "_law_many"] := fun _ _ _ _ _ _ _ _ us hl => match us, hl with | [_, _, _, _, _, _], _ => rfl
abbrev N_law_turned_back : List Str := ["_law_evening", "_law_lists", "_law_way", "_law_found", "e"]
theorem sc_law_turned_back : FnScope N_law_turned_back ["_law_evening", "_law_lists", "_law_way"] (defScope st_law_turned_back) := ⟨rfl, rfl, rfl, by decide +kernel, rfl, by decide +kernel, by decide +kernel⟩
theorem bn_law_turned_back : BindAt st_law_turned_back ["_law_evening", "_law_lists", "_law_way"] := fun _ _ _ _ _ _ _ _ us hl => match us, hl with | [_, _, _], _ => rfl
abbrev N_law_stands : List Str := ["_law_evening", "_law_first", "_law_log", "_law_n", "_law_m", "_law_laid", "_law_parts_here", "_law_found", "_law_due", "_law_spot"]
theorem sc_law_stands : FnScope N_law_stands ["_law_evening", "_law_first", "_law_log"] (defScope st_law_stands) := ⟨rfl, rfl, rfl, by decide +kernel, rfl, by decide +kernel, by decide +kernel⟩
theorem bn_law_stands : BindAt st_law_stands ["_law_evening", "_law_first", "_law_log"] := fun _ _ _ _ _ _ _ _ us hl => match us, hl with | [_, _, _], _ => rfl
abbrev N_law_needed_right : List Str := ["_law_bag_here", "_law_evening", "_law_n", "_law_m", "_law_spot", "_law_some", "_law_dance", "_law_one", "_law_levels", "_law_copy", "_law_lacking", "_law_level"]
theorem sc_law_needed_right : FnScope N_law_needed_right ["_law_bag_here", "_law_evening"] (defScope st_law_needed_right) := ⟨rfl, rfl, rfl, by decide +kernel, rfl, by decide +kernel, by decide +kernel⟩
theorem bn_law_needed_right : BindAt st_law_needed_right ["_law_bag_here", "_law_evening"] := fun _ _ _ _ _ _ _ _ us hl => match us, hl with | [_, _], _ => rfl
abbrev N_law_taken_right : List Str := ["_law_bag_here", "_law_n", "_law_m", "_law_rule", "_law_many", "_law_dance", "_law_evening", "_law_spot", "_law_later", "_law_order", "_law_one", "_law_level"]
theorem sc_law_taken_right : FnScope N_law_taken_right ["_law_bag_here", "_law_n", "_law_m", "_law_rule"] (defScope st_law_taken_right) := ⟨rfl, rfl, rfl, by decide +kernel, rfl, by decide +kernel, by decide +kernel⟩
theorem bn_law_taken_right : BindAt st_law_taken_right ["_law_bag_here", "_law_n", "_law_m", "_law_rule"] := fun _ _ _ _ _ _ _ _ us hl => match us, hl with | [_, _, _, _], _ => rfl
abbrev N_law : List Str := ["_law_script", "_law_bag_here", "_law_turn", "_law_n", "_law_m", "_law_first", "_law_rule", "_law_evening", "_law_log", "_law_gone", "_law_k"]
theorem sc_law : FnScope N_law ["_law_script"] (defScope st_law) := ⟨rfl, rfl, rfl, by decide +kernel, rfl, by decide +kernel, by decide +kernel⟩
theorem bn_law : BindAt st_law ["_law_script"] := fun _ _ _ _ _ _ _ _ us hl => match us, hl with | [_], _ => rfl
abbrev N_Word_init : List Str := ["self", "early", "again"]
theorem sc_Word_init : FnScope N_Word_init ["self", "early", "again"] (defScope st_Word_init) := ⟨rfl, rfl, rfl, by decide +kernel, rfl, by decide +kernel, by decide +kernel⟩
theorem bn_Word_init : BindAt st_Word_init ["self", "early", "again"] := fun _ _ _ _ _ _ _ _ us hl => match us, hl with | [_, _, _], _ => rfl
abbrev N_Word_early : List Str := ["self"]
theorem sc_Word_early : FnScope N_Word_early ["self"] (defScope st_Word_early) := ⟨rfl, rfl, rfl, by decide +kernel, rfl, by decide +kernel, by decide +kernel⟩
theorem bn_Word_early : BindAt st_Word_early ["self"] := fun _ _ _ _ _ _ _ _ us hl => match us, hl with | [_], _ => rfl
abbrev N_Word_again : List Str := ["self"]
theorem sc_Word_again : FnScope N_Word_again ["self"] (defScope st_Word_again) := ⟨rfl, rfl, rfl, by decide +kernel, rfl, by decide +kernel, by decide +kernel⟩
theorem bn_Word_again : BindAt st_Word_again ["self"] := fun _ _ _ _ _ _ _ _ us hl => match us, hl with | [_], _ => rfl
abbrev N_Rule_init : List Str := ["self", "parts"]
theorem sc_Rule_init : FnScope N_Rule_init ["self", "parts"] (defScope st_Rule_init) := ⟨rfl, rfl, rfl, by decide +kernel, rfl, by decide +kernel, by decide +kernel⟩
theorem bn_Rule_init : BindAt st_Rule_init ["self", "parts"] := fun _ _ _ _ _ _ _ _ us hl => match us, hl with | [_, _], _ => rfl
abbrev N_Rule_by : List Str := ["reader", "word"]
theorem sc_Rule_by : FnScope N_Rule_by ["reader", "word"] (defScope st_Rule_by) := ⟨rfl, rfl, rfl, by decide +kernel, rfl, by decide +kernel, by decide +kernel⟩
theorem bn_Rule_by : BindAt st_Rule_by ["reader", "word"] := fun _ _ _ _ _ _ _ _ us hl => match us, hl with | [_, _], _ => rfl
abbrev N_Rule_always : List Str := ["truth"]
theorem sc_Rule_always : FnScope N_Rule_always ["truth"] (defScope st_Rule_always) := ⟨rfl, rfl, rfl, by decide +kernel, rfl, by decide +kernel, by decide +kernel⟩
theorem bn_Rule_always : BindAt st_Rule_always ["truth"] := fun _ _ _ _ _ _ _ _ us hl => match us, hl with | [_], _ => rfl
abbrev N_Rule_of : List Str := ["parts"]
theorem sc_Rule_of : FnScope N_Rule_of ["parts"] (defScope st_Rule_of) := ⟨rfl, rfl, rfl, by decide +kernel, rfl, by decide +kernel, by decide +kernel⟩
theorem bn_Rule_of : BindAt st_Rule_of ["parts"] := fun _ _ _ _ _ _ _ _ us hl => match us, hl with | [_], _ => rfl
abbrev N_Rule_call : List Str := ["self", "r", "i", "j", "suns", "moons", "numbers"]
theorem sc_Rule_call : FnScope N_Rule_call ["self", "r", "i", "j", "suns", "moons"] (defScope st_Rule_call) := ⟨rfl, rfl, rfl, by decide +kernel, rfl, by decide +kernel, by decide +kernel⟩
theorem bn_Rule_call : BindAt st_Rule_call ["self", "r", "i", "j", "suns", "moons"] := fun _ _ _ _ _ _ _ _ us hl => match us, hl with | [_, _, _, _, _, _], _ => rfl
abbrev N_Rule_parts : List Str := ["self"]
theorem sc_Rule_parts : FnScope N_Rule_parts ["self"] (defScope st_Rule_parts) := ⟨rfl, rfl, rfl, by decide +kernel, rfl, by decide +kernel, by decide +kernel⟩
theorem bn_Rule_parts : BindAt st_Rule_parts ["self"] := fun _ _ _ _ _ _ _ _ us hl => match us, hl with | [_], _ => rfl
abbrev N_Rule_invert : List Str := ["self"]
theorem sc_Rule_invert : FnScope N_Rule_invert ["self"] (defScope st_Rule_invert) := ⟨rfl, rfl, rfl, by decide +kernel, rfl, by decide +kernel, by decide +kernel⟩
theorem bn_Rule_invert : BindAt st_Rule_invert ["self"] := fun _ _ _ _ _ _ _ _ us hl => match us, hl with | [_], _ => rfl
abbrev N_Rule_and : List Str := ["self", "other"]
theorem sc_Rule_and : FnScope N_Rule_and ["self", "other"] (defScope st_Rule_and) := ⟨rfl, rfl, rfl, by decide +kernel, rfl, by decide +kernel, by decide +kernel⟩
theorem bn_Rule_and : BindAt st_Rule_and ["self", "other"] := fun _ _ _ _ _ _ _ _ us hl => match us, hl with | [_, _], _ => rfl
abbrev N_Rule_or : List Str := ["self", "other"]
theorem sc_Rule_or : FnScope N_Rule_or ["self", "other"] (defScope st_Rule_or) := ⟨rfl, rfl, rfl, by decide +kernel, rfl, by decide +kernel, by decide +kernel⟩
theorem bn_Rule_or : BindAt st_Rule_or ["self", "other"] := fun _ _ _ _ _ _ _ _ us hl => match us, hl with | [_, _], _ => rfl
abbrev N_Rule_xor : List Str := ["self", "other"]
theorem sc_Rule_xor : FnScope N_Rule_xor ["self", "other"] (defScope st_Rule_xor) := ⟨rfl, rfl, rfl, by decide +kernel, rfl, by decide +kernel, by decide +kernel⟩
theorem bn_Rule_xor : BindAt st_Rule_xor ["self", "other"] := fun _ _ _ _ _ _ _ _ us hl => match us, hl with | [_, _], _ => rfl
abbrev N_Floor_init : List Str := ["self", "suns", "moons", "rule"]
theorem sc_Floor_init : FnScope N_Floor_init ["self", "suns", "moons", "rule"] (defScope st_Floor_init) := ⟨rfl, rfl, rfl, by decide +kernel, rfl, by decide +kernel, by decide +kernel⟩
theorem bn_Floor_init : BindAt st_Floor_init ["self", "suns", "moons", "rule"] := fun _ _ _ _ _ _ _ _ us hl => match us, hl with | [_, _, _, _], _ => rfl
abbrev N_Floor_is_next : List Str := ["self", "meeting", "r", "i", "j"]
theorem sc_Floor_is_next : FnScope N_Floor_is_next ["self", "meeting"] (defScope st_Floor_is_next) := ⟨rfl, rfl, rfl, by decide +kernel, rfl, by decide +kernel, by decide +kernel⟩
theorem bn_Floor_is_next : BindAt st_Floor_is_next ["self", "meeting"] := fun _ _ _ _ _ _ _ _ us hl => match us, hl with | [_, _], _ => rfl
abbrev N_Floor_is_end : List Str := ["self", "meeting", "r", "i", "j"]
theorem sc_Floor_is_end : FnScope N_Floor_is_end ["self", "meeting"] (defScope st_Floor_is_end) := ⟨rfl, rfl, rfl, by decide +kernel, rfl, by decide +kernel, by decide +kernel⟩
theorem bn_Floor_is_end : BindAt st_Floor_is_end ["self", "meeting"] := fun _ _ _ _ _ _ _ _ us hl => match us, hl with | [_, _], _ => rfl
abbrev N_Floor_counted : List Str := ["self", "meeting", "more"]
theorem sc_Floor_counted : FnScope N_Floor_counted ["self", "meeting", "more"] (defScope st_Floor_counted) := ⟨rfl, rfl, rfl, by decide +kernel, rfl, by decide +kernel, by decide +kernel⟩
theorem bn_Floor_counted : BindAt st_Floor_counted ["self", "meeting", "more"] := fun _ _ _ _ _ _ _ _ us hl => match us, hl with | [_, _, _], _ => rfl
abbrev N_Floor_can_do : List Str := ["self", "deed"]
theorem sc_Floor_can_do : FnScope N_Floor_can_do ["self", "deed"] (defScope st_Floor_can_do) := ⟨rfl, rfl, rfl, by decide +kernel, rfl, by decide +kernel, by decide +kernel⟩
theorem bn_Floor_can_do : BindAt st_Floor_can_do ["self", "deed"] := fun _ _ _ _ _ _ _ _ us hl => match us, hl with | [_, _], _ => rfl
abbrev N_Floor_do : List Str := ["self", "deed", "r", "i", "j"]
theorem sc_Floor_do : FnScope N_Floor_do ["self", "deed"] (defScope st_Floor_do) := ⟨rfl, rfl, rfl, by decide +kernel, rfl, by decide +kernel, by decide +kernel⟩
theorem bn_Floor_do : BindAt st_Floor_do ["self", "deed"] := fun _ _ _ _ _ _ _ _ us hl => match us, hl with | [_, _], _ => rfl
abbrev N_Evening_init : List Str := ["self", "suns", "moons", "rule", "place", "number"]
theorem sc_Evening_init : FnScope N_Evening_init ["self", "suns", "moons", "rule"] (defScope st_Evening_init) := ⟨rfl, rfl, rfl, by decide +kernel, rfl, by decide +kernel, by decide +kernel⟩
theorem bn_Evening_init : BindAt st_Evening_init ["self", "suns", "moons", "rule"] := fun _ _ _ _ _ _ _ _ us hl => match us, hl with | [_, _, _, _], _ => rfl
abbrev N_Evening_suns : List Str := ["self"]
theorem sc_Evening_suns : FnScope N_Evening_suns ["self"] (defScope st_Evening_suns) := ⟨rfl, rfl, rfl, by decide +kernel, rfl, by decide +kernel, by decide +kernel⟩
theorem bn_Evening_suns : BindAt st_Evening_suns ["self"] := fun _ _ _ _ _ _ _ _ us hl => match us, hl with | [_], _ => rfl
abbrev N_Evening_moons : List Str := ["self"]
theorem sc_Evening_moons : FnScope N_Evening_moons ["self"] (defScope st_Evening_moons) := ⟨rfl, rfl, rfl, by decide +kernel, rfl, by decide +kernel, by decide +kernel⟩
theorem bn_Evening_moons : BindAt st_Evening_moons ["self"] := fun _ _ _ _ _ _ _ _ us hl => match us, hl with | [_], _ => rfl
abbrev N_Evening_first : List Str := ["self"]
theorem sc_Evening_first : FnScope N_Evening_first ["self"] (defScope st_Evening_first) := ⟨rfl, rfl, rfl, by decide +kernel, rfl, by decide +kernel, by decide +kernel⟩
theorem bn_Evening_first : BindAt st_Evening_first ["self"] := fun _ _ _ _ _ _ _ _ us hl => match us, hl with | [_], _ => rfl
abbrev N_Evening_rule : List Str := ["self"]
theorem sc_Evening_rule : FnScope N_Evening_rule ["self"] (defScope st_Evening_rule) := ⟨rfl, rfl, rfl, by decide +kernel, rfl, by decide +kernel, by decide +kernel⟩
theorem bn_Evening_rule : BindAt st_Evening_rule ["self"] := fun _ _ _ _ _ _ _ _ us hl => match us, hl with | [_], _ => rfl
abbrev N_Evening_is_place : List Str := ["self", "thing", "part"]
theorem sc_Evening_is_place : FnScope N_Evening_is_place ["self", "thing"] (defScope st_Evening_is_place) := ⟨rfl, rfl, rfl, by decide +kernel, rfl, by decide +kernel, by decide +kernel⟩
theorem bn_Evening_is_place : BindAt st_Evening_is_place ["self", "thing"] := fun _ _ _ _ _ _ _ _ us hl => match us, hl with | [_, _], _ => rfl
abbrev N_Evening_is_deed : List Str := ["self", "thing"]
theorem sc_Evening_is_deed : FnScope N_Evening_is_deed ["self", "thing"] (defScope st_Evening_is_deed) := ⟨rfl, rfl, rfl, by decide +kernel, rfl, by decide +kernel, by decide +kernel⟩
theorem bn_Evening_is_deed : BindAt st_Evening_is_deed ["self", "thing"] := fun _ _ _ _ _ _ _ _ us hl => match us, hl with | [_, _], _ => rfl
abbrev N_Evening_laid : List Str := ["self"]
theorem sc_Evening_laid : FnScope N_Evening_laid ["self"] (defScope st_Evening_laid) := ⟨rfl, rfl, rfl, by decide +kernel, rfl, by decide +kernel, by decide +kernel⟩
theorem bn_Evening_laid : BindAt st_Evening_laid ["self"] := fun _ _ _ _ _ _ _ _ us hl => match us, hl with | [_], _ => rfl
abbrev N_Evening_above : List Str := ["self", "meeting"]
theorem sc_Evening_above : FnScope N_Evening_above ["self", "meeting"] (defScope st_Evening_above) := ⟨rfl, rfl, rfl, by decide +kernel, rfl, by decide +kernel, by decide +kernel⟩
theorem bn_Evening_above : BindAt st_Evening_above ["self", "meeting"] := fun _ _ _ _ _ _ _ _ us hl => match us, hl with | [_, _], _ => rfl
abbrev N_Evening_can : List Str := ["self", "found", "i", "many", "meeting"]
theorem sc_Evening_can : FnScope N_Evening_can ["self"] (defScope st_Evening_can) := ⟨rfl, rfl, rfl, by decide +kernel, rfl, by decide +kernel, by decide +kernel⟩
theorem bn_Evening_can : BindAt st_Evening_can ["self"] := fun _ _ _ _ _ _ _ _ us hl => match us, hl with | [_], _ => rfl
abbrev N_Evening_ends : List Str := ["self", "meeting"]
theorem sc_Evening_ends : FnScope N_Evening_ends ["self"] (defScope st_Evening_ends) := ⟨rfl, rfl, rfl, by decide +kernel, rfl, by decide +kernel, by decide +kernel⟩
theorem bn_Evening_ends : BindAt st_Evening_ends ["self"] := fun _ _ _ _ _ _ _ _ us hl => match us, hl with | [_], _ => rfl
abbrev N_Evening_lacking : List Str := ["self", "rounds", "pairs", "i", "j", "every", "r", "meeting"]
theorem sc_Evening_lacking : FnScope N_Evening_lacking ["self", "rounds"] (defScope st_Evening_lacking) := ⟨rfl, rfl, rfl, by decide +kernel, rfl, by decide +kernel, by decide +kernel⟩
theorem bn_Evening_lacking : BindAt st_Evening_lacking ["self", "rounds"] := fun _ _ _ _ _ _ _ _ us hl => match us, hl with | [_, _], _ => rfl
abbrev N_Evening_needed : List Str := ["self", "meeting", "found", "r", "i", "j", "s", "k", "l"]
theorem sc_Evening_needed : FnScope N_Evening_needed ["self", "meeting"] (defScope st_Evening_needed) := ⟨rfl, rfl, rfl, by decide +kernel, rfl, by decide +kernel, by decide +kernel⟩
theorem bn_Evening_needed : BindAt st_Evening_needed ["self", "meeting"] := fun _ _ _ _ _ _ _ _ us hl => match us, hl with | [_, _], _ => rfl
abbrev N_Evening_do : List Str := ["self", "deed"]
theorem sc_Evening_do : FnScope N_Evening_do ["self", "deed"] (defScope st_Evening_do) := ⟨rfl, rfl, rfl, by decide +kernel, rfl, by decide +kernel, by decide +kernel⟩
theorem bn_Evening_do : BindAt st_Evening_do ["self", "deed"] := fun _ _ _ _ _ _ _ _ us hl => match us, hl with | [_, _], _ => rfl
abbrev N_Evening_log : List Str := ["self"]
theorem sc_Evening_log : FnScope N_Evening_log ["self"] (defScope st_Evening_log) := ⟨rfl, rfl, rfl, by decide +kernel, rfl, by decide +kernel, by decide +kernel⟩
theorem bn_Evening_log : BindAt st_Evening_log ["self"] := fun _ _ _ _ _ _ _ _ us hl => match us, hl with | [_], _ => rfl
abbrev N_Evening_floor_behind : List Str := ["self", "log", "found", "deed"]
theorem sc_Evening_floor_behind : FnScope N_Evening_floor_behind ["self", "log"] (defScope st_Evening_floor_behind) := ⟨rfl, rfl, rfl, by decide +kernel, rfl, by decide +kernel, by decide +kernel⟩
theorem bn_Evening_floor_behind : BindAt st_Evening_floor_behind ["self", "log"] := fun _ _ _ _ _ _ _ _ us hl => match us, hl with | [_, _], _ => rfl
abbrev N_Evening_begin_anew : List Str := ["self", "log"]
theorem sc_Evening_begin_anew : FnScope N_Evening_begin_anew ["self", "log"] (defScope st_Evening_begin_anew) := ⟨rfl, rfl, rfl, by decide +kernel, rfl, by decide +kernel, by decide +kernel⟩
theorem bn_Evening_begin_anew : BindAt st_Evening_begin_anew ["self", "log"] := fun _ _ _ _ _ _ _ _ us hl => match us, hl with | [_, _], _ => rfl
abbrev N_Evening_undo : List Str := ["self", "deed"]
theorem sc_Evening_undo : FnScope N_Evening_undo ["self"] (defScope st_Evening_undo) := ⟨rfl, rfl, rfl, by decide +kernel, rfl, by decide +kernel, by decide +kernel⟩
theorem bn_Evening_undo : BindAt st_Evening_undo ["self"] := fun _ _ _ _ _ _ _ _ us hl => match us, hl with | [_], _ => rfl
abbrev N_Evening_redo : List Str := ["self", "deed"]
theorem sc_Evening_redo : FnScope N_Evening_redo ["self"] (defScope st_Evening_redo) := ⟨rfl, rfl, rfl, by decide +kernel, rfl, by decide +kernel, by decide +kernel⟩
theorem bn_Evening_redo : BindAt st_Evening_redo ["self"] := fun _ _ _ _ _ _ _ _ us hl => match us, hl with | [_], _ => rfl
abbrev N_Evening_finish : List Str := ["self", "rounds", "laid", "meeting", "wide", "found", "r", "i", "j", "level"]
theorem sc_Evening_finish : FnScope N_Evening_finish ["self", "rounds"] (defScope st_Evening_finish) := ⟨rfl, rfl, rfl, by decide +kernel, rfl, by decide +kernel, by decide +kernel⟩
theorem bn_Evening_finish : BindAt st_Evening_finish ["self", "rounds"] := fun _ _ _ _ _ _ _ _ us hl => match us, hl with | [_, _], _ => rfl
abbrev N_Evening_past : List Str := ["self", "many", "found"]
theorem sc_Evening_past : FnScope N_Evening_past ["self", "many"] (defScope st_Evening_past) := ⟨rfl, rfl, rfl, by decide +kernel, rfl, by decide +kernel, by decide +kernel⟩
theorem bn_Evening_past : BindAt st_Evening_past ["self", "many"] := fun _ _ _ _ _ _ _ _ us hl => match us, hl with | [_, _], _ => rfl
abbrev N_Evening_copied : List Str := ["self", "found"]
theorem sc_Evening_copied : FnScope N_Evening_copied ["self"] (defScope st_Evening_copied) := ⟨rfl, rfl, rfl, by decide +kernel, rfl, by decide +kernel, by decide +kernel⟩
theorem bn_Evening_copied : BindAt st_Evening_copied ["self"] := fun _ _ _ _ _ _ _ _ us hl => match us, hl with | [_], _ => rfl
abbrev N_Dance_init : List Str := ["self", "suns", "moons", "rounds", "rule", "place", "number"]
theorem sc_Dance_init : FnScope N_Dance_init ["self", "suns", "moons", "rounds", "rule"] (defScope st_Dance_init) := ⟨rfl, rfl, rfl, by decide +kernel, rfl, by decide +kernel, by decide +kernel⟩
theorem bn_Dance_init : BindAt st_Dance_init ["self", "suns", "moons", "rounds", "rule"] := fun _ _ _ _ _ _ _ _ us hl => match us, hl with | [_, _, _, _, _], _ => rfl
abbrev N_Dance_is_meeting : List Str := ["self", "thing", "part"]
theorem sc_Dance_is_meeting : FnScope N_Dance_is_meeting ["self", "thing"] (defScope st_Dance_is_meeting) := ⟨rfl, rfl, rfl, by decide +kernel, rfl, by decide +kernel, by decide +kernel⟩
theorem bn_Dance_is_meeting : BindAt st_Dance_is_meeting ["self", "thing"] := fun _ _ _ _ _ _ _ _ us hl => match us, hl with | [_, _], _ => rfl
abbrev N_Dance_need_meeting : List Str := ["self", "thing"]
theorem sc_Dance_need_meeting : FnScope N_Dance_need_meeting ["self", "thing"] (defScope st_Dance_need_meeting) := ⟨rfl, rfl, rfl, by decide +kernel, rfl, by decide +kernel, by decide +kernel⟩
theorem bn_Dance_need_meeting : BindAt st_Dance_need_meeting ["self", "thing"] := fun _ _ _ _ _ _ _ _ us hl => match us, hl with | [_, _], _ => rfl
abbrev N_Dance_meetings : List Str := ["self", "pairs", "i", "j", "r"]
theorem sc_Dance_meetings : FnScope N_Dance_meetings ["self"] (defScope st_Dance_meetings) := ⟨rfl, rfl, rfl, by decide +kernel, rfl, by decide +kernel, by decide +kernel⟩
theorem bn_Dance_meetings : BindAt st_Dance_meetings ["self"] := fun _ _ _ _ _ _ _ _ us hl => match us, hl with | [_], _ => rfl
abbrev N_Dance_size : List Str := ["self"]
theorem sc_Dance_size : FnScope N_Dance_size ["self"] (defScope st_Dance_size) := ⟨rfl, rfl, rfl, by decide +kernel, rfl, by decide +kernel, by decide +kernel⟩
theorem bn_Dance_size : BindAt st_Dance_size ["self"] := fun _ _ _ _ _ _ _ _ us hl => match us, hl with | [_], _ => rfl
abbrev N_Dance_behind : List Str := ["self", "meeting", "r", "i", "j", "along_sun", "along_moon", "one"]
theorem sc_Dance_behind : FnScope N_Dance_behind ["self", "meeting"] (defScope st_Dance_behind) := ⟨rfl, rfl, rfl, by decide +kernel, rfl, by decide +kernel, by decide +kernel⟩
theorem bn_Dance_behind : BindAt st_Dance_behind ["self", "meeting"] := fun _ _ _ _ _ _ _ _ us hl => match us, hl with | [_, _], _ => rfl
abbrev N_Dance_ahead : List Str := ["self", "one", "other", "least"]
theorem sc_Dance_ahead : FnScope N_Dance_ahead ["self", "one", "other"] (defScope st_Dance_ahead) := ⟨rfl, rfl, rfl, by decide +kernel, rfl, by decide +kernel, by decide +kernel⟩
theorem bn_Dance_ahead : BindAt st_Dance_ahead ["self", "one", "other"] := fun _ _ _ _ _ _ _ _ us hl => match us, hl with | [_, _, _], _ => rfl
abbrev N_Dance_level : List Str := ["self", "meeting"]
theorem sc_Dance_level : FnScope N_Dance_level ["self", "meeting"] (defScope st_Dance_level) := ⟨rfl, rfl, rfl, by decide +kernel, rfl, by decide +kernel, by decide +kernel⟩
theorem bn_Dance_level : BindAt st_Dance_level ["self", "meeting"] := fun _ _ _ _ _ _ _ _ us hl => match us, hl with | [_, _], _ => rfl
end Pr
set_option maxHeartbeats 4000000
/-! Wd: heaps that know the same; data without lists; walks by data; comprehensions and loops by data. -/
namespace Pr
open PySem PySem.Spec PyProof.Rows L2

/-! ### heaps that know the same (a dict locked or not) -/
structure Wk (H H' : Hp) : Prop where
  rd : ∀ a u, (∀ o v, u ≠ HO.frz o v) → Rd H a u → Rd H' a u
  slt : ∀ a C dx vs, SlX.Slt H a C dx vs → SlX.Slt H' a C dx vs
  tp : ∀ a xs, H a = some (.tup xs) → H' a = some (.tup xs)
theorem Wk.refl (H : Hp) : Wk H H := ⟨fun _ _ _ h => h, fun _ _ _ _ h => h, fun _ _ h => h⟩
theorem Wk.trans {H H1 H2 : Hp} (a : Wk H H1) (b : Wk H1 H2) : Wk H H2 := ⟨fun x u n h => b.rd x u n (a.rd x u n h), fun x C d v h => b.slt x C d v (a.slt x C d v h), fun x u h => b.tp x u (a.tp x u h)⟩
theorem wk_of {H H' : Hp} (e : Same H H') : Wk H H' := ⟨fun _ _ _ h => rd_mono e h, fun _ _ _ _ h => slt_mono e h, fun _ _ h => e _ _ h⟩
theorem wk_lock {H : Hp} {d : Addr} {od : Obj} {kvs : List (List Key × V)} (h : H d = some (.dT kvs)) : Wk H (upd H d (.frz od (.dT kvs))) := by
  refine ⟨fun a u n r => ?_, fun a C dx vs r => ?_, fun a xs r => by rw [upd_ne (fun e => by subst e; rw [h] at r; cases r)]; exact r⟩
  · by_cases e : a = d
    · subst e
      rcases r with r | ⟨o, r⟩
      · rw [h] at r; cases r; exact .inr ⟨od, upd_same⟩
      · rw [h] at r; cases r
    · rcases r with r | ⟨o, r⟩
      · exact .inl (by rw [upd_ne e]; exact r)
      · exact .inr ⟨o, by rw [upd_ne e]; exact r⟩
  · rcases r with ⟨r1, r2⟩ | ⟨r1, r2⟩
    · have e : a ≠ d := fun e => by subst e; rw [h] at r1; cases r1
      exact .inl ⟨by rw [upd_ne e]; exact r1, r2⟩
    · have e : a ≠ d := fun e => by subst e; rw [h] at r1; cases r1
      have e2 : dx ≠ d := fun e => by subst e; rw [h] at r2; cases r2
      exact .inr ⟨by rw [upd_ne e]; exact r1, by rw [upd_ne e2]; exact r2⟩
theorem wk_unlock {H : Hp} {d : Addr} {od : Obj} {kvs : List (List Key × V)} (h : H d = some (.frz od (.dT kvs))) : Wk H (upd H d (.dT kvs)) := by
  refine ⟨fun a u n r => ?_, fun a C dx vs r => ?_, fun a xs r => by rw [upd_ne (fun e => by subst e; rw [h] at r; cases r)]; exact r⟩
  · by_cases e : a = d
    · subst e
      rcases r with r | ⟨o, r⟩
      · rw [h] at r; cases r; exact absurd rfl (n _ _)
      · rw [h] at r; cases r; exact .inl upd_same
    · rcases r with r | ⟨o, r⟩
      · exact .inl (by rw [upd_ne e]; exact r)
      · exact .inr ⟨o, by rw [upd_ne e]; exact r⟩
  · rcases r with ⟨r1, r2⟩ | ⟨r1, r2⟩
    · have e : a ≠ d := fun e => by subst e; rw [h] at r1; cases r1
      exact .inl ⟨by rw [upd_ne e]; exact r1, r2⟩
    · have e : a ≠ d := fun e => by subst e; rw [h] at r1; cases r1
      have e2 : dx ≠ d := fun e => by subst e; rw [h] at r2; cases r2
      exact .inr ⟨by rw [upd_ne e]; exact r1, by rw [upd_ne e2]; exact r2⟩
section
variable {K : PySem.W.Frag} {H H' : Hp}
theorem Wk.tup (e : Wk H H') {a : Addr} {xs : List V} (h : Rd H a (.tup xs)) : Rd H' a (.tup xs) := e.rd _ _ (fun _ _ z => by cases z) h
theorem Wk.lst (e : Wk H H') {a : Addr} {xs : List V} (h : Rd H a (.lst xs)) : Rd H' a (.lst xs) := e.rd _ _ (fun _ _ z => by cases z) h
theorem Wk.dT (e : Wk H H') {a : Addr} {xs : List (List Key × V)} (h : Rd H a (.dT xs)) : Rd H' a (.dT xs) := e.rd _ _ (fun _ _ z => by cases z) h
theorem Wk.dK (e : Wk H H') {a : Addr} {xs : List (Key × V)} (h : Rd H a (.dK xs)) : Rd H' a (.dK xs) := e.rd _ _ (fun _ _ z => by cases z) h
theorem Wk.sqL (e : Wk H H') {a : Addr} {xs : List V} (h : SqL K H a xs) : SqL K H' a xs := h.elim (fun s => .inl (e.lst s)) .inr
theorem Wk.sqT (e : Wk H H') {a : Addr} {xs : List V} (h : SqT K H a xs) : SqT K H' a xs := h.elim (fun s => .inl (e.tup s)) .inr
mutual
theorem dp_wk (e : Wk H H') : ∀ {v : V} {d : PyData}, Dp K H v d → Dp K H' v d
  | _, _, .non => .non
  | _, _, .bl b => .bl b
  | _, _, .int i => .int i
  | _, _, .str x => .str x
  | _, _, .lst s h => .lst (e.sqL s) (dpAll_wk e h)
  | _, _, .tup s z h => .tup (e.sqT s) (fun k => e.tp _ _ (z k)) (dpAll_wk e h)
theorem dpAll_wk (e : Wk H H') : ∀ {vs : List V} {ds : List PyData}, DpAll K H vs ds → DpAll K H' vs ds
  | _, _, .nil => .nil
  | _, _, .cons h t => .cons (dp_wk e h) (dpAll_wk e t)
end
theorem kvP_wk {κ : Type} (e : Wk H H') {a : List (κ × V)} {b : List (κ × PyData)} (h : KvP K H a b) : KvP K H' a b := Paired.mapP h fun _ _ z => ⟨z.1, dp_wk e z.2⟩
mutual
theorem Rp.wk (e : Wk H H') : ∀ {v : V} {d : Dt}, Rp K H v d → Rp K H' v d
  | _, _, .p h => .p (dp_wk e h)
  | _, _, .ob s h => .ob (e.slt _ _ _ _ s) (RpAll.wk e h)
  | _, _, .dT s h => .dT (e.dT s) (kvP_wk e h)
  | _, _, .dK s h => .dK (e.dK s) (kvP_wk e h)
  | _, _, .r a => .r a
  | _, _, .li s h => .li (e.sqL s) (RpAll.wk e h)
  | _, _, .tu s h => .tu (e.sqT s) (RpAll.wk e h)
theorem RpAll.wk (e : Wk H H') : ∀ {vs : List V} {ds : List Dt}, RpAll K H vs ds → RpAll K H' vs ds
  | _, _, .nil => .nil
  | _, _, .cons h t => .cons (Rp.wk e h) (RpAll.wk e t)
end
theorem EnvD.wk {σ : L2.St} {δ : De} (E : EnvD K σ H δ) (e : Wk H H') : EnvD K σ H' δ := ⟨E.len, fun i d h => let ⟨v, a, b⟩ := E.at_ i d h; ⟨v, a, b.wk e⟩⟩
/-! ### data without lists stand through every change but of tuples -/
mutual
def noL : PyData → Bool
  | .none | .bool _ | .int _ | .str _ => true
  | .tuple xs => noLs xs
  | .list _ => false
  | .dict _ => false
def noLs : List PyData → Bool
  | [] => true
  | x :: xs => noL x && noLs xs
end
def TL (H H' : Hp) : Prop := ∀ a xs, (Rd H a (.tup xs) → Rd H' a (.tup xs)) ∧ (H a = some (.tup xs) → H' a = some (.tup xs))
theorem TL.refl (H : Hp) : TL H H := fun _ _ => ⟨fun h => h, fun h => h⟩
theorem TL.trans {H H1 H2 : Hp} (a : TL H H1) (b : TL H1 H2) : TL H H2 := fun x u => ⟨fun h => (b x u).1 ((a x u).1 h), fun h => (b x u).2 ((a x u).2 h)⟩
theorem tl_of (e : Same H H') : TL H H' := fun _ _ => ⟨fun h => rd_mono e h, fun h => e _ _ h⟩
mutual
theorem dp_tl (e : TL H H') : ∀ {v : V} {d : PyData}, noL d = true → Dp K H v d → Dp K H' v d
  | _, _, _, .non => .non
  | _, _, _, .bl b => .bl b
  | _, _, _, .int i => .int i
  | _, _, _, .str x => .str x
  | _, _, n, .lst s h => by simp [noL] at n
  | _, _, n, .tup s z h => .tup (s.elim (fun s => .inl ((e _ _).1 s)) .inr) (fun k => (e _ _).2 (z k)) (dpAll_tl e (by simpa [noL] using n) h)
theorem dpAll_tl (e : TL H H') : ∀ {vs : List V} {ds : List PyData}, noLs ds = true → DpAll K H vs ds → DpAll K H' vs ds
  | _, _, _, .nil => .nil
  | _, _, n, .cons h t => by
    simp only [noLs, Bool.and_eq_true] at n
    exact .cons (dp_tl e n.1 h) (dpAll_tl e n.2 t)
end
theorem tl_upd {D : Addr} {o o' : HO} (h : H D = some o) (n1 : ∀ xs, o ≠ .tup xs) (n2 : ∀ ob xs, o ≠ .frz ob (.tup xs)) : TL H (upd H D o') := fun a us => by
  refine ⟨fun r => ?_, fun r => ?_⟩
  · have e : a ≠ D := fun e => by
      subst e
      rcases r with r | ⟨ob, r⟩ <;> rw [h] at r <;> cases r
      · exact n1 _ rfl
      · exact n2 _ _ rfl
    rcases r with r | ⟨ob, r⟩
    · exact .inl (by rw [upd_ne e]; exact r)
    · exact .inr ⟨ob, by rw [upd_ne e]; exact r⟩
  · have e : a ≠ D := fun e => by
      subst e
      rw [h] at r; cases r; exact n1 _ rfl
    rw [upd_ne e]; exact r
theorem tl_lst {D : Addr} {xs ys : List V} (h : H D = some (.lst xs)) : TL H (upd H D (.lst ys)) := tl_upd h (fun _ z => nomatch z) (fun _ _ z => nomatch z)
theorem noLs_append : ∀ {as bs : List PyData}, noLs as = true → noLs bs = true → noLs (as ++ bs) = true
  | [], _, _, h => h
  | a :: as, bs, h, g => by
    simp only [noLs, Bool.and_eq_true, List.cons_append] at h ⊢
    exact ⟨h.1, noLs_append h.2 g⟩
theorem noLs_mem : ∀ {as : List PyData}, (∀ a ∈ as, noL a = true) → noLs as = true
  | [], _ => rfl
  | a :: as, h => by
    simp only [noLs, Bool.and_eq_true]
    exact ⟨h a (.head _), noLs_mem fun b hb => h b (.tail _ hb)⟩
theorem noLs_of : ∀ {as : List PyData}, noLs as = true → ∀ a ∈ as, noL a = true
  | a :: as, h, b, hb => by
    simp only [noLs, Bool.and_eq_true] at h
    cases hb with
    | head => exact h.1
    | tail _ hb => exact noLs_of h.2 b hb
theorem same_mut {H0 H : Hp} {p : Addr} {o : HO} (e : Same H0 H) (h : H0 p = none) : Same H0 (upd H p o) := Evl.Ex.mut e h
end

/-! ### walks by data -/
def DW (K : PySem.W.Frag) (J : It) (ds : List PyData) (H1 : Hp) : Prop := Walk J ds.length (fun H => Same H1 H) (fun i H x H' => Same H H' ∧ ∀ d, ds[i]? = some d → Dp K H' x d)
def iD (K : PySem.W.Frag) (δ : De) (ds : List PyData) : TI := fun σ H R => EnvD K σ H δ ∧ ∀ J H1, Same H H1 → DW K J ds H1 → R J H1
theorem PI_imp {X : Cx} {tg e : Expr} {t t' : TI} (h : PI X tg e t) (i : ∀ σ H R, t' σ H R → t σ H R) : PI X tg e t' := ⟨fun pins s σ H R I q => h.run pins s σ H R I (i σ H R q)⟩
theorem dw_list {K : PySem.W.Frag} {H : Hp} {a : Addr} {xs : List V} {ds : List PyData} (s : SqL K H a xs) (r : DpAll K H xs ds) : DW K (Itl K a) ds H := by
  have w := walk_list (K := K) (a := a) (xs := xs)
  rw [dpAll_length r] at w
  exact w.mono (fun H' e => sqL_mono e s) fun i H1 x H2 _ e ⟨e1, e2⟩ => by
    subst e1
    refine ⟨Same.refl _, fun d hd => ?_⟩
    obtain ⟨d', h1, h2⟩ := dpAll_get2 r e2
    rw [hd] at h1; cases h1
    exact dp_mono e h2
theorem dw_tup {K : PySem.W.Frag} {H : Hp} {a : Addr} {xs : List V} {ds : List PyData} (s : SqT K H a xs) (r : DpAll K H xs ds) : DW K (Itt K a) ds H := by
  have w := walk_tup (K := K) (a := a) (xs := xs)
  rw [dpAll_length r] at w
  exact w.mono (fun H' e => sqT_mono e s) fun i H1 x H2 _ e ⟨e1, e2⟩ => by
    subst e1
    refine ⟨Same.refl _, fun d hd => ?_⟩
    obtain ⟨d', h1, h2⟩ := dpAll_get2 r e2
    rw [hd] at h1; cases h1
    exact dp_mono e h2
def rngD (n : Nat) : List PyData := (List.range n).map fun k => .int (k : Nat)
theorem rngD_len {n : Nat} : (rngD n).length = n := by simp [rngD]
theorem dw_range {K : PySem.W.Frag} {H : Hp} {n : Nat} : DW K (Itr 0 n) (rngD n) H := by
  have w := walk_range (lo := 0) (n := n)
  unfold DW
  rw [rngD_len]
  exact w.mono (fun _ _ => trivial) fun i H1 x H2 hi e ⟨e1, e2⟩ => by
    subst e1 e2
    refine ⟨Same.refl _, fun d hd => ?_⟩
    have h1 : d = .int i := by simpa [rngD, List.getElem?_range hi] using hd.symm
    subst h1
    show Dp K H2 (.int (0 + (i : Nat))) _
    rw [Int.zero_add]; exact .int _
def signsD (z : Str) : List PyData := z.cps.toList.map fun c => .str ⟨#[c]⟩
theorem dw_str {K : PySem.W.Frag} {H : Hp} {z : Str} : DW K (Its z) (signsD z) H := by
  have w := walk_str (z := z)
  have e : (signsD z).length = z.cps.size := by simp [signsD]
  unfold DW
  rw [e]
  exact w.mono (fun _ _ => trivial) fun i H1 x H2 hi e ⟨e1, c, e2, e3⟩ => by
    subst e1 e3
    refine ⟨Same.refl _, fun d hd => ?_⟩
    have h1 : d = .str ⟨#[c]⟩ := by simpa [signsD, e2] using hd.symm
    subst h1
    exact .str _
def enD : Nat → List PyData → List PyData
  | _, [] => []
  | n, d :: ds => .tuple [.int n, d] :: enD (n + 1) ds
theorem enD_len : ∀ {n : Nat} {ds : List PyData}, (enD n ds).length = ds.length
  | _, [] => rfl
  | n, d :: ds => congrArg (· + 1) (enD_len (n := n + 1) (ds := ds))
theorem enD_get : ∀ {n i : Nat} {ds : List PyData} {d : PyData}, (enD n ds)[i]? = some d → ∃ p, ds[i]? = some p ∧ d = .tuple [.int (n + i : Nat), p]
  | _, _, [], _, h => by simp [enD] at h
  | n, 0, p :: ds, d, h => ⟨p, rfl, by simpa [enD] using h.symm⟩
  | n, i + 1, p :: ds, d, h => by
    obtain ⟨q, h1, h2⟩ := enD_get (n := n + 1) (i := i) (ds := ds) (d := d) (by simpa [enD] using h)
    exact ⟨q, by simpa using h1, by rw [h2]; congr 3; push_cast; omega⟩
theorem dw_enum {K : PySem.W.Frag} {H : Hp} {a : Addr} {xs : List V} {ds : List PyData} (s : SqL K H a xs) (r : DpAll K H xs ds) : DW K (Ite K a) (enD 0 ds) H := by
  have w := walk_enum (K := K) (a := a) (xs := xs)
  unfold DW
  rw [enD_len, ← dpAll_length r]
  exact w.mono (fun H' e => sqL_mono e s) fun i H1 x H2 _ e ⟨T, y, z, e1, e2, e3, e4, e5⟩ => by
    subst e1 e3
    refine ⟨same_new e2, fun d hd => ?_⟩
    obtain ⟨p, h1, h2⟩ := enD_get hd
    obtain ⟨d', h3, h4⟩ := dpAll_get2 r e5
    rw [h1] at h3; cases h3
    cases e4
    subst h2
    rw [Nat.zero_add]
    exact .tup (SqT.of upd_same) (fun _ => upd_same) (.cons (.int _) (.cons (dp_mono (same_new e2) (dp_mono e h4)) .nil))
theorem dw_keysT {K : PySem.W.Frag} {H : Hp} {d : Addr} {o : Obj} {kvs : List (List Key × V)} {ks : List PyData} (h : H d = some (.frz o (.dT kvs))) (hk : ks = kvs.map fun kv => tkD kv.1) : DW K (Itkt d o kvs) ks H := by
  have w := walk_keysT (d := d) (o := o) (kvs := kvs)
  unfold DW
  rw [hk, List.length_map]
  exact w.mono (fun H' e => e d _ h) fun i H1 x H2 _ e ⟨e1, k, v, q, e2, e3, e4⟩ => by
    subst e1 e3
    refine ⟨Same.refl _, fun p hp => ?_⟩
    have h1 : p = tkD k := by simpa [e2] using hp.symm
    subst h1
    refine .tup (SqT.of e4) (fun _ => e4) ?_
    clear e4 e2 hp
    induction k with
    | nil => exact .nil
    | cons k ks ih =>
      refine .cons ?_ ih
      cases k with
      | inl i => exact .int _
      | inr x => exact .str _
section
variable {X : Cx} {δ δ1 δw : De} {O : Oc} {a b c e tg iter elt : Expr} {es ifs : List Expr} {st : Stmt} {body els rest : List Stmt} {k : Bool} {d d1 d2 : Dt} {ds : List Dt} {ps qs : List PyData} {is : List Nat} {pos : Pos}
theorem n_eqv (h : PE X e (tN X.K δ ps)) (q : ps = qs) : PE X e (tN X.K δ qs) := q ▸ h
theorem i_eqv (h : PI X tg e (iD X.K δ ps)) (q : ps = qs) : PI X tg e (iD X.K δ qs) := q ▸ h
theorem i_list (h : PE X e (tD X.K δ (.l ps))) : PI X tg e (iD X.K δ ps) := PI_imp (pi_list h) fun σ H R ⟨E, q⟩ => ⟨E, fun v H' s r => by
  obtain ⟨a, xs, rfl, sl, rr⟩ := dp_lst r.toDp
  exact ⟨a, rfl, ⟨xs, sl⟩, q _ H' s (dw_list sl rr)⟩⟩
theorem i_tup (h : PE X e (tD X.K δ (.t ps))) : PI X tg e (iD X.K δ ps) := PI_imp (pi_tup h) fun σ H R ⟨E, q⟩ => ⟨E, fun v H' s r => by
  obtain ⟨a, xs, rfl, sl, rr⟩ := dp_tup r.toDp
  exact ⟨a, rfl, ⟨xs, sl⟩, q _ H' s (dw_tup sl rr)⟩⟩
theorem i_range {n : Int} {p : Pos} (h0 : n < 2 ^ 62) (h1 : -(2 ^ 62) ≤ n) (hg : Gl X "range") (hm : X.mg "range" = none) (ha : PE X e (tD X.K δ (.i n))) (hs : starEach [e] X.env = [(false, eval e X.env)] := by rfl) : PI X tg (.Call (.Name "range" p) [e] [] pos) (iD X.K δ (rngD n.toNat)) :=
  PI_imp (pi_range1 hg hm (a_cons ha a_nil hs) hs) fun σ H R ⟨E, q⟩ => ⟨E, fun vs H' s r => by
    obtain ⟨v, rfl, rv⟩ := rpAll_1 r
    exact ⟨n, by rw [rv.i_inv], h1, h0, q _ H' s dw_range⟩⟩
theorem i_str {z : Str} (h : PE X e (tD X.K δ (.s z))) : PI X tg e (iD X.K δ (signsD z)) := PI_imp (pi_str h) fun σ H R ⟨E, q⟩ => ⟨E, fun v H' s r => ⟨z, r.s_inv, q _ H' s dw_str⟩⟩
theorem i_enum {p tpos : Pos} {elts : List Expr} {kk : Nat} (hg : Gl X "enumerate") (hm : X.mg "enumerate" = none) (ha : PE X e (tD X.K δ (.l ps))) (hs : starEach [e] X.env = [(false, eval e X.env)] := by rfl) : PI X (.Tuple elts kk tpos) (.Call (.Name "enumerate" p) [e] [] pos) (iD X.K δ (enD 0 ps)) :=
  PI_imp (pi_enum hg hm (a_cons ha a_nil hs) hs) fun σ H R ⟨E, q⟩ => ⟨E, fun vs H' s r => by
    obtain ⟨v, rfl, rv⟩ := rpAll_1 r
    obtain ⟨a, xs, rfl, sl, rr⟩ := dp_lst rv.toDp
    exact ⟨a, xs, rfl, sl, q _ H' s (dw_enum sl rr)⟩⟩

/-! ### readings for each of some items -/
def gX {α : Type} (K : PySem.W.Frag) (l : List α) (ι : α → PyData) (δw : De) (is : List Nat) (δ' : α → De) : TG := fun v σ H Q => ∃ p ∈ l, gD K δw (.p (ι p)) is (δ' p) v σ H Q
def cX {α : Type} (K : PySem.W.Frag) (l : List α) (δ' : α → De) (k : α → Bool) : TT := fun σ H Q => ∃ p ∈ l, cD K (δ' p) (k p) σ H Q
def tX {α : Type} (K : PySem.W.Frag) (l : List α) (δ' : α → De) (f : α → PyData) : TE := fun σ H Q => ∃ p ∈ l, tD K (δ' p) (.p (f p)) σ H Q
def sX {α : Type} (K : PySem.W.Frag) (l : List α) (δ' : α → De) (δw : De) : TS := fun D σ H => ∃ p ∈ l, sN K (δ' p) δw D σ H
section
variable {α : Type} {l : List α} {ι : α → PyData} {δ' : α → De}
theorem gX_of (h : ∀ p ∈ l, PG X tg (gD X.K δw (.p (ι p)) is (δ' p))) : PG X tg (gX X.K l ι δw is δ') := ⟨fun pins s σ H v u Q I r ⟨p, hp, q⟩ => (h p hp).run pins s σ H v u Q I r q⟩
theorem cX_of {k : α → Bool} (h : ∀ p ∈ l, PTs X ifs (cD X.K (δ' p) (k p))) : PTs X ifs (cX X.K l δ' k) := ⟨fun pins s σ H Q I ⟨p, hp, q⟩ => (h p hp).run pins s σ H Q I q⟩
theorem tX_of {f : α → PyData} (h : ∀ p ∈ l, PE X e (tD X.K (δ' p) (.p (f p)))) : PE X e (tX X.K l δ' f) := ⟨fun pins s σ H Q I ⟨p, hp, q⟩ => (h p hp).run pins s σ H Q I q⟩
theorem sX_of (h : ∀ p ∈ l, PSs X body (sN X.K (δ' p) δw)) : PSs X body (sX X.K l δ' δw) := ⟨fun pins s σ H D I ⟨p, hp, q⟩ => (h p hp).run pins s σ H D I q⟩
end
theorem c_nil : PTs X [] (cD X.K δ true) := ⟨fun pins s σ H Q I q => pts_nil.run pins s σ H Q I (q.2 H (Same.refl H))⟩
theorem c_one (h : PT X c (cD X.K δ k)) : PTs X [c] (cD X.K δ k) := pts_one h

/-! ### slots forgotten -/
def wipeD (δ : De) : List Nat → De
  | [] => δ
  | v :: vs => (wipeD δ vs).set v none
theorem EnvD.wipe {K : PySem.W.Frag} {σ : L2.St} {H : Hp} (E : EnvD K σ H δ) : ∀ vs : List Nat, EnvD K (wipe σ vs) H (wipeD δ vs)
  | [] => E
  | v :: vs => (E.wipe vs).none Option.none v
theorem wipe_get {σ : L2.St} {j : Nat} : ∀ {vs : List Nat}, (wipe σ vs)[j]? = if j ∈ vs ∧ j < σ.length then some none else σ[j]?
  | [] => by simp [wipe]
  | v :: vs => by
    unfold wipe
    rw [List.getElem?_set, wipe_length, wipe_get]
    by_cases h1 : v = j
    · subst h1
      by_cases h2 : v < σ.length
      · simp [h2]
      · simp [h2, List.getElem?_eq_none (Nat.le_of_not_lt h2)]
    · have h1' : j ≠ v := fun e => h1 e.symm
      simp [h1, h1']
theorem wipe_agr {σ σ2 : L2.St} {vs is : List Nat} (hi : ∀ i ∈ is, i ∈ vs) (h : Agr is (wipe σ vs) σ2) : wipe σ2 vs = wipe σ vs := by
  have hl : σ2.length = σ.length := h.1.trans (wipe_length σ vs)
  apply List.ext_getElem?
  intro j
  rw [wipe_get, wipe_get, hl]
  by_cases hj : j ∈ vs ∧ j < σ.length
  · rw [if_pos hj, if_pos hj]
  · rw [if_neg hj, if_neg hj]
    by_cases hv : j ∈ vs
    · have : σ.length ≤ j := by by_cases q : j < σ.length; exact absurd ⟨hv, q⟩ hj; omega
      rw [List.getElem?_eq_none (by omega), List.getElem?_eq_none (by omega)]
    · rw [h.2 j fun z => hv (hi j z), wipe_get, if_neg hj]

/-! ### comprehensions -/
theorem take_filter_map {α β : Type} {ps : List α} {k : α → Bool} {f : α → β} {i : Nat} {p : α} (h : ps[i]? = some p) : ((ps.take (i + 1)).filter k).map f = ((ps.take i).filter k).map f ++ if k p then [f p] else [] := by
  rw [List.take_succ, h]
  simp only [Option.toList, List.filter_append, List.map_append]
  congr 1
  cases q : k p <;> simp [q]
theorem lcD {α : Type} {l : List α} {ι : α → PyData} {K : PySem.W.Frag} {J : It} {H1 : Hp} {D : Addr} {σ : L2.St} {vs : List Nat} {δ' : α → De} {k : α → Bool} {f : α → PyData} {Qd : Hp → Prop}
    (w : DW K J (l.map ι) H1) (E : EnvD K (wipe σ vs) H1 δw) (hD : H1 D = none) (hn : l.length ≤ 1000) (hi : ∀ i ∈ is, i ∈ vs) (hf : ∀ p ∈ l, k p = true → noL (f p) = true)
    (q : ∀ ws H', Same H1 H' → H' D = some (.lst ws) → DpAll K H' ws ((l.filter k).map f) → Qd H') :
    ∃ W : Nat → Nat → Hp → Prop, (∃ m, W 0 m (upd H1 D (.lst []))) ∧ ∀ i m H, W i m H →
      (J.stop i H ∧ Qd H) ∨ (J.go i H ∧ ∃ Nx : Hp → Prop, (∀ H', Nx H' → ∃ m', m' < m ∧ W (i + 1) m' H') ∧ ∀ x H', J.yld i H x H' → gX K l ι δw is δ' x (wipe σ vs) H' fun σ2 H2 => wipe σ2 vs = wipe σ vs ∧ cX K l δ' k σ2 H2 fun b H3 =>
        if b = true then tX K (l.filter k) δ' f σ2 H3 fun y H4 => ∃ acc, H4 D = some (.lst acc) ∧ acc.length < sizeLine ∧ Nx (upd H4 D (.lst (acc ++ [y]))) else Nx H3) := by
  refine lc_it w (fun i H => Same H1 H ∧ ∃ acc, H D = some (.lst acc) ∧ acc.length ≤ i ∧ DpAll K H acc (((l.take i).filter k).map f)) ⟨same_new hD, [], upd_same, Nat.le_refl _, by rw [List.take_zero]; exact .nil⟩ (fun i H _ h => h.1)
    (fun i x H H' hlt ⟨s, acc, hacc, hlen, r⟩ ⟨s2, hx⟩ => ?_) fun H ⟨s, acc, hacc, _, r⟩ => q acc H s hacc (by rw [List.length_map, List.take_length] at r; exact r)
  rw [List.length_map] at hlt
  have hp : l[i]? = some l[i] := List.getElem?_eq_getElem hlt
  have hm : l[i] ∈ l := List.getElem_mem hlt
  generalize l[i] = p at hp hm
  refine ⟨p, hm, E.mono (s.trans s2), .p (hx (ι p) (by rw [List.getElem?_map, hp]; rfl)), fun σ2 E2 ag => ⟨wipe_agr hi ag, p, hm, E2, fun H3 s3 => ?_⟩⟩
  have s13 : Same H1 H3 := (s.trans s2).trans s3
  have h3 : H3 D = some (.lst acc) := s3 _ _ (s2 _ _ hacc)
  by_cases hk : k p = true
  · dsimp only
    rw [if_pos hk]
    refine ⟨p, List.mem_filter.mpr ⟨hm, hk⟩, E2.mono s3, fun y H4 s4 r4 => ⟨acc, s4 _ _ h3, Evl.sz_lt (by omega), same_mut (s13.trans s4) hD, acc ++ [y], upd_same, by simp; omega, ?_⟩⟩
    rw [take_filter_map hp, if_pos hk]
    have t := tl_lst (ys := acc ++ [y]) (s4 _ _ h3)
    have nl : noLs (((l.take i).filter k).map f) = true := noLs_mem fun a ha => by
      obtain ⟨z, hz, rfl⟩ := List.mem_map.mp ha
      obtain ⟨hz1, hz2⟩ := List.mem_filter.mp hz
      exact hf z (List.mem_of_mem_take hz1) hz2
    exact dpAll_append (dpAll_tl t nl (dpAll_mono ((s2.trans s3).trans s4) r)) (.cons (dp_tl t (hf p hm hk) r4.toDp) .nil)
  · dsimp only
    rw [if_neg hk]
    refine ⟨s13, acc, h3, by omega, ?_⟩
    rw [take_filter_map hp, if_neg hk, List.append_nil]
    exact dpAll_mono (s2.trans s3) r
/-- the block of a comprehension -/
abbrev Blk (X : Cx) (scope : Scope) (T : Cx → Prop) : Prop := ∀ (s : Shared) (H : Hp) (C : Addr) (cl : List (Str × Addr)) (fp : List Addr), T (X.blk s H scope (compEnvC scope cl C X.env) fp)
variable {α : Type} {l : List α} {ι : α → PyData} {scope : Scope} {own : List (Str × Nat)} {δ' : α → De} {k : α → Bool} {f : α → PyData} {y : Str} {py spos : Pos}
theorem lcD_N (hn : l.length ≤ 1000) (hδ : δw = wipeD δ (own.map (·.2))) (hi : ∀ i ∈ is, i ∈ own.map (·.2)) (hf : ∀ p ∈ l, k p = true → noL (f p) = true) : ∀ σ H Q, tN X.K δ ((l.filter k).map f) σ H Q →
    tLc (iD X.K δ (l.map ι)) (gX X.K l ι δw is δ') (cX X.K l δ' k) (tX X.K (l.filter k) δ' f) (own.map (·.2)) σ H Q := fun σ H Q ⟨E, q⟩ => ⟨E, fun J H1 s1 w D hD =>
  lcD w (by rw [hδ]; exact (E.mono s1).wipe _) hD hn hi hf fun ws H' s h r => q D ws H' (s1.free hD) (s1.trans s) h r⟩
/-- [elt for tg in iter if ..] -/
theorem d_lc (hc : X.calm = true) (hN : X.N.Nodup) (hi : PI X tg iter (iD X.K δ (l.map ι))) (ok : BlkOk X.N X.env.scope scope own) (hδ : δw = wipeD δ (own.map (·.2))) (hn : l.length ≤ 1000) (hio : ∀ i ∈ is, i ∈ own.map (·.2)) (hf : ∀ p ∈ l, k p = true → noL (f p) = true)
    (hg : ∀ p ∈ l, Blk X scope fun X' => PG X' tg (gD X'.K δw (.p (ι p)) is (δ' p))) (ht : ∀ p ∈ l, Blk X scope fun X' => PTs X' ifs (cD X'.K (δ' p) (k p))) (he : ∀ p ∈ l, k p = true → Blk X scope fun X' => PE X' elt (tD X'.K (δ' p) (.p (f p))))
    (hs : ∀ x, foldedSetIterable iter X.env x = pure x := by intro _; rfl) : PE X (.ListComp elt [⟨tg, iter, ifs, 0⟩] scope pos) (tN X.K δ ((l.filter k).map f)) :=
  PE_imp (pe_lc hc hN hi ok (fun s H C cl fp => gX_of fun p hp => hg p hp s H C cl fp) (fun s H C cl fp => cX_of fun p hp => ht p hp s H C cl fp) (fun s H C cl fp => tX_of (l := l.filter k) fun p hp => he p (List.mem_filter.mp hp).1 (List.mem_filter.mp hp).2 s H C cl fp) hs) (lcD_N hn hδ hio hf)
theorem d_lc0 (hc : X.calm = true) (hN : X.N.Nodup) (hi : PI X tg iter (iD X.K δ (l.map ι))) (ok : BlkOk X.N X.env.scope scope own) (hδ : δw = wipeD δ (own.map (·.2))) (hn : l.length ≤ 1000) (hio : ∀ i ∈ is, i ∈ own.map (·.2)) (hf : ∀ p ∈ l, noL (f p) = true)
    (hg : ∀ p ∈ l, Blk X scope fun X' => PG X' tg (gD X'.K δw (.p (ι p)) is (δ' p))) (he : ∀ p ∈ l, Blk X scope fun X' => PE X' elt (tD X'.K (δ' p) (.p (f p))))
    (hs : ∀ x, foldedSetIterable iter X.env x = pure x := by intro _; rfl) : PE X (.ListComp elt [⟨tg, iter, [], 0⟩] scope pos) (tN X.K δ (l.map f)) := by
  have h := d_lc (k := fun _ => true) (pos := pos) hc hN hi ok hδ hn hio (fun p hp _ => hf p hp) hg (fun p hp s H C cl fp => c_nil) (fun p hp _ => he p hp) hs
  rwa [List.filter_eq_self.mpr (by simp)] at h
/-- y = [..] -/
theorem n_setLc {i : Nat} (hc : X.calm = true) (hN : X.N.Nodup) (hy : X.N[i]? = some y) (hyl : X.env.scope.names.lookup y = some .local)
    (hsw : swapsWith (.ListComp elt [⟨tg, iter, ifs, 0⟩] scope pos) (some (.Name y py)) spos.line X.env = pure true) (hi : PI X tg iter (iD X.K δ (l.map ι))) (ok : BlkOk X.N X.env.scope scope own) (hδ : δw = wipeD δ (own.map (·.2))) (hn : l.length ≤ 1000) (hio : ∀ i ∈ is, i ∈ own.map (·.2)) (hf : ∀ p ∈ l, k p = true → noL (f p) = true)
    (hg : ∀ p ∈ l, Blk X scope fun X' => PG X' tg (gD X'.K δw (.p (ι p)) is (δ' p))) (ht : ∀ p ∈ l, Blk X scope fun X' => PTs X' ifs (cD X'.K (δ' p) (k p))) (he : ∀ p ∈ l, k p = true → Blk X scope fun X' => PE X' elt (tD X'.K (δ' p) (.p (f p))))
    (hs : ∀ x, foldedSetIterable iter X.env x = pure x := by intro _; rfl) : PS X (.Assign [.Name y py] (.ListComp elt [⟨tg, iter, ifs, 0⟩] scope pos) spos) (sN X.K δ (δ.set i (some (.l ((l.filter k).map f))))) :=
  PS_imp (ps_setLc hc hN hy hyl hsw hi ok (fun s H C cl fp => gX_of fun p hp => hg p hp s H C cl fp) (fun s H C cl fp => cX_of fun p hp => ht p hp s H C cl fp) (fun s H C cl fp => tX_of (l := l.filter k) fun p hp => he p (List.mem_filter.mp hp).1 (List.mem_filter.mp hp).2 s H C cl fp) hs)
    fun D σ H ⟨E, q⟩ => lcD_N hn hδ hio hf σ H _ ⟨E, fun p vs H' hp s h r => q _ H' s ((E.mono s).set i (.p (.lst (SqL.of h) r)))⟩
/-! two clauses, no tests: the first over a range, the second's source known ahead of the new list -/
def iB (K : PySem.W.Frag) (δ : De) (ds : List PyData) : TI := fun σ H R => ∃ B, Same B H ∧ EnvD K σ B δ ∧ ∀ J H1, Same H H1 → DW K J ds B → R J H1
theorem b_range {n : Int} {p : Pos} (h0 : n < 2 ^ 62) (h1 : -(2 ^ 62) ≤ n) (hg : Gl X "range") (hm : X.mg "range" = none) (ha : PE X e (tD X.K δ (.i n))) (hs : starEach [e] X.env = [(false, eval e X.env)] := by rfl) : PI X tg (.Call (.Name "range" p) [e] [] pos) (iB X.K δ (rngD n.toNat)) :=
  PI_imp (pi_range1 hg hm (a_cons ha a_nil hs) hs) fun σ H R ⟨B, s0, E, q⟩ => ⟨E.mono s0, fun vs H' s r => by
    obtain ⟨v, rfl, rv⟩ := rpAll_1 r
    exact ⟨n, by rw [rv.i_inv], h1, h0, q _ H' s dw_range⟩⟩
theorem b_var (i : Nat) {x : Str} (hd : δ[i]? = some (some (.l ps))) (hN : X.N[i]? = some x := by rfl) (hv : Vis X.env.scope x := by first | exact Or.inl rfl | exact Or.inr (Or.inl rfl) | exact Or.inr (Or.inr rfl))
    (h1 : (x == ("__debug__" : Str)) = false := by decide) (h2 : (x == ("__classdict__" : Str)) = false := by decide) : PI X tg (.Name x pos) (iB X.K δ ps) :=
  PI_imp (pi_list (pe_var hN hv h1 h2)) fun σ H R ⟨B, s0, E, q⟩ => by
    obtain ⟨v, a, r⟩ := E.at_ i _ hd
    obtain ⟨ad, xs, rfl, sl, rr⟩ := dp_lst r.toDp
    exact ⟨_, a, ad, rfl, ⟨xs, sqL_mono s0 sl⟩, q _ H (Same.refl H) (dw_list sl rr)⟩
def flat2 {β : Type} (n : Nat) (es : List β) (f : Nat → β → PyData) : List PyData := (List.range n).flatMap fun r => es.map (f r)
theorem flat2_succ {β : Type} {n : Nat} {es : List β} {f : Nat → β → PyData} : flat2 (n + 1) es f = flat2 n es f ++ es.map (f n) := by
  unfold flat2
  rw [List.range_succ, List.flatMap_append, List.flatMap_cons, List.flatMap_nil, List.append_nil]
def iX (K : PySem.W.Frag) (n : Nat) (δ1 : Nat → De) (es : List PyData) : TI := fun σ H R => ∃ r, r < n ∧ iB K (δ1 r) es σ H R
theorem iX_of {n : Nat} {es : List PyData} {δ1 : Nat → De} (h : ∀ r, r < n → PI X tg iter (iB X.K (δ1 r) es)) : PI X tg iter (iX X.K n δ1 es) := ⟨fun pins s σ H R I ⟨p, hp, q⟩ => (h p hp).run pins s σ H R I q⟩
def gXX {β : Type} (K : PySem.W.Frag) (n : Nat) (es : List β) (ι : β → PyData) (δw : Nat → De) (is : List Nat) (δ' : Nat → β → De) : TG := fun v σ H Q => ∃ r, r < n ∧ ∃ e ∈ es, gD K (δw r) (.p (ι e)) is (δ' r e) v σ H Q
def tXX {β : Type} (K : PySem.W.Frag) (n : Nat) (es : List β) (δ' : Nat → β → De) (f : Nat → β → PyData) : TE := fun σ H Q => ∃ r, r < n ∧ ∃ e ∈ es, tD K (δ' r e) (.p (f r e)) σ H Q
theorem gXX_of {β : Type} {ι : β → PyData} {n : Nat} {es : List β} {δw : Nat → De} {δ' : Nat → β → De} (h : ∀ r, r < n → ∀ e ∈ es, PG X tg (gD X.K (δw r) (.p (ι e)) is (δ' r e))) : PG X tg (gXX X.K n es ι δw is δ') := ⟨fun pins s σ H v u Q I r ⟨p, hp, e, he, q⟩ => (h p hp e he).run pins s σ H v u Q I r q⟩
theorem tXX_of {β : Type} {n : Nat} {es : List β} {δ' : Nat → β → De} {f : Nat → β → PyData} (h : ∀ r, r < n → ∀ e ∈ es, PE X elt (tD X.K (δ' r e) (.p (f r e)))) : PE X elt (tXX X.K n es δ' f) := ⟨fun pins s σ H Q I ⟨p, hp, e, he, q⟩ => (h p hp e he).run pins s σ H Q I q⟩
variable {β : Type} {ι2 : β → PyData} {n i0 : Nat} {es2 : List β} {f2 : Nat → β → PyData} {δ1' δw1 : Nat → De} {δ2 : Nat → β → De} {is1 vs1 : List Nat} {tg1 iter1 : Expr}
theorem lc2D_N (hn : n ≤ 100) (hn1 : es2.length ≤ 100) (hδ : δw = wipeD δ (own.map (·.2))) (hδ1 : ∀ r, δ1' r = δw.set i0 (some (.i (r : Nat)))) (hδ2 : ∀ r, δw1 r = wipeD (δ1' r) vs1) (hi : i0 ∈ own.map (·.2)) (hi1 : ∀ i ∈ is1, i ∈ vs1) (hf : ∀ r, r < n → ∀ e ∈ es2, noL (f2 r e) = true) : ∀ σ H Q, tN X.K δ (flat2 n es2 f2) σ H Q →
    tLc2 (iD X.K δ (rngD n)) (gName i0) tYes (iX X.K n δ1' (es2.map ι2)) (gXX X.K n es2 ι2 δw1 is1 δ2) tYes (tXX X.K n es2 δ2 f2) (own.map (·.2)) vs1 σ H Q := fun σ H Q ⟨E, q⟩ => ⟨E, fun J H1 s1 w D hD => by
  have Ew : EnvD X.K (wipe σ (own.map (·.2))) H1 δw := by rw [hδ]; exact (E.mono s1).wipe _
  have nl : ∀ m, m ≤ n → noLs (flat2 m es2 f2) = true := fun m hm => noLs_mem fun a ha => by
    obtain ⟨p, hp, ha⟩ := List.mem_flatMap.mp ha
    obtain ⟨e, he, rfl⟩ := List.mem_map.mp ha
    have := List.mem_range.mp hp
    exact hf p (by omega) e he
  have ew : (rngD n).length = n := rngD_len
  refine ⟨fun i m H => m = n - i ∧ i ≤ n ∧ Same H1 H ∧ ∃ acc, H D = some (.lst acc) ∧ acc.length ≤ i * 100 ∧ DpAll X.K H acc (flat2 i es2 f2), ⟨_, rfl, Nat.zero_le _, same_new hD, [], upd_same, Nat.zero_le _, .nil⟩, ?_⟩
  rintro i m H ⟨rfl, hle, s, acc, hacc, hlen, r⟩
  by_cases hlt : i < n
  · refine .inr ⟨w.goes i H (by omega) s, fun H' => i + 1 ≤ n ∧ Same H1 H' ∧ ∃ acc, H' D = some (.lst acc) ∧ acc.length ≤ (i + 1) * 100 ∧ DpAll X.K H' acc (flat2 (i + 1) es2 f2), fun H' h => ⟨n - (i + 1), by omega, rfl, h⟩, fun x H' y => ?_⟩
    obtain ⟨s2, hx⟩ := w.yields i H x H' (by omega) s y
    have hx2 := dp_int (hx (.int (i : Nat)) (by simp [rngD, List.getElem?_range hlt]))
    subst hx2
    have E2 : EnvD X.K ((wipe σ (own.map (·.2))).set i0 (some (.int (i : Nat)))) H1 (δ1' i) := by rw [hδ1]; exact Ew.set i0 (.p (.int _))
    generalize hσ2 : (wipe σ (own.map (·.2))).set i0 (some (.int (i : Nat))) = σ2 at E2
    show gName i0 (V.int (i : Nat)) (wipe σ (own.map (·.2))) H' _
    unfold gName
    rw [hσ2]
    refine ⟨by rw [← hσ2]; exact wipe_agr (is := [i0]) (fun j hj => by rw [List.mem_singleton] at hj; subst hj; exact hi) ⟨by simp, fun j hj => List.getElem?_set_ne fun e => hj (by simp [e])⟩, ?_⟩
    unfold tYes
    dsimp only
    rw [if_pos rfl]
    refine ⟨i, hlt, H1, s.trans s2, E2, fun J1 H4 s4 w1 => ?_⟩
    have s14 : Same H1 H4 := (s.trans s2).trans s4
    have hacc4 : H4 D = some (.lst acc) := s4 _ _ (s2 _ _ hacc)
    have r4 := dpAll_mono (s2.trans s4) r
    refine ⟨fun j k H => k = es2.length - j ∧ j ≤ es2.length ∧ Same H1 H ∧ ∃ acc, H D = some (.lst acc) ∧ acc.length ≤ i * 100 + j ∧ DpAll X.K H acc (flat2 i es2 f2 ++ (es2.take j).map (f2 i)), ⟨_, rfl, Nat.zero_le _, s14, acc, hacc4, by omega, by rw [List.take_zero, List.map_nil, List.append_nil]; exact r4⟩, ?_⟩
    rintro j k H ⟨rfl, hje, sj, acc, hacc, hlen, r⟩
    by_cases hjt : j < es2.length
    · refine .inr ⟨w1.goes j H (by rw [List.length_map]; exact hjt) sj, fun H' => j + 1 ≤ es2.length ∧ Same H1 H' ∧ ∃ acc, H' D = some (.lst acc) ∧ acc.length ≤ i * 100 + (j + 1) ∧ DpAll X.K H' acc (flat2 i es2 f2 ++ (es2.take (j + 1)).map (f2 i)), fun H' h => ⟨es2.length - (j + 1), by omega, rfl, h⟩, fun x H' y => ?_⟩
      obtain ⟨s5, hx⟩ := w1.yields j H x H' (by rw [List.length_map]; exact hjt) sj y
      have hp : es2[j]? = some es2[j] := List.getElem?_eq_getElem hjt
      have hm : es2[j] ∈ es2 := List.getElem_mem hjt
      generalize es2[j] = p at hp hm
      refine ⟨i, hlt, p, hm, by rw [hδ2]; exact (E2.mono (sj.trans s5)).wipe _, .p (hx (ι2 p) (by rw [List.getElem?_map, hp]; rfl)), fun σ3 E3 ag => ⟨wipe_agr hi1 ag, ?_⟩⟩
      dsimp only
      rw [if_pos rfl]
      refine ⟨i, hlt, p, hm, E3, fun z H7 s7 r7 => ⟨acc, s7 _ _ (s5 _ _ hacc), Evl.sz_lt (by have : i * 100 ≤ 100 * 100 := Nat.mul_le_mul_right _ (by omega); omega), hjt, same_mut ((sj.trans s5).trans s7) hD, acc ++ [z], upd_same, by simp; omega, ?_⟩⟩
      have t := tl_lst (ys := acc ++ [z]) (s7 _ _ (s5 _ _ hacc))
      have nl2 : noLs (flat2 i es2 f2 ++ (es2.take j).map (f2 i)) = true := noLs_append (nl i hle) (noLs_mem fun a ha => by
        obtain ⟨e, he, rfl⟩ := List.mem_map.mp ha
        exact hf i hlt e (List.mem_of_mem_take he))
      have e6 : flat2 i es2 f2 ++ (es2.take (j + 1)).map (f2 i) = (flat2 i es2 f2 ++ (es2.take j).map (f2 i)) ++ [f2 i p] := by
        rw [List.take_succ, hp]; simp
      rw [e6]
      exact dpAll_append (dpAll_tl t nl2 (dpAll_mono (s5.trans s7) r)) (.cons (dp_tl t (hf i hlt p hm) r7.toDp) .nil)
    · have e : j = es2.length := by omega
      subst e
      refine .inl ⟨by have := w1.stops H sj; rwa [List.length_map] at this, hlt, sj, acc, hacc, by omega, ?_⟩
      rw [List.take_length] at r
      rw [flat2_succ]
      exact r
  · have e : i = n := by omega
    subst e
    exact .inl ⟨by have := w.stops H s; rwa [rngD_len] at this, q D acc H (s1.free hD) (s1.trans s) hacc r⟩⟩
/-- [elt for x in range(..) for tg1 in iter1] -/
theorem d_lc2 {x : Str} {px : Pos} (hc : X.calm = true) (hN : X.N.Nodup) (hi : PI X (.Name x px) iter (iD X.K δ (rngD n))) (ok : BlkOk X.N X.env.scope scope own) (hv : ∀ i ∈ vs1, i ∈ own.map (·.2)) (hn : n ≤ 100) (hn1 : es2.length ≤ 100) (hδ : δw = wipeD δ (own.map (·.2))) (hδ1 : ∀ r, δ1' r = δw.set i0 (some (.i (r : Nat)))) (hδ2 : ∀ r, δw1 r = wipeD (δ1' r) vs1) (hio : i0 ∈ own.map (·.2)) (hi1o : ∀ i ∈ is1, i ∈ vs1) (hf : ∀ r, r < n → ∀ e ∈ es2, noL (f2 r e) = true)
    (hg : Blk X scope fun X' => PG X' (.Name x px) (gName i0)) (hi1 : ∀ r, r < n → Blk X scope fun X' => PI X' tg1 iter1 (iB X'.K (δ1' r) (es2.map ι2))) (hg1 : ∀ r, r < n → ∀ e ∈ es2, Blk X scope fun X' => PG X' tg1 (gD X'.K (δw1 r) (.p (ι2 e)) is1 (δ2 r e))) (he : ∀ r, r < n → ∀ e ∈ es2, Blk X scope fun X' => PE X' elt (tD X'.K (δ2 r e) (.p (f2 r e))))
    (hs : ∀ x, foldedSetIterable iter X.env x = pure x := by intro _; rfl) (hs1 : ∀ env x, foldedSetIterable iter1 env x = pure x := by intro _ _; rfl) : PE X (.ListComp elt [⟨.Name x px, iter, [], 0⟩, ⟨tg1, iter1, [], 0⟩] scope pos) (tN X.K δ (flat2 n es2 f2)) :=
  PE_imp (pe_lc2 hc hN hi ok hv hg (fun s H C cl fp => pts_nil) (fun s H C cl fp => iX_of fun r hr => hi1 r hr s H C cl fp) (fun s H C cl fp => gXX_of fun r hr e h => hg1 r hr e h s H C cl fp) (fun s H C cl fp => pts_nil) (fun s H C cl fp => tXX_of fun r hr e h => he r hr e h s H C cl fp) hs hs1) (lc2D_N hn hn1 hδ hδ1 hδ2 hio hi1o hf)
theorem n_setLc2 {x : Str} {px : Pos} {i : Nat} (hc : X.calm = true) (hN : X.N.Nodup) (hy : X.N[i]? = some y) (hyl : X.env.scope.names.lookup y = some .local)
    (hsw : swapsWith (.ListComp elt [⟨.Name x px, iter, [], 0⟩, ⟨tg1, iter1, [], 0⟩] scope pos) (some (.Name y py)) spos.line X.env = pure true) (hi : PI X (.Name x px) iter (iD X.K δ (rngD n))) (ok : BlkOk X.N X.env.scope scope own) (hv : ∀ i ∈ vs1, i ∈ own.map (·.2)) (hn : n ≤ 100) (hn1 : es2.length ≤ 100) (hδ : δw = wipeD δ (own.map (·.2))) (hδ1 : ∀ r, δ1' r = δw.set i0 (some (.i (r : Nat)))) (hδ2 : ∀ r, δw1 r = wipeD (δ1' r) vs1) (hio : i0 ∈ own.map (·.2)) (hi1o : ∀ i ∈ is1, i ∈ vs1) (hf : ∀ r, r < n → ∀ e ∈ es2, noL (f2 r e) = true)
    (hg : Blk X scope fun X' => PG X' (.Name x px) (gName i0)) (hi1 : ∀ r, r < n → Blk X scope fun X' => PI X' tg1 iter1 (iB X'.K (δ1' r) (es2.map ι2))) (hg1 : ∀ r, r < n → ∀ e ∈ es2, Blk X scope fun X' => PG X' tg1 (gD X'.K (δw1 r) (.p (ι2 e)) is1 (δ2 r e))) (he : ∀ r, r < n → ∀ e ∈ es2, Blk X scope fun X' => PE X' elt (tD X'.K (δ2 r e) (.p (f2 r e))))
    (hs : ∀ x, foldedSetIterable iter X.env x = pure x := by intro _; rfl) (hs1 : ∀ env x, foldedSetIterable iter1 env x = pure x := by intro _ _; rfl) : PS X (.Assign [.Name y py] (.ListComp elt [⟨.Name x px, iter, [], 0⟩, ⟨tg1, iter1, [], 0⟩] scope pos) spos) (sN X.K δ (δ.set i (some (.l (flat2 n es2 f2))))) :=
  PS_imp (ps_setLc2 hc hN hy hyl hsw hi ok hv hg (fun s H C cl fp => pts_nil) (fun s H C cl fp => iX_of fun r hr => hi1 r hr s H C cl fp) (fun s H C cl fp => gXX_of fun r hr e h => hg1 r hr e h s H C cl fp) (fun s H C cl fp => pts_nil) (fun s H C cl fp => tXX_of fun r hr e h => he r hr e h s H C cl fp) hs hs1)
    fun D σ H ⟨E, q⟩ => lc2D_N hn hn1 hδ hδ1 hδ2 hio hi1o hf σ H _ ⟨E, fun p vs H' hp s h r => q _ H' s ((E.mono s).set i (.p (.lst (SqL.of h) r)))⟩

/-! ### loops that only look -/
theorem n_for (hp : PassesOwn (model X.prog X.w) X.A X.env X.xe) (hc : X.calm = true) (hi : PI X tg iter (iD X.K δ (l.map ι))) (hw : ∀ σ H, EnvD X.K σ H δ → EnvD X.K σ H δw) (hg : ∀ p ∈ l, PG X tg (gD X.K δw (.p (ι p)) is (δ' p))) (hb : ∀ p ∈ l, PSs X body (sN X.K (δ' p) δw))
    (hs : ∀ x, foldedSetIterable iter X.env x = pure x := by intro _; rfl) : PS X (.For tg iter body [] pos) (sN X.K δ δw) :=
  PS_imp (ps_for hp hc hi (gX_of hg) (sX_of hb) hs) fun D σ H ⟨E, q⟩ => ⟨E, fun J H1 s1 w => by
    refine for_it w (fun i σ' H' => Same H1 H' ∧ EnvD X.K σ' H' δw) ⟨Same.refl _, hw _ _ (E.mono s1)⟩ (fun i σ' H' _ h => h.1) (fun i x σ' H' H2 hlt ⟨s2, E2⟩ ⟨s3, hx⟩ => ?_) fun σ' H' ⟨s2, E2⟩ => q σ' H' (s1.trans s2) E2
    rw [List.length_map] at hlt
    have hpp : l[i]? = some l[i] := List.getElem?_eq_getElem hlt
    have hm : l[i] ∈ l := List.getElem_mem hlt
    generalize l[i] = p at hpp hm
    exact ⟨p, hm, E2.mono s3, .p (hx (ι p) (by rw [List.getElem?_map, hpp]; rfl)), fun σ2 E3 _ => ⟨p, hm, E3, fun σ4 H4 s4 E4 => ⟨(s2.trans s3).trans s4, E4⟩⟩⟩⟩
end
end Pr
set_option maxHeartbeats 4000000
/-! We: more rules by data: all, in, dict displays. -/
namespace Pr
open PySem PySem.Spec PyProof.Rows L2
theorem kt_ii : kitB "int" "int" = some true := by decide +kernel
theorem kt_ib : kitB "int" "bool" = some false := by decide +kernel
theorem kt_bb : kitB "bool" "bool" = some true := by decide +kernel
theorem kt_ss : kitB "str" "str" = some true := by decide +kernel
theorem kt_tt : kitB "tuple" "tuple" = some true := by decide +kernel
section
variable {X : Cx} {δ δ1 δw : De} {O : Oc} {a b c e tg iter elt : Expr} {es ifs : List Expr} {st : Stmt} {body els rest : List Stmt} {k : Bool} {d d1 d2 : Dt} {ds : List Dt} {ps qs : List PyData} {is : List Nat} {pos : Pos}
/-- a sign in a text -/
theorem d_inS {n : Nat} {z : Str} (ha : PE X a (tD X.K δ (.s ⟨#[n]⟩))) (hb : PE X b (tD X.K δ (.s z))) (hm : behindInMarks .In b = false := by rfl) : PE X (.Compare a [.In] [b] pos) (tD X.K δ (.b (decide (n ∈ z.cps.toList)))) :=
  d_cmp op_inS (fun x y H Q r1 r2 q => ⟨n, z, r1.s_inv, r2.s_inv, q _ H (Same.refl H) (.p (.bl _))⟩) hm ha hb
theorem dpAll_bools {K : PySem.W.Frag} {H : Hp} : ∀ {bs : List Bool} {xs : List V}, DpAll K H xs (bs.map .bool) → xs = bs.map V.bl
  | [], _, h => by cases h; rfl
  | b :: bs, _, h => by rw [List.map_cons] at h; cases h with | cons r t => rw [List.map_cons, dpAll_bools t, dp_bl r]
theorem dpAll_strs {K : PySem.W.Frag} {H : Hp} : ∀ {zs : List Str} {xs : List V}, DpAll K H xs (zs.map .str) → xs = zs.map V.str
  | [], _, h => by cases h; rfl
  | b :: bs, _, h => by rw [List.map_cons] at h; cases h with | cons r t => rw [List.map_cons, dpAll_strs t, dp_str r]
theorem dpAll_ints {K : PySem.W.Frag} {H : Hp} : ∀ {zs : List Int} {xs : List V}, DpAll K H xs (zs.map .int) → xs = zs.map V.int
  | [], _, h => by cases h; rfl
  | b :: bs, _, h => by rw [List.map_cons] at h; cases h with | cons r t => rw [List.map_cons, dpAll_ints t, dp_int r]
theorem d_all {bs : List Bool} {p : Pos} (hc : X.calm = true) (hg : Gl X "all") (hm : X.mg "all" = none) (ha : PE X e (tD X.K δ (.l (bs.map .bool)))) (he : starEach [e] X.env = (false, eval e X.env) :: starEach [] X.env := by rfl) :
    PE X (.Call (.Name "all" p) [e] [] pos) (tD X.K δ (.b (bs.all id))) :=
  d_callB (cr_all hc) (fun vs H Q r q => by
    obtain ⟨v, rfl, rv⟩ := rpAll_1 r
    obtain ⟨ad, xs, rfl, sl, rr⟩ := dp_lst rv.toDp
    exact ⟨ad, bs, rfl, dpAll_bools rr ▸ sl, q _ H (Same.refl H) (.p (.bl _))⟩) hg hm boot_all (a_cons ha a_nil he) (by decide) (by decide) he rfl
theorem inV_strs {z : Str} : ∀ {zs : List Str}, inV (.str z) (zs.map V.str) = zs.any fun y => y == z
  | [] => rfl
  | y :: zs => by
    show (eqV (.str y) (.str z) || inV (.str z) (zs.map V.str)) = _
    rw [inV_strs]; rfl
theorem flat_strs : ∀ {zs : List Str}, (zs.map V.str).all flatV = true
  | [] => rfl
  | y :: zs => by rw [List.map_cons, List.all_cons, flat_strs]; rfl
theorem r2_inT {K : PySem.W.Frag} {z : Str} {zs : List Str} : R2D K (rIn K false) (.s z) (.t (zs.map .str)) (.b (zs.any fun y => y == z)) := fun x y H Q r1 r2 q => by
  obtain ⟨ad, xs, rfl, sl, rr⟩ := dp_tup r2.toDp
  have e := dpAll_strs rr; subst e
  have e := r1.s_inv; subst e
  exact ⟨ad, _, rfl, .inr sl, rfl, flat_strs, by rw [inV_strs]; exact q _ H (Same.refl H) (.p (.bl _))⟩
theorem r2_ninT {K : PySem.W.Frag} {z : Str} {zs : List Str} : R2D K (rIn K true) (.s z) (.t (zs.map .str)) (.b (!zs.any fun y => y == z)) := fun x y H Q r1 r2 q => by
  obtain ⟨ad, xs, rfl, sl, rr⟩ := dp_tup r2.toDp
  have e := dpAll_strs rr; subst e
  have e := r1.s_inv; subst e
  exact ⟨ad, _, rfl, .inr sl, rfl, flat_strs, by rw [inV_strs]; exact q _ H (Same.refl H) (.p (.bl _))⟩
/-- a text in a tuple of texts -/
theorem d_inT {z : Str} {zs : List Str} (ha : PE X a (tD X.K δ (.s z))) (hb : PE X b (tD X.K δ (.t (zs.map .str)))) (hm : behindInMarks .In b = false := by rfl) : PE X (.Compare a [.In] [b] pos) (tD X.K δ (.b (zs.any fun y => y == z))) := d_cmp op_in_seq r2_inT hm ha hb
theorem c_inT {z : Str} {zs : List Str} (ha : PE X a (tD X.K δ (.s z))) (hb : PE X b (tD X.K δ (.t (zs.map .str)))) (hm : behindInMarks .In b = false := by rfl) : PT X (.Compare a [.In] [b] pos) (cD X.K δ (zs.any fun y => y == z)) := c_cmp op_in_seq r2_inT hm ha hb
theorem c_ninT {z : Str} {zs : List Str} (ha : PE X a (tD X.K δ (.s z))) (hb : PE X b (tD X.K δ (.t (zs.map .str)))) (hm : behindInMarks .NotIn b = false := by rfl) : PT X (.Compare a [.NotIn] [b] pos) (cD X.K δ (!zs.any fun y => y == z)) := c_cmp op_notIn_seq r2_ninT hm ha hb

/-! dict displays: text keys, values known without lists -/
theorem merge_new : ∀ {more kvs : List (Key × V)}, (kvs.map (·.1) ++ more.map (·.1)).Nodup → mergeK kvs more = kvs ++ more
  | [], kvs, _ => by simp [mergeK]
  | p :: more, kvs, h => by
    have h1 : ¬ p.1 ∈ kvs.map (·.1) := fun m => by
      rw [List.nodup_append] at h
      exact h.2.2 _ m _ (by simp) rfl
    have e : putK kvs p.1 p.2 = kvs ++ [p] := by
      unfold putK
      rw [if_neg]
      intro z
      obtain ⟨q, hq, e⟩ := List.any_eq_true.mp z
      exact h1 (List.mem_map.mpr ⟨q, hq, of_decide_eq_true e⟩)
    show mergeK (putK kvs p.1 p.2) more = _
    rw [e, merge_new (by rw [List.map_append, List.append_assoc]; exact h)]
    simp
theorem tl_dK {H : Hp} {D : Addr} {xs ys : List (Key × V)} (h : H D = some (.dK xs)) : TL H (upd H D (.dK ys)) := tl_upd h (fun _ z => nomatch z) (fun _ _ z => nomatch z)
theorem pairs_D {σ : L2.St} : ∀ {kvs : List (Str × PyData)} {H : Hp} {Q : List (V × V) → Hp → Prop}, EnvD X.K σ H δ →
    (∀ (vs : List (Key × V)) (H' : Hp), Same H H' → KvP X.K H' vs (kvs.map fun kv => ((Sum.inr kv.1 : Key), kv.2)) → Q (vs.map fun kv => (kV kv.1, kv.2)) H') → tPairs (kvs.map fun kv => (tD X.K δ (.s kv.1), tD X.K δ (.p kv.2))) σ H Q
  | [], H, Q, E, q => q [] H (Same.refl H) .nil
  | kv :: kvs, H, Q, E, q => ⟨E, fun x H1 s1 r1 => ⟨E.mono s1, fun y H2 s2 r2 => by
    have e := r1.s_inv; subst e
    refine pairs_D (E.mono (s1.trans s2)) fun vs H3 s3 r3 => ?_
    exact q ((Sum.inr kv.1, y) :: vs) H3 ((s1.trans s2).trans s3) (.cons ⟨rfl, dp_mono s3 r2.toDp⟩ r3)⟩⟩
theorem kvP_keys {κ : Type} {K : PySem.W.Frag} {H : Hp} : ∀ {vs : List (κ × V)} {ds : List (κ × PyData)}, KvP K H vs ds → vs.map (·.1) = ds.map (·.1)
  | [], [], _ => rfl
  | _ :: _, _ :: _, .cons r t => by rw [List.map_cons, List.map_cons, kvP_keys t, r.1]
theorem kvP_tl {κ : Type} {K : PySem.W.Frag} {H H' : Hp} (e : TL H H') : ∀ {vs : List (κ × V)} {ds : List (κ × PyData)}, (∀ kv ∈ ds, noL kv.2 = true) → KvP K H vs ds → KvP K H' vs ds
  | [], [], _, _ => .nil
  | _ :: _, _ :: _, n, .cons r t => .cons ⟨r.1, dp_tl e (n _ (.head _)) r.2⟩ (kvP_tl e (fun kv h => n kv (.tail _ h)) t)
theorem d_disp {keys : List (Option Expr)} {values : List Expr} {kvs : List (Str × PyData)} (h : PPs X pos keys values (kvs.map fun kv => (tD X.K δ (.s kv.1), tD X.K δ (.p kv.2)))) (hall : keys.all (·.isSome) = true) (hl : keys.length = values.length) (h0 : keys ≠ [])
    (h15 : keys.length ≤ 15) (hk : kvs.length ≤ 15) (hn : (kvs.map fun kv => (Sum.inr kv.1 : Key)).Nodup) (hd : ∀ kv ∈ kvs, noL kv.2 = true) : PE X (.Dict keys values pos) (tD X.K δ (.dK (kvs.map fun kv => (.inr kv.1, kv.2)))) :=
  PE_imp (pe_disp h hall hl h0 h15) fun σ H Q ⟨E, q⟩ p hp => pairs_D (E.mono (same_new hp)) fun vs H' s r => by
    have hp' : H' p = some (.dK []) := s _ _ upd_same
    have e1 := kvP_keys r
    rw [List.map_map] at e1
    have el : vs.length = kvs.length := by have := congrArg List.length e1; simpa using this
    refine ⟨hp', vs, rfl, by omega, ?_⟩
    rw [merge_new (by rw [List.map_nil, List.nil_append, e1]; exact hn), List.nil_append]
    refine q _ _ (same_mut ((same_new hp).trans s) hp) (.dK (.inl upd_same) (kvP_tl (tl_dK hp') (fun kv hkv => ?_) r))
    obtain ⟨z, hz, rfl⟩ := List.mem_map.mp hkv
    exact hd z hz
end
end Pr
set_option maxHeartbeats 4000000
/-! W1: kinds, bit_at, Word, Rule. -/
namespace Pr
open PySem PySem.Spec PyProof.Rows L2
variable {P : Program} {w : World} {K : PySem.W.Frag} {mg : Str → Option Value} {base : Heap}
theorem room_u {k : Nat} {A : Around} (r : Room k A) : A.units + 65 < cLine := by have := r.un; omega
def rdInt : RD := fun ds d => ∃ n : Int, ds = [.i n] ∧ d = .b true
theorem f1_is_integer (T : Tx K mg) : FnR P w K mg base CX0 1 (ga K "is_integer") (spD K rdInt) :=
  fnR_D T.f_is_integer sc_is_integer bn_is_integer (fun ds d ⟨n, h, _⟩ => by rw [h]; rfl) fun cdv A outer s H E hr ds d ⟨n, h, h2⟩ => by
    subst h h2
    exact q_retE (d_and (d_isi (k := true) rfl T.b_isinstance rfl T.b_int boot_int kt_ii (d_var 0 rfl)) fun _ => d_one (d_not (d_isi (k := false) rfl T.b_isinstance rfl T.b_bool boot_bool kt_ib (d_var 0 rfl)))) rfl
def rdCount : RD := fun ds d => ∃ n : Int, 0 ≤ n ∧ ds = [.i n] ∧ d = .b true
theorem f2_is_count (T : Tx K mg) : FnR P w K mg base CX0 2 (ga K "is_count") (spD K rdCount) :=
  fnR_D T.f_is_count sc_is_count bn_is_count (fun ds d ⟨n, _, h, _⟩ => by rw [h]; rfl) fun cdv A outer s H E hr ds d ⟨n, h0, h, h2⟩ => by
    subst h h2
    exact q_retE (d_and (d_call (f1_is_integer T) hr rfl T.g_is_integer T.f_is_integer.kp ⟨_, rfl, rfl⟩ (a_cons (d_var 0 rfl) a_nil)) fun _ => d_one (d_ge (d_var 0 rfl) d_int)) (by simp [h0])
def rdNumber : RD := fun ds d => ∃ n : Int, 1 ≤ n ∧ ds = [.i n] ∧ d = .b true
theorem f2_is_number (T : Tx K mg) : FnR P w K mg base CX0 2 (ga K "is_number") (spD K rdNumber) :=
  fnR_D T.f_is_number sc_is_number bn_is_number (fun ds d ⟨n, _, h, _⟩ => by rw [h]; rfl) fun cdv A outer s H E hr ds d ⟨n, h0, h, h2⟩ => by
    subst h h2
    exact q_retE (d_and (d_call (f1_is_integer T) hr rfl T.g_is_integer T.f_is_integer.kp ⟨_, rfl, rfl⟩ (a_cons (d_var 0 rfl) a_nil)) fun _ => d_one (d_ge (d_var 0 rfl) d_int)) (by simp [h0])
/-! bits -/
def sgn (b : Bool) : Nat := if b then 49 else 48
def bitS (l : List Bool) : Str := ⟨(l.map sgn).toArray⟩
theorem bitS_len {l : List Bool} : (bitS l).length = l.length := by show (l.map sgn).toArray.size = _; simp
theorem bitS_cps {l : List Bool} : (bitS l).cps.toList = l.map sgn := by simp [bitS]
theorem signs_bitS {l : List Bool} : signsD (bitS l) = l.map fun b => .str ⟨#[sgn b]⟩ := by unfold signsD; rw [bitS_cps, List.map_map]; rfl
theorem sh_str {z : Str} (h : PyData.strOk z = true) : SeqAt.shaped (.str z) = true := by
  unfold SeqAt.shaped PyData.canLay0 PyData.depth
  simp [h]
theorem sgn_ok {b : Bool} : SeqAt.shaped (.str ⟨#[sgn b]⟩) = true := sh_str (by cases b <;> decide +kernel)
theorem strOk_bitS {l : List Bool} : PyData.strOk (bitS l) = true := by
  unfold PyData.strOk bitS
  rw [Array.all_eq_true_iff_forall_mem]
  intro x hx
  simp only [List.mem_toArray, List.mem_map] at hx
  obtain ⟨b, _, rfl⟩ := hx
  cases b <;> decide
theorem eqv_str {x y : Str} : PyData.eqv (.str x) (.str y) = (x == y) := by rfl
theorem sgn_one {b : Bool} : PyData.eqv (.str ⟨#[sgn b]⟩) (.str "1") = b := by cases b <;> decide
def rdBits : RD := fun ds d => ∃ l : List Bool, l.length ≤ 100 ∧ ds = [.s (bitS l)] ∧ d = .b true
theorem f1_are_bits (T : Tx K mg) : FnR P w K mg base CX0 1 (ga K "are_bits") (spD K rdBits) :=
  fnR_D T.f_are_bits sc_are_bits bn_are_bits (fun ds d ⟨n, _, h, _⟩ => by rw [h]; rfl) fun cdv A outer s H E hr ds d ⟨l, h0, h, h2⟩ => by
    subst h h2
    refine q_retE (d_and (d_isi (k := true) rfl T.b_isinstance rfl T.b_str boot_str kt_ss (d_var 0 rfl)) fun _ => d_one (d_all (bs := l.map fun _ => true) rfl rfl T.b_all (d_new (n_eqv
      (d_lc0 (l := l) (own := [("sign", 1)]) rfl sc_are_bits.nd (i_eqv (i_str (d_var 0 rfl)) signs_bitS) (blkOk_by (by kernel_rfl)) rfl (by omega) (by decide) (fun _ _ => rfl)
        (fun p hp s H C cl fp => g_name 1 sc_are_bits.nd rfl (.inl rfl)) (fun p hp s H C cl fp => d_inS (d_var 1 rfl) d_str)) ?_)))) (by simp)
    rw [List.map_map]
    exact List.map_congr_left fun b _ => by cases b <;> rfl
end Pr
set_option maxHeartbeats 4000000
/-! Wf: owned addresses; attribute targets; static methods; own operators; isinstance of one's own class; making. -/
namespace Pr
open PySem PySem.Spec PyProof.Rows L2

/-! ### the heap without some addresses -/
def mn (H : Hp) (F : List Addr) : Hp := fun a => if a ∈ F then none else H a
theorem mn_in {H : Hp} {F : List Addr} {a : Addr} (h : a ∈ F) : mn H F a = none := if_pos h
theorem mn_out {H : Hp} {F : List Addr} {a : Addr} (h : a ∉ F) : mn H F a = H a := if_neg h
theorem mn_same (H : Hp) (F : List Addr) : Same (mn H F) H := fun a o h => by
  by_cases e : a ∈ F
  · rw [mn_in e] at h; cases h
  · rwa [mn_out e] at h
theorem mn_nil {H : Hp} : mn H [] = H := funext fun a => mn_out (by simp)
theorem same_mn {H H' : Hp} {F : List Addr} (e : Same H H') : Same (mn H F) (mn H' F) := fun a o h => by
  by_cases f : a ∈ F
  · rw [mn_in f] at h; cases h
  · rw [mn_out f] at h ⊢; exact e _ _ h
theorem mn_upd {H : Hp} {F : List Addr} {p : Addr} {o : HO} (h : p ∈ F) : mn (upd H p o) F = mn H F := funext fun a => by
  by_cases f : a ∈ F
  · rw [mn_in f, mn_in f]
  · rw [mn_out f, mn_out f, upd_ne fun e => f (by rw [e]; exact h)]
/-- the change from owning F in H to owning F' in H': what was not owned stands -/
abbrev Chg (H : Hp) (F : List Addr) (H' : Hp) (F' : List Addr) : Prop := Same (mn H F) (mn H' F')
theorem Chg.of {H H' : Hp} {F : List Addr} (e : Same H H') : Chg H F H' F := same_mn e
/-- what is made anew may be owned -/
theorem Chg.own {H H' : Hp} {F F' : List Addr} (e : Same (mn H F) (mn H' F)) (h : ∀ a ∈ F', a ∉ F → H a = none) : Chg H F H' (F ++ F') := fun a o ha => by
  have hF : a ∉ F := fun f => by rw [mn_in f] at ha; cases ha
  have h1 : a ∉ F ++ F' := fun f => by
    rcases List.mem_append.mp f with f | f
    · exact hF f
    · rw [mn_out hF, h a f hF] at ha; cases ha
  have := e a o ha
  rw [mn_out hF] at this
  rw [mn_out h1]; exact this
/-- more is owned, and stands by itself -/
theorem Chg.more {H H' : Hp} {F F' : List Addr} (e : Chg H F H' F') (R : List Addr) : Chg H (F ++ R) H' (F' ++ R) := fun a o ha => by
  have h1 : a ∉ F ++ R := fun f => by rw [mn_in f] at ha; cases ha
  simp only [List.mem_append, not_or] at h1
  rw [mn_out (by simpa using h1)] at ha
  have := e a o (by rw [mn_out h1.1]; exact ha)
  by_cases f : a ∈ F'
  · rw [mn_in f] at this; cases this
  · rw [mn_out f] at this
    rw [mn_out (by simp [f, h1.2])]; exact this
theorem Chg.get {H H' : Hp} {F F' : List Addr} (e : Chg H F H' F') {a : Addr} {o : HO} (h : H a = some o) (hF : a ∉ F) : H' a = some o ∧ a ∉ F' := by
  have := e a o (by rw [mn_out hF]; exact h)
  by_cases f : a ∈ F'
  · rw [mn_in f] at this; cases this
  · rw [mn_out f] at this; exact ⟨this, f⟩

/-! ### attribute targets -/
/-- e.f = .. -/
def gSl (K : PySem.W.Frag) (ta : TE) (f : Str) : TG := fun y σ H Q => ta σ H fun x H2 => ∃ a C dx p vs i, x = .ref a ∧ SlX.Slt H2 a C dx vs ∧ SlX.SCls K C ∧ SlX.Slot1 K C f p i ∧ Q σ (SlX.slH H2 a C dx (SlX.putS i y vs))
section
variable {X : Cx} {o : Expr} {f : Str} {pos : Pos} {ta : TE}
theorem pg_sl (ha : PE X o ta) : PG X (.Attribute o f pos) (gSl X.K ta f) := by
  refine ⟨fun pins s σ H v u Q I r h => ?_⟩
  rw [assign_Attribute]
  refine wpAny_bind (wpAny_holding (thn (ha.run pins s σ H _ I h) fun ov s2 ⟨x, H2, I2, rx, a, C, dx, p, vs, i, ex, hsl, c, t, q2⟩ => ?_))
  subst ex
  obtain rfl : ov = Value.ref a := rx
  exact wpAny_bind (wpAny_standAt (wpAny_bind (wpAny_holding (SlX.setslot_ok I2 hsl c t r fun s3 I3 => wpAny_release ⟨σ, _, I3, q2⟩))))
end

/-! ### static methods -/
section
variable {X : Cx} {CX : CXT} {k : Nat} {C p g : Addr} {sp : Sp} {E : XK} {o e : Expr} {es : List Expr} {f m : Str} {pos apos : Pos} {ta : TE} {t : TA} {pl : Sem Bool}
def tSMeth (C : Addr) (sp : Sp) (E : XK) (ta : TE) (t : TA) : TE := fun σ H Q => ta σ H fun x H1 => x = .ref C ∧ t σ H1 fun vs H2 => sp vs H2 Q E
theorem pe_smeth {c : Str} (he : PE X o ta) (S : StatF X.K c m g) (hk : PySem.W.keepIn X.K (.ref g) = true) (F : FnR X.prog X.w X.K X.mg X.base CX k g sp) (hr : Room k X.A) (hx : Passes CX X E) (ha : PA X (e :: es) t)
    (hst : starEach (e :: es) X.env = (false, eval e X.env) :: starEach es X.env := by rfl) (hpl : (backTo pos (starEach es X.env)).any (·.1) = false := by rfl)
    (ht : eval (.Call (.Attribute o m apos) (e :: es) [] pos) X.env = (do
      let ov ← eval o X.env
      standAt apos.atName
      let (f, first) ← holding [ov] (getMethod ov m pl)
      callWith pos f first (backTo pos (starEach (e :: es) X.env)) (backToKw pos (keywordEach [] X.env))) := by rfl) :
    PE X (.Call (.Attribute o m apos) (e :: es) [] pos) (tSMeth (ga X.K c) sp E ta t) := by
  obtain ⟨rest, hp⟩ := S.rc
  refine ⟨fun pins s σ H Q I h => ?_⟩
  refine PySem.W.methodCall_KW (pl := pl) (thn (he.run pins s σ H _ I h) fun u s1 ⟨x, H1, I1, rx, ex, q⟩ => ?_) ht
  subst ex
  obtain rfl : u = Value.ref (ga X.K c) := rx
  refine PySem.W.method_cls I1.kIn S.gt (PySem.W.cls_bind I1.kIn S.rd S.at_ (wpAny_call (PySem.W.sm_get (s := { s1 with toks := s1.toks + 1 }) I1.kIn hp (PySem.W.handed_on rfl ?_))))
  have I2 : Inv X pins σ H1 { s1 with toks := s1.toks + 1 } := I1.tok _
  exact PySem.W.callWith_K (h₀ := X.base) I.ok.mod.kin hk (thn (ha.run pos pins _ σ H1 _ I2 q) fun us s3 ⟨vs, H2, I3, r, q2⟩ => ⟨I3.kIn, wpAny_call (run_fnR F hr hx I3 r q2)⟩) hst hpl
end

/-! ### own operators, both operands of the class -/
section
variable {X : Cx} {CX : CXT} {k n : Nat} {C g : Addr} {sp : Sp} {E : XK}
def rOwnB (C : Addr) (sp : Sp) (E : XK) : R2 := fun x y H Q => ∃ a dx vs b dy ws, x = .ref a ∧ y = .ref b ∧ SlX.Slt H a C dx vs ∧ SlX.Slt H b C dy ws ∧ sp [x, y] H Q E
theorem op_ownB {op : Operator} (hc : PySem.W.selfFirst X.K C = true) (hs : PySem.W.findIn X.K (.ref C) (PySem.dunder op.info.2) = some (some (.ref g))) (hf : PySem.W.isFn X.K (.ref g) = true) (F : FnR X.prog X.w X.K X.mg X.base CX n g sp)
    (hr : Room n X.A) (hx : Passes CX X E) : OpR X (binaryOp op) (rOwnB C sp E) := by
  intro pins s σ H x y v u Q I rx ry h
  obtain ⟨a, dx, vs, b, dy, ws, rfl, rfl, ha, hb, q⟩ := h
  cases (show v = Value.ref a from rx)
  cases (show u = Value.ref b from ry)
  obtain ⟨sl, od, _, J, _⟩ := SlX.slt_inst I ha
  obtain ⟨sl', od', _, J', _⟩ := SlX.slt_inst I hb
  obtain ⟨m, hF⟩ := I.fr
  refine PySem.W.binop_K hF I.ok.mod.kin J J'.type hc hs hf ?_
  refine wpAny_mono (wpAny_call (run_fnR (us := [.ref a, .ref b]) (vs := [.ref a, .ref b]) F hr hx I (.cons rfl (.cons rfl .nil)) q)) (fun w s' z => ?_) fun _ _ x => x
  obtain ⟨z', H', I', rz, qz⟩ := z
  exact SlX.cmpback rz ⟨z', H', I', rz, qz⟩
def rInv (C : Addr) (sp : Sp) (E : XK) : V → Hp → VK → Prop := fun x H Q => ∃ a dx vs, x = .ref a ∧ SlX.Slt H a C dx vs ∧ sp [x] H Q E
theorem un_inv (hs : PySem.W.findIn X.K (.ref C) "__invert__" = some (some (.ref g))) (hf : PySem.W.isFn X.K (.ref g) = true) (F : FnR X.prog X.w X.K X.mg X.base CX n g sp) (hr : Room n X.A) (hx : Passes CX X E) : UnR X (unaryOp .Invert) (rInv C sp E) := by
  intro pins s σ H x v Q I rx h
  obtain ⟨a, dx, vs, rfl, ha, q⟩ := h
  cases (show v = Value.ref a from rx)
  obtain ⟨sl, od, _, J, _⟩ := SlX.slt_inst I ha
  obtain ⟨m, hF⟩ := I.fr
  exact PySem.W.ksp_inv hF I.ok.mod.kin J hs hf (wpAny_call (run_fnR (us := [.ref a]) (vs := [.ref a]) F hr hx I (.cons rfl .nil) q))
end

/-! ### by data -/
section
variable {X : Cx} {δ : De} {k : Nat} {g : Addr} {x m c : Str} {p q pos apos : Pos} {a b e o : Expr} {es : List Expr} {ds fs fs2 : List Dt} {d : Dt} {R : RD} {bb : Bool}
/-- a static method's call -/
theorem d_smeth {pl : Sem Bool} {pc : Pos} (hg : Gl X c) (hm : X.mg c = some (.ref (ga X.K c))) (S : StatF X.K c m g) (hk : PySem.W.keepIn X.K (.ref g) = true) (F : FnR X.prog X.w X.K X.mg X.base CX0 k g (spD X.K R)) (hr : Room k X.A) (hR : R ds d) (ha : PA X (e :: es) (aD X.K δ ds)) (hdb : (c == ("__debug__" : Str)) = false := by decide)
    (hst : starEach (e :: es) X.env = (false, eval e X.env) :: starEach es X.env := by rfl) (hpl : (backTo pos (starEach es X.env)).any (·.1) = false := by rfl)
    (ht : eval (.Call (.Attribute (.Name c pc) m apos) (e :: es) [] pos) X.env = (do
      let ov ← eval (.Name c pc) X.env
      standAt apos.atName
      let (f, first) ← holding [ov] (getMethod ov m pl)
      callWith pos f first (backTo pos (starEach (e :: es) X.env)) (backToKw pos (keywordEach [] X.env))) := by rfl) : PE X (.Call (.Attribute (.Name c pc) m apos) (e :: es) [] pos) (tD X.K δ d) :=
  PE_imp (pe_smeth (pe_glob (v := .ref (ga X.K c)) hg hm rfl hdb) S hk F hr pass0 ha hst hpl ht) fun σ H Q ⟨E, z⟩ => ⟨rfl, E, fun vs H1 s r => ⟨ds, d, r, hR, fun v H' s2 rv => z v H' (s.trans s2) rv⟩⟩
theorem d_ownB {op : Operator} (O : OwnF X.K c m g) (hop : PySem.dunder op.info.2 = m) (F : FnR X.prog X.w X.K X.mg X.base CX0 k g (spD X.K R)) (hr : Room k X.A) (hR : R [.ob c fs, .ob c fs2] d) (ha : PE X a (tD X.K δ (.ob c fs))) (hb : PE X b (tD X.K δ (.ob c fs2))) : PE X (.BinOp a op b pos) (tD X.K δ d) :=
  d_bin (op_ownB (E := E0) O.first (hop ▸ O.at_) O.fn F hr pass0) (fun x y H Q r1 r2 z => by
    obtain ⟨a, dx, vs, rfl, sl, rr⟩ := id r1.ob_inv
    obtain ⟨b, dy, ws, rfl, sl2, rr2⟩ := id r2.ob_inv
    exact ⟨a, dx, _, b, dy, _, rfl, rfl, sl, sl2, _, d, .cons r1 (.cons r2 .nil), hR, z⟩) ha hb
theorem d_inv (O : OwnF X.K c "__invert__" g) (F : FnR X.prog X.w X.K X.mg X.base CX0 k g (spD X.K R)) (hr : Room k X.A) (hR : R [.ob c fs] d) (ha : PE X a (tD X.K δ (.ob c fs))) : PE X (.UnaryOp .Invert a pos) (tD X.K δ d) :=
  PE_imp (pe_un (un_inv (E := E0) O.at_ O.fn F hr pass0) ha) fun σ H Q ⟨E, z⟩ => ⟨E, fun v H1 s r => by
    obtain ⟨a, dx, vs, rfl, sl, rr⟩ := id r.ob_inv
    exact ⟨a, dx, _, rfl, sl, _, d, .cons r .nil, hR, fun v H' s2 rv => z v H' (s.trans s2) rv⟩⟩
/-- isinstance(x, C), x an instance of the class of that name -/
theorem d_isiC (hg : Gl X "isinstance") (hm : X.mg "isinstance" = none) (hgT : Gl X c) (hmT : X.mg c = some (.ref (ga X.K c))) (hc : SlX.SCls X.K (ga X.K c)) (hi : SlX.SIsi X.K (ga X.K c)) (hk : PySem.W.kitOne X.K (.ref (ga X.K c)) (.ref (ga X.K c)) = some true) (ha : PE X e (tD X.K δ (.ob c fs)))
    (hv : bootBuiltins "isinstance" = some (.builtin "isinstance") := by decide +kernel) (hdb : (c == ("__debug__" : Str)) = false := by decide)
    (hs : starEach [e, .Name c q] X.env = (false, eval e X.env) :: starEach [.Name c q] X.env := by rfl) : PE X (.Call (.Name "isinstance" p) [e, .Name c q] [] pos) (tD X.K δ (.b true)) :=
  PE_imp (pe_callB (SlX.call_isiSl (.ref (ga X.K c))) hg hm hv (pa_cons ha (pa_cons (pe_glob (v := .ref (ga X.K c)) hgT hmT rfl hdb) pa_nil) hs) (by decide) (by decide) hs) fun σ H Q ⟨E, z⟩ => ⟨E, fun v H1 s r => by
    obtain ⟨a, dx, vs, rfl, sl, rr⟩ := id r.ob_inv
    exact ⟨a, ga X.K c, dx, _, .ref (ga X.K c), true, rfl, rfl, fun w h => h, sl, hc, hi, hk, z _ _ s (.p (.bl _))⟩⟩

/-! ### making -/
abbrev RI := List Dt → List Dt → Prop
/-- __init__: from a bare instance at x to one with the slots fs -/
def spI (K : PySem.W.Frag) (c : Str) (R : RI) : Sp := fun vs H Q _ => ∃ x dx ws ds fs, vs = .ref x :: ws ∧ H x = some (.ins (ga K c) dx []) ∧ H dx = some (.own x) ∧ dx ≠ x ∧ RpAll K (mn H [x, dx]) ws ds ∧ R ds fs ∧
  ∀ (H' : Hp) (us : List V), Chg H [x, dx] H' [x, dx] → SlX.Slt H' x (ga K c) dx (us.map some) → RpAll K (mn H' [x, dx]) us fs → Q .non H'
theorem mn_made {H : Hp} {x dx : Addr} {o1 o2 : HO} (h1 : H x = none) (h2 : H dx = none) : Same H (mn (upd (upd H dx o1) x o2) [x, dx]) := fun a o h => by
  have e1 : a ≠ x := ne_of_none h h1
  have e2 : a ≠ dx := ne_of_none h h2
  rw [mn_out (by simp [e1, e2]), upd_ne e1, upd_ne e2]; exact h
theorem d_make {Ri : RI} (M : Mk X.K (ga X.K c) g) (F : FnR X.prog X.w X.K X.mg X.base CX0 k g (spI X.K c Ri)) (hr : Room (k + 1) X.A) (hg : Gl X c) (hm : X.mg c = some (.ref (ga X.K c))) (hR : Ri ds fs) (ha : PA X (e :: es) (aD X.K δ ds)) (hdb : (c == ("__debug__" : Str)) = false := by decide)
    (he : starEach (e :: es) X.env = (false, eval e X.env) :: starEach es X.env := by rfl) (hpl : (backTo pos (starEach es X.env)).any (·.1) = false := by rfl) : PE X (.Call (.Name c p) (e :: es) [] pos) (tD X.K δ (.ob c fs)) :=
  PE_imp (StX.pe_makeR (E := E0) M F hr hg hm pass0 ha hdb he hpl) fun σ H Q ⟨E, z⟩ => ⟨E, fun vs H1 s r x dx h1 h2 hne => by
    have hs := mn_made (o1 := HO.own x) (o2 := .ins (ga X.K c) dx []) h1 h2
    refine ⟨x, dx, vs, ds, fs, rfl, upd_same, by rw [upd_ne hne, upd_same], hne, r.mono hs, hR, fun H' us c1 sl rr => ⟨rfl, z _ _ (s.trans ((hs.trans c1).trans (mn_same _ _))) (.ob sl (rr.mono (mn_same _ _)))⟩⟩⟩
end
end Pr
set_option maxHeartbeats 4000000
/-! Wg: the frame: what only looks runs while some objects are forgotten, and leaves them. -/
namespace Pr
open PySem PySem.Spec PyProof.Rows L2

/-- what may be forgotten for a while -/
def Fg (H : Hp) (f : Addr) : Prop := (∃ xs, H f = some (.lst xs)) ∨ (∃ k, H f = some (.dK k)) ∨ (∃ k, H f = some (.dT k)) ∨ (∃ C dx vs, H f = some (SlX.SlO f C dx vs)) ∨ H f = some (.xd []) ∨ (∃ C dx fs, H f = some (.ins C dx fs)) ∨ (∃ y C fs, H f = some (.own y) ∧ H y = some (.ins C f fs))
structure Fo (H : Hp) (F : List Addr) : Prop where
  all : ∀ f ∈ F, Fg H f
  own : ∀ f ∈ F, ∀ y, H f = some (.own y) → y ∈ F
  ins : ∀ f ∈ F, ∀ C dx fs, H f = some (.ins C dx fs) → dx ∈ F
def jn (H : Hp) (F : List Addr) (H1 : Hp) : Hp := fun a => if a ∈ F then H a else H1 a
theorem jn_in {H H1 : Hp} {F : List Addr} {a : Addr} (h : a ∈ F) : jn H F H1 a = H a := if_pos h
theorem jn_out {H H1 : Hp} {F : List Addr} {a : Addr} (h : a ∉ F) : jn H F H1 a = H1 a := if_neg h
theorem Fg.has {H : Hp} {f : Addr} (h : Fg H f) : ∃ o, H f = some o := by
  rcases h with ⟨xs, h⟩ | ⟨k, h⟩ | ⟨k, h⟩ | ⟨C, dx, vs, h⟩ | h | ⟨C, dx, fs, h⟩ | ⟨y, C, fs, h, _⟩ <;> exact ⟨_, h⟩
theorem Fg.not {H : Hp} {f : Addr} {o : HO} (h : Fg H f) (e : H f = some o) : (∀ xs, o ≠ .tup xs) ∧ (∀ ob u, o ≠ .frz ob u) ∧ (∀ ps, o ≠ .tbl ps) := by
  rcases h with ⟨xs, h⟩ | ⟨k, h⟩ | ⟨k, h⟩ | ⟨C, dx, vs, h⟩ | h | ⟨C, dx, fs, h⟩ | ⟨y, C, fs, h, _⟩ <;> (rw [h] at e; cases e; exact ⟨fun _ z => (nomatch z), fun _ _ z => (nomatch z), fun _ z => (nomatch z)⟩)
theorem objok_fg {P : Program} {w : World} {H H' : Hp} {h h' : Heap} {f : Addr} {u : HO} {F : List Addr} (o : Fo H F) (hf : f ∈ F) (e : H f = some u) (x : ObjOk P w H h f u) (k : ∀ c ∈ F, ∀ q, h.get? c = some q → h'.get? c = some q)
    (ho : ∀ b ∈ F, ∀ y, H b = some (.own y) → H' b = some (.own y)) (ht : ∀ b xs, H b = some (.tup xs) → H' b = some (.tup xs)) : ObjOk P w H' h' f u := by
  rcases o.all f hf with ⟨xs, z⟩ | ⟨kv, z⟩ | ⟨kv, z⟩ | ⟨C, dx, vs, z⟩ | z | ⟨C, dx, fs, z⟩ | ⟨y, C, fs, z, z2⟩ <;> rw [e] at z <;> cases z
  · obtain ⟨z, its, n, r, e⟩ := x; exact ⟨z, its, n, r, k _ hf _ e⟩
  · obtain ⟨z, y, vs, r, ob, es, ep, e, c⟩ := x; exact ⟨z, y, vs, r, ob, es, ep, k _ hf _ e, c⟩
  · obtain ⟨z, y, xs, r, ob, es, ep, e, c⟩ := x
    exact ⟨z, y, xs, Paired.mapP r fun p q z => ⟨z.1, ht _ _ z.2.1, z.2.2⟩, ob, es, ep, k _ hf _ e, c⟩
  · obtain ⟨p, ⟨ob, e⟩, st⟩ := x; exact ⟨st _ _ p fun o q => k _ hf _ q, ⟨ob, k _ hf _ e⟩, st⟩
  · obtain ⟨mA, ⟨od, es, ep, e, c⟩, r⟩ := x; exact ⟨mA, ⟨od, es, ep, k _ hf _ e, c⟩, r⟩
  · have hd := o.ins f hf _ _ _ e
    obtain ⟨d, z, ne, e, mA, ⟨od, es, ep, e2, c⟩, r⟩ := x
    exact ⟨ho _ hd _ d, z, ne, k _ hf _ e, mA, ⟨od, es, ep, k _ hd _ e2, c⟩, r⟩
  · obtain ⟨ob, e⟩ := x; exact ⟨ob, k _ hf _ e⟩
section
variable {X : Cx} {pins : List (Addr × Obj)} {σ σ0 : L2.St} {H H1 : Hp} {s s1 : Shared} {F : List Addr}
theorem fg_obj (I : Inv X pins σ H s) {f : Addr} (h : Fg H f) : ∃ o, s.heap.get? f = some o ∧ ∀ v, o.data ≠ .cell v := by
  rcases h with ⟨xs, h⟩ | ⟨k, h⟩ | ⟨k, h⟩ | ⟨C, dx, vs, h⟩ | h | ⟨C, dx, fs, h⟩ | ⟨y, C, fs, h, h2⟩
  · obtain ⟨_, its, n, _, e⟩ := I.hok f _ h
    exact ⟨_, e, fun v z => nomatch z⟩
  · obtain ⟨_, _, vs, _, o, es, ep, e, _, c, _⟩ := I.hok f _ h
    exact ⟨_, e, fun v z => by rw [c] at z; cases z⟩
  · obtain ⟨_, _, xs, _, o, es, ep, e, _, c, _⟩ := I.hok f _ h
    exact ⟨_, e, fun v z => by rw [c] at z; cases z⟩
  · obtain ⟨⟨sl, e, _⟩, _⟩ := I.hok f _ h
    exact ⟨_, e, fun v z => nomatch z⟩
  · obtain ⟨mA, ⟨o, es, ep, e, c, _⟩, _⟩ := I.hok f _ h
    exact ⟨_, e, fun v z => by rw [c] at z; cases z⟩
  · obtain ⟨_, _, _, e, _⟩ := I.hok f _ h
    exact ⟨_, e, fun v z => nomatch z⟩
  · obtain ⟨_, _, _, _, mA, ⟨o, es, ep, e, c, _⟩, _⟩ := I.hok y _ h2
    exact ⟨_, e, fun v z => by rw [c] at z; cases z⟩
theorem un_nofs (I : Inv X pins σ H s) {f : Addr} {o : HO} (h : H f = some o) : f ∉ X.fs := fun hb => by
  obtain ⟨_, ob, ho, _⟩ := I.ok.funs.mem hb
  have := I.base.free f ob ho (I.ok.frf f hb) fun z => I.ok.exfs f z hb
  rw [h] at this; cases this
theorem forget (I : Inv X pins σ H s) (o : Fo H F) : Inv X (pins ++ pinsAt F s.heap) σ (mn H F) s := by
  have keepO : ∀ b u, H b = some u → b ∉ F → mn H F b = some u := fun b u e h => by rw [mn_out h]; exact e
  have non : ∀ b, H b = none → mn H F b = none := fun b e => by
    by_cases h : b ∈ F
    · exact mn_in h
    · rw [mn_out h]; exact e
  have tupO : ∀ b xs, H b = some (.tup xs) → mn H F b = some (.tup xs) := fun b xs e => keepO b _ e fun h => ((o.all b h).not e).1 xs rfl
  have hok : HOk X.prog X.w (mn H F) s.heap := fun b u e => by
    have hb : b ∉ F := fun h => by rw [mn_in h] at e; cases e
    rw [mn_out hb] at e
    exact (I.hok b u e).stay (fun _ _ _ z => z) (fun c z => keepO c _ z fun h => hb (o.own c h b z)) tupO
  have u : Un X.fs [] H (mn H F) s.heap s.heap := ⟨fun _ _ e _ _ _ => e, fun _ o e _ _ _ => ⟨o.slots, e⟩, fun b _ _ z _ => non b z, fun _ o e _ => ⟨o, e⟩, tupO,
    fun b ob x z => keepO b _ z fun h => ((o.all b h).not z).2.1 ob x rfl, fun b ps z => ⟨#[], by rw [keepO b _ z fun h => ((o.all b h).not z).2.2 ps rfl]; simp⟩⟩
  have I1 : Inv X pins σ (mn H F) s := I.un (t' := s.toks) u hok
  refine I1.pins_of fun p hp => ?_
  rcases List.mem_append.mp hp with hp | hp
  · exact I1.pin p (List.mem_append_right _ hp)
  · obtain ⟨hf, e⟩ := of_pinsAt hp
    obtain ⟨ho, hH⟩ := (o.all _ hf).has
    obtain ⟨ob, e2, nc⟩ := fg_obj I (o.all _ hf)
    rw [e] at e2; cases e2
    exact ⟨e, mn_in hf, (fun z => by rw [z, I.free] at hH; cases hH), un_nofs I hH, nc⟩
/-- tuples stay -/
structure Tk (H H1 : Hp) : Prop where
  tup : ∀ a xs, H a = some (.tup xs) → H1 a = some (.tup xs)
theorem Same.tk {H H1 : Hp} (e : Same H H1) : Tk H H1 := ⟨fun a xs h => e a _ h⟩
theorem rememberT (I : Inv X pins σ0 H s) (o : Fo H F) (I1 : Inv X (pins ++ pinsAt F s.heap) σ H1 s1) (sm : Tk (mn H F) H1) : Inv X pins σ (jn H F H1) s1 := by
  have pinF : ∀ f ∈ F, ∃ ob, s.heap.get? f = some ob ∧ s1.heap.get? f = some ob ∧ H1 f = none := fun f hf => by
    obtain ⟨ob, e, _⟩ := fg_obj I (o.all f hf)
    obtain ⟨e1, e2, _⟩ := I1.pin (f, ob) (List.mem_append_right _ (List.mem_append_right _ (mem_pinsAt hf e)))
    exact ⟨ob, e, e1, e2⟩
  have up : ∀ b u, H1 b = some u → jn H F H1 b = some u := fun b u e => by
    have hb : b ∉ F := fun h => by
      obtain ⟨_, _, _, n⟩ := pinF b h
      rw [e] at n; cases n
    rw [jn_out hb]; exact e
  have allO : ∀ b ∈ F, ∀ y, H b = some (.own y) → jn H F H1 b = some (.own y) := fun b h u e => by rw [jn_in h]; exact e
  have allT : ∀ b y, H b = some (.tup y) → jn H F H1 b = some (.tup y) := fun b u e => by
    by_cases h : b ∈ F
    · rw [jn_in h]; exact e
    · rw [jn_out h]; exact sm.tup b u (by rw [mn_out h]; exact e)
  have non : ∀ b, H b = none → H1 b = none → jn H F H1 b = none := fun b e e1 => by
    by_cases h : b ∈ F
    · rw [jn_in h]; exact e
    · rw [jn_out h]; exact e1
  have nin : ∀ b, H b = none → b ∉ F := fun b e h => by
    obtain ⟨u, hu⟩ := (o.all b h).has
    rw [e] at hu; cases hu
  refine ⟨I1.ok, I1.os, I1.bare, ⟨I1.base.keep, I1.base.slot, fun b ob e n hx => ?_, I1.base.there, fun b xs e => up _ _ (I1.base.tups b xs e), fun b ob x e => up _ _ (I1.base.frzs b ob x e), fun b ps e => ?_⟩, I1.loc, I1.cell, ?_, fun x c e => ?_, fun p hp => ?_, fun b u e => ?_, I1.len⟩
  · exact non b (I.base.free b ob e n hx) (I1.base.free b ob e n hx)
  · obtain ⟨m, q⟩ := I1.base.tbls b ps e
    exact ⟨m, up _ _ q⟩
  · exact non _ I.free I1.free
  · exact non _ (I.freeC x c e) (I1.freeC x c e)
  · have hp' : p ∈ X.pn ++ (pins ++ pinsAt F s.heap) := (List.mem_append.mp hp).elim (fun z => List.mem_append_left _ z) fun z => List.mem_append_right _ (List.mem_append_left _ z)
    obtain ⟨e, n, r⟩ := I1.pin p hp'
    exact ⟨e, non _ (I.pin p hp).2.1 n, r⟩
  · by_cases h : b ∈ F
    · rw [jn_in h] at e
      refine objok_fg o h e (I.hok b u e) (fun c hcF q hq => ?_) allO fun c xs q => allT _ _ q
      obtain ⟨ob, e1, e2, _⟩ := pinF c hcF
      rw [e1] at hq; cases hq
      exact e2
    · rw [jn_out h] at e
      exact (I1.hok b u e).stay (fun c v _ q => q) (fun c q => up _ _ q) fun c xs q => up _ _ q
theorem remember (I : Inv X pins σ0 H s) (o : Fo H F) (I1 : Inv X (pins ++ pinsAt F s.heap) σ H1 s1) (sm : Same (mn H F) H1) : Inv X pins σ (jn H F H1) s1 := rememberT I o I1 (Same.tk sm)
theorem jn_get (I : Inv X (pins ++ pinsAt F s.heap) σ H1 s1) (hF : ∀ f ∈ F, ∃ o, s.heap.get? f = some o) : ∀ f ∈ F, H1 f = none := fun f hf => by
  obtain ⟨o, e⟩ := hF f hf
  exact (I.pin (f, o) (List.mem_append_right _ (List.mem_append_right _ (mem_pinsAt hf e)))).2.1
end
/-- behind what only looks: what was forgotten stands, the rest has grown -/
structure Bh (H : Hp) (F : List Addr) (H1 H' : Hp) : Prop where
  is : H' = jn H F H1
  non : ∀ f ∈ F, H1 f = none
  sm : Same (mn H F) H1
theorem Bh.mn {H H1 H' : Hp} {F : List Addr} (b : Bh H F H1 H') : mn H' F = H1 := funext fun a => by
  by_cases h : a ∈ F
  · rw [mn_in h, b.non a h]
  · rw [mn_out h, b.is, jn_out h]
theorem Bh.at {H H1 H' : Hp} {F : List Addr} (b : Bh H F H1 H') {f : Addr} (h : f ∈ F) : H' f = H f := by rw [b.is, jn_in h]
theorem Bh.chg {H H1 H' : Hp} {F : List Addr} (b : Bh H F H1 H') : Chg H F H' F := by
  show Same (Pr.mn H F) (Pr.mn H' F)
  rw [b.mn]; exact b.sm
theorem Bh.all {H H1 H' : Hp} {F : List Addr} (b : Bh H F H1 H') : Same H H' := fun a o h => by
  by_cases f : a ∈ F
  · rw [b.at f]; exact h
  · rw [b.is, jn_out f]; exact b.sm a o (by rw [mn_out f]; exact h)
section
variable {X : Cx} {e : Expr} {es : List Expr} {st : Stmt} {sts : List Stmt}
theorem bh_of {pins : List (Addr × Obj)} {σ σ1 : L2.St} {H H1 : Hp} {s s1 : Shared} {F : List Addr} (I : Inv X pins σ H s) (o : Fo H F) (I1 : Inv X (pins ++ pinsAt F s.heap) σ1 H1 s1) (sm : Same (mn H F) H1) : Bh H F H1 (jn H F H1) :=
  ⟨rfl, jn_get I1 fun f hf => let ⟨ob, e, _⟩ := fg_obj I (o.all f hf); ⟨ob, e⟩, sm⟩
def fE (t : TE) : TE := fun σ H Q => ∃ F, Fo H F ∧ t σ (mn H F) fun v H1 => Same (mn H F) H1 ∧ ∀ H', Bh H F H1 H' → Q v H'
def fT (t : TT) : TT := fun σ H Q => ∃ F, Fo H F ∧ t σ (mn H F) fun v H1 => Same (mn H F) H1 ∧ ∀ H', Bh H F H1 H' → Q v H'
def fA (t : TA) : TA := fun σ H Q => ∃ F, Fo H F ∧ t σ (mn H F) fun v H1 => Same (mn H F) H1 ∧ ∀ H', Bh H F H1 H' → Q v H'
def fEnds (H : Hp) (F : List Addr) (D : Ends) : Ends := ⟨fun σ H1 => Same (mn H F) H1 ∧ ∀ H', Bh H F H1 H' → D.nx σ H', fun v H1 => Same (mn H F) H1 ∧ ∀ H', Bh H F H1 H' → D.rt v H', fun σ H1 => Same (mn H F) H1 ∧ ∀ H', Bh H F H1 H' → D.bk σ H', fun σ H1 => Same (mn H F) H1 ∧ ∀ H', Bh H F H1 H' → D.ct σ H'⟩
def fS (t : TS) : TS := fun D σ H => ∃ F, Fo H F ∧ t (fEnds H F D) σ (mn H F)
def fI (t : TI) : TI := fun σ H R => ∃ F, Fo H F ∧ t σ (mn H F) fun J H1 => Same (mn H F) H1 ∧ ∀ H', Bh H F H1 H' → R J H'
theorem PE_frame {t : TE} (h : PE X e t) : PE X e (fE t) := ⟨fun pins s σ H Q I ⟨F, o, q⟩ => thn (h.run _ s σ _ _ (forget I o) q) fun u s1 ⟨v, H1, I1, r, sm, q⟩ =>
  ⟨v, _, remember I o I1 sm, r, q _ (bh_of I o I1 sm)⟩⟩
theorem PT_frame {t : TT} (h : PT X e t) : PT X e (fT t) := ⟨fun pins s σ H Q I ⟨F, o, q⟩ => thn (h.run _ s σ _ _ (forget I o) q) fun u s1 ⟨H1, I1, sm, q⟩ =>
  ⟨_, remember I o I1 sm, q _ (bh_of I o I1 sm)⟩⟩
theorem PA_frame {t : TA} (h : PA X es t) : PA X es (fA t) := ⟨fun pos pins s σ H Q I ⟨F, o, q⟩ => thn (h.run pos _ s σ _ _ (forget I o) q) fun u s1 ⟨v, H1, I1, r, sm, q⟩ =>
  ⟨v, _, remember I o I1 sm, r, q _ (bh_of I o I1 sm)⟩⟩
theorem sp_frame {pins : List (Addr × Obj)} {σ : L2.St} {H : Hp} {s : Shared} {F : List Addr} {D : Ends} (I : Inv X pins σ H s) (o : Fo H F) {f : Flow} {s1 : Shared} (q : SP X (pins ++ pinsAt F s.heap) (fEnds H F D) f s1) : SP X pins D f s1 := by
  cases f with
  | next => obtain ⟨σ', H', I1, sm, q⟩ := q; exact ⟨σ', _, remember I o I1 sm, q _ (bh_of I o I1 sm)⟩
  | brk => obtain ⟨σ', H', I1, sm, q⟩ := q; exact ⟨σ', _, remember I o I1 sm, q _ (bh_of I o I1 sm)⟩
  | cont => obtain ⟨σ', H', I1, sm, q⟩ := q; exact ⟨σ', _, remember I o I1 sm, q _ (bh_of I o I1 sm)⟩
  | ret v => obtain ⟨x, σ', H', I1, r, sm, q⟩ := q; exact ⟨x, σ', _, remember I o I1 sm, r, q _ (bh_of I o I1 sm)⟩
theorem PS_frame {t : TS} (h : PS X st t) : PS X st (fS t) := ⟨fun pins s σ H D I ⟨F, o, q⟩ => thn (h.run _ s σ _ _ (forget I o) q) fun f s1 q => sp_frame I o q⟩
theorem PSs_frame {t : TS} (h : PSs X sts t) : PSs X sts (fS t) := ⟨fun pins s σ H D I ⟨F, o, q⟩ => thn (h.run _ s σ _ _ (forget I o) q) fun f s1 q => sp_frame I o q⟩
theorem PI_frame {tg : Expr} {t : TI} (h : PI X tg e t) : PI X tg e (fI t) := ⟨fun pins s σ H R I ⟨F, o, q⟩ => thn (h.run _ s σ _ _ (forget I o) q) fun u s1 z => thn z fun itv s2 ⟨it, fp, tn, J, H1, e1, I1, T, st, f, sm, q⟩ => by
  have b := bh_of I o I1 sm
  have nF : ∀ x ∈ fp, x ∉ F := fun x hx hF => by
    obtain ⟨ob, e2, _⟩ := fg_obj I (o.all x hF)
    exact (f x hx).2.2.2.2.2 (x, ob) (List.mem_append_right _ (List.mem_append_right _ (mem_pinsAt hF e2))) rfl
  refine ⟨it, fp, tn, J, _, e1, remember I o I1 sm, T, st, fun x hx => ?_, q _ b⟩
  obtain ⟨f0, f1, f2, f3, f4, f5⟩ := f x hx
  exact ⟨by rw [jn_out (nF x hx)]; exact f0, f1, f2, f3, f4, fun p hp => f5 p ((List.mem_append.mp hp).elim (fun z => List.mem_append_left _ z) fun z => List.mem_append_right _ (List.mem_append_left _ z))⟩⟩

def fG (t : TG) : TG := fun v σ H Q => ∃ F, Fo H F ∧ t v σ (mn H F) fun σ' H1 => Same (mn H F) H1 ∧ ∀ H', Bh H F H1 H' → Q σ' H'
theorem PG_frame {tg : Expr} {t : TG} (h : PG X tg t) : PG X tg (fG t) := ⟨fun pins s σ H v u Q I r ⟨F, o, q⟩ => thn (h.run _ s σ _ v u _ (forget I o) r q) fun _ s1 ⟨σ', H1, I1, sm, q⟩ =>
  ⟨σ', _, remember I o I1 sm, q _ (bh_of I o I1 sm)⟩⟩

/-! ### by data -/
variable {δ δ' : De} {d : Dt} {k : Bool} {ds : List Dt} {ps : List PyData}
/-- e's data, while the addresses of F are kept -/
def mD (K : PySem.W.Frag) (δ : De) (d : Dt) : TE := fun σ H Q => ∃ F, Fo H F ∧ EnvD K σ (mn H F) δ ∧ ∀ v H1 H', Bh H F H1 H' → Rp K H1 v d → Q v H'
def mN (K : PySem.W.Frag) (δ : De) (ps : List PyData) : TE := fun σ H Q => ∃ F, Fo H F ∧ EnvD K σ (mn H F) δ ∧ ∀ p vs H1 H', mn H F p = none → Bh H F H1 H' → H1 p = some (.lst vs) → DpAll K H1 vs ps → Q (.ref p) H'
def mC (K : PySem.W.Frag) (δ : De) (k : Bool) : TT := fun σ H Q => ∃ F, Fo H F ∧ EnvD K σ (mn H F) δ ∧ ∀ H1 H', Bh H F H1 H' → Q k H'
def mA (K : PySem.W.Frag) (δ : De) (ds : List Dt) : TA := fun σ H Q => ∃ F, Fo H F ∧ EnvD K σ (mn H F) δ ∧ ∀ vs H1 H', Bh H F H1 H' → RpAll K H1 vs ds → Q vs H'
def mS (K : PySem.W.Frag) (δ δ' : De) : TS := fun D σ H => ∃ F, Fo H F ∧ EnvD K σ (mn H F) δ ∧ ∀ σ' H1 H', Bh H F H1 H' → EnvD K σ' H1 δ' → D.nx σ' H'
theorem m_D (h : PE X e (tD X.K δ d)) : PE X e (mD X.K δ d) := PE_imp (PE_frame h) fun σ H Q ⟨F, o, E, q⟩ => ⟨F, o, E, fun v H1 s r => ⟨s, fun H' b => q v H1 H' b r⟩⟩
theorem m_N (h : PE X e (tN X.K δ ps)) : PE X e (mN X.K δ ps) := PE_imp (PE_frame h) fun σ H Q ⟨F, o, E, q⟩ => ⟨F, o, E, fun p vs H1 hp s hl r => ⟨s, fun H' b => q p vs H1 H' hp b hl r⟩⟩
theorem m_C (h : PT X e (cD X.K δ k)) : PT X e (mC X.K δ k) := PT_imp (PT_frame h) fun σ H Q ⟨F, o, E, q⟩ => ⟨F, o, E, fun H1 s => ⟨s, fun H' b => q H1 H' b⟩⟩
theorem m_A (h : PA X es (aD X.K δ ds)) : PA X es (mA X.K δ ds) := PA_imp (PA_frame h) fun σ H Q ⟨F, o, E, q⟩ => ⟨F, o, E, fun vs H1 s r => ⟨s, fun H' b => q vs H1 H' b r⟩⟩
theorem m_S (h : PS X st (sN X.K δ δ')) : PS X st (mS X.K δ δ') := PS_imp (PS_frame h) fun D σ H ⟨F, o, E, q⟩ => ⟨F, o, E, fun σ' H1 s E' => ⟨s, fun H' b => q σ' H1 H' b E'⟩⟩
end
end Pr
set_option maxHeartbeats 4000000
/-! Wh: the bodies of __init__. -/
namespace Pr
open PySem PySem.Spec PyProof.Rows L2

theorem mn_slH {H : Hp} {a C dx : Addr} {vs : List (Option V)} {F : List Addr} (h1 : a ∈ F) (h2 : dx ∈ F) : mn (SlX.slH H a C dx vs) F = mn H F := by
  unfold SlX.slH
  rw [mn_upd h1, mn_upd h2]
theorem fo_bare {H : Hp} {x dx C : Addr} (h1 : H x = some (.ins C dx [])) (h2 : H dx = some (.own x)) : Fo H [x, dx] := by
  refine ⟨fun f hf => ?_, fun f hf y hy => ?_, fun f hf C' d' fs hc => ?_⟩ <;> rcases List.mem_cons.mp hf with e | hf
  · subst e; exact .inr (.inr (.inr (.inr (.inr (.inl ⟨_, _, _, h1⟩)))))
  · have e := List.mem_singleton.mp hf; subst e; exact .inr (.inr (.inr (.inr (.inr (.inr ⟨_, _, _, h2, h1⟩)))))
  · subst e; rw [h1] at hy; cases hy
  · have e := List.mem_singleton.mp hf; subst e; rw [h2] at hy; cases hy; simp
  · subst e; rw [h1] at hc; cases hc; simp
  · have e := List.mem_singleton.mp hf; subst e; rw [h2] at hc; cases hc
/-- within __init__: the bare instance x, its dict dx, owned -/
structure Ini (K : PySem.W.Frag) (c : Str) (δ : De) (x dx : Addr) (σ : L2.St) (H : Hp) : Prop where
  s0 : σ[0]? = some (some (.ref x))
  hx : H x = some (.ins (ga K c) dx [])
  hd : H dx = some (.own x)
  ne : dx ≠ x
  env : EnvD K σ (mn H [x, dx]) δ
theorem Ini.bh {K : PySem.W.Frag} {c : Str} {δ δ' : De} {x dx : Addr} {σ σ' : L2.St} {H H1 H' : Hp} (I : Ini K c δ x dx σ H) (b : Bh H [x, dx] H1 H') (E : EnvD K σ' H1 δ') (h0 : σ'[0]? = σ[0]?) : Ini K c δ' x dx σ' H' :=
  ⟨h0.trans I.s0, (b.at (by simp)).trans I.hx, (b.at (by simp)).trans I.hd, I.ne, by rw [b.mn]; exact E⟩
/-- a body's rest within __init__ that ends with the slots fs -/
def iS (K : PySem.W.Frag) (c : Str) (δ : De) (fs : List Dt) : TS := fun D σ H => ∃ x dx, Ini K c δ x dx σ H ∧
  ∀ (σ' : L2.St) (H' : Hp) (us : List V), Chg H [x, dx] H' [x, dx] → SlX.Slt H' x (ga K c) dx (us.map some) → RpAll K (mn H' [x, dx]) us fs → D.nx σ' H'
section
variable {X : Cx} {c : Str} {δ δw : De} {e tg iter : Expr} {es : List Expr} {st : Stmt} {body rest : List Stmt} {fs ds : List Dt} {k : Bool} {pos : Pos} {is : List Nat}
/-- a test that is not so: the slots stay -/
def kS (K : PySem.W.Frag) (δ : De) : TS := fun D σ H => EnvD K σ H δ ∧ ∀ H', Same H H' → D.nx σ H'
theorem k_ifno (hc : PT X e (cD X.K δ false)) : PS X (.If e body [] pos) (kS X.K δ) := PS_imp (ps_if hc pss_never pss_nil) fun D σ H ⟨E, q⟩ => ⟨E, fun H' s => q H' s⟩
theorem k_one (h : PS X st (kS X.K δ)) : PSs X [st] (kS X.K δ) := pss_one h
/-- a loop that only tests -/
def aS (K : PySem.W.Frag) (δ δw : De) (is : List Nat) : TS := fun D σ H => EnvD K σ H δ ∧ ∀ σ' H', Same H H' → EnvD K σ' H' δw → Agr is σ σ' → D.nx σ' H'
theorem Agr.trans' {is : List Nat} {σ σ1 σ2 : L2.St} (a : Agr is σ σ1) (b : Agr is σ1 σ2) : Agr is σ σ2 := ⟨b.1.trans a.1, fun j hj => (b.2 j hj).trans (a.2 j hj)⟩
def kX {α : Type} (K : PySem.W.Frag) (l : List α) (δ' : α → De) : TS := fun D σ H => ∃ p ∈ l, kS K (δ' p) D σ H
theorem a_for {α : Type} {l : List α} {ι : α → PyData} {δ' : α → De} (hp : PassesOwn (model X.prog X.w) X.A X.env X.xe) (hc : X.calm = true) (hi : PI X tg iter (iD X.K δ (l.map ι))) (hw : ∀ σ H, EnvD X.K σ H δ → EnvD X.K σ H δw) (hg : ∀ p ∈ l, PG X tg (gD X.K δw (.p (ι p)) is (δ' p))) (hb : ∀ p ∈ l, PSs X body (kS X.K (δ' p)))
    (hw2 : ∀ p ∈ l, ∀ σ H, EnvD X.K σ H (δ' p) → EnvD X.K σ H δw)
    (hs : ∀ x, foldedSetIterable iter X.env x = pure x := by intro _; rfl) : PS X (.For tg iter body [] pos) (aS X.K δ δw is) :=
  PS_imp (ps_for hp hc hi (gX_of hg) (⟨fun pins s σ H D I ⟨p, hp, q⟩ => (hb p hp).run pins s σ H D I q⟩ : PSs X body (kX X.K l δ')) hs) fun D σ H ⟨E, q⟩ => ⟨E, fun J H1 s1 w => by
    refine for_it w (fun i σ' H' => Same H1 H' ∧ EnvD X.K σ' H' δw ∧ Agr is σ σ') ⟨Same.refl _, hw _ _ (E.mono s1), Agr.refl _ _⟩ (fun i σ' H' _ h => h.1) (fun i x σ' H' H2 hlt ⟨s2, E2, ag⟩ ⟨s3, hx⟩ => ?_) fun σ' H' ⟨s2, E2, ag⟩ => q σ' H' (s1.trans s2) E2 ag
    rw [List.length_map] at hlt
    have hpp : l[i]? = some l[i] := List.getElem?_eq_getElem hlt
    have hm : l[i] ∈ l := List.getElem_mem hlt
    generalize l[i] = p at hpp hm
    exact ⟨p, hm, E2.mono s3, .p (hx (ι p) (by rw [List.getElem?_map, hpp]; rfl)), fun σ2 E3 ag2 => ⟨p, hm, E3, fun H4 s4 => ⟨(s2.trans s3).trans s4, hw2 p hm _ _ (E3.mono s4), ag.trans' ag2⟩⟩⟩⟩
theorem i_if (hc : PT X e (cD X.K δ false)) (hr : PSs X rest (iS X.K c δ fs)) : PSs X (.If e body [] pos :: rest) (iS X.K c δ fs) :=
  PSs_imp (pss_cons (PS_frame (k_ifno hc)) hr) fun D σ H ⟨x, dx, I, q⟩ => ⟨[x, dx], fo_bare I.hx I.hd, I.env, fun H1 s => ⟨s, fun H' b => ⟨x, dx, I.bh b (I.env.mono s) rfl, fun σ2 H2 us c2 => q σ2 H2 us (b.chg.trans c2)⟩⟩⟩
theorem i_loop (h : PS X st (aS X.K δ δw is)) (h0 : 0 ∉ is) (hr : PSs X rest (iS X.K c δw fs)) : PSs X (st :: rest) (iS X.K c δ fs) :=
  PSs_imp (pss_cons (PS_frame h) hr) fun D σ H ⟨x, dx, I, q⟩ => ⟨[x, dx], fo_bare I.hx I.hd, I.env, fun σ' H1 s E ag => ⟨s, fun H' b => ⟨x, dx, I.bh b E (ag.2 0 h0), fun σ2 H2 us c2 => q σ2 H2 us (b.chg.trans c2)⟩⟩⟩
/-- self.f = .. -/
def gF (K : PySem.W.Frag) (c : Str) (i : Nat) : TG := fun y σ H Q => ∃ x dx ws, σ[0]? = some (some (.ref x)) ∧ SlX.Slt H x (ga K c) dx ws ∧ Q σ (SlX.slH H x (ga K c) dx (SlX.putS i y ws))
theorem g_fld {f xs : Str} {i : Nat} {p : Pos} (S : SlF X.K c f i) (hN : X.N[0]? = some xs := by rfl) (hv : Vis X.env.scope xs := by first | exact Or.inl rfl | exact Or.inr (Or.inl rfl) | exact Or.inr (Or.inr rfl))
    (h1 : (xs == ("__debug__" : Str)) = false := by decide) (h2 : (xs == ("__classdict__" : Str)) = false := by decide) : PG X (.Attribute (.Name xs p) f pos) (gF X.K c i) :=
  PG_imp (pg_sl (pe_var hN hv h1 h2)) fun v σ H Q ⟨x, dx, ws, h0, sl, q⟩ => by
    obtain ⟨pd, hp⟩ := S.sl
    exact ⟨.ref x, h0, x, _, dx, pd, ws, i, rfl, sl, S.cl, hp, q⟩
/-- the slots set one behind another -/
def gFs (K : PySem.W.Frag) (c : Str) (l : List Nat) : TGs := fun vs σ H Q => ∃ x dx ws, σ[0]? = some (some (.ref x)) ∧ dx ≠ x ∧ SlX.Slt H x (ga K c) dx ws ∧ vs.length = l.length ∧ l ≠ [] ∧ Q σ (SlX.slH H x (ga K c) dx ((l.zip vs).foldl (fun ws p => SlX.putS p.1 p.2 ws) ws))
def gFs0 (K : PySem.W.Frag) (c : Str) (l : List Nat) : TGs := fun vs σ H Q => ∃ x dx ws, σ[0]? = some (some (.ref x)) ∧ dx ≠ x ∧ H = SlX.slH H x (ga K c) dx ws ∧ vs.length = l.length ∧ Q σ (SlX.slH H x (ga K c) dx ((l.zip vs).foldl (fun ws p => SlX.putS p.1 p.2 ws) ws))
theorem gf_nil : PGs X [] (gFs0 X.K c []) := PGs_imp pgs_nil fun vs σ H Q ⟨x, dx, ws, h0, ne, hH, hl, q⟩ => by
  have e : vs = [] := List.length_eq_zero_iff.mp hl
  subst e
  refine ⟨rfl, ?_⟩
  rw [hH]; exact q
theorem slH_self {H : Hp} {a C dx : Addr} {vs vs' : List (Option V)} (h : dx ≠ a) : SlX.slH H a C dx vs = SlX.slH (SlX.slH H a C dx vs') a C dx vs := (SlX.slH_twice h).symm
theorem gf_cons {i : Nat} {l : List Nat} (h1 : PG X e (gF X.K c i)) (h2 : PGs X es (gFs0 X.K c l)) (hs : (assignEach (e :: es) X.env).map (·.2) = assign e X.env :: (assignEach es X.env).map (·.2) := by rfl) : PGs X (e :: es) (gFs0 X.K c (i :: l)) :=
  PGs_imp (pgs_cons h1 h2 hs) fun vs σ H Q ⟨x, dx, ws, h0, ne, hH, hl, q⟩ => by
    cases vs with
    | nil => simp at hl
    | cons v vs =>
      refine ⟨v, vs, rfl, x, dx, ws, h0, by rw [hH]; exact SlX.slH_slt ne, x, dx, SlX.putS i v ws, h0, ne, slH_self ne, by simpa using hl, ?_⟩
      rw [SlX.slH_twice ne]; exact q
theorem gf_first {i : Nat} {l : List Nat} (h1 : PG X e (gF X.K c i)) (h2 : PGs X es (gFs0 X.K c l)) (hs : (assignEach (e :: es) X.env).map (·.2) = assign e X.env :: (assignEach es X.env).map (·.2) := by rfl) : PGs X (e :: es) (gFs X.K c (i :: l)) :=
  PGs_imp (pgs_cons h1 h2 hs) fun vs σ H Q ⟨x, dx, ws, h0, ne, sl, hl, _, q⟩ => by
    cases vs with
    | nil => simp at hl
    | cons v vs =>
      refine ⟨v, vs, rfl, x, dx, ws, h0, sl, x, dx, SlX.putS i v ws, h0, ne, slH_self ne, by simpa using hl, ?_⟩
      rw [SlX.slH_twice ne]; exact q
/-- self.f1, self.f2, .. = e1, e2, ..: the end of an __init__ -/
theorem i_end {ts : List Expr} {l : List Nat} {kt n : Nat} {k2 : Nat} {pt pt2 : Pos} (hc : X.calm = true) (ha : PA X es (aD X.K δ ds)) (hg : PGs X ts (gFs X.K c l)) (hl : l ≠ []) (hle : ds.length = l.length) (hn : ds.length = n) (h10 : ds.length ≤ 1000)
    (hu : ∀ vs : List V, vs.length = ds.length → ∃ us, (l.zip vs).foldl (fun ws p => SlX.putS p.1 p.2 ws) [] = us.map some ∧ ∀ (K : PySem.W.Frag) (H : Hp), RpAll K H vs ds → RpAll K H us fs)
    (hs : swapsWithSole [.Tuple ts kt pt] (.Tuple es k2 pt2) pos.line X.env = pure false := by rfl) (hw : swappedStores [.Tuple ts kt pt] (.Tuple es k2 pt2) X.env = pure none := by rfl)
    (h1 : (assignEach [.Tuple ts kt pt] X.env).map (·.2) = [assign (.Tuple ts kt pt) X.env] := by rfl) (hn2 : (assignEach ts X.env).length = n := by rfl) (hst : (assignEach ts X.env).findIdx? (·.1) = none := by rfl) :
    PSs X [.Assign [.Tuple ts kt pt] (.Tuple es k2 pt2) pos] (iS X.K c δ fs) :=
  PSs_imp (pss_one (ps_asg (pe_tup (PA_frame ha)) (pg_tup hc hg hn2 hst) hs hw h1)) fun D σ H ⟨x, dx, I, q⟩ => ⟨[x, dx], fo_bare I.hx I.hd, I.env, fun vs H1 s r => ⟨s, fun H' b => by
    have el := r.length
    refine ⟨Evl.sz_of (by omega), fun p hp => ?_⟩
    have nx : p ≠ x := fun e => by rw [e, b.at (by simp), I.hx] at hp; cases hp
    have nd : p ≠ dx := fun e => by rw [e, b.at (by simp), I.hd] at hp; cases hp
    obtain ⟨us, hus, hr⟩ := hu vs el
    refine ⟨p, vs, rfl, SqT.of upd_same, by omega, x, dx, [], I.s0, I.ne, .inl ⟨by rw [upd_ne (Ne.symm nx), b.at (by simp)]; exact I.hx, rfl⟩, by omega, hl, ?_⟩
    rw [hus]
    have e1 : mn (SlX.slH (upd H' p (.tup vs)) x (ga X.K c) dx (us.map some)) [x, dx] = upd H1 p (.tup vs) := by
      rw [mn_slH (by simp) (by simp), ← b.mn]
      funext a
      by_cases h : a = p
      · subst h; rw [mn_out (by simp [nx, nd]), upd_same, upd_same]
      · rw [upd_ne h]
        by_cases hF : a ∈ [x, dx]
        · rw [mn_in hF, mn_in hF]
        · rw [mn_out hF, mn_out hF, upd_ne h]
    have hp1 : H1 p = none := by rw [← b.mn, mn_out (by simp [nx, nd])]; exact hp
    refine q σ _ us ?_ (SlX.slH_slt I.ne) ?_
    · show Same (mn H [x, dx]) (mn _ [x, dx])
      rw [e1]; exact s.trans (same_new hp1)
    · rw [e1]; exact (hr _ _ r).mono (same_new hp1)⟩⟩
/-- self.f = e: the end of an __init__ of one slot -/
theorem i_set1 {d : Dt} {f xs : Str} {p p' : Pos} (S : SlF X.K c f 0) (he : PE X e (tD X.K δ d)) (hN : X.N[0]? = some xs := by rfl) (hv : Vis X.env.scope xs := by first | exact Or.inl rfl | exact Or.inr (Or.inl rfl) | exact Or.inr (Or.inr rfl))
    (h1 : (xs == ("__debug__" : Str)) = false := by decide) (h2 : (xs == ("__classdict__" : Str)) = false := by decide) (hs : swapsWithSole [.Attribute (.Name xs p) f p'] e pos.line X.env = pure false := by rfl) (hw : swappedStores [.Attribute (.Name xs p) f p'] e X.env = pure none := by rfl)
    (h3 : (assignEach [.Attribute (.Name xs p) f p'] X.env).map (·.2) = [assign (.Attribute (.Name xs p) f p') X.env] := by rfl) : PSs X [.Assign [.Attribute (.Name xs p) f p'] e pos] (iS X.K c δ [d]) :=
  PSs_imp (pss_one (ps_asg (PE_frame he) (g_fld S hN hv h1 h2) hs hw h3)) fun D σ H ⟨x, dx, I, q⟩ => ⟨[x, dx], fo_bare I.hx I.hd, I.env, fun v H1 s r => ⟨s, fun H' b => by
    refine ⟨x, dx, [], I.s0, .inl ⟨(b.at (by simp)).trans I.hx, rfl⟩, q σ _ [v] ?_ (SlX.slH_slt I.ne) ?_⟩
    · show Same (mn H [x, dx]) (mn _ [x, dx])
      rw [mn_slH (by simp) (by simp), b.mn]; exact s
    · rw [mn_slH (by simp) (by simp), b.mn]; exact .cons r .nil⟩⟩
end
section
variable {P : Program} {w : World} {K : PySem.W.Frag} {mg : Str → Option Value} {base : Heap} {k : Nat} {f : Addr} {qual c : Str} {st : Stmt} {N ps : List Str}
theorem fnR_I {R : RI} (F : FnAt K qual st f) (S : FnScope N ps (defScope st)) (B : BindAt st ps) (hl : ∀ ds fs, R ds fs → ds.length + 1 = ps.length)
    (hbody : ∀ (cdv : Value) (A : Around) (outer : List Env) (s : Shared) (H : Hp) (E : XK), Room k (A.deeper (envOfC qual (defScope st) s.heap.objs.size f cdv)) → ∀ ds fs, R ds fs →
      PSs (cxOf CX0 P w K mg base N qual (defScope st) f cdv A outer s H E).nox (defBody st) (iS K c (none :: (ds.map some ++ List.replicate (N.length - 1 - ds.length) none)) fs)) : FnR P w K mg base CX0 (k + 1) f (spI K c R) := by
  refine fnR_of F S B (fun vs H Q E ⟨x, dx, ws, ds, fs, e, _, _, _, r, h, _⟩ => by rw [e, List.length_cons, r.length]; exact hl ds fs h) fun cdv A outer s H vs Q E hr ⟨x, dx, ws, ds, fs, e, h1, h2, ne, r, h, q⟩ => ⟨_, (hbody cdv A outer s H E hr ds fs h).nox, ?_⟩
  have hpl : ps.length ≤ N.length := by have := congrArg List.length S.pre; rw [List.length_take] at this; omega
  have hh := hl ds fs h
  have el := r.length
  subst e
  refine ⟨x, dx, ⟨rfl, h1, h2, ne, ⟨?_, fun i d hd => ?_⟩⟩, fun σ' H' us c sl rr => q H' us c sl rr⟩
  · unfold L2.start
    simp only [List.length_append, List.length_map, List.length_cons, List.length_replicate]
    omega
  · cases i with
    | zero => simp at hd
    | succ i =>
      rw [List.getElem?_cons_succ] at hd
      have hi : i < ds.length := by
        by_cases hi : i < ds.length
        · exact hi
        · rw [List.getElem?_append_right (by rw [List.length_map]; omega), List.getElem?_replicate] at hd
          split at hd <;> cases hd
      rw [List.getElem?_append_left (by rw [List.length_map]; exact hi), List.getElem?_map] at hd
      cases q : ds[i]? with
      | none => rw [q] at hd; cases hd
      | some d' =>
        rw [q] at hd
        have h' : d' = d := Option.some.inj (Option.some.inj hd)
        subst h'
        obtain ⟨v, a, b⟩ := r.get q
        refine ⟨v, ?_, b⟩
        unfold L2.start
        rw [List.map_cons, List.cons_append, List.getElem?_cons_succ, List.getElem?_append_left (by rw [List.length_map]; omega), List.getElem?_map, a]
        rfl
end
end Pr
set_option maxHeartbeats 4000000
/-! W2: readers, bit_at, Word. -/
namespace Pr
open PySem PySem.Spec PyProof.Rows L2
variable {P : Program} {w : World} {K : PySem.W.Frag} {mg : Str → Option Value} {base : Heap}
def rdNames : List Str := ["turns", "others", "rounds", "suns", "moons"]
def opNames : List Str := ["and", "or", "unlike"]
theorem rp_READERS (T : Tx K mg) (H : Hp) : Rp K H (.ref (ga K "READERS")) (.t (rdNames.map .str)) := .p (.tup (T.t_READERS.2 H) (fun z => nomatch z) (.cons (.str _) (.cons (.str _) (.cons (.str _) (.cons (.str _) (.cons (.str _) .nil))))))
theorem rp_PAIRS (T : Tx K mg) (H : Hp) : Rp K H (.ref (ga K "PAIRS")) (.t (opNames.map .str)) := .p (.tup (T.t_PAIRS.2 H) (fun z => nomatch z) (.cons (.str _) (.cons (.str _) (.cons (.str _) .nil))))
def rdReader : RD := fun ds d => ∃ z : Str, z ∈ rdNames ∧ ds = [.s z] ∧ d = .b true
theorem f1_is_reader (T : Tx K mg) : FnR P w K mg base CX0 1 (ga K "is_reader") (spD K rdReader) :=
  fnR_D T.f_is_reader sc_is_reader bn_is_reader (fun ds d ⟨n, _, h, _⟩ => by rw [h]; rfl) fun cdv A outer s H E hr ds d ⟨z, h0, h, h2⟩ => by
    subst h h2
    exact q_retE (d_and (d_isi (k := true) rfl T.b_isinstance rfl T.b_str boot_str kt_ss (d_var 0 rfl)) fun _ => d_one (d_inT (zs := rdNames) (d_var 0 rfl) (d_glob (v := .ref (ga K "READERS")) rfl T.t_READERS.1 rfl (rp_READERS T)))) (by simpa using h0)
def bitAt (e a : List Bool) (x : Nat) : Bool := if x < e.length then e.getD x false else a.getD ((x - e.length) % a.length) false
theorem atI_nat {α : Type} {xs : List α} {n : Nat} (h : n < xs.length) : atI xs (n : Int) = some xs[n] := by
  unfold atI ixN
  rw [if_pos (by omega), if_pos (by omega)]
  simp [h]
theorem getD_lt {l : List Bool} {n : Nat} (h : n < l.length) : l.getD n false = l[n] := by simp [h]
def rdBitAt : RD := fun ds d => ∃ (e a : List Bool) (x : Nat), e.length ≤ 100 ∧ a.length ≤ 100 ∧ a ≠ [] ∧ ds = [.s (bitS e), .s (bitS a), .i x] ∧ d = .b (bitAt e a x)
theorem f1_bit_at (T : Tx K mg) : FnR P w K mg base CX0 1 (ga K "bit_at") (spD K rdBitAt) :=
  fnR_D T.f_bit_at sc_bit_at bn_bit_at (fun ds d ⟨_, _, _, _, _, _, h, _⟩ => by rw [h]; rfl) fun cdv A outer s H E hr ds d ⟨e, a, x, he, ha, hne, h, h2⟩ => by
    subst h h2
    have ha0 : 0 < a.length := List.length_pos_iff.mpr hne
    have hu := room_u hr
    have he2 : (bitS e).length ≤ 100000 := by rw [bitS_len]; omega
    have ha2 : (bitS a).length ≤ 100000 := by rw [bitS_len]; omega
    refine q_if (c_lt (d_var 2 rfl) (d_lenS he2 rfl T.b_len (a_cons (d_var 0 rfl) a_nil))) (fun hk => ?_) (fun hk => ?_)
    · have hx : x < e.length := by have := of_decide_eq_true hk; rw [bitS_len] at this; omega
      refine q_retE (d_eq hu sgn_ok (sh_str (by decide +kernel)) (d_ixS (n := sgn e[x]) he2 ?_ (d_var 0 rfl) (d_var 2 rfl)) d_str) ?_
      · rw [bitS_cps, atI_nat (by simpa using hx)]; simp
      · rw [sgn_one]; unfold bitAt; rw [if_pos hx, getD_lt hx]
    · have hx : ¬ x < e.length := by have := of_decide_eq_false hk; rw [bitS_len] at this; omega
      have hm : (x - e.length) % a.length < a.length := Nat.mod_lt _ ha0
      refine q_retE (d_eq hu sgn_ok (sh_str (by decide +kernel)) (d_ixS (n := sgn a[(x - e.length) % a.length]) ha2 ?_ (d_var 1 rfl) (d_mod (by rw [bitS_len]; omega) (d_sub (d_var 2 rfl) (d_lenS he2 rfl T.b_len (a_cons (d_var 0 rfl) a_nil))) (d_lenS ha2 rfl T.b_len (a_cons (d_var 1 rfl) a_nil)))) d_str) ?_
      · rw [bitS_cps, bitS_len, bitS_len, show ((x : Int) - (e.length : Nat)) % (a.length : Nat) = (((x - e.length) % a.length : Nat) : Int) by rw [Int.natCast_emod]; congr 1; omega, atI_nat (by simpa using hm)]; simp
      · rw [sgn_one]; unfold bitAt; rw [if_neg hx, getD_lt hm]
/-! Word -/
def wordF (e a : List Bool) : List Dt := [.s (bitS a), .s (bitS e)]
def riWord : RI := fun ds fs => ∃ e a : List Bool, e.length ≤ 100 ∧ a.length ≤ 100 ∧ a ≠ [] ∧ ds = [.s (bitS e), .s (bitS a)] ∧ fs = wordF e a
theorem bitS_ne {l : List Bool} (h : l ≠ []) : PyData.eqv (.str (bitS l)) (.str "") = false := by
  cases l with
  | nil => exact absurd rfl h
  | cons b l =>
    rw [eqv_str]
    apply beq_eq_false_iff_ne.mpr
    intro e
    have := congrArg Str.length e
    rw [bitS_len] at this
    have e2 : ("" : Str).length = 0 := by decide +kernel
    rw [e2, List.length_cons] at this; omega
theorem f2_Word_init (T : Tx K mg) : FnR P w K mg base CX0 2 (ma K "Word" "__init__") (spI K "Word" riWord) :=
  fnR_I T.f_Word_init sc_Word_init bn_Word_init (fun ds fs ⟨_, _, _, _, _, h, _⟩ => by rw [h]; rfl) fun cdv A outer s H E hr ds fs ⟨e, a, he, ha, hne, h, h2⟩ => by
    subst h h2
    have hu := room_u hr
    refine i_if (c_eqv (c_not (c_val (d_call (f1_are_bits T) hr rfl T.g_are_bits T.f_are_bits.kp ⟨e, he, rfl, rfl⟩ (a_cons (d_var 1 rfl) a_nil)))) rfl) ?_
    refine i_if (c_eqv (PW.pt (w_or (c_not (c_val (d_call (f1_are_bits T) hr rfl T.g_are_bits T.f_are_bits.kp ⟨a, ha, rfl, rfl⟩ (a_cons (d_var 2 rfl) a_nil)))) fun _ => w_or1 (c_eq hu (sh_str strOk_bitS) (sh_str (by decide +kernel)) (d_var 2 rfl) d_str))) (by rw [bitS_ne hne]; rfl)) ?_
    exact i_end (l := [1, 0]) rfl (a_cons (d_var 1 rfl) (a_cons (d_var 2 rfl) a_nil)) (gf_first (g_fld T.s_Word_its_early) (gf_cons (g_fld T.s_Word_its_again) gf_nil)) (by simp) rfl rfl (by simp)
      (fun vs hv => match vs, hv with | [x, y], _ => ⟨[y, x], rfl, fun K H r => by cases r with | cons r1 r => cases r with | cons r2 r => cases r; exact .cons r2 (.cons r1 .nil)⟩)
def rdFld (c : Str) (n : Nat) : RD := fun ds d => ∃ fs, ds = [.ob c fs] ∧ fs[n]? = some d
theorem f1_Word_early (T : Tx K mg) : FnR P w K mg base CX0 1 (recAd K "property" "Word" "early") (spD K (rdFld "Word" 1)) :=
  fnR_D T.f_Word_early sc_Word_early bn_Word_early (fun ds d ⟨_, h, _⟩ => by rw [h]; rfl) fun cdv A outer s H E hr ds d ⟨fs, h, h2⟩ => by
    subst h
    exact q_retD (d_fld T.s_Word_its_early h2 (d_var 0 rfl))
theorem f1_Word_again (T : Tx K mg) : FnR P w K mg base CX0 1 (recAd K "property" "Word" "again") (spD K (rdFld "Word" 0)) :=
  fnR_D T.f_Word_again sc_Word_again bn_Word_again (fun ds d ⟨_, h, _⟩ => by rw [h]; rfl) fun cdv A outer s H E hr ds d ⟨fs, h, h2⟩ => by
    subst h
    exact q_retD (d_fld T.s_Word_its_again h2 (d_var 0 rfl))

/-! ### parts of rules -/
inductive Pt where
  | always (b : Bool)
  | no (p : Pt)
  | two (o : Fin 3) (p q : Pt)
  | word (r : Fin 5) (e a : List Bool)
def opN (o : Fin 3) : Str := opNames.getD o.1 ""
def rdN (r : Fin 5) : Str := rdNames.getD r.1 ""
def Pt.data : Pt → PyData
  | .always b => .tuple [.str "always", .bool b]
  | .no p => .tuple [.str "not", p.data]
  | .two o p q => .tuple [.str (opN o), p.data, q.data]
  | .word r e a => .tuple [.str (rdN r), .str (bitS e), .str (bitS a)]
def Pt.deep : Pt → Nat
  | .always _ => 0
  | .no p => p.deep + 1
  | .two _ p q => max p.deep q.deep + 1
  | .word _ _ _ => 0
def Pt.ok : Pt → Prop
  | .always _ => True
  | .no p => p.ok
  | .two _ p q => p.ok ∧ q.ok
  | .word _ e a => e.length ≤ 100 ∧ a.length ≤ 100 ∧ a ≠ []
def opT (o : Fin 3) (x y : Bool) : Bool := match o with
  | 0 => x && y
  | 1 => x || y
  | 2 => x != y
def Pt.truth (n : Fin 5 → Nat) : Pt → Bool
  | .always b => b
  | .no p => !p.truth n
  | .two o p q => opT o (p.truth n) (q.truth n)
  | .word r e a => bitAt e a (n r)
theorem opN_ok (o : Fin 3) : PyData.strOk (opN o) = true ∧ (opN o == "always") = false ∧ (opN o == "not") = false ∧ (opNames.any fun y => y == opN o) = true := by
  match o with
  | 0 => decide +kernel
  | 1 => decide +kernel
  | 2 => decide +kernel
theorem rdN_ok (r : Fin 5) : PyData.strOk (rdN r) = true ∧ (rdN r == "always") = false ∧ (rdN r == "not") = false ∧ (opNames.any fun y => y == rdN r) = false ∧ rdN r ∈ rdNames := by
  match r with
  | 0 => decide +kernel
  | 1 => decide +kernel
  | 2 => decide +kernel
  | 3 => decide +kernel
  | 4 => decide +kernel
end Pr
set_option maxHeartbeats 4000000
/-! W3: are_parts, truth_of, Rule. -/
namespace Pr
open PySem PySem.Spec PyProof.Rows L2
variable {P : Program} {w : World} {K : PySem.W.Frag} {mg : Str → Option Value} {base : Heap}
theorem fnR_0 {CX : CXT} {k : Nat} {f : Addr} {R : RD} (h : ∀ ds d, ¬ R ds d) : FnR P w K mg base CX k f (spD K R) := fun A outer s H us vs Q E hr e0 r ⟨ds, d, _, hh, _⟩ => absurd hh (h ds d)
theorem sh_int {n : Int} : SeqAt.shaped (.int n) = true := by
  unfold SeqAt.shaped PyData.canLay0 PyData.depth; rfl
theorem eqv_int {x y : Int} : PyData.eqv (.int x) (.int y) = (x == y) := by rfl
def rdParts (n : Nat) : RD := fun ds d => ∃ p : Pt, p.ok ∧ p.deep < n ∧ ds = [.p p.data] ∧ d = .b true
theorem fn_are_parts (T : Tx K mg) : ∀ n, FnR P w K mg base CX0 (1 + n) (ga K "are_parts") (spD K (rdParts n))
  | 0 => fnR_0 fun ds d ⟨p, _, h, _⟩ => absurd h (Nat.not_lt_zero _)
  | n + 1 => fnR_D T.f_are_parts sc_are_parts bn_are_parts (fun ds d ⟨_, _, _, h, _⟩ => by rw [h]; rfl) fun cdv A outer s H E hr ds d ⟨p, ho, hn, h, h2⟩ => by
    subst h h2
    have hu := room_u hr
    have ih := fn_are_parts T n
    have al : SeqAt.shaped (.str "always") = true := sh_str (by decide +kernel)
    have nt : SeqAt.shaped (.str "not") = true := sh_str (by decide +kernel)
    match p with
    | .always b =>
      refine q_if (k := false) (c_eqv (PW.pt (w_or (c_not (c_val (d_isi (k := true) rfl T.b_isinstance rfl T.b_tuple boot_tuple kt_tt (d_var 0 rfl)))) fun _ => w_or (c_eq hu sh_int sh_int (d_lenT rfl T.b_len (a_cons (d_var 0 rfl) a_nil)) d_int) fun _ => w_or1 (c_not (c_val (d_isi (k := true) rfl T.b_isinstance rfl T.b_str boot_str kt_ss (d_ixT (p := .str "always") rfl (d_var 0 rfl) d_int)))))) rfl) (fun z => nomatch z) fun _ => ?_
      refine q_if (k := true) (c_eqv (c_eq hu al al (d_ixT (p := .str "always") rfl (d_var 0 rfl) d_int) d_str) (by decide +kernel)) (fun _ => ?_) (fun z => nomatch z)
      exact q_retE (d_and (d_eq hu sh_int sh_int (d_lenT rfl T.b_len (a_cons (d_var 0 rfl) a_nil)) d_int) fun _ => d_one (d_isi (k := true) rfl T.b_isinstance rfl T.b_bool boot_bool kt_bb (d_ixT (p := .bool b) rfl (d_var 0 rfl) d_int))) rfl
    | .no p =>
      refine q_if (k := false) (c_eqv (PW.pt (w_or (c_not (c_val (d_isi (k := true) rfl T.b_isinstance rfl T.b_tuple boot_tuple kt_tt (d_var 0 rfl)))) fun _ => w_or (c_eq hu sh_int sh_int (d_lenT rfl T.b_len (a_cons (d_var 0 rfl) a_nil)) d_int) fun _ => w_or1 (c_not (c_val (d_isi (k := true) rfl T.b_isinstance rfl T.b_str boot_str kt_ss (d_ixT (p := .str "not") rfl (d_var 0 rfl) d_int)))))) rfl) (fun z => nomatch z) fun _ => ?_
      refine q_if (k := false) (c_eqv (c_eq hu nt al (d_ixT (p := .str "not") rfl (d_var 0 rfl) d_int) d_str) (by decide +kernel)) (fun z => nomatch z) (fun _ => ?_)
      refine q_if (k := true) (c_eqv (c_eq hu nt nt (d_ixT (p := .str "not") rfl (d_var 0 rfl) d_int) d_str) (by decide +kernel)) (fun _ => ?_) (fun z => nomatch z)
      exact q_retE (d_and (d_eq hu sh_int sh_int (d_lenT rfl T.b_len (a_cons (d_var 0 rfl) a_nil)) d_int) fun _ => d_one (d_call ih hr rfl T.g_are_parts T.f_are_parts.kp ⟨p, ho, by simp only [Pt.deep] at hn; omega, rfl, rfl⟩ (a_cons (d_ixT (p := p.data) rfl (d_var 0 rfl) d_int) a_nil))) rfl
    | .two o p q =>
      obtain ⟨o1, o2, o3, o4⟩ := opN_ok o
      have so := sh_str o1
      simp only [Pt.deep] at hn
      refine q_if (k := false) (c_eqv (PW.pt (w_or (c_not (c_val (d_isi (k := true) rfl T.b_isinstance rfl T.b_tuple boot_tuple kt_tt (d_var 0 rfl)))) fun _ => w_or (c_eq hu sh_int sh_int (d_lenT rfl T.b_len (a_cons (d_var 0 rfl) a_nil)) d_int) fun _ => w_or1 (c_not (c_val (d_isi (k := true) rfl T.b_isinstance rfl T.b_str boot_str kt_ss (d_ixT (p := .str (opN o)) rfl (d_var 0 rfl) d_int)))))) rfl) (fun z => nomatch z) fun _ => ?_
      refine q_if (k := false) (c_eqv (c_eq hu so al (d_ixT (p := .str (opN o)) rfl (d_var 0 rfl) d_int) d_str) (eqv_str.trans o2)) (fun z => nomatch z) (fun _ => ?_)
      refine q_if (k := false) (c_eqv (c_eq hu so nt (d_ixT (p := .str (opN o)) rfl (d_var 0 rfl) d_int) d_str) (eqv_str.trans o3)) (fun z => nomatch z) (fun _ => ?_)
      refine q_if (k := true) (c_eqv (c_inT (zs := opNames) (d_ixT (p := .str (opN o)) rfl (d_var 0 rfl) d_int) (d_glob (v := .ref (ga K "PAIRS")) rfl T.t_PAIRS.1 rfl (rp_PAIRS T))) o4) (fun _ => ?_) (fun z => nomatch z)
      exact q_retE (d_and (d_eq hu sh_int sh_int (d_lenT rfl T.b_len (a_cons (d_var 0 rfl) a_nil)) d_int) fun _ => d_and (d_call ih hr rfl T.g_are_parts T.f_are_parts.kp ⟨p, ho.1, by omega, rfl, rfl⟩ (a_cons (d_ixT (p := p.data) rfl (d_var 0 rfl) d_int) a_nil)) fun _ => d_one (d_call ih hr rfl T.g_are_parts T.f_are_parts.kp ⟨q, ho.2, by omega, rfl, rfl⟩ (a_cons (d_ixT (p := q.data) rfl (d_var 0 rfl) d_int) a_nil))) rfl
    | .word r e a =>
      obtain ⟨o1, o2, o3, o4, o5⟩ := rdN_ok r
      have so := sh_str o1
      refine q_if (k := false) (c_eqv (PW.pt (w_or (c_not (c_val (d_isi (k := true) rfl T.b_isinstance rfl T.b_tuple boot_tuple kt_tt (d_var 0 rfl)))) fun _ => w_or (c_eq hu sh_int sh_int (d_lenT rfl T.b_len (a_cons (d_var 0 rfl) a_nil)) d_int) fun _ => w_or1 (c_not (c_val (d_isi (k := true) rfl T.b_isinstance rfl T.b_str boot_str kt_ss (d_ixT (p := .str (rdN r)) rfl (d_var 0 rfl) d_int)))))) rfl) (fun z => nomatch z) fun _ => ?_
      refine q_if (k := false) (c_eqv (c_eq hu so al (d_ixT (p := .str (rdN r)) rfl (d_var 0 rfl) d_int) d_str) (eqv_str.trans o2)) (fun z => nomatch z) (fun _ => ?_)
      refine q_if (k := false) (c_eqv (c_eq hu so nt (d_ixT (p := .str (rdN r)) rfl (d_var 0 rfl) d_int) d_str) (eqv_str.trans o3)) (fun z => nomatch z) (fun _ => ?_)
      refine q_if (k := false) (c_eqv (c_inT (zs := opNames) (d_ixT (p := .str (rdN r)) rfl (d_var 0 rfl) d_int) (d_glob (v := .ref (ga K "PAIRS")) rfl T.t_PAIRS.1 rfl (rp_PAIRS T))) o4) (fun z => nomatch z) (fun _ => ?_)
      refine q_retE (d_and (d_call ((f1_is_reader T).mono (Nat.le_add_right 1 n)) hr rfl T.g_is_reader T.f_is_reader.kp ⟨rdN r, o5, rfl, rfl⟩ (a_cons (d_ixT (p := .str (rdN r)) rfl (d_var 0 rfl) d_int) a_nil)) fun _ => d_and (d_eq hu sh_int sh_int (d_lenT rfl T.b_len (a_cons (d_var 0 rfl) a_nil)) d_int) fun _ =>
        d_and (d_call ((f1_are_bits T).mono (Nat.le_add_right 1 n)) hr rfl T.g_are_bits T.f_are_bits.kp ⟨e, ho.1, rfl, rfl⟩ (a_cons (d_ixT (p := .str (bitS e)) rfl (d_var 0 rfl) d_int) a_nil)) fun _ =>
        d_and (d_call ((f1_are_bits T).mono (Nat.le_add_right 1 n)) hr rfl T.g_are_bits T.f_are_bits.kp ⟨a, ho.2.1, rfl, rfl⟩ (a_cons (d_ixT (p := .str (bitS a)) rfl (d_var 0 rfl) d_int) a_nil)) fun _ =>
        d_one (d_ne hu (sh_str strOk_bitS) (sh_str (by decide +kernel)) (d_ixT (p := .str (bitS a)) rfl (d_var 0 rfl) d_int) d_str)) ?_
      rw [bitS_ne ho.2.2]; rfl
theorem sh_bool {b : Bool} : SeqAt.shaped (.bool b) = true := by
  unfold SeqAt.shaped PyData.canLay0 PyData.depth; rfl
def kvsN (n : Fin 5 → Nat) : List (Str × PyData) := [("turns", .int (n 0)), ("others", .int (n 1)), ("rounds", .int (n 2)), ("suns", .int (n 3)), ("moons", .int (n 4))]
def numsD (n : Fin 5 → Nat) : List (Key × PyData) := (kvsN n).map fun kv => (.inr kv.1, kv.2)
theorem numsD_at (n : Fin 5 → Nat) (r : Fin 5) : valD (numsD n) (.inr (rdN r)) = some (.int (n r)) := by
  match r with
  | 0 => rfl
  | 1 => rfl
  | 2 => rfl
  | 3 => rfl
  | 4 => rfl
def rdTruth (n : Nat) : RD := fun ds d => ∃ (p : Pt) (nu : Fin 5 → Nat), p.ok ∧ p.deep < n ∧ ds = [.p p.data, .dK (numsD nu)] ∧ d = .b (p.truth nu)
theorem fn_truth_of (T : Tx K mg) : ∀ n, FnR P w K mg base CX0 (1 + n) (ga K "truth_of") (spD K (rdTruth n))
  | 0 => fnR_0 fun ds d ⟨p, _, _, h, _⟩ => absurd h (Nat.not_lt_zero _)
  | n + 1 => fnR_D T.f_truth_of sc_truth_of bn_truth_of (fun ds d ⟨_, _, _, _, h, _⟩ => by rw [h]; rfl) fun cdv A outer s H E hr ds d ⟨p, nu, ho, hn, h, h2⟩ => by
    subst h h2
    have hu := room_u hr
    have hu1 : (A.deeper (envOfC "truth_of" (defScope st_truth_of) s.heap.objs.size (ga K "truth_of") cdv)).units + 1 < cLine := by omega
    have ih := fn_truth_of T n
    have al : SeqAt.shaped (.str "always") = true := sh_str (by decide +kernel)
    have nt : SeqAt.shaped (.str "not") = true := sh_str (by decide +kernel)
    match p with
    | .always b =>
      refine q_if (k := true) (c_eqv (c_eq hu al al (d_ixT (p := .str "always") rfl (d_var 0 rfl) d_int) d_str) (by decide +kernel)) (fun _ => ?_) (fun z => nomatch z)
      exact q_retD (d_ixT (p := .bool b) rfl (d_var 0 rfl) d_int)
    | .no p =>
      refine q_if (k := false) (c_eqv (c_eq hu nt al (d_ixT (p := .str "not") rfl (d_var 0 rfl) d_int) d_str) (by decide +kernel)) (fun z => nomatch z) (fun _ => ?_)
      refine q_if (k := true) (c_eqv (c_eq hu nt nt (d_ixT (p := .str "not") rfl (d_var 0 rfl) d_int) d_str) (by decide +kernel)) (fun _ => ?_) (fun z => nomatch z)
      exact q_retE (d_not (d_call ih hr rfl T.g_truth_of T.f_truth_of.kp ⟨p, nu, ho, by simp only [Pt.deep] at hn; omega, rfl, rfl⟩ (a_cons (d_ixT (p := p.data) rfl (d_var 0 rfl) d_int) (a_cons (d_var 1 rfl) a_nil)))) rfl
    | .word r e a =>
      obtain ⟨o1, o2, o3, o4, o5⟩ := rdN_ok r
      have so := sh_str o1
      refine q_if (k := false) (c_eqv (c_eq hu so al (d_ixT (p := .str (rdN r)) rfl (d_var 0 rfl) d_int) d_str) (eqv_str.trans o2)) (fun z => nomatch z) (fun _ => ?_)
      refine q_if (k := false) (c_eqv (c_eq hu so nt (d_ixT (p := .str (rdN r)) rfl (d_var 0 rfl) d_int) d_str) (eqv_str.trans o3)) (fun z => nomatch z) (fun _ => ?_)
      refine q_if (k := true) (c_eqv (c_ninT (zs := opNames) (d_ixT (p := .str (rdN r)) rfl (d_var 0 rfl) d_int) (d_glob (v := .ref (ga K "PAIRS")) rfl T.t_PAIRS.1 rfl (rp_PAIRS T))) (by rw [o4]; rfl)) (fun _ => ?_) (fun z => nomatch z)
      exact q_retD (d_call ((f1_bit_at T).mono (Nat.le_add_right 1 n)) hr rfl T.g_bit_at T.f_bit_at.kp ⟨e, a, nu r, ho.1, ho.2.1, ho.2.2, rfl, rfl⟩ (a_cons (d_ixT (p := .str (bitS e)) rfl (d_var 0 rfl) d_int) (a_cons (d_ixT (p := .str (bitS a)) rfl (d_var 0 rfl) d_int)
        (a_cons (d_dsub (kx := .inr (rdN r)) hu1 (numsD_at nu r) (d_var 1 rfl) (d_ixT (p := .str (rdN r)) rfl (d_var 0 rfl) d_int)) a_nil))))
    | .two o p q =>
      obtain ⟨o1, o2, o3, o4⟩ := opN_ok o
      have so := sh_str o1
      simp only [Pt.deep] at hn
      refine q_if (k := false) (c_eqv (c_eq hu so al (d_ixT (p := .str (opN o)) rfl (d_var 0 rfl) d_int) d_str) (eqv_str.trans o2)) (fun z => nomatch z) (fun _ => ?_)
      refine q_if (k := false) (c_eqv (c_eq hu so nt (d_ixT (p := .str (opN o)) rfl (d_var 0 rfl) d_int) d_str) (eqv_str.trans o3)) (fun z => nomatch z) (fun _ => ?_)
      refine q_if (k := false) (c_eqv (c_ninT (zs := opNames) (d_ixT (p := .str (opN o)) rfl (d_var 0 rfl) d_int) (d_glob (v := .ref (ga K "PAIRS")) rfl T.t_PAIRS.1 rfl (rp_PAIRS T))) (by rw [o4]; rfl)) (fun z => nomatch z) (fun _ => ?_)
      refine q_seq (n_par (i := 2) (j := 3) rfl sc_truth_of.nd rfl rfl (by decide) rfl rfl (a_cons (d_call ih hr rfl T.g_truth_of T.f_truth_of.kp ⟨p, nu, ho.1, by omega, rfl, rfl⟩ (a_cons (d_ixT (p := p.data) rfl (d_var 0 rfl) d_int) (a_cons (d_var 1 rfl) a_nil)))
        (a_cons (d_call ih hr rfl T.g_truth_of T.f_truth_of.kp ⟨q, nu, ho.2, by omega, rfl, rfl⟩ (a_cons (d_ixT (p := q.data) rfl (d_var 0 rfl) d_int) (a_cons (d_var 1 rfl) a_nil))) a_nil)) (by rfl)) ?_
      match o with
      | 2 =>
        refine q_if (k := true) (c_eqv (c_eq hu so (sh_str (by decide +kernel)) (d_ixT (p := .str (opN 2)) rfl (d_var 0 rfl) d_int) d_str) (by decide +kernel)) (fun _ => ?_) (fun z => nomatch z)
        exact q_retE (d_ne hu sh_bool sh_bool (d_var 2 rfl) (d_var 3 rfl)) rfl
      | 0 =>
        refine q_if (k := false) (c_eqv (c_eq hu so (sh_str (by decide +kernel)) (d_ixT (p := .str (opN 0)) rfl (d_var 0 rfl) d_int) d_str) (by decide +kernel)) (fun z => nomatch z) (fun _ => ?_)
        exact q_retD (d_if (k := true) (c_eqv (c_eq hu so (sh_str (by decide +kernel)) (d_ixT (p := .str (opN 0)) rfl (d_var 0 rfl) d_int) d_str) (by decide +kernel)) (fun _ => d_and (d_var 2 rfl) fun _ => d_one (d_var 3 rfl)) (fun z => nomatch z))
      | 1 =>
        refine q_if (k := false) (c_eqv (c_eq hu so (sh_str (by decide +kernel)) (d_ixT (p := .str (opN 1)) rfl (d_var 0 rfl) d_int) d_str) (by decide +kernel)) (fun z => nomatch z) (fun _ => ?_)
        exact q_retD (d_if (k := false) (c_eqv (c_eq hu so (sh_str (by decide +kernel)) (d_ixT (p := .str (opN 1)) rfl (d_var 0 rfl) d_int) d_str) (by decide +kernel)) (fun z => nomatch z) (fun _ => d_or (d_var 2 rfl) fun _ => d_one (d_var 3 rfl)))
end Pr
set_option maxHeartbeats 4000000
/-! W4: Rule. -/
namespace Pr
open PySem PySem.Spec PyProof.Rows L2
variable {P : Program} {w : World} {K : PySem.W.Frag} {mg : Str → Option Value} {base : Heap}
def ruleD (p : Pt) : Dt := .ob "Rule" [.p p.data]
def riRule : RI := fun ds fs => ∃ p : PyData, ds = [.p p] ∧ fs = [.p p]
theorem f1_Rule_init (T : Tx K mg) : FnR P w K mg base CX0 1 (ma K "Rule" "__init__") (spI K "Rule" riRule) :=
  fnR_I T.f_Rule_init sc_Rule_init bn_Rule_init (fun ds fs ⟨_, h, _⟩ => by rw [h]; rfl) fun cdv A outer s H E hr ds fs ⟨p, h, h2⟩ => by
    subst h h2
    exact i_set1 T.s_Rule_its_parts (d_var 1 rfl)
def rdBy : RD := fun ds d => ∃ (r : Fin 5) (e a : List Bool), ds = [.s (rdN r), .ob "Word" (wordF e a)] ∧ d = ruleD (.word r e a)
theorem f4_Rule_by (T : Tx K mg) : FnR P w K mg base CX0 4 (recAd K "staticmethod" "Rule" "by") (spD K rdBy) :=
  fnR_D T.f_Rule_by sc_Rule_by bn_Rule_by (fun ds d ⟨_, _, _, h, _⟩ => by rw [h]; rfl) fun cdv A outer s H E hr ds d ⟨r, e, a, h, h2⟩ => by
    subst h h2
    refine q_if (c_eqv (c_not (c_val (d_call ((f1_is_reader T).mono (by decide)) hr rfl T.g_is_reader T.f_is_reader.kp ⟨rdN r, (rdN_ok r).2.2.2.2, rfl, rfl⟩ (a_cons (d_var 0 rfl) a_nil)))) rfl) (fun z => nomatch z) fun _ => ?_
    refine q_if (c_eqv (c_not (c_val (d_isiC rfl T.b_isinstance rfl T.g_Word T.c_Word T.i_Word T.kk_Word (d_var 1 rfl)))) rfl) (fun z => nomatch z) fun _ => ?_
    exact q_retD (d_make T.k_Rule ((f1_Rule_init T).mono (by decide)) hr rfl T.g_Rule ⟨_, rfl, rfl⟩ (a_cons (d_tup3 (a_cons (d_var 0 rfl) (a_cons (d_prop T.p_Word_early ((f1_Word_early T).mono (by decide)) hr ⟨_, rfl, rfl⟩ (d_var 1 rfl)) (a_cons (d_prop T.p_Word_again ((f1_Word_again T).mono (by decide)) hr ⟨_, rfl, rfl⟩ (d_var 1 rfl)) a_nil)))) a_nil))
def rdAlways : RD := fun ds d => ∃ b : Bool, ds = [.b b] ∧ d = ruleD (.always b)
theorem f4_Rule_always (T : Tx K mg) : FnR P w K mg base CX0 4 (recAd K "staticmethod" "Rule" "always") (spD K rdAlways) :=
  fnR_D T.f_Rule_always sc_Rule_always bn_Rule_always (fun ds d ⟨_, h, _⟩ => by rw [h]; rfl) fun cdv A outer s H E hr ds d ⟨b, h, h2⟩ => by
    subst h h2
    refine q_if (c_eqv (c_not (c_val (d_isi (k := true) rfl T.b_isinstance rfl T.b_bool boot_bool kt_bb (d_var 0 rfl)))) rfl) (fun z => nomatch z) fun _ => ?_
    exact q_retD (d_make T.k_Rule ((f1_Rule_init T).mono (by decide)) hr rfl T.g_Rule ⟨_, rfl, rfl⟩ (a_cons (d_tup2 (a_cons d_str (a_cons (d_var 0 rfl) a_nil))) a_nil))
/-- the depth of rules, at most -/
abbrev DP : Nat := 5
def rdOf : RD := fun ds d => ∃ p : Pt, p.ok ∧ p.deep < DP ∧ ds = [.p p.data] ∧ d = ruleD p
theorem f7_Rule_of (T : Tx K mg) : FnR P w K mg base CX0 7 (recAd K "staticmethod" "Rule" "of") (spD K rdOf) :=
  fnR_D T.f_Rule_of sc_Rule_of bn_Rule_of (fun ds d ⟨_, _, _, h, _⟩ => by rw [h]; rfl) fun cdv A outer s H E hr ds d ⟨p, ho, hd, h, h2⟩ => by
    subst h h2
    refine q_if (c_eqv (c_not (c_val (d_call (fn_are_parts T DP) hr rfl T.g_are_parts T.f_are_parts.kp ⟨p, ho, hd, rfl, rfl⟩ (a_cons (d_var 0 rfl) a_nil)))) rfl) (fun z => nomatch z) fun _ => ?_
    exact q_retD (d_make T.k_Rule ((f1_Rule_init T).mono (by decide)) hr rfl T.g_Rule ⟨_, rfl, rfl⟩ (a_cons (d_var 0 rfl) a_nil))
/-- the numbers of a meeting -/
def nums (n m r i j : Nat) : Fin 5 → Nat := fun k => match k with
  | 0 => r * m + j
  | 1 => r * n + i
  | 2 => r
  | 3 => i
  | 4 => j
def rdCall : RD := fun ds d => ∃ (p : Pt) (n m r i j : Nat), p.ok ∧ p.deep < DP ∧ n ≤ 100 ∧ m ≤ 100 ∧ r ≤ 1000 ∧ ds = [ruleD p, .i r, .i i, .i j, .i n, .i m] ∧ d = .b (p.truth (nums n m r i j))
theorem cmul_small {a b : Nat} (h1 : a ≤ 100000) : CMul a b := .inl ⟨by omega, by omega⟩
theorem numsK_nd : ([.inr "turns", .inr "others", .inr "rounds", .inr "suns", .inr "moons"] : List Key).Nodup := by decide +kernel
theorem f7_Rule_call (T : Tx K mg) : FnR P w K mg base CX0 7 (ma K "Rule" "__call__") (spD K rdCall) :=
  fnR_D T.f_Rule_call sc_Rule_call bn_Rule_call (fun ds d ⟨_, _, _, _, _, _, _, _, _, _, _, h, _⟩ => by rw [h]; rfl) fun cdv A outer s H E hr ds d ⟨p, n, m, r, i, j, ho, hd, hn, hm, hrr, h, h2⟩ => by
    subst h h2
    refine q_seq (n_set 6 sc_Rule_call.nd rfl (.inl rfl) (d_eqv (d := .dK (numsD (nums n m r i j))) (d_disp (kvs := [("turns", .int (r * m + j)), ("others", .int (r * n + i)), ("rounds", .int r), ("suns", .int i), ("moons", .int j)])
      (pps_cons d_str (d_add (d_mul (cmul_small (by omega)) (d_var 1 rfl) (d_var 5 rfl)) (d_var 3 rfl)) (pps_cons d_str (d_add (d_mul (cmul_small (by omega)) (d_var 1 rfl) (d_var 4 rfl)) (d_var 2 rfl)) (pps_cons d_str (d_var 1 rfl) (pps_cons d_str (d_var 2 rfl) (pps_cons d_str (d_var 3 rfl) pps_nil)))))
      rfl rfl (by simp) (by decide) (by simp) numsK_nd (by intro kv hkv; simp at hkv; rcases hkv with h | h | h | h | h <;> (subst h; rfl))) (by simp [numsD, kvsN, nums]))) ?_
    exact q_retD (d_call (fn_truth_of T DP) hr rfl T.g_truth_of T.f_truth_of.kp ⟨p, nums n m r i j, ho, hd, rfl, rfl⟩ (a_cons (d_fld T.s_Rule_its_parts rfl (d_var 0 rfl)) (a_cons (d_var 6 rfl) a_nil)))
theorem f1_Rule_parts (T : Tx K mg) : FnR P w K mg base CX0 1 (ma K "Rule" "parts") (spD K (rdFld "Rule" 0)) :=
  fnR_D T.f_Rule_parts sc_Rule_parts bn_Rule_parts (fun ds d ⟨_, h, _⟩ => by rw [h]; rfl) fun cdv A outer s H E hr ds d ⟨fs, h, h2⟩ => by
    subst h
    exact q_retD (d_fld T.s_Rule_its_parts h2 (d_var 0 rfl))
def rdInv : RD := fun ds d => ∃ p : Pt, ds = [ruleD p] ∧ d = ruleD (.no p)
theorem f3_Rule_invert (T : Tx K mg) : FnR P w K mg base CX0 3 (ma K "Rule" "__invert__") (spD K rdInv) :=
  fnR_D T.f_Rule_invert sc_Rule_invert bn_Rule_invert (fun ds d ⟨_, h, _⟩ => by rw [h]; rfl) fun cdv A outer s H E hr ds d ⟨p, h, h2⟩ => by
    subst h h2
    exact q_retD (d_make T.k_Rule (f1_Rule_init T) hr rfl T.g_Rule ⟨_, rfl, rfl⟩ (a_cons (d_tup2 (a_cons d_str (a_cons (d_fld T.s_Rule_its_parts rfl (d_var 0 rfl)) a_nil))) a_nil))
def rdTwo (o : Fin 3) : RD := fun ds d => ∃ p q : Pt, ds = [ruleD p, ruleD q] ∧ d = ruleD (.two o p q)
theorem f3_Rule_and (T : Tx K mg) : FnR P w K mg base CX0 3 (ma K "Rule" "__and__") (spD K (rdTwo 0)) :=
  fnR_D T.f_Rule_and sc_Rule_and bn_Rule_and (fun ds d ⟨_, _, h, _⟩ => by rw [h]; rfl) fun cdv A outer s H E hr ds d ⟨p, q, h, h2⟩ => by
    subst h h2
    exact q_retD (d_make T.k_Rule (f1_Rule_init T) hr rfl T.g_Rule ⟨_, rfl, rfl⟩ (a_cons (d_tup3 (a_cons d_str (a_cons (d_fld T.s_Rule_its_parts rfl (d_var 0 rfl)) (a_cons (d_fld T.s_Rule_its_parts rfl (d_var 1 rfl)) a_nil)))) a_nil))
theorem f3_Rule_or (T : Tx K mg) : FnR P w K mg base CX0 3 (ma K "Rule" "__or__") (spD K (rdTwo 1)) :=
  fnR_D T.f_Rule_or sc_Rule_or bn_Rule_or (fun ds d ⟨_, _, h, _⟩ => by rw [h]; rfl) fun cdv A outer s H E hr ds d ⟨p, q, h, h2⟩ => by
    subst h h2
    exact q_retD (d_make T.k_Rule (f1_Rule_init T) hr rfl T.g_Rule ⟨_, rfl, rfl⟩ (a_cons (d_tup3 (a_cons d_str (a_cons (d_fld T.s_Rule_its_parts rfl (d_var 0 rfl)) (a_cons (d_fld T.s_Rule_its_parts rfl (d_var 1 rfl)) a_nil)))) a_nil))
theorem f3_Rule_xor (T : Tx K mg) : FnR P w K mg base CX0 3 (ma K "Rule" "__xor__") (spD K (rdTwo 2)) :=
  fnR_D T.f_Rule_xor sc_Rule_xor bn_Rule_xor (fun ds d ⟨_, _, h, _⟩ => by rw [h]; rfl) fun cdv A outer s H E hr ds d ⟨p, q, h, h2⟩ => by
    subst h h2
    exact q_retD (d_make T.k_Rule (f1_Rule_init T) hr rfl T.g_Rule ⟨_, rfl, rfl⟩ (a_cons (d_tup3 (a_cons d_str (a_cons (d_fld T.s_Rule_its_parts rfl (d_var 0 rfl)) (a_cons (d_fld T.s_Rule_its_parts rfl (d_var 1 rfl)) a_nil)))) a_nil))
end Pr
set_option maxHeartbeats 4000000
/-! Wi: sorted(..) of a dict whose keys are tuples of ints. -/
namespace Pr
open PySem PySem.Spec PyProof.Rows L2
section
variable {X : Cx} {pins : List (Addr × Obj)} {σ : L2.St} {H : Hp} {s : Shared}
theorem dT_raw (I : Inv X pins σ H s) {a : Addr} {kvs : List (List Key × V)} (h : Rd H a (.dT kvs)) :
    (a == sysModules) = false ∧ ∃ o, s.heap.get? a = some o ∧ o.ExactDict ∧ ∃ (es : Array DictEntry) (ep : Nat), o.data = .dict es ep ∧ es.size = kvs.length ∧
      ∀ (i : Nat) (k : List Key) (v : V), kvs[i]? = some (k, v) → ∃ (en : DictEntry) (q : Addr), es[i]? = some en ∧ en.key = .ref q ∧ H q = some (.tup (k.map kV)) := by
  rcases h with h | ⟨o, h⟩
  · obtain ⟨od, I1⟩ := I.lock h trivial
    obtain ⟨h1, h2, h3, es, ep, h4, h5, h6⟩ := I1.frzT upd_same
    refine ⟨h1, od, h2, h3, es, ep, h4, h5, fun i k v e => ?_⟩
    obtain ⟨en, q, e1, e2, e3⟩ := h6 i k v e
    refine ⟨en, q, e1, e2, ?_⟩
    have ne : q ≠ a := fun z => by subst z; rw [upd_same] at e3; cases e3
    rwa [upd_ne ne] at e3
  · obtain ⟨h1, h2, h3, es, ep, h4, h5, h6⟩ := I.frzT h
    exact ⟨h1, o, h2, h3, es, ep, h4, h5, h6⟩
theorem kv_inl {ns : List Int} : (ns.map (Sum.inl : Int → Key)).map kV = ns.map V.int := by rw [List.map_map]; rfl
def rSortDT (d : Nat) (B : Int) : List V → Hp → VK → Prop := fun vs H Q => ∃ (a : Addr) (kvs : List (List Key × V)) (ks : List (List Int)), vs = [V.ref a] ∧ Rd H a (.dT kvs) ∧ kvs.map (·.1) = ks.map (·.map Sum.inl) ∧ ks.length < 64 ∧ (∀ k ∈ ks, k.length = d ∧ TS.Bd B k) ∧
  ∀ (L : List (Addr × List Int)) (p : Addr), (L.map (·.2)).Perm ks → (∀ q ∈ L, H q.1 = some (.tup (q.2.map V.int))) → (L.map (·.2)).Pairwise (fun x y => TS.code B x ≤ TS.code B y) → H p = none → Q (.ref p) (upd H p (.lst (L.map fun q => V.ref q.1)))
theorem cr_sortDT {d : Nat} {B : Int} (hd : 1 ≤ d) (hc : X.calm = true) : CallR X (.builtin "sorted") (rSortDT d B) := by
  intro pins s σ H vs us Q I r h
  obtain ⟨a, kvs, ks, rfl, hR, hks, h64, hB, q⟩ := h
  rw [Vals.ref1 r]
  obtain ⟨lo, o, hgd, hx, es, ep, hdt, hsz, hent⟩ := dT_raw I hR
  have hl : kvs.length = ks.length := by have := congrArg List.length hks; simpa using this
  refine Calls.call_function_entry PyProof.Rows.kind_sorted PyProof.Rows.plain_sorted PyProof.Rows.entry_sorted (PyProof.Rows.args_sorted1 _) ?_
  unfold Builtin.«sorted»
  refine wpAny_bind (m := checkCount "sorted" 1 1 _) (wpAny_pure ?_)
  refine wpAny_bind (PySem.W.kdu_collect (A := X.A.in1) (kdl_raw lo hx hdt) (I.ok.hd hc) hgd (by rw [sizeLine_eq]; omega) fun h' tk acc hk hacc => ?_)
  have I1 : Inv X pins σ H { s with heap := h', toks := tk } := I.kept hk
  have hal : acc.toList.length = ks.length := by rw [Array.length_toList, hacc.1]; omega
  have hat : ∀ (j : Nat) (v : Value), acc.toList[j]? = some v → ∃ (t : Addr) (ns : List Int), v = .ref t ∧ ks[j]? = some ns ∧ H t = some (.tup (ns.map V.int)) := fun j v e => by
    obtain ⟨en, e1, e2⟩ := hacc.2 j v (by rw [← Array.getElem?_toList]; exact e)
    have hj : j < kvs.length := by
      have := (Array.getElem?_eq_some_iff.mp e1).1
      omega
    have e3 : kvs[j]? = some kvs[j] := List.getElem?_eq_getElem hj
    obtain ⟨en', t, e4, e5, e6⟩ := hent j kvs[j].1 kvs[j].2 e3
    rw [e1] at e4; cases e4
    have e7 := congrArg (fun l => l[j]?) hks
    simp only [List.getElem?_map, e3, Option.map_some] at e7
    cases e8 : ks[j]? with
    | none => rw [e8] at e7; cases e7
    | some ns =>
      rw [e8] at e7
      have e9 : kvs[j].1 = ns.map Sum.inl := Option.some.inj e7
      exact ⟨t, ns, e2.trans e5, rfl, by rw [e6, e9, kv_inl]⟩
  have hal2 : acc.toList.length ≤ sizeLine := by rw [hal, sizeLine_eq]; omega
  refine wpAny_bind (wpAny_newList ?_ hal2)
  have hoL : (h'.push (seqObj "list" acc.toList.toArray 0)).get? h'.objs.size = some (seqObj "list" acc.toList.toArray 0) := Heap.get?_push_size _ rfl
  show wpAny _ _ _ _ _ { s with heap := h'.push (seqObj "list" acc.toList.toArray 0), toks := tk }
  have tupR : ∀ {t : Addr} {ns : List Int}, H t = some (.tup (ns.map V.int)) → TS.TupInts h' (.ref t) ns := fun e => tupI_raw I1 (SqT.of e)
  have keep : ∀ b o, h'.get? b = some o → o.cls = .type "tuple" → (h'.push (seqObj "list" acc.toList.toArray 0)).get? b = some o := fun b o e _ => Heap.get?_push_of_some _ e
  have hmem : ∀ v ∈ acc.toList, ∃ (t : Addr) (ns : List Int), v = .ref t ∧ ns ∈ ks ∧ H t = some (.tup (ns.map V.int)) := fun v hv => by
    obtain ⟨j, hj, e⟩ := List.getElem_of_mem hv
    obtain ⟨t, ns, e1, e2, e3⟩ := hat j v (by rw [List.getElem?_eq_getElem hj, e])
    exact ⟨t, ns, e1, List.mem_of_getElem? e2, e3⟩
  have ok : TS.TupsOk (h'.push (seqObj "list" acc.toList.toArray 0)) d B acc.toList := fun v hv => by
    obtain ⟨t, ns, e1, e2, e3⟩ := hmem v hv
    subst e1
    exact ⟨ns, (tupR e3).keeps keep, (hB ns e2).1, (hB ns e2).2⟩
  refine wpAny_bind (wpAny_holding (wpAny_call_entry PyProof.Rows.slot_list_sort ⟨_, hoL, rfl⟩ PyProof.Rows.entry_list_sort
    (TS.sort_tups (s := { s with heap := h'.push (seqObj "list" acc.toList.toArray 0), toks := tk }) hoL (by rw [hal]; exact h64) hd ok (fun v => TS.code B (TS.intsOf h' v)) (fun v hv ns t => ?_) fun out a1 a2 => ⟨_, rfl, ?_⟩) (PyProof.Rows.args_list_sort _)))
  · obtain ⟨t', ns0, e1, _, e3⟩ := hmem v hv
    subst e1
    have e := t.ints.symm.trans ((tupR e3).keeps keep).ints
    rw [e]
    show TS.code B (TS.intsOf h' (.ref t')) = _
    rw [(tupR e3).ints]
  obtain ⟨e', he'⟩ := PyProof.Rows.sortedHeap_at (vs := acc.toList) (out := out) hoL
  let g : Value → Addr × List Int := fun v => match v with
    | .ref a => (a, TS.intsOf h' v)
    | _ => (0, [])
  have gv : ∀ v ∈ out.toList, ∃ (t : Addr) (ns : List Int), v = .ref t ∧ g v = (t, ns) ∧ ns ∈ ks ∧ H t = some (.tup (ns.map V.int)) := fun v hv => by
    obtain ⟨t, ns, e1, e2, e3⟩ := hmem v (a1.mem_iff.mp hv)
    subst e1
    exact ⟨t, ns, rfl, by show (t, TS.intsOf h' (.ref t)) = _; rw [(tupR e3).ints], e2, e3⟩
  have eL : (out.toList.map g).map (fun q => V.ref q.1) = out.toList.map bkV := by
    rw [List.map_map]
    refine List.map_congr_left fun v hv => ?_
    obtain ⟨t, ns, e1, e2, _⟩ := gv v hv
    subst e1
    show V.ref (g (.ref t)).1 = bkV (.ref t)
    rw [e2]; rfl
  have hlen : ((out.toList.map g).map fun q => V.ref q.1).length ≤ sizeLine := by
    rw [eL, List.length_map, a1.length_eq]; exact hal2
  have acck : acc.toList.map (fun v => (g v).2) = ks := by
    apply List.ext_getElem?
    intro j
    rw [List.getElem?_map]
    by_cases hj : j < acc.toList.length
    · obtain ⟨t, ns, e1, e2, e3⟩ := hat j acc.toList[j] (List.getElem?_eq_getElem hj)
      rw [List.getElem?_eq_getElem hj, e2, Option.map_some, e1]
      show some (TS.intsOf h' (.ref t)) = _
      rw [(tupR e3).ints]
    · rw [List.getElem?_eq_none (by omega), List.getElem?_eq_none (by omega)]; rfl
  refine wpAny_pure ⟨_, rfl, .ref h'.objs.size, upd H h'.objs.size (.lst ((out.toList.map g).map fun q => V.ref q.1)), I1.laid (t' := tk) (fun b u e => ?_) (Nat.le_refl _)
    (show ObjOk X.prog X.w _ _ _ (.lst _) from ⟨hlen, out.toList, e', by rw [eL]; exact bkV_vals fun u hu => let ⟨t, _, e, _⟩ := gv u hu; ⟨t, e⟩, by rw [Array.toArray_toList]; exact he'⟩), rfl, q _ _ ?_ (fun x hx => ?_) ?_ (I1.hok.fresh (Nat.le_refl _))⟩
  · have hb : b < h'.objs.size := Heap.lt_size e
    rw [PyProof.Rows.sortedHeap_old (Nat.ne_of_lt hb) (by rw [size_push']; exact Nat.lt_succ_of_lt hb)]
    exact Heap.get?_push_of_some _ e
  · rw [List.map_map, ← acck]
    exact a1.map _
  · obtain ⟨v, hv, rfl⟩ := List.mem_map.mp hx
    obtain ⟨t, ns, e1, e2, e3, e4⟩ := gv v hv
    rw [e2]; exact e4
  · rw [List.pairwise_map, List.pairwise_map]
    refine List.Pairwise.imp_of_mem (fun {u v} hu hv huv => ?_) a2
    obtain ⟨t, ns, e1, e2, e3, e4⟩ := gv u hu
    obtain ⟨t', ns', e1', e2', e3', e4'⟩ := gv v hv
    subst e1 e1'
    rw [e2, e2']
    have huv' : TS.code B (TS.intsOf h' (.ref t)) ≤ TS.code B (TS.intsOf h' (.ref t')) := huv
    rw [(tupR e4).ints, (tupR e4').ints] at huv'
    exact huv'
end
end Pr
set_option maxHeartbeats 4000000
/-! Wj: sorted(..) of pairs of an int and a tuple of three small ints. -/
namespace Pr
open PySem PySem.Spec PyProof.Rows L2
theorem perm_paired {α β : Type} {R : α → β → Prop} : ∀ {l1 l2 : List α}, l1.Perm l2 → ∀ {m : List β}, Paired R l2 m → ∃ m', m'.Perm m ∧ Paired R l1 m' := by
  intro l1 l2 h
  induction h with
  | nil => exact fun {m} q => ⟨m, .refl _, q⟩
  | cons x _ ih =>
    intro m q
    cases q with
    | cons r t =>
      obtain ⟨m', p, q'⟩ := ih t
      exact ⟨_ :: m', p.cons _, .cons r q'⟩
  | swap x y l =>
    intro m q
    cases q with
    | cons r t => cases t with | cons r2 t => exact ⟨_ :: _ :: _, .swap .., .cons r2 (.cons r t)⟩
  | trans _ _ ih1 ih2 =>
    intro m q
    obtain ⟨m1, p1, q1⟩ := ih2 q
    obtain ⟨m2, p2, q2⟩ := ih1 q1
    exact ⟨m2, p2.trans p1, q2⟩
/-- a tuple of three ints -/
def Tri (h : Heap) (u : Addr) (a b c : Int) : Prop := ∃ t1 t2 t3, h.IsTuple u #[.int a t1, .int b t2, .int c t3]
theorem Tri.keeps {h h' : Heap} {u : Addr} {a b c : Int} (x : Tri h u a b c) (k : ∀ b o, h.get? b = some o → o.cls = .type "tuple" → h'.get? b = some o) : Tri h' u a b c := by
  obtain ⟨t1, t2, t3, o, ho, hc, r⟩ := x
  exact ⟨t1, t2, t3, o, k _ _ ho hc, hc, r⟩
section
variable {A : Around} {s : Shared} {u v : Addr} {a b c a' b' c' : Int}
theorem tri_at {x1 x2 x3 : Value} (j : Nat) (hj : j < (#[x1, x2, x3] : Array Value).size) : j = 0 ∨ j = 1 ∨ j = 2 := by
  have : j < 3 := hj
  omega
theorem tri_eq (h1 : Tri s.heap u a b c) (h2 : Tri s.heap v a' b' c') (hu : A.units < cLine) : SeqAt.EqAt A s (.ref u) (.ref v) (a == a' && (b == b' && c == c')) := by
  by_cases e : u = v
  · subst e
    obtain ⟨t1, t2, t3, p1⟩ := h1
    obtain ⟨t1', t2', t3', p2⟩ := h2
    obtain ⟨o, ho, _, n, hd⟩ := p1
    obtain ⟨o', ho', _, n', hd'⟩ := p2
    rw [ho] at ho'; cases ho'
    rw [hd] at hd'; cases hd'
    have : (a == a && (b == b && c == c)) = true := by simp
    rw [this]; exact SeqAt.EqAt.same _
  · obtain ⟨t1, t2, t3, p1⟩ := h1
    obtain ⟨t1', t2', t3', p2⟩ := h2
    have R := SeqAt.RcAt.tuples (e := fun j => match j with | 0 => a == a' | 1 => b == b' | _ => c == c') p1 p2 hu fun j h1 h2 => by
      rcases tri_at j h1 with e | e | e <;> subst e <;> exact SeqAt.EqAt.int_int _ _ _ _
    have e2 : ((List.range (min (#[Value.int a t1, .int b t2, .int c t3] : Array Value).size (#[Value.int a' t1', .int b' t2', .int c' t3'] : Array Value).size)).all (fun j => match j with | 0 => a == a' | 1 => b == b' | _ => c == c') && (#[Value.int a t1, .int b t2, .int c t3] : Array Value).size == (#[Value.int a' t1', .int b' t2', .int c' t3'] : Array Value).size) = (a == a' && (b == b' && c == c')) := by
      show ((List.range 3).all _ && (3 == 3)) = _
      simp [List.range, List.range.loop]
    rw [e2] at R
    exact SeqAt.EqAt.of_refs e R
/-- by the first that differs -/
def lt3 (a b c a' b' c' : Int) : Bool := if a = a' then (if b = b' then (if c = c' then false else decide (c < c')) else decide (b < b')) else decide (a < a')
theorem tri_lt (h1 : Tri s.heap u a b c) (h2 : Tri s.heap v a' b' c') (hu : A.units < cLine) : Ob.RcOp .Lt A s (.ref u) (.ref v) (lt3 a b c a' b' c') := by
  obtain ⟨t1, t2, t3, p1⟩ := h1
  obtain ⟨t1', t2', t3', p2⟩ := h2
  have R := Ob.RcOp.tuples_lt (A := A) (s := s) (e := fun j => match j with | 0 => a == a' | 1 => b == b' | _ => c == c') (r := fun j => match j with | 0 => decide (a < a') | 1 => decide (b < b') | _ => decide (c < c')) p1 p2 hu (fun j h1 h2 => by
    rcases tri_at j h1 with e | e | e <;> subst e <;> exact SeqAt.EqAt.int_int _ _ _ _) (fun j h1 h2 _ => by
    rcases tri_at j h1 with e | e | e <;> subst e <;> exact Ob.RcOp.lt_int _ _ _ _)
  have e2 : Ob.lexAt (fun j => match j with | 0 => a == a' | 1 => b == b' | _ => c == c') (fun j => match j with | 0 => decide (a < a') | 1 => decide (b < b') | _ => decide (c < c')) (decide ((#[Value.int a t1, .int b t2, .int c t3] : Array Value).size < (#[Value.int a' t1', .int b' t2', .int c' t3'] : Array Value).size)) 0 (min (#[Value.int a t1, .int b t2, .int c t3] : Array Value).size (#[Value.int a' t1', .int b' t2', .int c' t3'] : Array Value).size) = lt3 a b c a' b' c' := by
    show Ob.lexAt _ _ (decide (3 < 3)) 0 3 = _
    simp only [Ob.lexAt, lt3, beq_iff_eq]
    simp
  rw [e2] at R
  exact R
end
/-- a pair of an int and a tuple of three ints from 0 to 63 -/
def IsN (h : Heap) (v : Value) (x : Int) (m : Int × Int × Int) : Prop := ∃ ad o t u n, v = .ref ad ∧ h.get? ad = some o ∧ o.cls = .type "tuple" ∧ o.data = .seq #[.int x t, .ref u] n ∧ Tri h u m.1 m.2.1 m.2.2
def Sm (m : Int × Int × Int) : Prop := (0 ≤ m.1 ∧ m.1 < 64) ∧ (0 ≤ m.2.1 ∧ m.2.1 < 64) ∧ (0 ≤ m.2.2 ∧ m.2.2 < 64)
def rankN (x : Int) (m : Int × Int × Int) : Int := ((x * 64 + m.1) * 64 + m.2.1) * 64 + m.2.2
theorem IsN.keeps {h h' : Heap} {v : Value} {x : Int} {m : Int × Int × Int} (z : IsN h v x m) (k : ∀ b o, h.get? b = some o → o.cls = .type "tuple" → h'.get? b = some o) : IsN h' v x m := by
  obtain ⟨ad, o, t, u, n, e, ho, hc, hd, tr⟩ := z
  exact ⟨ad, o, t, u, n, e, k _ _ ho hc, hc, hd, tr.keeps k⟩
def ltK (k : Value → Int) (v u : Value) : Bool := decide (k v < k u)
theorem swo_k (k : Value → Int) : SrtO.Swo (ltK k) :=
  ⟨fun x y h => decide_eq_false (by have := of_decide_eq_true h; omega), fun x y z h1 h2 => decide_eq_false (by have := of_decide_eq_false h1; have := of_decide_eq_false h2; omega)⟩
theorem rank_lt {x x' : Int} {m m' : Int × Int × Int} (h1 : Sm m) (h2 : Sm m') (ne : x ≠ x') : decide (x < x') = decide (rankN x m < rankN x' m') := by
  obtain ⟨⟨a1, a2⟩, ⟨b1, b2⟩, ⟨c1, c2⟩⟩ := h1
  obtain ⟨⟨d1, d2⟩, ⟨e1, e2⟩, ⟨f1, f2⟩⟩ := h2
  unfold rankN
  by_cases q : x < x'
  · rw [decide_eq_true q, decide_eq_true (by omega)]
  · rw [decide_eq_false q, decide_eq_false (by omega)]
theorem rank_lt3 {x : Int} {m m' : Int × Int × Int} (h1 : Sm m) (h2 : Sm m') : lt3 m.1 m.2.1 m.2.2 m'.1 m'.2.1 m'.2.2 = decide (rankN x m < rankN x m') := by
  obtain ⟨⟨a1, a2⟩, ⟨b1, b2⟩, ⟨c1, c2⟩⟩ := h1
  obtain ⟨⟨d1, d2⟩, ⟨e1, e2⟩, ⟨f1, f2⟩⟩ := h2
  unfold rankN lt3
  split
  · split
    · split
      · exact (decide_eq_false (by omega)).symm
      · exact decide_eq_decide.mpr (by omega)
    · exact decide_eq_decide.mpr (by omega)
  · exact decide_eq_decide.mpr (by omega)
section
variable {prog : Program} {w : World} {A : Around} {E : Value → Shared → Prop} {s : Shared}
theorem nest_cmp {vs : List Value} {k : Value → Int} (hu : A.units + 1 < cLine) (hp : ∀ v ∈ vs, ∃ x m, IsN s.heap v x m ∧ Sm m ∧ k v = rankN x m) : SrtO.Cmp prog w A s (tuples' true) (fun p => p.1 ∈ vs) (SrtO.lt2 (ltK k)) := by
  intro p q hm hm'
  obtain ⟨x, m, h1, sm, k1⟩ := hp _ hm
  obtain ⟨x', m', h2, sm', k2⟩ := hp _ hm'
  show wpAny (model prog w) A (keyLt' (tuples' true) p.1 q.1) (fun r s' => s' = s ∧ r = ltK k p.1 q.1) (fun _ _ => False) s
  unfold ltK
  rw [k1, k2]
  obtain ⟨a, o, t, u, n, e, ho, hc, hd, tr⟩ := h1
  obtain ⟨a', o', t', u', n', e', ho', hc', hd', tr'⟩ := h2
  rw [e, e']
  refine PySem.W.kat_lt ho hd ho' hd' ?_
  show PySem.W.KatLex prog w A true (decide (2 < 2)) _ [(.int x t, .int x' t'), (.ref u, .ref u')] 0 s
  refine PySem.W.kat_cons (SeqAt.EqAt.int_int x t x' t' prog w _ _ ?_)
  refine PySem.W.kat_go (fun e1 => ?_) (fun e1 => ?_)
  · have ex : x = x' := by simpa using e1
    subst ex
    refine PySem.W.kat_yes (PySem.W.kat_cons (tri_eq tr tr' (by omega) prog w _ _ ?_))
    refine PySem.W.kat_go (fun e2 => ?_) (fun e2 => ?_)
    · refine PySem.W.kat_yes (PySem.W.kat_nil ⟨rfl, ?_⟩)
      rw [← rank_lt3 sm sm']
      simp only [Bool.and_eq_true, beq_iff_eq] at e2
      unfold lt3
      rw [if_pos e2.1, if_pos e2.2.1, if_pos e2.2.2]
      rfl
    · refine PySem.W.kat_no (PySem.W.kat_one _ _ (tri_lt tr tr' (by omega) prog w _ _ ?_))
      exact (show s = s ∧ lt3 _ _ _ _ _ _ = decide (rankN x m < rankN x m') from ⟨rfl, rank_lt3 sm sm'⟩)
  · have ex : ¬ x = x' := by simpa using e1
    exact PySem.W.kat_no (oneLt_int ⟨rfl, rank_lt sm sm' ex⟩)
theorem nest_firsts {h : Heap} : ∀ {vs : List Value}, (∀ v ∈ vs, ∃ x m, IsN h v x m) → ∃ fs : List Value, PySem.W.KatTups h vs fs ∧ fs.length = vs.length ∧ ∀ f ∈ fs, ∃ x t, f = Value.int x t
  | [], _ => ⟨[], PySem.W.KatTups.nil, rfl, fun _ hm => by simp at hm⟩
  | v :: vs, hp => by
    obtain ⟨fs, h1, h2, h3⟩ := nest_firsts (vs := vs) fun v' hm => hp v' (List.mem_cons_of_mem _ hm)
    obtain ⟨x, m, a, o, t, u, n, e, ho, hc, hd, _⟩ := hp v (List.mem_cons_self ..)
    subst e
    refine ⟨.int x t :: fs, PySem.W.KatTups.cons ho hc hd rfl h1, by rw [List.length_cons, List.length_cons, h2], fun f hm => ?_⟩
    rcases List.mem_cons.mp hm with rfl | hm
    · exact ⟨x, t, rfl⟩
    · exact h3 f hm
theorem nest_sortable {a : Addr} {vs : List Value} {k : Value → Int} (hu : A.units + 1 < cLine) (h0 : 0 < vs.length) (hp : ∀ v ∈ vs, ∃ x m, IsN s.heap v x m ∧ Sm m ∧ k v = rankN x m) (ha : ∀ o, s.heap.get? a = some o → o.cls ≠ .type "tuple") : SrtO.SortableO prog w A s a vs (ltK k) := by
  intro h' keep
  have hp' : ∀ v ∈ vs, ∃ x m, IsN h' v x m ∧ Sm m ∧ k v = rankN x m := fun v hm => let ⟨x, m, z, r⟩ := hp v hm; ⟨x, m, z.keeps fun b o e c => keep b o (fun z => by subst z; exact ha o e c) e, r⟩
  obtain ⟨fs, h1, h2, h3⟩ := nest_firsts (h := h') fun v hm => let ⟨x, m, z, _⟩ := hp' v hm; ⟨x, m, z⟩
  refine ⟨tuples' true, fun Q E hq => ?_, nest_cmp hu hp'⟩
  refine PySem.W.kat_kind (T := .type "int") h1 (by omega) (fun f hm => ?_) (by rfl) ?_
  · obtain ⟨x, t, rfl⟩ := h3 f hm
    exact PySem.W.Looks.now
  · have e : (Value.type "int" != Value.type "tuple") = true := by first | decide +kernel | rfl | decide
    rw [e]
    exact hq
theorem sorted_nest {l : Addr} {vs : List Value} {k : Value → Int} {Q : Value → Shared → Prop} (hu : A.units + 10 < cLine) (hl : s.heap.IsList l vs.toArray) (hz : vs.length ≤ sizeLine) (hp : ∀ v ∈ vs, ∃ x m, IsN s.heap v x m ∧ Sm m ∧ k v = rankN x m)
    (h : ∀ (h' : Heap) (d : Addr) (out : List Value), SrtO.Srtd (ltK k) out → out.Perm vs → (∀ b o, s.heap.get? b = some o → h'.get? b = some o) → s.heap.objs.size ≤ d → (∃ n, h'.get? d = some (seqObj "list" out.toArray n)) → Q (.ref d) { s with heap := h' }) :
    wpAny (model prog w) A (call (.builtin "sorted") [.ref l]) Q E s := by
  refine SrtO.sorted_ord (swo_k k) hl hz (fun h2 h₁ a ha kk => ?_) fun out hs hb => ?_
  · refine nest_sortable (s := { s with heap := h₁ }) (by show A.units + 1 + 1 + 1 < cLine; omega) (by omega) (fun v hm => let ⟨x, m, z, r⟩ := hp v hm; ⟨x, m, z.keeps fun b o e _ => (kk b o e).2, r⟩) fun o e => ?_
    have e' : some o = some (seqObj "list" vs.toArray 0) := e.symm.trans ha
    cases e'
    intro c
    exact absurd (Value.type.inj c) (by decide)
  · exact h _ _ out hs hb.perm (fun b o e => sortedAll_old e) (Nat.le_succ _) (sortedAll_at s.heap vs out.toArray)
end
end Pr
set_option maxHeartbeats 4000000
/-! Wl: meetings; sorted(..) by data. -/
namespace Pr
open PySem PySem.Spec PyProof.Rows L2
structure Mt where
  r : Nat
  i : Nat
  j : Nat
deriving DecidableEq
abbrev Mt.d (a : Mt) : PyData := .tuple [.int a.r, .int a.i, .int a.j]
abbrev Mt.k (a : Mt) : List Key := [.inl a.r, .inl a.i, .inl a.j]
theorem Mt.k_inj {a b : Mt} (h : a.k = b.k) : a = b := by
  cases a; cases b
  unfold Mt.k at h
  simp only [List.cons.injEq, Sum.inl.injEq, and_true] at h
  obtain ⟨h1, h2, h3⟩ := h
  rw [Mt.mk.injEq]
  exact ⟨by omega, by omega, by omega⟩
def Mt.ns (a : Mt) : List Int := [a.r, a.i, a.j]
def Mt.sm (a : Mt) : Prop := a.r < 64 ∧ a.i < 64 ∧ a.j < 64
def Mt.code (a : Mt) : Nat := (a.r * 64 + a.i) * 64 + a.j
theorem code_inj {a b : Mt} (h1 : a.sm) (h2 : b.sm) (h : a.code = b.code) : a = b := by
  cases a; cases b
  unfold Mt.sm at h1 h2
  unfold Mt.code at h
  simp only at h1 h2 h
  rw [Mt.mk.injEq]
  omega
theorem code3 {x y z : Int} : TS.code 64 [x, y, z] = (x * 64 + y) * 64 + z := by
  show x * 64 ^ 2 + (y * 64 ^ 1 + (z * 64 ^ 0 + 0)) = _
  have e2 : (64 : Int) ^ 2 = 4096 := by decide
  have e1 : (64 : Int) ^ 1 = 64 := by decide
  have e0 : (64 : Int) ^ 0 = 1 := by decide
  rw [e2, e1, e0]; omega
theorem code_ns {a : Mt} : TS.code 64 a.ns = (a.code : Int) := by
  unfold Mt.ns Mt.code
  rw [code3]; push_cast; rfl
theorem bd_ns {a : Mt} (h : a.sm) : a.ns.length = 3 ∧ TS.Bd 64 a.ns := by
  refine ⟨rfl, fun m hm => ?_⟩
  unfold Mt.sm at h
  simp only [Mt.ns, List.mem_cons, List.not_mem_nil, or_false] at hm
  omega
def sortM (l : List Mt) : List Mt := l.mergeSort fun a b => decide (a.code ≤ b.code)
theorem sortM_perm (l : List Mt) : (sortM l).Perm l := List.mergeSort_perm _ _
theorem sortM_pw (l : List Mt) : (sortM l).Pairwise fun a b => a.code ≤ b.code :=
  (List.pairwise_mergeSort (le := fun a b : Mt => decide (a.code ≤ b.code)) (fun a b c h1 h2 => by have := of_decide_eq_true h1; have := of_decide_eq_true h2; exact decide_eq_true (by omega)) (fun a b => by
    by_cases h : a.code ≤ b.code
    · simp [h]
    · simp [h]; omega) l).imp fun h => of_decide_eq_true h
theorem sortM_uniq {l l' : List Mt} (hs : ∀ a ∈ l, a.sm) (p : l'.Perm l) (w : l'.Pairwise fun a b => a.code ≤ b.code) : l' = sortM l :=
  List.Perm.eq_of_pairwise (le := fun a b : Mt => a.code ≤ b.code) (fun a b ha hb h1 h2 => code_inj (hs a (p.mem_iff.mp ha)) (hs b ((sortM_perm l).mem_iff.mp hb)) (by omega)) w (sortM_pw l) (p.trans (sortM_perm l).symm)
/-- a level and a meeting -/
abbrev nst (p : Int × Mt) : PyData := .tuple [.int p.1, p.2.d]
def rk (p : Int × Mt) : Int := rankN p.1 (p.2.r, p.2.i, p.2.j)
theorem rk_inj {p q : Int × Mt} (h1 : p.2.sm) (h2 : q.2.sm) (h : rk p = rk q) : p = q := by
  obtain ⟨x, a⟩ := p
  obtain ⟨y, b⟩ := q
  cases a; cases b
  unfold Mt.sm at h1 h2
  unfold rk rankN at h
  simp only at h1 h2 h
  have e1 : x = y := by omega
  subst e1
  rw [Prod.mk.injEq, Mt.mk.injEq]
  omega
def sortN (l : List (Int × Mt)) : List (Int × Mt) := l.mergeSort fun a b => decide (rk a ≤ rk b)
theorem sortN_perm (l : List (Int × Mt)) : (sortN l).Perm l := List.mergeSort_perm _ _
theorem sortN_pw (l : List (Int × Mt)) : (sortN l).Pairwise fun a b => rk a ≤ rk b :=
  (List.pairwise_mergeSort (le := fun a b : Int × Mt => decide (rk a ≤ rk b)) (fun a b c h1 h2 => by have := of_decide_eq_true h1; have := of_decide_eq_true h2; exact decide_eq_true (by omega)) (fun a b => by
    by_cases h : rk a ≤ rk b
    · simp [h]
    · simp [h]; omega) l).imp fun h => of_decide_eq_true h
theorem sortN_uniq {l l' : List (Int × Mt)} (hs : ∀ a ∈ l, a.2.sm) (p : l'.Perm l) (w : l'.Pairwise fun a b => rk a ≤ rk b) : l' = sortN l :=
  List.Perm.eq_of_pairwise (le := fun a b : Int × Mt => rk a ≤ rk b) (fun a b ha hb h1 h2 => rk_inj (hs a (p.mem_iff.mp ha)) (hs b ((sortN_perm l).mem_iff.mp hb)) (by omega)) w (sortN_pw l) (p.trans (sortN_perm l).symm)

/-! ### paired with data -/
theorem dpAll_paired {α : Type} {K : PySem.W.Frag} {H : Hp} {ι : α → PyData} : ∀ {l : List α} {xs : List V}, DpAll K H xs (l.map ι) ↔ Paired (fun v a => Dp K H v (ι a)) xs l
  | [], xs => ⟨fun h => by cases h; exact .nil, fun h => by cases h; exact .nil⟩
  | a :: l, xs => by
    rw [List.map_cons]
    exact ⟨fun h => by cases h with | cons r t => exact .cons r (dpAll_paired.mp t), fun h => by cases h with | cons r t => exact .cons r (dpAll_paired.mpr t)⟩
theorem paired_pw {α β : Type} {R : α → β → Prop} {r : α → α → Prop} {q : β → β → Prop} (h : ∀ a a' b b', R a b → R a' b' → r a a' → q b b') : ∀ {l : List α} {m : List β}, Paired R l m → l.Pairwise r → m.Pairwise q
  | [], [], _, _ => .nil
  | a :: l, b :: m, .cons x t, p => by
    rw [List.pairwise_cons] at p ⊢
    refine ⟨fun b' hb' => ?_, paired_pw h t p.2⟩
    obtain ⟨a', ha', hr⟩ : ∃ a' ∈ l, R a' b' := by
      clear p h x
      induction t with
      | nil => cases hb'
      | cons y _ ih =>
        rcases List.mem_cons.mp hb' with e | hb'
        · subst e; exact ⟨_, List.mem_cons_self, y⟩
        · obtain ⟨a', h1, h2⟩ := ih hb'
          exact ⟨a', List.mem_cons_of_mem _ h1, h2⟩
    exact h _ _ _ _ x hr (p.1 a' ha')
theorem dp_mt {K : PySem.W.Frag} {H : Hp} {v : V} {a : Mt} (h : Dp K H v a.d) : ∃ t, v = .ref t ∧ H t = some (.tup (a.ns.map V.int)) := by
  cases h with
  | @tup t xs _ s z r =>
    refine ⟨t, rfl, ?_⟩
    rw [z rfl]
    cases r with
    | cons r1 r => cases r with
      | cons r2 r => cases r with
        | cons r3 r => cases r; rw [dp_int r1, dp_int r2, dp_int r3]; rfl
theorem dp_mt_of {K : PySem.W.Frag} {H : Hp} {t : Addr} {a : Mt} (h : H t = some (.tup (a.ns.map V.int))) : Dp K H (.ref t) a.d := .tup (SqT.of h) (fun _ => h) (.cons (.int _) (.cons (.int _) (.cons (.int _) .nil)))
theorem paired_ns : ∀ l : List Mt, Paired (fun (k : List Int) (b : Mt) => k = b.ns) (l.map Mt.ns) l
  | [] => .nil
  | b :: l => .cons rfl (paired_ns l)
theorem noL_mt {a : Mt} : noL a.d = true := rfl
theorem noL_nst {p : Int × Mt} : noL (nst p) = true := rfl
section
variable {X : Cx} {δ : De} {e : Expr} {p pos : Pos}
theorem tl_new {H : Hp} {q : Addr} {o : HO} (h : H q = none) : TL H (upd H q o) := tl_of (same_new h)
/-- sorted(xs), xs a list of meetings -/
theorem d_sortM {l : List Mt} (h64 : l.length < 64) (hs : ∀ a ∈ l, a.sm) (hg : Gl X "sorted") (hm : X.mg "sorted" = none) (ha : PE X e (tD X.K δ (.l (l.map Mt.d)))) (he : starEach [e] X.env = (false, eval e X.env) :: starEach [] X.env := by rfl) :
    PE X (.Call (.Name "sorted" p) [e] [] pos) (tN X.K δ ((sortM l).map Mt.d)) :=
  PE_imp (pe_callB (cr_sortT (d := 3) (B := 64) (by decide)) hg hm boot_sorted (a_cons ha a_nil he) (by decide) (by decide) he rfl) fun σ H Q ⟨E, q⟩ => ⟨E, fun vs H1 s r => by
    obtain ⟨v, rfl, rv⟩ := rpAll_1 r
    obtain ⟨a, xs, rfl, sl, rr⟩ := dp_lst rv.toDp
    have pr := dpAll_paired.mp rr
    have el : xs.length = l.length := Paired.length pr
    refine ⟨a, xs, rfl, sl, by omega, fun x hx => ?_, fun ys q1 pm pw hq => ?_⟩
    · obtain ⟨i, hi, e⟩ := List.getElem_of_mem hx
      obtain ⟨b, hb, hd⟩ := paired_get pr (by rw [List.getElem?_eq_getElem hi, e])
      obtain ⟨t, e1, e2⟩ := dp_mt hd
      have := bd_ns (hs b (List.mem_of_getElem? hb))
      exact ⟨b.ns, ⟨t, e1, SqT.of e2⟩, this.1, this.2⟩
    · obtain ⟨l', pl, pr'⟩ := perm_paired pm pr
      have w : l'.Pairwise fun a b => a.code ≤ b.code := paired_pw (fun v v' b b' h1 h2 h => by
        obtain ⟨t, e1, e2⟩ := dp_mt h1
        obtain ⟨t', e1', e2'⟩ := dp_mt h2
        have := h b.ns b'.ns ⟨t, e1, SqT.of e2⟩ ⟨t', e1', SqT.of e2'⟩
        rw [code_ns, code_ns] at this
        omega) pr' pw
      rw [sortM_uniq hs pl w] at pr'
      exact q q1 ys _ (s.free hq) (s.trans (same_new hq)) upd_same (dpAll_mono (same_new hq) (dpAll_paired.mpr pr'))⟩
/-- sorted(d), d a dict whose keys are meetings -/
theorem d_sortD {kvs : List (List Key × PyData)} {l : List Mt} (hc : X.calm = true) (hk : kvs.map (·.1) = l.map Mt.k) (h64 : l.length < 64) (hs : ∀ a ∈ l, a.sm) (hg : Gl X "sorted") (hm : X.mg "sorted" = none) (ha : PE X e (tD X.K δ (.dT kvs))) (he : starEach [e] X.env = (false, eval e X.env) :: starEach [] X.env := by rfl) :
    PE X (.Call (.Name "sorted" p) [e] [] pos) (tN X.K δ ((sortM l).map Mt.d)) :=
  PE_imp (pe_callB (cr_sortDT (d := 3) (B := 64) (by decide) hc) hg hm boot_sorted (a_cons ha a_nil he) (by decide) (by decide) he rfl) fun σ H Q ⟨E, q⟩ => ⟨E, fun vs H1 s r => by
    obtain ⟨v, rfl, rv⟩ := rpAll_1 r
    obtain ⟨a, kv, rfl, hd, rr⟩ := rv.dT_inv
    refine ⟨a, kv, l.map Mt.ns, rfl, hd, ?_, by rw [List.length_map]; exact h64, fun k hk => ?_, fun L q1 pm hL pw hq => ?_⟩
    · rw [kvP_keys rr, hk, List.map_map]; rfl
    · obtain ⟨b, hb, rfl⟩ := List.mem_map.mp hk
      exact bd_ns (hs b hb)
    · obtain ⟨l', pl, pr'⟩ := perm_paired pm (paired_ns l)
      have w : l'.Pairwise fun a b => a.code ≤ b.code := paired_pw (fun v v' b b' h1 h2 h => by
        subst h1 h2
        rw [code_ns, code_ns] at h
        omega) pr' pw
      rw [sortM_uniq hs pl w] at pr'
      have pr2 : Paired (fun v a => Dp X.K H1 v (Mt.d a)) (L.map fun q => V.ref q.1) (sortM l) := by
        clear pm pw w pl
        generalize sortM l = m at pr'
        induction L generalizing m with
        | nil => cases pr'; exact .nil
        | cons x L ih =>
          rw [List.map_cons] at pr'
          cases pr' with
          | @cons _ b _ _ h t =>
            refine .cons (dp_mt_of ?_) (ih (fun q hq => hL q (List.mem_cons_of_mem _ hq)) _ t)
            rw [hL x List.mem_cons_self, h]
      exact q q1 _ _ (s.free hq) (s.trans (same_new hq)) upd_same (dpAll_mono (same_new hq) (dpAll_paired.mpr pr2))⟩
theorem dp_nst {K : PySem.W.Frag} {H : Hp} {v : V} {b : Int × Mt} (h : Dp K H v (nst b)) : ∃ t u, v = .ref t ∧ SqT K H t [.int b.1, .ref u] ∧ H u = some (.tup (b.2.ns.map V.int)) := by
  cases h with
  | @tup t xs _ s z r =>
    cases r with
    | cons r1 r => cases r with
      | cons r2 r =>
        cases r
        obtain ⟨u, e, hu⟩ := dp_mt r2
        rw [dp_int r1, e] at s
        exact ⟨t, u, rfl, s, hu⟩
def rSortN (K : PySem.W.Frag) : List V → Hp → VK → Prop := fun vs H Q => ∃ (a : Addr) (xs : List V) (l : List (Int × Mt)), vs = [V.ref a] ∧ SqL K H a xs ∧ DpAll K H xs (l.map nst) ∧ (∀ b ∈ l, b.2.sm) ∧
  ∀ (ys : List V) (p : Addr), DpAll K H ys ((sortN l).map nst) → H p = none → Q (.ref p) (upd H p (.lst ys))
theorem nest_refs {K : PySem.W.Frag} {H : Hp} : ∀ {its : List Value} {l : List (Int × Mt)}, Paired (fun v b => Dp K H v (nst b)) (its.map backV) l → (∀ u ∈ its, ∃ a, u = Value.ref a) → (∀ b ∈ l, b.2.sm) → Paired (fun v (b : Int × Mt) => ∃ t, v = Value.ref t ∧ b.2.sm ∧ Dp K H (.ref t) (nst b)) its l
  | [], [], _, _, _ => .nil
  | v :: its, b :: l, .cons h t, e, m => by
    obtain ⟨t', rfl⟩ := e v List.mem_cons_self
    exact .cons ⟨t', rfl, m b List.mem_cons_self, h⟩ (nest_refs t (fun u hu => e u (List.mem_cons_of_mem _ hu)) fun b hb => m b (List.mem_cons_of_mem _ hb))
/-- the rank, read off the heap -/
def kN (h : Heap) : Value → Int
  | .ref a => match h.get? a with
    | some o => match o.data with
      | .seq items _ => match items[0]?, items[1]? with
        | some (Value.int x _), some u => match TS.intsOf h u with
          | [r, i, j] => rankN x (r, i, j)
          | _ => 0
        | _, _ => 0
      | _ => 0
    | none => 0
  | _ => 0
theorem cr_sortN (hu : X.A.units + 10 < cLine) : CallR X (.builtin "sorted") (rSortN X.K) := by
  intro pins s σ H vs us Q I r h
  obtain ⟨a, xs, l, rfl, hs, hx, hsm, q⟩ := h
  obtain ⟨its, rv, hl, hz⟩ := I.list hs
  rw [Vals.ref1 r]
  have pr := dpAll_paired.mp hx
  have refs : ∀ x ∈ xs, ∃ t, x = V.ref t := fun x hx => by
    obtain ⟨i, hi, e⟩ := List.getElem_of_mem hx
    obtain ⟨b, hb, hd⟩ := paired_get pr (by rw [List.getElem?_eq_getElem hi, e])
    obtain ⟨t, u, e1, _⟩ := dp_nst hd
    exact ⟨t, e1⟩
  obtain ⟨e1, e2⟩ := refs_back rv refs
  -- each item: its datum
  have item : ∀ (t : Addr) (b : Int × Mt), b.2.sm → Dp X.K H (.ref t) (nst b) → IsN s.heap (.ref t) b.1 (b.2.r, b.2.i, b.2.j) ∧ Sm ((b.2.r : Int), (b.2.i : Int), (b.2.j : Int)) ∧ kN s.heap (.ref t) = rk b := fun t b hb hd => by
    obtain ⟨t', u, et, st, hu2⟩ := dp_nst hd
    cases et
    obtain ⟨its, r1, ⟨o, ho, hc, n, hdt⟩, _⟩ := I.tuple st
    cases r1 with
    | @cons _ v1 _ its' ri r1 => cases r1 with
      | @cons _ v2 _ its'' rj r1 =>
        cases r1
        obtain ⟨t1, rfl⟩ := ri
        obtain rfl : v2 = Value.ref u := rj
        have ti : TS.TupInts s.heap (.ref u) b.2.ns := tupI_raw I (SqT.of hu2)
        have tr : Tri s.heap u b.2.r b.2.i b.2.j := by
          obtain ⟨its2, r2, p2, _⟩ := I.tuple (SqT.of (K := X.K) hu2)
          cases r2 with
          | cons q1 r2 => cases r2 with
            | cons q2 r2 => cases r2 with
              | cons q3 r2 =>
                cases r2
                obtain ⟨t1, rfl⟩ := q1
                obtain ⟨t2, rfl⟩ := q2
                obtain ⟨t3, rfl⟩ := q3
                exact ⟨t1, t2, t3, p2⟩
        refine ⟨⟨t, o, t1, u, n, rfl, ho, hc, hdt, tr⟩, ?_, ?_⟩
        · unfold Mt.sm at hb
          unfold Sm
          simp only
          omega
        · unfold kN
          simp only [ho, hdt]
          show (match TS.intsOf s.heap (.ref u) with
            | [r, i, j] => rankN b.1 (r, i, j)
            | _ => 0) = rk b
          rw [ti.ints]
          rfl
  have pr2 : Paired (fun v (b : Int × Mt) => ∃ t, v = Value.ref t ∧ b.2.sm ∧ Dp X.K H (.ref t) (nst b)) its l := nest_refs (by rw [e1] at pr; exact pr) e2 hsm
  refine sorted_nest (k := kN s.heap) hu hl.isList (by rw [← rv.length]; exact hz) (fun v hv => ?_) fun h' d out h1 h2 kp hd hn => ?_
  · obtain ⟨i, hi, e⟩ := List.getElem_of_mem hv
    obtain ⟨b, hb, t, et, sm, dp⟩ := paired_get pr2 (by rw [List.getElem?_eq_getElem hi, e])
    subst et
    obtain ⟨q1, q2, q3⟩ := item t b sm dp
    exact ⟨b.1, _, q1, q2, q3⟩
  · obtain ⟨l', pl, pr'⟩ := perm_paired h2 pr2
    have w : l'.Pairwise fun a b => rk a ≤ rk b := paired_pw (r := fun v u => ltK (kN s.heap) u v = false) (fun v v' b b' ⟨t, e1, s1, d1⟩ ⟨t', e1', s2, d2⟩ h => by
      subst e1 e1'
      have := of_decide_eq_false h
      rw [(item t b s1 d1).2.2, (item t' b' s2 d2).2.2] at this
      omega) pr' h1
    rw [sortN_uniq hsm pl w] at pr'
    have h3 : ∀ u ∈ out, ∃ a, u = Value.ref a := fun u hu => e2 u (h2.mem_iff.mp hu)
    have pr3 : Paired (fun v b => Dp X.K H v (nst b)) (out.map backV) (sortN l) := by
      clear w pl h1 h2 h3 hn
      generalize sortN l = m at pr'
      induction out generalizing m with
      | nil => cases pr'; exact .nil
      | cons v out ih =>
        cases pr' with
        | cons h t =>
          obtain ⟨t', rfl, _, dp⟩ := h
          exact .cons dp (ih _ t)
    obtain ⟨n, hn⟩ := hn
    refine ⟨.ref d, upd H d (.lst (out.map backV)), I.laid (t' := s.toks) kp hd ⟨?_, out, n, vals_back h3, hn⟩, rfl, q _ d (dpAll_paired.mpr pr3) (I.hok.fresh hd)⟩
    rw [List.length_map, h2.length_eq]
    have := rv.length
    omega
/-- sorted(xs), xs a list of pairs of an int and a meeting -/
theorem d_sortN {l : List (Int × Mt)} (hu : X.A.units + 65 < cLine) (hs : ∀ a ∈ l, a.2.sm) (hg : Gl X "sorted") (hm : X.mg "sorted" = none) (ha : PE X e (tD X.K δ (.l (l.map nst)))) (he : starEach [e] X.env = (false, eval e X.env) :: starEach [] X.env := by rfl) :
    PE X (.Call (.Name "sorted" p) [e] [] pos) (tN X.K δ ((sortN l).map nst)) :=
  PE_imp (pe_callB (cr_sortN (by omega)) hg hm boot_sorted (a_cons ha a_nil he) (by decide) (by decide) he rfl) fun σ H Q ⟨E, q⟩ => ⟨E, fun vs H1 s r => by
    obtain ⟨v, rfl, rv⟩ := rpAll_1 r
    obtain ⟨a, xs, rfl, sl, rr⟩ := dp_lst rv.toDp
    exact ⟨a, xs, l, rfl, sl, rr, hs, fun ys p h1 hp => q p ys _ (s.free hp) (s.trans (same_new hp)) upd_same (dpAll_mono (same_new hp) h1)⟩⟩
end
end Pr
set_option maxHeartbeats 4000000
/-! W5: data of floors, evenings, dances; what only looks of Floor and Evening. -/
namespace Pr
open PySem PySem.Spec PyProof.Rows L2
inductive Deed where
  | rule (p : Pt)
  | lay (a : Mt)
  | take (a : Mt)
def Deed.d : Deed → PyData
  | .rule p => .tuple [.str "rule", p.data]
  | .lay a => .tuple [.str "lay", a.d]
  | .take a => .tuple [.str "take", a.d]
structure Fl where
  n : Nat
  m : Nat
  p : Pt
  sun : List (Nat × Nat)
  moon : List (Nat × Nat)
  laid : List (Mt × Bool)
def dkN (l : List (Nat × Nat)) : List (Key × PyData) := l.map fun kv => (.inl (kv.1 : Int), .int kv.2)
def dtM (l : List (Mt × Bool)) : List (List Key × PyData) := l.map fun kv => (kv.1.k, .bool kv.2)
def flF (s : Fl) : List Dt := [.i s.m, ruleD s.p, .i s.n, .dK (dkN s.moon), .dK (dkN s.sun), .dT (dtM s.laid)]
abbrev flD (s : Fl) : Dt := .ob "Floor" (flF s)
def evF (p0 : Pt) (s : Fl) (log und : List Deed) : List Dt := [ruleD p0, flD s, .l (log.map Deed.d), .i s.m, .i s.n, .l (und.map Deed.d)]
abbrev evD (p0 : Pt) (s : Fl) (log und : List Deed) : Dt := .ob "Evening" (evF p0 s log und)
def dnF (n m rounds : Nat) (p : Pt) : List Dt := [.i m, .i rounds, ruleD p, .i n]
abbrev dnD (n m rounds : Nat) (p : Pt) : Dt := .ob "Dance" (dnF n m rounds p)
def cnt (l : List (Nat × Nat)) (k : Nat) : Nat := (l.lookup k).getD 0
theorem valD_dkN {k : Nat} : ∀ {l : List (Nat × Nat)}, valD (dkN l) (.inl (k : Int)) = (l.lookup k).map fun v => .int v
  | [] => rfl
  | kv :: l => by
    have ih := valD_dkN (k := k) (l := l)
    unfold valD dkN at ih ⊢
    rw [List.map_cons, List.find?_cons, List.lookup_cons]
    by_cases h : kv.1 = k
    · subst h; simp
    · have h1 : decide ((Sum.inl (kv.1 : Int) : Key) = Sum.inl (k : Int)) = false := decide_eq_false fun e => h (by have := Sum.inl.inj e; omega)
      have h2 : (k == kv.1) = false := beq_eq_false_iff_ne.mpr fun e => h e.symm
      rw [h1, h2]
      exact ih
theorem valD_dtM {a : Mt} : ∀ {l : List (Mt × Bool)}, valD (dtM l) a.k = (l.lookup a).map fun v => .bool v
  | [] => rfl
  | kv :: l => by
    have ih := valD_dtM (a := a) (l := l)
    unfold valD dtM at ih ⊢
    rw [List.map_cons, List.find?_cons, List.lookup_cons]
    by_cases h : kv.1 = a
    · subst h; simp
    · have h1 : decide (kv.1.k = a.k) = false := decide_eq_false fun e => h (Mt.k_inj e)
      have h2 : (a == kv.1) = false := beq_eq_false_iff_ne.mpr fun e => h e.symm
      rw [h1, h2]
      exact ih
def has (l : List (Mt × Bool)) (a : Mt) : Bool := (l.lookup a).isSome
section
variable {X : Cx} {δ : De} {a b c e : Expr} {pos : Pos}
theorem tk_get {K : PySem.W.Frag} {H : Hp} {v : V} {k : List Key} {ad : Addr} {kvs : List (List Key × V)} {ds : List (List Key × PyData)} (hz : kz (k.map kD) = true) (rv : Rp K H v (.p (tkD k))) (hd : Rd H ad (.dT kvs)) (r : KvP K H kvs ds) : ∃ o, DGet H ad v o ∧ (∀ d, valD ds k = some d → ∃ w, o = some w ∧ Dp K H w d) ∧ (valD ds k = none → o = none) := by
  have dp := rv.toDp
  cases dp with
  | @tup b xs _ _ hx rr =>
    have e := tk_vals rr
    subst e
    obtain ⟨h1, h2⟩ := kvP_val k r
    exact ⟨valV kvs k, .inr ⟨kvs, k, b, hd, rfl, hx hz, rfl⟩, h1, h2⟩
/-- a tuple among a dict's keys -/
theorem tin_read {K : PySem.W.Frag} {k : List Key} {ds : List (List Key × PyData)} (hz : kz (k.map kD) = true) : ∀ σ H Q, tD K δ (.b (valD ds k).isSome) σ H Q → tDIn (tD K δ (.p (tkD k))) (tD K δ (.dT ds)) σ H Q := fun σ H Q ⟨E, q⟩ => ⟨E, fun v H1 s1 r1 => ⟨E.mono s1, fun w H2 s2 r2 => by
    obtain ⟨ad, kvs, rfl, hd, rr⟩ := r2.dT_inv
    obtain ⟨o, g, h1, h2⟩ := tk_get hz (r1.mono s2) hd rr
    refine ⟨ad, o, rfl, g, q _ H2 (s1.trans s2) ?_⟩
    have : o.isSome = (valD ds k).isSome := by
      cases z : valD ds k with
      | none => rw [h2 z]; rfl
      | some d => obtain ⟨w, e, _⟩ := h1 d z; rw [e]; rfl
    rw [this]; exact .p (.bl _)⟩⟩
theorem tnin_read {K : PySem.W.Frag} {k : List Key} {ds : List (List Key × PyData)} (hz : kz (k.map kD) = true) : ∀ σ H Q, tD K δ (.b (!(valD ds k).isSome)) σ H Q → tDNotIn (tD K δ (.p (tkD k))) (tD K δ (.dT ds)) σ H Q := fun σ H Q ⟨E, q⟩ => ⟨E, fun v H1 s1 r1 => ⟨E.mono s1, fun w H2 s2 r2 => by
    obtain ⟨ad, kvs, rfl, hd, rr⟩ := r2.dT_inv
    obtain ⟨o, g, h1, h2⟩ := tk_get hz (r1.mono s2) hd rr
    refine ⟨ad, o, rfl, g, q _ H2 (s1.trans s2) ?_⟩
    have : o.isSome = (valD ds k).isSome := by
      cases z : valD ds k with
      | none => rw [h2 z]; rfl
      | some d => obtain ⟨w, e, _⟩ := h1 d z; rw [e]; rfl
    rw [this]; exact .p (.bl _)⟩⟩
section
variable {k : List Key} {ds : List (List Key × PyData)} (hu : X.A.units + 1 < cLine) (hz : kz (k.map kD) = true) (ha : PE X a (tD X.K δ (.p (tkD k)))) (hb : PE X b (tD X.K δ (.dT ds)))
include hu hz ha hb
theorem d_tin (hm : behindInMarks .In b = false := by rfl) : PE X (.Compare a [.In] [b] pos) (tD X.K δ (.b (valD ds k).isSome)) := PE_imp (pe_cmp (pc_din hu ha hb) hm) (tin_read hz)
theorem d_tnin (hm : behindInMarks .NotIn b = false := by rfl) : PE X (.Compare a [.NotIn] [b] pos) (tD X.K δ (.b (!(valD ds k).isSome))) := PE_imp (pe_cmp (pc_dnotin hu ha hb) hm) (tnin_read hz)
theorem c_tin (hm : behindInMarks .In b = false := by rfl) : PT X (.Compare a [.In] [b] pos) (cD X.K δ (valD ds k).isSome) := PT_imp (pt_cmp (pc_din hu ha hb) hm) fun σ H Q ⟨E, q⟩ => tin_read hz σ H _ ⟨E, fun v H' s r => ⟨_, r.b_inv, q H' s⟩⟩
theorem c_tnin (hm : behindInMarks .NotIn b = false := by rfl) : PT X (.Compare a [.NotIn] [b] pos) (cD X.K δ (!(valD ds k).isSome)) := PT_imp (pt_cmp (pc_dnotin hu ha hb) hm) fun σ H Q ⟨E, q⟩ => tnin_read hz σ H _ ⟨E, fun v H' s r => ⟨_, r.b_inv, q H' s⟩⟩
end
theorem d_tsub {k : List Key} {ds : List (List Key × PyData)} {p : PyData} (hu : X.A.units + 1 < cLine) (hz : kz (k.map kD) = true) (hk : valD ds k = some p) (hb : PE X b (tD X.K δ (.dT ds))) (ha : PE X a (tD X.K δ (.p (tkD k)))) (hs : NoSl a := by intro _ _; rfl) : PE X (.Subscript b a pos) (tD X.K δ (.p p)) :=
  PE_imp (pe_dget hu hb ha hs) fun σ H Q ⟨E, q⟩ => ⟨E, fun w H1 s1 r1 => ⟨E.mono s1, fun v H2 s2 r2 => by
    obtain ⟨ad, kvs, rfl, hd, rr⟩ := (r1.mono s2).dT_inv
    obtain ⟨o, g, h1, h2⟩ := tk_get hz r2 hd rr
    obtain ⟨z, e, rz⟩ := h1 p hk
    subst e
    exact ⟨ad, z, rfl, g, q _ H2 (s1.trans s2) (.p rz)⟩⟩⟩
end
section
variable {P : Program} {w : World} {K : PySem.W.Frag} {mg : Str → Option Value} {base : Heap}
def Fl.nxt (s : Fl) (a : Mt) : Bool := cnt s.sun a.i == a.r * s.m + a.j && cnt s.moon a.j == a.r * s.n + a.i
def Fl.isE (s : Fl) (a : Mt) : Bool := has s.laid a && (cnt s.sun a.i == a.r * s.m + a.j + 1 && cnt s.moon a.j == a.r * s.n + a.i + 1)
theorem getD_cnt {l : List (Nat × Nat)} {k : Nat} : Dt.p ((valD (dkN l) (.inl (k : Int))).getD (.int 0)) = .i (cnt l k) := by
  rw [valD_dkN]; unfold cnt
  cases l.lookup k <;> rfl
theorem eqv_nat {x y : Nat} : PyData.eqv (.int x) (.int y) = (x == y) := by
  rw [eqv_int]
  by_cases h : x = y
  · subst h; simp
  · have h1 : (x == y) = false := beq_eq_false_iff_ne.mpr h
    have h2 : ((x : Int) == (y : Int)) = false := beq_eq_false_iff_ne.mpr (by omega)
    rw [h1, h2]
theorem eqv_natI {x : Nat} {y : Int} {z : Nat} (h : y = z) : PyData.eqv (.int x) (.int y) = (x == z) := by rw [h, eqv_nat]
def rdNext : RD := fun ds d => ∃ (s : Fl) (a : Mt), s.n ≤ 100 ∧ s.m ≤ 100 ∧ a.r ≤ 1000 ∧ ds = [flD s, .p a.d] ∧ d = .b (s.nxt a)
theorem f1_is_next (T : Tx K mg) : FnR P w K mg base CX0 1 (ma K "Floor" "is_next") (spD K rdNext) :=
  fnR_D T.f_Floor_is_next sc_Floor_is_next bn_Floor_is_next (fun ds d ⟨_, _, _, _, _, h, _⟩ => by rw [h]; rfl) fun cdv A outer s H E hr ds d ⟨fl, a, hn, hm, ha, h, h2⟩ => by
    subst h h2
    have hu := room_u hr
    have hu1 : (A.deeper (envOfC "Floor.is_next" (defScope st_Floor_is_next) s.heap.objs.size (ma K "Floor" "is_next") cdv)).units + 1 < cLine := by omega
    have e1 : PyData.eqv (.int (cnt fl.sun a.i)) (.int ((a.r : Int) * fl.m + a.j)) = (cnt fl.sun a.i == a.r * fl.m + a.j) := eqv_natI (by push_cast; rfl)
    have e2 : PyData.eqv (.int (cnt fl.moon a.j)) (.int ((a.r : Int) * fl.n + a.i)) = (cnt fl.moon a.j == a.r * fl.n + a.i) := eqv_natI (by push_cast; rfl)
    refine q_seq (n_asg (d_var 1 rfl) (g_tup (ps := [.int a.r, .int a.i, .int a.j]) rfl (gs_cons (g_name 2 sc_Floor_is_next.nd rfl (.inl rfl)) (gs_cons (g_name 3 sc_Floor_is_next.nd rfl (.inl rfl)) (gs_cons (g_name 4 sc_Floor_is_next.nd rfl (.inl rfl)) gs_nil))) rfl)) ?_
    refine q_if (c_ne hu sh_int sh_int (d_eqv (d_dget2 (kx := .inl (a.i : Int)) hu1 (d_fld T.s_Floor_on_sun rfl (d_var 0 rfl)) (d_var 3 rfl) d_int ⟨rfl, rfl, rfl, rfl⟩) getD_cnt) (d_add (d_mul (cmul_small (by omega)) (d_var 2 rfl) (d_fld T.s_Floor_floor_moons rfl (d_var 0 rfl))) (d_var 4 rfl))) (fun hk => ?_) (fun hk => ?_)
    · refine q_retE d_bl ?_
      rw [e1] at hk
      unfold Fl.nxt
      cases z : (cnt fl.sun a.i == a.r * fl.m + a.j) with
      | false => rfl
      | true => rw [z] at hk; cases hk
    · refine q_retE (d_eq hu sh_int sh_int (d_eqv (d_dget2 (kx := .inl (a.j : Int)) hu1 (d_fld T.s_Floor_on_moon rfl (d_var 0 rfl)) (d_var 4 rfl) d_int ⟨rfl, rfl, rfl, rfl⟩) getD_cnt) (d_add (d_mul (cmul_small (by omega)) (d_var 2 rfl) (d_fld T.s_Floor_floor_suns rfl (d_var 0 rfl))) (d_var 3 rfl))) ?_
      rw [e1] at hk
      rw [e2]
      unfold Fl.nxt
      cases z : (cnt fl.sun a.i == a.r * fl.m + a.j) with
      | true => rfl
      | false => rw [z] at hk; cases hk
end
end Pr
set_option maxHeartbeats 4000000
/-! W6: Floor and Evening, what only looks. -/
namespace Pr
open PySem PySem.Spec PyProof.Rows L2
variable {P : Program} {w : World} {K : PySem.W.Frag} {mg : Str → Option Value} {base : Heap}
/-- what is laid is counted -/
def Fl.cok (s : Fl) (a : Mt) : Prop := has s.laid a = true → (s.sun.lookup a.i).isSome = true ∧ (s.moon.lookup a.j).isSome = true
theorem has_dtM {l : List (Mt × Bool)} {a : Mt} : (valD (dtM l) a.k).isSome = has l a := by
  rw [valD_dtM]; unfold has; cases l.lookup a <;> rfl
theorem lookup_cnt {l : List (Nat × Nat)} {k : Nat} (h : (l.lookup k).isSome = true) : valD (dkN l) (.inl (k : Int)) = some (.int (cnt l k)) := by
  rw [valD_dkN]; unfold cnt
  cases z : l.lookup k with
  | none => rw [z] at h; cases h
  | some v => rfl
def rdEnd : RD := fun ds d => ∃ (s : Fl) (a : Mt), s.n ≤ 100 ∧ s.m ≤ 100 ∧ a.r ≤ 1000 ∧ s.cok a ∧ ds = [flD s, .p a.d] ∧ d = .b (s.isE a)
theorem f1_is_end (T : Tx K mg) : FnR P w K mg base CX0 1 (ma K "Floor" "is_end") (spD K rdEnd) :=
  fnR_D T.f_Floor_is_end sc_Floor_is_end bn_Floor_is_end (fun ds d ⟨_, _, _, _, _, _, h, _⟩ => by rw [h]; rfl) fun cdv A outer s H E hr ds d ⟨fl, a, hn, hm, ha, hc, h, h2⟩ => by
    subst h h2
    have hu := room_u hr
    have hu1 : (A.deeper (envOfC "Floor.is_end" (defScope st_Floor_is_end) s.heap.objs.size (ma K "Floor" "is_end") cdv)).units + 1 < cLine := by omega
    have e1 : PyData.eqv (.int (cnt fl.sun a.i)) (.int ((a.r : Int) * fl.m + a.j + 1)) = (cnt fl.sun a.i == a.r * fl.m + a.j + 1) := eqv_natI (by push_cast; rfl)
    have e2 : PyData.eqv (.int (cnt fl.moon a.j)) (.int ((a.r : Int) * fl.n + a.i + 1)) = (cnt fl.moon a.j == a.r * fl.n + a.i + 1) := eqv_natI (by push_cast; rfl)
    refine q_seq (n_asg (d_var 1 rfl) (g_tup (ps := [.int a.r, .int a.i, .int a.j]) rfl (gs_cons (g_name 2 sc_Floor_is_end.nd rfl (.inl rfl)) (gs_cons (g_name 3 sc_Floor_is_end.nd rfl (.inl rfl)) (gs_cons (g_name 4 sc_Floor_is_end.nd rfl (.inl rfl)) gs_nil))) rfl)) ?_
    have hh := has_dtM (l := fl.laid) (a := a)
    by_cases z : has fl.laid a = true
    · obtain ⟨c1, c2⟩ := hc z
      refine q_if (PW.pt (w_or (c_eqv (c_tnin (k := a.k) hu1 rfl (d_var 1 rfl) (d_fld T.s_Floor_truths rfl (d_var 0 rfl))) (by rw [hh])) fun _ => w_or1 (c_ne hu sh_int sh_int (d_dsub (kx := .inl (a.i : Int)) hu1 (lookup_cnt c1) (d_fld T.s_Floor_on_sun rfl (d_var 0 rfl)) (d_var 3 rfl)) (d_add (d_add (d_mul (cmul_small (by omega)) (d_var 2 rfl) (d_fld T.s_Floor_floor_moons rfl (d_var 0 rfl))) (d_var 4 rfl)) d_int)))) (fun hk => ?_) (fun hk => ?_)
      · refine q_retE d_bl ?_
        rw [z, e1] at hk
        unfold Fl.isE
        rw [z]
        cases z2 : (cnt fl.sun a.i == a.r * fl.m + a.j + 1) with
        | false => rfl
        | true => rw [z2] at hk; cases hk
      · refine q_retE (d_eq hu sh_int sh_int (d_dsub (kx := .inl (a.j : Int)) hu1 (lookup_cnt c2) (d_fld T.s_Floor_on_moon rfl (d_var 0 rfl)) (d_var 4 rfl)) (d_add (d_add (d_mul (cmul_small (by omega)) (d_var 2 rfl) (d_fld T.s_Floor_floor_suns rfl (d_var 0 rfl))) (d_var 3 rfl)) d_int)) ?_
        rw [z, e1] at hk
        rw [e2]
        unfold Fl.isE
        rw [z]
        cases z2 : (cnt fl.sun a.i == a.r * fl.m + a.j + 1) with
        | true => rfl
        | false => rw [z2] at hk; cases hk
    · have z' : has fl.laid a = false := by cases q : has fl.laid a with | true => exact absurd q z | false => rfl
      refine q_if (k := true) (c_eqv (PW.pt (w_or (k2 := true) (c_tnin (k := a.k) hu1 rfl (d_var 1 rfl) (d_fld T.s_Floor_truths rfl (d_var 0 rfl))) fun q => by rw [hh, z'] at q; cases q)) (by rw [hh, z']; rfl)) (fun _ => ?_) (fun q => nomatch q)
      exact q_retE d_bl (by unfold Fl.isE; rw [z']; rfl)
/-- whether a deed can be done -/
def Fl.can (s : Fl) : Deed → Bool
  | .rule _ => true
  | .lay a => s.nxt a
  | .take a => s.isE a
def Deed.okF (s : Fl) : Deed → Prop
  | .rule _ => True
  | .lay a => a.r ≤ 1000
  | .take a => a.r ≤ 1000 ∧ s.cok a
def rdCanDo : RD := fun ds d => ∃ (s : Fl) (a : Deed), s.n ≤ 100 ∧ s.m ≤ 100 ∧ a.okF s ∧ ds = [flD s, .p a.d] ∧ d = .b (s.can a)
theorem sh_rule : SeqAt.shaped (.str "rule") = true := sh_str (by decide +kernel)
theorem sh_lay : SeqAt.shaped (.str "lay") = true := sh_str (by decide +kernel)
theorem sh_take : SeqAt.shaped (.str "take") = true := sh_str (by decide +kernel)
theorem f2_can_do (T : Tx K mg) : FnR P w K mg base CX0 2 (ma K "Floor" "can_do") (spD K rdCanDo) :=
  fnR_D T.f_Floor_can_do sc_Floor_can_do bn_Floor_can_do (fun ds d ⟨_, _, _, _, _, h, _⟩ => by rw [h]; rfl) fun cdv A outer s H E hr ds d ⟨fl, a, hn, hm, ho, h, h2⟩ => by
    subst h h2
    have hu := room_u hr
    match a with
    | .rule p =>
      refine q_if (k := true) (c_eqv (c_eq hu sh_rule sh_rule (d_ixT (p := .str "rule") rfl (d_var 1 rfl) d_int) d_str) (by decide +kernel)) (fun _ => ?_) (fun z => nomatch z)
      exact q_retD d_bl
    | .lay a =>
      refine q_if (k := false) (c_eqv (c_eq hu sh_lay sh_rule (d_ixT (p := .str "lay") rfl (d_var 1 rfl) d_int) d_str) (by decide +kernel)) (fun z => nomatch z) (fun _ => ?_)
      exact q_retD (d_if (k := true) (c_eqv (c_eq hu sh_lay sh_lay (d_ixT (p := .str "lay") rfl (d_var 1 rfl) d_int) d_str) (by decide +kernel)) (fun _ => d_meth T.c_Floor T.m_Floor_is_next (f1_is_next T) hr ⟨fl, a, hn, hm, ho, rfl, rfl⟩ (d_var 0 rfl) (a_cons (d_ixT (p := a.d) rfl (d_var 1 rfl) d_int) a_nil)) (fun z => nomatch z))
    | .take a =>
      refine q_if (k := false) (c_eqv (c_eq hu sh_take sh_rule (d_ixT (p := .str "take") rfl (d_var 1 rfl) d_int) d_str) (by decide +kernel)) (fun z => nomatch z) (fun _ => ?_)
      exact q_retD (d_if (k := false) (c_eqv (c_eq hu sh_take sh_lay (d_ixT (p := .str "take") rfl (d_var 1 rfl) d_int) d_str) (by decide +kernel)) (fun z => nomatch z) (fun _ => d_meth T.c_Floor T.m_Floor_is_end (f1_is_end T) hr ⟨fl, a, hn, hm, ho.1, ho.2, rfl, rfl⟩ (d_var 0 rfl) (a_cons (d_ixT (p := a.d) rfl (d_var 1 rfl) d_int) a_nil)))
def rdPlace : RD := fun ds d => ∃ (p0 : Pt) (s : Fl) (log und : List Deed) (a : Mt), a.i < s.n ∧ a.j < s.m ∧ ds = [evD p0 s log und, .p a.d] ∧ d = .b true
theorem f3_is_place (T : Tx K mg) : FnR P w K mg base CX0 3 (ma K "Evening" "is_place") (spD K rdPlace) :=
  fnR_D T.f_Evening_is_place sc_Evening_is_place bn_Evening_is_place (fun ds d ⟨_, _, _, _, _, _, _, h, _⟩ => by rw [h]; rfl) fun cdv A outer s H E hr ds d ⟨p0, fl, log, und, a, hi, hj, h, h2⟩ => by
    subst h h2
    have hu := room_u hr
    refine q_if (k := false) (c_eqv (PW.pt (w_or (c_not (c_val (d_isi (k := true) rfl T.b_isinstance rfl T.b_tuple boot_tuple kt_tt (d_var 1 rfl)))) fun _ => w_or (c_ne hu sh_int sh_int (d_lenT rfl T.b_len (a_cons (d_var 1 rfl) a_nil)) d_int) fun _ => w_or1 (c_not (c_val (d_all (bs := [true, true, true]) rfl rfl T.b_all (d_new
      (d_lc0 (l := [a.r, a.i, a.j]) (ι := fun n => .int n) (f := fun _ => .bool true) (own := [("part", 2)]) rfl sc_Evening_is_place.nd (i_tup (d_var 1 rfl)) (blkOk_by (by kernel_rfl)) rfl (by simp) (by decide) (fun _ _ => rfl)
        (fun p hp s H C cl fp => g_name 2 sc_Evening_is_place.nd rfl (.inl rfl)) (fun p hp s H C cl fp => d_call (f2_is_count T) hr rfl T.g_is_count T.f_is_count.kp ⟨p, by omega, rfl, rfl⟩ (a_cons (d_var 2 rfl) a_nil))))))))) rfl) (fun z => nomatch z) fun _ => ?_
    refine q_retE (d_and (d_lt (d_ixT (p := .int a.i) rfl (d_var 1 rfl) d_int) (d_fld T.s_Evening_its_suns rfl (d_var 0 rfl))) fun _ => d_one (d_lt (d_ixT (p := .int a.j) rfl (d_var 1 rfl) d_int) (d_fld T.s_Evening_its_moons rfl (d_var 0 rfl)))) ?_
    rw [decide_eq_true (show (a.i : Int) < fl.n by omega), decide_eq_true (show (a.j : Int) < fl.m by omega)]; rfl
def Deed.okE (n m : Nat) : Deed → Prop
  | .rule p => p.ok ∧ p.deep < DP
  | .lay a => a.i < n ∧ a.j < m
  | .take a => a.i < n ∧ a.j < m
def rdIsDeed : RD := fun ds d => ∃ (p0 : Pt) (s : Fl) (log und : List Deed) (a : Deed), a.okE s.n s.m ∧ ds = [evD p0 s log und, .p a.d] ∧ d = .b true
theorem f7_is_deed (T : Tx K mg) : FnR P w K mg base CX0 7 (ma K "Evening" "is_deed") (spD K rdIsDeed) :=
  fnR_D T.f_Evening_is_deed sc_Evening_is_deed bn_Evening_is_deed (fun ds d ⟨_, _, _, _, _, _, h, _⟩ => by rw [h]; rfl) fun cdv A outer s H E hr ds d ⟨p0, fl, log, und, a, ho, h, h2⟩ => by
    subst h h2
    have hu := room_u hr
    match a with
    | .rule p =>
      refine q_if (k := false) (c_eqv (PW.pt (w_or (c_not (c_val (d_isi (k := true) rfl T.b_isinstance rfl T.b_tuple boot_tuple kt_tt (d_var 1 rfl)))) fun _ => w_or (c_ne hu sh_int sh_int (d_lenT rfl T.b_len (a_cons (d_var 1 rfl) a_nil)) d_int) fun _ => w_or1 (c_not (c_val (d_isi (k := true) rfl T.b_isinstance rfl T.b_str boot_str kt_ss (d_ixT (p := .str "rule") rfl (d_var 1 rfl) d_int)))))) rfl) (fun z => nomatch z) fun _ => ?_
      refine q_if (k := true) (c_eqv (c_eq hu sh_rule sh_rule (d_ixT (p := .str "rule") rfl (d_var 1 rfl) d_int) d_str) (by decide +kernel)) (fun _ => ?_) (fun z => nomatch z)
      exact q_retD (d_call (fn_are_parts T DP) hr rfl T.g_are_parts T.f_are_parts.kp ⟨p, ho.1, ho.2, rfl, rfl⟩ (a_cons (d_ixT (p := p.data) rfl (d_var 1 rfl) d_int) a_nil))
    | .lay a =>
      refine q_if (k := false) (c_eqv (PW.pt (w_or (c_not (c_val (d_isi (k := true) rfl T.b_isinstance rfl T.b_tuple boot_tuple kt_tt (d_var 1 rfl)))) fun _ => w_or (c_ne hu sh_int sh_int (d_lenT rfl T.b_len (a_cons (d_var 1 rfl) a_nil)) d_int) fun _ => w_or1 (c_not (c_val (d_isi (k := true) rfl T.b_isinstance rfl T.b_str boot_str kt_ss (d_ixT (p := .str "lay") rfl (d_var 1 rfl) d_int)))))) rfl) (fun z => nomatch z) fun _ => ?_
      refine q_if (k := false) (c_eqv (c_eq hu sh_lay sh_rule (d_ixT (p := .str "lay") rfl (d_var 1 rfl) d_int) d_str) (by decide +kernel)) (fun z => nomatch z) (fun _ => ?_)
      exact q_retE (d_and (d_inT (zs := ["lay", "take"]) (d_ixT (p := .str "lay") rfl (d_var 1 rfl) d_int) (d_tup2 (a_cons d_str (a_cons d_str a_nil)))) fun _ => d_one (d_meth T.c_Evening T.m_Evening_is_place ((f3_is_place T).mono (by decide)) hr ⟨p0, fl, log, und, a, ho.1, ho.2, rfl, rfl⟩ (d_var 0 rfl) (a_cons (d_ixT (p := a.d) rfl (d_var 1 rfl) d_int) a_nil))) (congrArg Dt.b (by decide +kernel))
    | .take a =>
      refine q_if (k := false) (c_eqv (PW.pt (w_or (c_not (c_val (d_isi (k := true) rfl T.b_isinstance rfl T.b_tuple boot_tuple kt_tt (d_var 1 rfl)))) fun _ => w_or (c_ne hu sh_int sh_int (d_lenT rfl T.b_len (a_cons (d_var 1 rfl) a_nil)) d_int) fun _ => w_or1 (c_not (c_val (d_isi (k := true) rfl T.b_isinstance rfl T.b_str boot_str kt_ss (d_ixT (p := .str "take") rfl (d_var 1 rfl) d_int)))))) rfl) (fun z => nomatch z) fun _ => ?_
      refine q_if (k := false) (c_eqv (c_eq hu sh_take sh_rule (d_ixT (p := .str "take") rfl (d_var 1 rfl) d_int) d_str) (by decide +kernel)) (fun z => nomatch z) (fun _ => ?_)
      exact q_retE (d_and (d_inT (zs := ["lay", "take"]) (d_ixT (p := .str "take") rfl (d_var 1 rfl) d_int) (d_tup2 (a_cons d_str (a_cons d_str a_nil)))) fun _ => d_one (d_meth T.c_Evening T.m_Evening_is_place ((f3_is_place T).mono (by decide)) hr ⟨p0, fl, log, und, a, ho.1, ho.2, rfl, rfl⟩ (d_var 0 rfl) (a_cons (d_ixT (p := a.d) rfl (d_var 1 rfl) d_int) a_nil))) (congrArg Dt.b (by decide +kernel))
end Pr
set_option maxHeartbeats 4000000
/-! Wm: a new list that a loop fills. -/
namespace Pr
open PySem PySem.Spec PyProof.Rows L2
theorem fo_lst {H : Hp} {f : Addr} {vs : List V} (h : H f = some (.lst vs)) : Fo H [f] := by
  refine ⟨fun a ha => ?_, fun a ha y hy => ?_, fun a ha C dx fs hy => ?_⟩ <;> have e := List.mem_singleton.mp ha <;> subst e
  · exact .inl ⟨_, h⟩
  · rw [h] at hy; cases hy
  · rw [h] at hy; cases hy
theorem tl_mn {H : Hp} {F : List Addr} (h : ∀ f ∈ F, Fg H f) : TL H (mn H F) := fun a xs => by
  refine ⟨fun r => ?_, fun r => ?_⟩
  · have e : a ∉ F := fun e => by
      rcases r with r | ⟨o, r⟩
      · exact ((h a e).not r).1 xs rfl
      · exact ((h a e).not r).2.1 o _ rfl
    rcases r with r | ⟨o, r⟩
    · exact .inl (by rw [mn_out e]; exact r)
    · exact .inr ⟨o, by rw [mn_out e]; exact r⟩
  · have e : a ∉ F := fun e => ((h a e).not r).1 xs rfl
    rw [mn_out e]; exact r
structure AccAt (K : PySem.W.Frag) (k : Nat) (δ : De) (f : Addr) (vs : List V) (acc : List PyData) (σ : L2.St) (H : Hp) : Prop where
  sk : σ[k]? = some (some (.ref f))
  hf : H f = some (.lst vs)
  dp : DpAll K (mn H [f]) vs acc
  nl : noLs acc = true
  env : EnvD K σ (mn H [f]) δ
/-- the statement makes the list at slot k longer by g -/
def sAc (K : PySem.W.Frag) (k : Nat) (δ δ' : De) (g : List PyData) : TS := fun D σ H => ∃ f vs acc, AccAt K k δ f vs acc σ H ∧ acc.length + g.length ≤ 1000 ∧
  ∀ σ' H' vs', AccAt K k δ' f vs' (acc ++ g) σ' H' → Same (mn H [f]) (mn H' [f]) → D.nx σ' H'
theorem mn_upd1 {H : Hp} {f : Addr} {o : HO} : mn (upd H f o) [f] = mn H [f] := mn_upd List.mem_cons_self
section
variable {X : Cx} {k : Nat} {δ δ1 δ2 δw : De} {g g1 g2 : List PyData} {is : List Nat} {st : Stmt} {body rest els : List Stmt} {a c e tg iter : Expr} {d : PyData} {ds : List PyData} {b : Bool} {pos : Pos} {O : Oc} {x : Str} {p p2 apos cpos : Pos}
/-- x = e, the other slots as they were -/
theorem a_set {dd : Dt} (i : Nat) {x : Str} {pos' : Pos} (hN : X.N.Nodup) (hi : X.N[i]? = some x) (hx : Loc X.env.scope x) (he : PE X e (tD X.K δ dd)) (hs : swapsWith e (some (.Name x pos')) pos.line X.env = pure false := by rfl)
    (hf : X.fn x = true ∨ X.env.scope.names.lookup x = some .local := by first | exact .inl rfl | exact .inr rfl | assumption) : PS X (.Assign [.Name x pos'] e pos) (aS X.K δ (δ.set i (some dd)) [i]) :=
  PS_imp (ps_set hN hi hx he hs hf) fun D σ H ⟨E, q⟩ => ⟨E, fun v H' s r => q _ H' s ((E.mono s).set i r) ⟨by simp, fun j hj => List.getElem?_set_ne fun e => hj (by simp [e])⟩⟩
theorem a_asg {tg : Expr} {dd : Dt} (he : PE X e (tD X.K δ dd)) (hg : PG X tg (gD X.K δ dd is δ2)) (hs : swapsWithSole [tg] e pos.line X.env = pure false := by rfl) (hw : swappedStores [tg] e X.env = pure none := by rfl)
    (h1 : (assignEach [tg] X.env).map (·.2) = [assign tg X.env] := by rfl) : PS X (.Assign [tg] e pos) (aS X.K δ δ2 is) :=
  PS_imp (ps_asg he hg hs hw h1) fun D σ H ⟨E, q⟩ => ⟨E, fun v H' s r => ⟨E.mono s, r, fun σ' E' ag => q σ' H' s E' ag⟩⟩
theorem ac_pure (h : PS X st (aS X.K δ δ2 is)) (hk : k ∉ is) : PS X st (sAc X.K k δ δ2 []) :=
  PS_imp (PS_frame h) fun D σ H ⟨f, vs, acc, A, hl, q⟩ => ⟨[f], fo_lst A.hf, A.env, fun σ' H1 s E ag => ⟨s, fun H' b => q σ' H' vs ⟨(ag.2 k hk).trans A.sk, (b.at (by simp)).trans A.hf, by rw [List.append_nil, b.mn]; exact dpAll_mono s A.dp, by rw [List.append_nil]; exact A.nl, by rw [b.mn]; exact E⟩ b.chg⟩⟩
theorem ac_append (hn : noL d = true) (he : PE X e (tD X.K δ (.p d))) (hN : X.N[k]? = some x := by rfl) (hv : Vis X.env.scope x := by first | exact Or.inl rfl | exact Or.inr (Or.inl rfl) | exact Or.inr (Or.inr rfl))
    (h1 : (x == ("__debug__" : Str)) = false := by decide) (h2 : (x == ("__classdict__" : Str)) = false := by decide) (hs : swapsWith (.Call (.Attribute (.Name x p2) "append" apos) [e] [] cpos) none pos.line X.env = pure false := by rfl)
    (hbase : attributeBase (.Name x p2) "append" X.env (eval (.Name x p2) X.env) = eval (.Name x p2) X.env := by rfl)
    (hfew : ((backTo cpos (starEach [e] X.env)).all (fun x => !x.1) && (backToKw cpos (keywordEach [] X.env)).all (fun x => x.1.isSome)
      && decide (([e] : List Expr).length + ([] : List Keyword).length + (if ([] : List Keyword).isEmpty then 0 else 1) < 30)) = true := by rfl)
    (hline : (apos.endLine == cpos.line) = true := by rfl) (hst : starEach [e] X.env = (false, eval e X.env) :: starEach [] X.env := by rfl) : PS X (.Expr (.Call (.Attribute (.Name x p2) "append" apos) [e] [] cpos) pos) (sAc X.K k δ δ [d]) :=
  PS_imp (ps_expr (pe_bm PySem.F.plainAttrs_list PySem.F.slot_list_append PySem.F.type_list_append mt_append (pe_var hN hv h1 h2) (PA_frame (a_cons he a_nil hst)) hbase hfew hline hst rfl) hs) fun D σ H ⟨f, vs, acc, A, hl, q⟩ =>
    ⟨_, A.sk, .inl ⟨rfl, _, SqL.of A.hf⟩, [f], fo_lst A.hf, A.env, fun ws H1 s r => ⟨s, fun H' b => by
      obtain ⟨y, rfl, ry⟩ := rpAll_1 r
      have el := dpAll_length A.dp
      refine ⟨f, vs, y, rfl, rfl, (b.at (by simp)).trans A.hf, Evl.sz_lt (by omega), q σ _ (vs ++ [y]) ⟨A.sk, upd_same, ?_, ?_, ?_⟩ ?_⟩
      · rw [mn_upd1, b.mn]; exact dpAll_append (dpAll_mono s A.dp) (.cons ry.toDp .nil)
      · exact noLs_append A.nl (by simp [noLs, hn])
      · rw [mn_upd1, b.mn]; exact A.env.mono s
      · rw [mn_upd1]; exact b.chg⟩⟩
theorem ac_extend (hn : noLs ds = true) (he : PE X e (tN X.K δ ds)) (hN : X.N[k]? = some x := by rfl) (hv : Vis X.env.scope x := by first | exact Or.inl rfl | exact Or.inr (Or.inl rfl) | exact Or.inr (Or.inr rfl))
    (h1 : (x == ("__debug__" : Str)) = false := by decide) (h2 : (x == ("__classdict__" : Str)) = false := by decide) (hs : swapsWith (.Call (.Attribute (.Name x p2) "extend" apos) [e] [] cpos) none pos.line X.env = pure false := by rfl)
    (hbase : attributeBase (.Name x p2) "extend" X.env (eval (.Name x p2) X.env) = eval (.Name x p2) X.env := by rfl)
    (hfew : ((backTo cpos (starEach [e] X.env)).all (fun x => !x.1) && (backToKw cpos (keywordEach [] X.env)).all (fun x => x.1.isSome)
      && decide (([e] : List Expr).length + ([] : List Keyword).length + (if ([] : List Keyword).isEmpty then 0 else 1) < 30)) = true := by rfl)
    (hline : (apos.endLine == cpos.line) = true := by rfl) (hst : starEach [e] X.env = (false, eval e X.env) :: starEach [] X.env := by rfl) : PS X (.Expr (.Call (.Attribute (.Name x p2) "extend" apos) [e] [] cpos) pos) (sAc X.K k δ δ ds) :=
  PS_imp (ps_expr (pe_bm PySem.F.plainAttrs_list PySem.F.slot_list_extend PySem.F.type_list_extend mt_extend (pe_var hN hv h1 h2) (pa_cons (PE_frame he) pa_nil hst) hbase hfew hline hst rfl) hs) fun D σ H ⟨f, vs, acc, A, hl, q⟩ =>
    ⟨_, A.sk, .inl ⟨rfl, _, SqL.of A.hf⟩, [f], fo_lst A.hf, A.env, fun l zs H1 hl0 s hz r => ⟨s, fun H' b => by
      have el := dpAll_length A.dp
      have el2 := dpAll_length r
      have hl' : H' l = some (.lst zs) := by have := mn_same H' [f] l _ (by rw [b.mn]; exact hz); exact this
      refine ⟨f, l, vs, zs, rfl, rfl, (b.at (by simp)).trans A.hf, hl', Evl.sz_of (by omega), q σ _ (vs ++ zs) ⟨A.sk, upd_same, ?_, ?_, ?_⟩ ?_⟩
      · rw [mn_upd1, b.mn]; exact dpAll_append (dpAll_mono s A.dp) r
      · exact noLs_append A.nl hn
      · rw [mn_upd1, b.mn]; exact A.env.mono s
      · rw [mn_upd1]; exact b.chg⟩⟩
theorem ac_one (h : PS X st (sAc X.K k δ δ2 g)) : PSs X [st] (sAc X.K k δ δ2 g) := pss_one h
theorem ac_seq (h : PS X st (sAc X.K k δ δ1 g1)) (hr : PSs X rest (sAc X.K k δ1 δ2 g2)) : PSs X (st :: rest) (sAc X.K k δ δ2 (g1 ++ g2)) :=
  PSs_imp (pss_cons h hr) fun D σ H ⟨f, vs, acc, A, hl, q⟩ => ⟨f, vs, acc, A, by rw [List.length_append] at hl; omega, fun σ1 H1 vs1 A1 s1 => ⟨f, vs1, acc ++ g1, A1, by rw [List.length_append] at hl ⊢; omega, fun σ2 H2 vs2 A2 s2 => q σ2 H2 vs2 (by rw [← List.append_assoc]; exact A2) (s1.trans s2)⟩⟩
theorem ac_if (hc : PT X c (cD X.K δ b)) (ht : b = true → PSs X body (sAc X.K k δ δ g)) : PS X (.If c body [] pos) (sAc X.K k δ δ (if b then g else [])) := by
  cases b with
  | true =>
    exact PS_imp (ps_if (PT_frame hc) (ht rfl) pss_nil) fun D σ H ⟨f, vs, acc, A, hl, q⟩ => ⟨[f], fo_lst A.hf, A.env, fun H1 s => ⟨s, fun H' b => by
      have A' : AccAt X.K k δ f vs acc σ H' := ⟨A.sk, (b.at (by simp)).trans A.hf, by rw [b.mn]; exact dpAll_mono s A.dp, A.nl, by rw [b.mn]; exact A.env.mono s⟩
      exact ⟨f, vs, acc, A', hl, fun σ2 H2 vs2 A2 s2 => q σ2 H2 vs2 A2 (b.chg.trans s2)⟩⟩⟩
  | false =>
    exact PS_imp (ps_if (PT_frame hc) pss_never pss_nil) fun D σ H ⟨f, vs, acc, A, hl, q⟩ => ⟨[f], fo_lst A.hf, A.env, fun H1 s => ⟨s, fun H' b => by
      have A' : AccAt X.K k δ f vs acc σ H' := ⟨A.sk, (b.at (by simp)).trans A.hf, by rw [b.mn]; exact dpAll_mono s A.dp, A.nl, by rw [b.mn]; exact A.env.mono s⟩
      exact q σ H' vs (by rw [if_neg (by decide), List.append_nil]; exact A') b.chg⟩⟩
def sAcX {α : Type} (K : PySem.W.Frag) (k : Nat) (l : List α) (δ' : α → De) (δw : De) (g : α → List PyData) : TS := fun D σ H => ∃ p ∈ l, sAc K k (δ' p) δw (g p) D σ H
theorem ac_for {α : Type} {l : List α} {ι : α → PyData} {δ' : α → De} {g : α → List PyData} (hp : PassesOwn (model X.prog X.w) X.A X.env X.xe) (hc : X.calm = true) (hi : PI X tg iter (iD X.K δ (l.map ι))) (hw : ∀ σ H, EnvD X.K σ H δ → EnvD X.K σ H δw) (hg : ∀ p ∈ l, PG X tg (gD X.K δw (.p (ι p)) is (δ' p)))
    (hnl : ∀ p ∈ l, noL (ι p) = true) (hk : k ∉ is) (hb : ∀ p ∈ l, PSs X body (sAc X.K k (δ' p) δw (g p)))
    (hs : ∀ x, foldedSetIterable iter X.env x = pure x := by intro _; rfl) : PS X (.For tg iter body [] pos) (sAc X.K k δ δw (l.flatMap g)) :=
  PS_imp (ps_for hp hc (PI_frame hi) (PG_frame (gX_of hg)) (⟨fun pins s σ H D I ⟨p, hp, q⟩ => (hb p hp).run pins s σ H D I q⟩ : PSs X body (sAcX X.K k l δ' δw g)) hs) fun D σ H ⟨f, vs, acc, A, hl, q⟩ => ⟨[f], fo_lst A.hf, A.env, fun J H1 s1 w => ⟨s1, fun H' b => by
    have el := dpAll_length A.dp
    refine for_it w (fun i σ' H' => Same H1 (mn H' [f]) ∧ ∃ vs, AccAt X.K k δw f vs (acc ++ (l.take i).flatMap g) σ' H') ⟨by rw [b.mn]; exact Same.refl _, vs, A.sk, (b.at (by simp)).trans A.hf, by rw [b.mn, List.take_zero]; simp only [List.flatMap_nil, List.append_nil]; exact dpAll_mono s1 A.dp, by rw [List.take_zero]; simp only [List.flatMap_nil, List.append_nil]; exact A.nl, by rw [b.mn]; exact hw _ _ (A.env.mono s1)⟩ (fun i σ' H' _ h => h.1.trans (mn_same _ _)) (fun i x σ' H2 H3 hlt ⟨s2, ws, A2⟩ ⟨s3, hx⟩ => ?_) fun σ' H2 ⟨s2, ws, A2⟩ => q σ' H2 ws (by rw [List.length_map, List.take_length] at A2; exact A2) (s1.trans s2)
    rw [List.length_map] at hlt
    have hpp : l[i]? = some l[i] := List.getElem?_eq_getElem hlt
    have hm : l[i] ∈ l := List.getElem_mem hlt
    have htk : (l.take (i + 1)).flatMap g = (l.take i).flatMap g ++ g l[i] := by
      rw [List.take_succ, hpp, List.flatMap_append]; simp [Option.toList]
    have hlen : ((l.take (i + 1)).flatMap g).length ≤ (l.flatMap g).length := by
      have e := List.take_append_drop (i + 1) l
      have e2 : l.flatMap g = (l.take (i + 1)).flatMap g ++ (l.drop (i + 1)).flatMap g := by rw [← List.flatMap_append, e]
      rw [e2, List.length_append]; omega
    rw [htk, List.length_append] at hlen
    generalize l[i] = p at hpp hm htk hlen
    have h3f : H3 f = some (.lst ws) := s3 _ _ A2.hf
    have s23 : Same (mn H2 [f]) (mn H3 [f]) := same_mn s3
    have fo := fo_lst h3f
    refine ⟨[f], fo, p, hm, A2.env.mono s23, .p (dp_tl (tl_mn fo.all) (hnl p hm) (hx (ι p) (by rw [List.getElem?_map, hpp]; rfl))), fun σ2 E2 ag => ⟨Same.refl _, fun H4 b4 => ?_⟩⟩
    have A4 : AccAt X.K k (δ' p) f ws (acc ++ (l.take i).flatMap g) σ2 H4 := ⟨(ag.2 k hk).trans A2.sk, (b4.at (by simp)).trans h3f, by rw [b4.mn]; exact dpAll_mono s23 A2.dp, A2.nl, by rw [b4.mn]; exact E2⟩
    refine ⟨p, hm, f, ws, _, A4, by rw [List.length_append]; omega, fun σ5 H5 ws5 A5 s5 => ?_⟩
    have hs5 : Same H1 (mn H5 [f]) := (s2.trans s23).trans (by rw [b4.mn] at s5; exact s5)
    exact ⟨hs5, ws5, by rw [htk, ← List.append_assoc]; exact A5⟩⟩⟩
/-- the list at slot k begins -/
def sSt (K : PySem.W.Frag) (k : Nat) (δ δ1 : De) : TS := fun D σ H => EnvD K σ H δ ∧ ∀ σ' H' f, AccAt K k δ1 f [] [] σ' H' → Same H (mn H' [f]) → D.nx σ' H'
theorem set_self {α : Type} {l : List α} {k : Nat} {v : α} (h : l[k]? = some v) : l.set k v = l := by
  apply List.ext_getElem?
  intro i
  rw [List.getElem?_set]
  by_cases e : k = i
  · subst e
    obtain ⟨h1, h2⟩ := List.getElem?_eq_some_iff.mp h
    simp [h1, h2]
  · simp [e]
theorem EnvD.put {K : PySem.W.Frag} {σ : L2.St} {H : Hp} {v : V} {d : Dt} (E : EnvD K σ H δ) (h : σ[k]? = some (some v)) (r : Rp K H v d) : EnvD K σ H (δ.set k (some d)) := by
  have e := E.set k r
  rwa [set_self h] at e
/-- x = [] -/
theorem st_lst {pos1 pl px : Pos} (hN : X.N.Nodup) (hk : X.N[k]? = some x) (hx : Loc X.env.scope x) (hkl : k < δ.length)
    (hs : swapsWith (.List [] pl) (some (.Name x px)) pos1.line X.env = pure false := by rfl) (hf : X.fn x = true ∨ X.env.scope.names.lookup x = some .local := by first | exact .inl rfl | exact .inr rfl | assumption) :
    PS X (.Assign [.Name x px] (.List [] pl) pos1) (sSt X.K k δ (δ.set k none)) :=
  PS_imp (ps_set hN hk hx (pe_lst pa_nil) hs hf) fun D σ H ⟨E, q⟩ => ⟨by decide, fun f hf => by
    have hkl : k < σ.length := by rw [E.len]; exact hkl
    have e : mn (upd H f (.lst [])) [f] = H := funext fun a => by
      by_cases ha : a = f
      · subst ha; rw [mn_in (by simp), hf]
      · rw [mn_out (by simpa using ha), upd_ne ha]
    exact q _ _ f ⟨List.getElem?_set_self hkl, upd_same, .nil, rfl, by rw [e]; exact E.none _ k⟩ (by rw [e]; exact Same.refl _)⟩
/-- x, target = [], e -/
theorem st_lst2 {dd : Dt} {tg2 e2 : Expr} {px pl pt pt2 : Pos} {kt k2 : Nat} (hc : X.calm = true) (hN : X.N.Nodup) (hk : X.N[k]? = some x) (hx : Loc X.env.scope x) (hkl : k < δ.length) (hki : k ∉ is)
    (he : PE X e2 (tD X.K δ dd)) (hg : PG X tg2 (gD X.K (δ.set k none) dd is δ2))
    (hsl : starEach [.List [] pl, e2] X.env = (false, eval (.List [] pl) X.env) :: starEach [e2] X.env := by rfl) (hsl2 : starEach [e2] X.env = (false, eval e2 X.env) :: starEach [] X.env := by rfl)
    (hag : (assignEach [.Name x px, tg2] X.env).map (·.2) = assign (.Name x px) X.env :: (assignEach [tg2] X.env).map (·.2) := by rfl) (hag2 : (assignEach [tg2] X.env).map (·.2) = assign tg2 X.env :: (assignEach [] X.env).map (·.2) := by rfl)
    (hn2 : (assignEach [.Name x px, tg2] X.env).length = 2 := by rfl) (hst : (assignEach [.Name x px, tg2] X.env).findIdx? (·.1) = none := by rfl)
    (hs : swapsWithSole [.Tuple [.Name x px, tg2] kt pt] (.Tuple [.List [] pl, e2] k2 pt2) pos.line X.env = pure false := by rfl) (hw : swappedStores [.Tuple [.Name x px, tg2] kt pt] (.Tuple [.List [] pl, e2] k2 pt2) X.env = pure none := by rfl)
    (h1 : (assignEach [.Tuple [.Name x px, tg2] kt pt] X.env).map (·.2) = [assign (.Tuple [.Name x px, tg2] kt pt) X.env] := by rfl)
    (hf : X.fn x = true ∨ X.env.scope.names.lookup x = some .local := by first | exact .inl rfl | exact .inr rfl | assumption) :
    PS X (.Assign [.Tuple [.Name x px, tg2] kt pt] (.Tuple [.List [] pl, e2] k2 pt2) pos) (sSt X.K k δ δ2) :=
  PS_imp (ps_asg (pe_tup (pa_cons (pe_lst pa_nil) (pa_cons (PE_frame he) pa_nil hsl2) hsl)) (pg_tup hc (pgs_cons (pg_name hN hk hx hf) (pgs_cons (PG_frame hg) pgs_nil hag2) hag) hn2 hst) hs hw h1) fun D σ H ⟨E, q⟩ => ⟨by decide, fun f hf => by
    have hkl : k < σ.length := by rw [E.len]; exact hkl
    have e : mn (upd H f (.lst [])) [f] = H := funext fun a => by
      by_cases ha : a = f
      · subst ha; rw [mn_in (by simp), hf]
      · rw [mn_out (by simpa using ha), upd_ne ha]
    refine ⟨[f], fo_lst upd_same, by rw [e]; exact E, fun v H1 s r => ⟨s, fun H' b => ⟨Evl.sz_of (show 2 ≤ 100000 by decide), fun p hp => ?_⟩⟩⟩
    rw [e] at s
    have hf1 : H' f = some (.lst []) := (b.at (by simp)).trans upd_same
    have npf : p ≠ f := fun e => by rw [e, hf1] at hp; cases hp
    have b2 : mn (upd H' p (.tup [.ref f, v])) [f] = upd H1 p (.tup [.ref f, v]) := by
      rw [← b.mn]
      funext a
      by_cases h : a = p
      · subst h; rw [mn_out (by simp [npf]), upd_same, upd_same]
      · rw [upd_ne h]
        by_cases hF : a ∈ [f]
        · rw [mn_in hF, mn_in hF]
        · rw [mn_out hF, mn_out hF, upd_ne h]
    have hp1 : H1 p = none := by rw [← b.mn, mn_out (by simp [npf])]; exact hp
    have sp : Same H1 (upd H1 p (.tup [.ref f, v])) := same_new hp1
    have hfp : upd H' p (.tup [.ref f, v]) f = some (.lst []) := by rw [upd_ne (Ne.symm npf)]; exact hf1
    refine ⟨p, [.ref f, v], rfl, SqT.of upd_same, rfl, _, _, rfl, _, _, rfl, [f], fo_lst hfp, by rw [b2]; exact (E.none _ k).mono (s.trans sp), by rw [b2]; exact r.mono sp, fun σ2 E2 ag => ⟨Same.refl _, fun H4 b4 => ⟨rfl, ?_⟩⟩⟩
    refine q σ2 H4 f ⟨(ag.2 k hki).trans (List.getElem?_set_self hkl), (b4.at (by simp)).trans hfp, .nil, rfl, by rw [b4.mn]; exact E2⟩ ?_
    rw [b4.mn, b2]
    exact s.trans sp⟩
/-- the list begins; a statement that fills it; the rest -/
theorem q_acc [Bk O] {st0 : Stmt} (hg : g.length ≤ 1000) (h0 : PS X st0 (sSt X.K k δ δ1)) (h : PS X st (sAc X.K k δ1 δ2 g)) (hr : PSs X rest (sO X.K (δ2.set k (some (.l g))) O)) :
    PSs X (st0 :: st :: rest) (sO X.K δ O) :=
  PSs_imp (pss_cons h0 (pss_cons h hr)) fun D σ H ⟨E, q⟩ => ⟨E, fun σ1 H1 f A s1 => ⟨f, [], [], A, by simpa using hg, fun σ' H' vs A s => ⟨(A.env.mono (mn_same H' [f])).put A.sk (.p (.lst (SqL.of A.hf) (dpAll_mono (mn_same _ _) A.dp))), fun v H2 s2 o => by
    have sh := s1.trans (s.trans (mn_same H' [f]))
    exact q v H2 (sh.trans s2) (Bk.back sh o)⟩⟩⟩
theorem EnvD.forget {K : PySem.W.Frag} {σ : L2.St} {H : Hp} (E : EnvD K σ H δ) (i : Nat) : EnvD K σ H (δ.set i Option.none) := by
  refine ⟨by rw [List.length_set]; exact E.len, fun j d h => ?_⟩
  by_cases e : i = j
  · subst e
    by_cases q : i < δ.length
    · rw [List.getElem?_set_self q] at h; cases h
    · rw [List.getElem?_eq_none (by rw [List.length_set]; omega)] at h; cases h
  · rw [List.getElem?_set_ne e] at h
    exact E.at_ j d h
theorem ac_weak (h : PS X st (sAc X.K k δ δ1 g)) (hw : ∀ σ H, EnvD X.K σ H δ1 → EnvD X.K σ H δ2) : PS X st (sAc X.K k δ δ2 g) :=
  PS_imp h fun D σ H ⟨f, vs, acc, A, hl, q⟩ => ⟨f, vs, acc, A, hl, fun σ' H' vs' A' s => q σ' H' vs' ⟨A'.sk, A'.hf, A'.dp, A'.nl, hw _ _ A'.env⟩ s⟩
/-- the list begins; a statement that fills it; it is returned -/
theorem q_accRet {st0 : Stmt} {pr prr : Pos} (hg : g.length ≤ 1000) (h0 : PS X st0 (sSt X.K k δ δ1)) (h : PS X st (sAc X.K k δ1 δ2 g)) (hN : X.N[k]? = some x := by rfl) (hv : Vis X.env.scope x := by first | exact Or.inl rfl | exact Or.inr (Or.inl rfl) | exact Or.inr (Or.inr rfl))
    (h1 : (x == ("__debug__" : Str)) = false := by decide) (h2 : (x == ("__classdict__" : Str)) = false := by decide) : PSs X [st0, st, .Return (some (.Name x pr)) prr] (sO X.K δ (oN X.K g)) :=
  PSs_imp (pss_cons h0 (pss_cons h (pss_one (ps_ret (pe_var hN hv h1 h2))))) fun D σ H ⟨E, q⟩ => ⟨E, fun σ1 H1 f A s1 => ⟨f, [], [], A, by simpa using hg, fun σ' H' vs A2 s => ⟨_, A2.sk, by
    have sh := s1.trans (s.trans (mn_same H' [f]))
    have hf : H f = none := by
      cases z : H f with
      | none => rfl
      | some o => have := s1 _ _ z; rw [mn_in (by simp)] at this; cases this
    exact q _ H' sh ⟨f, vs, rfl, hf, A2.hf, dpAll_mono (mn_same _ _) A2.dp⟩⟩⟩⟩
/-- an expression for itself -/
theorem a_expr {dd : Dt} (he : PE X e (tD X.K δ dd)) (hs : swapsWith e none pos.line X.env = pure false := by rfl) : PS X (.Expr e pos) (aS X.K δ δ []) :=
  PS_imp (ps_expr he hs) fun D σ H ⟨E, q⟩ => ⟨E, fun v H' s r => q σ H' s (E.mono s) (Agr.refl _ _)⟩
theorem n_ofA (h : PS X st (aS X.K δ δ2 is)) : PS X st (sN X.K δ δ2) := PS_imp h fun D σ H ⟨E, q⟩ => ⟨E, fun σ' H' s E' _ => q σ' H' s E'⟩
/-- a body that falls off its end -/
def uS (K : PySem.W.Frag) (δ : De) : TS := fun D σ H => EnvD K σ H δ ∧ ∀ σ' H', Same H H' → D.nx σ' H'
theorem u_nil : PSs X [] (uS X.K δ) := PSs_imp pss_nil fun D σ H ⟨E, q⟩ => q σ H (Same.refl H)
theorem u_cons (h : PS X st (sN X.K δ δ1)) (hr : PSs X rest (uS X.K δ1)) : PSs X (st :: rest) (uS X.K δ) :=
  PSs_imp (pss_cons h hr) fun D σ H ⟨E, q⟩ => ⟨E, fun σ' H' s E' => ⟨E', fun σ2 H2 s2 => q σ2 H2 (s.trans s2)⟩⟩
theorem n_ifno (hc : PT X c (cD X.K δ false)) : PS X (.If c body [] pos) (sN X.K δ δ) := PS_imp (k_ifno hc) fun D σ H ⟨E, q⟩ => ⟨E, fun H' s => q σ H' s (E.mono s)⟩
end
section
variable {P : Program} {w : World} {K : PySem.W.Frag} {mg : Str → Option Value} {base : Heap} {k : Nat} {f : Addr} {qual : Str} {st : Stmt} {N ps : List Str}
theorem fnR_U {R : RD} (F : FnAt K qual st f) (S : FnScope N ps (defScope st)) (B : BindAt st ps) (hl : ∀ ds d, R ds d → ds.length = ps.length ∧ d = .n)
    (hbody : ∀ (cdv : Value) (A : Around) (outer : List Env) (s : Shared) (H : Hp) (E : XK), Room k (A.deeper (envOfC qual (defScope st) s.heap.objs.size f cdv)) → ∀ ds d, R ds d →
      PSs (cxOf CX0 P w K mg base N qual (defScope st) f cdv A outer s H E).nox (defBody st) (uS K (ds.map some ++ List.replicate (N.length - ds.length) none))) : FnR P w K mg base CX0 (k + 1) f (spD K R) := by
  refine fnR_of F S B (fun vs H Q E ⟨ds, d, r, h, _⟩ => r.length.trans (hl ds d h).1) fun cdv A outer s H vs Q E hr ⟨ds, d, r, h, q⟩ => ⟨_, (hbody cdv A outer s H E hr ds d h).nox, ?_⟩
  have hpl : ps.length ≤ N.length := by have := congrArg List.length S.pre; rw [List.length_take] at this; omega
  exact ⟨envD_start r (by rw [r.length, (hl ds d h).1]; exact hpl), fun σ' H' s => q _ H' s (by rw [(hl ds d h).2]; exact .p .non)⟩
end
end Pr
set_option maxHeartbeats 4000000
/-! W7: Evening: laid, above, can, ends, lacking, needed, log. -/
namespace Pr
open PySem PySem.Spec PyProof.Rows L2
section
variable {X : Cx} {δ : De} {e : Expr} {ps : List PyData} {p pos : Pos}
/-- list(xs) -/
theorem d_listL (hg : Gl X "list") (hm : X.mg "list" = none) (ha : PE X e (tD X.K δ (.l ps))) (hs : starEach [e] X.env = (false, eval e X.env) :: starEach [] X.env := by rfl) : PE X (.Call (.Name "list" p) [e] [] pos) (tN X.K δ ps) :=
  PE_imp (pe_callTy call_list_of hg hm boot_list (a_cons ha a_nil hs) (by decide) (by decide) hs rfl) fun σ H Q ⟨E, q⟩ => ⟨E, fun vs H1 s r => by
    obtain ⟨v, rfl, rv⟩ := rpAll_1 r
    obtain ⟨a, xs, rfl, sl, rr⟩ := dp_lst rv.toDp
    exact ⟨a, xs, rfl, .inl sl, fun l hl => q l xs _ (s.free hl) (s.trans (same_new hl)) upd_same (dpAll_mono (same_new hl) rr)⟩⟩
end
section
variable {P : Program} {w : World} {K : PySem.W.Frag} {mg : Str → Option Value} {base : Heap}
def Fl.keys (s : Fl) : List Mt := s.laid.map (·.1)
theorem dtM_keys {s : Fl} : (dtM s.laid).map (·.1) = s.keys.map Mt.k := by simp [dtM, Fl.keys]
/-- what is laid is small -/
def Fl.small (s : Fl) : Prop := s.n ≤ 60 ∧ s.m ≤ 60 ∧ s.n * s.m ≤ 60 ∧ s.keys.length < 64 ∧ ∀ a ∈ s.keys, a.sm
def rnLaid : RN := fun ds ps => ∃ (p0 : Pt) (s : Fl) (log und : List Deed), s.small ∧ ds = [evD p0 s log und] ∧ ps = (sortM s.keys).map Mt.d
theorem f1_laid (T : Tx K mg) : FnR P w K mg base CX0 1 (ma K "Evening" "laid") (spN K rnLaid) :=
  fnR_N T.f_Evening_laid sc_Evening_laid bn_Evening_laid (fun ds d ⟨_, _, _, _, _, h, _⟩ => by rw [h]; rfl) fun cdv A outer s H E hr ds d ⟨p0, fl, log, und, ⟨_, _, _, h64, hsm⟩, h, h2⟩ => by
    subst h h2
    exact q_retN (d_sortD rfl dtM_keys h64 hsm rfl T.b_sorted (d_fld T.s_Floor_truths rfl (d_fld T.s_Evening_its_floor rfl (d_var 0 rfl))))
def rdAbove : RD := fun ds d => ∃ (p0 : Pt) (s : Fl) (log und : List Deed) (a : Mt) (b : Bool), a.i < s.n ∧ a.j < s.m ∧ s.laid.lookup a = some b ∧ ds = [evD p0 s log und, .p a.d] ∧ d = .b b
theorem f4_above (T : Tx K mg) : FnR P w K mg base CX0 4 (ma K "Evening" "above") (spD K rdAbove) :=
  fnR_D T.f_Evening_above sc_Evening_above bn_Evening_above (fun ds d ⟨_, _, _, _, _, _, _, _, _, h, _⟩ => by rw [h]; rfl) fun cdv A outer s H E hr ds d ⟨p0, fl, log, und, a, b, hi, hj, hl, h, h2⟩ => by
    subst h h2
    have hu1 : (A.deeper (envOfC "Evening.above" (defScope st_Evening_above) s.heap.objs.size (ma K "Evening" "above") cdv)).units + 1 < cLine := by have := room_u hr; omega
    have hv : valD (dtM fl.laid) a.k = some (.bool b) := by rw [valD_dtM, hl]; rfl
    refine q_if (k := false) (c_eqv (PW.pt (w_or (c_not (c_val (d_meth T.c_Evening T.m_Evening_is_place (f3_is_place T) hr ⟨p0, fl, log, und, a, hi, hj, rfl, rfl⟩ (d_var 0 rfl) (a_cons (d_var 1 rfl) a_nil)))) fun _ => w_or1 (c_tnin (k := a.k) hu1 rfl (d_var 1 rfl) (d_fld T.s_Floor_truths rfl (d_fld T.s_Evening_its_floor rfl (d_var 0 rfl)))))) (by rw [hv]; rfl)) (fun z => nomatch z) fun _ => ?_
    exact q_retD (d_tsub (k := a.k) hu1 rfl hv (d_fld T.s_Floor_truths rfl (d_fld T.s_Evening_its_floor rfl (d_var 0 rfl))) (d_var 1 rfl))
/-- the next meeting of a sun dancer -/
def Fl.cell (s : Fl) (i : Nat) : Mt := ⟨cnt s.sun i / s.m, i, cnt s.sun i % s.m⟩
def Fl.canL (s : Fl) : List Mt := (List.range s.n).flatMap fun i => if s.nxt (s.cell i) then [s.cell i] else []
theorem canL_d {s : Fl} : ((List.range s.n).flatMap fun i => if s.nxt (s.cell i) then [(s.cell i).d] else []) = s.canL.map Mt.d := by
  unfold Fl.canL
  rw [List.map_flatMap]
  congr 1
  funext i
  split <;> rfl
theorem canL_len {s : Fl} : s.canL.length ≤ s.n := by
  have h : ∀ l : List Nat, (l.flatMap fun i => if s.nxt (s.cell i) then [s.cell i] else []).length ≤ l.length := fun l => by
    induction l with
    | nil => simp
    | cons i l ih =>
      rw [List.flatMap_cons, List.length_append, List.length_cons]
      split <;> simp only [List.length_cons, List.length_nil] <;> omega
  have := h (List.range s.n)
  rw [List.length_range] at this
  exact this
theorem canL_mem {s : Fl} {a : Mt} (h : a ∈ s.canL) : ∃ i, i < s.n ∧ a = s.cell i ∧ s.nxt a = true := by
  obtain ⟨i, hi, ha⟩ := List.mem_flatMap.mp h
  split at ha
  · rename_i q
    have e := List.mem_singleton.mp ha
    subst e
    exact ⟨i, List.mem_range.mp hi, rfl, q⟩
  · cases ha
def rnCan : RN := fun ds ps => ∃ (p0 : Pt) (s : Fl) (log und : List Deed), s.small ∧ 0 < s.m ∧ (∀ i, cnt s.sun i / s.m < 64) ∧ ds = [evD p0 s log und] ∧ ps = (sortM s.canL).map Mt.d
theorem f2_can (T : Tx K mg) : FnR P w K mg base CX0 2 (ma K "Evening" "can") (spN K rnCan) :=
  fnR_N T.f_Evening_can sc_Evening_can bn_Evening_can (fun ds d ⟨_, _, _, _, _, _, _, h, _⟩ => by rw [h]; rfl) fun cdv A outer s H E hr ds d ⟨p0, fl, log, und, ⟨hn, hm, hnm, h64, hsm⟩, hm0, hc, h, h2⟩ => by
    subst h h2
    have hu1 : (A.deeper (envOfC "Evening.can" (defScope st_Evening_can) s.heap.objs.size (ma K "Evening" "can") cdv)).units + 1 < cLine := by have := room_u hr; omega
    have hmm : ∀ i, cnt fl.sun i % fl.m < fl.m := fun i => Nat.mod_lt _ hm0
    refine q_acc (k := 1) (δ2 := [some (evD p0 fl log und), none, none, none, none]) (g := fl.canL.map Mt.d) (by rw [List.length_map]; have := canL_len (s := fl); omega) (st_lst sc_Evening_can.nd rfl (.inl rfl) (by simp)) ?_ (q_retN (d_sortM (by have := canL_len (s := fl); omega) (fun a ha => by
      obtain ⟨i, hi, rfl, _⟩ := canL_mem ha
      have := hmm i
      exact ⟨hc i, by show i < 64; omega, by show cnt fl.sun i % fl.m < 64; omega⟩) rfl T.b_sorted (d_var 1 rfl)))
    rw [← canL_d]
    refine ac_for (l := List.range fl.n) (ι := fun i => .int (i : Nat)) (δw := [some (evD p0 fl log und), none, none, none, none]) (is := [2]) PassesOwn.never rfl (i_eqv (i_range (n := fl.n) (by omega) (by omega) rfl T.b_range (d_fld T.s_Evening_its_suns rfl (d_var 0 rfl))) rfl) (fun _ _ h => h) (fun i hi => g_name 2 sc_Evening_can.nd rfl (.inl rfl)) (fun _ _ => rfl) (by decide) (fun i hi => ?_)
    have hi' := List.mem_range.mp hi
    refine ac_seq (g1 := []) (ac_pure (a_set 3 sc_Evening_can.nd rfl (.inl rfl) (d_eqv (d_dget2 (kx := .inl (i : Int)) hu1 (d_fld T.s_Floor_on_sun rfl (d_fld T.s_Evening_its_floor rfl (d_var 0 rfl))) (d_var 2 rfl) d_int ⟨rfl, rfl, rfl, rfl⟩) getD_cnt)) (by decide)) ?_
    refine ac_seq (g1 := []) (ac_pure (a_set 4 (dd := .p (fl.cell i).d) sc_Evening_can.nd rfl (.inl rfl) (d_eqv (d_tup3 (a_cons (d_fdiv ⟨by omega, by omega⟩ (d_var 3 rfl) (d_fld T.s_Evening_its_moons rfl (d_var 0 rfl))) (a_cons (d_var 2 rfl) (a_cons (d_mod (by omega) (d_var 3 rfl) (d_fld T.s_Evening_its_moons rfl (d_var 0 rfl))) a_nil)))) (by unfold Mt.d Fl.cell; simp))) (by decide)) ?_
    exact ac_one (ac_weak (ac_if (c_val (d_meth T.c_Floor T.m_Floor_is_next (f1_is_next T) hr ⟨fl, fl.cell i, by omega, by omega, by have := hc i; show cnt fl.sun i / fl.m ≤ 1000; omega, rfl, rfl⟩ (d_fld T.s_Evening_its_floor rfl (d_var 0 rfl)) (a_cons (d_var 4 rfl) a_nil))) (fun _ => ac_one (ac_append rfl (d_var 4 rfl)))) fun _ _ E => ((E.forget 2).forget 3).forget 4)
def rnEnds : RN := fun ds ps => ∃ (p0 : Pt) (s : Fl) (log und : List Deed), s.small ∧ (∀ a ∈ s.keys, s.cok a) ∧ ds = [evD p0 s log und] ∧ ps = ((sortM s.keys).filter s.isE).map Mt.d
theorem f2_ends (T : Tx K mg) : FnR P w K mg base CX0 2 (ma K "Evening" "ends") (spN K rnEnds) :=
  fnR_N T.f_Evening_ends sc_Evening_ends bn_Evening_ends (fun ds d ⟨_, _, _, _, _, _, h, _⟩ => by rw [h]; rfl) fun cdv A outer s H E hr ds d ⟨p0, fl, log, und, hs, hc, h, h2⟩ => by
    subst h h2
    have hk : ∀ a ∈ sortM fl.keys, a ∈ fl.keys := fun a ha => (sortM_perm _).mem_iff.mp ha
    exact q_retN (d_lc (l := sortM fl.keys) (ι := Mt.d) (f := Mt.d) (own := [("meeting", 1)]) rfl sc_Evening_ends.nd (i_list (d_new (d_methN0 T.c_Evening T.m_Evening_laid (f1_laid T) hr ⟨p0, fl, log, und, hs, rfl, rfl⟩ (d_var 0 rfl)))) (blkOk_by (by kernel_rfl)) rfl (by rw [(sortM_perm _).length_eq]; have := hs.2.2.2.1; omega) (by decide) (fun _ _ _ => rfl)
      (fun a ha s H C cl fp => g_name 1 sc_Evening_ends.nd rfl (.inl rfl)) (fun a ha s H C cl fp => c_one (c_val (d_meth T.c_Floor T.m_Floor_is_end (f1_is_end T) hr ⟨fl, a, by have := hs.1; omega, by have := hs.2.1; omega, by have := (hs.2.2.2.2 a (hk a ha)).1; omega, hc a (hk a ha), rfl, rfl⟩ (d_fld T.s_Evening_its_floor rfl (d_var 0 rfl)) (a_cons (d_var 1 rfl) a_nil))))
      (fun a ha _ s H C cl fp => d_var 1 rfl))
/-! all pairs, all meetings -/
def pairs (n m : Nat) : List (Nat × Nat) := (List.range n).flatMap fun i => (List.range m).map fun j => (i, j)
abbrev prD (p : Nat × Nat) : PyData := .tuple [.int p.1, .int p.2]
def allM (n m R : Nat) : List Mt := (List.range R).flatMap fun r => (pairs n m).map fun p => ⟨r, p.1, p.2⟩
theorem pairs_d {n m : Nat} : flat2 n (List.range m) (fun i j => .tuple [.int (i : Nat), .int (j : Nat)]) = (pairs n m).map prD := by
  unfold flat2 pairs
  rw [List.map_flatMap]
  congr 1
  funext i
  rw [List.map_map]; rfl
theorem allM_d {n m R : Nat} : flat2 R (pairs n m) (fun r p => .tuple [.int (r : Nat), .int (p.1 : Nat), .int (p.2 : Nat)]) = (allM n m R).map Mt.d := by
  unfold flat2 allM
  rw [List.map_flatMap]
  congr 1
  funext r
  rw [List.map_map]; rfl
theorem flat_len {α β : Type} {c : Nat} {f : α → List β} : ∀ {l : List α}, (∀ a ∈ l, (f a).length = c) → (l.flatMap f).length = l.length * c
  | [], _ => by simp
  | a :: l, h => by
    rw [List.flatMap_cons, List.length_append, h a (List.mem_cons_self ..), flat_len fun b hb => h b (List.mem_cons_of_mem _ hb), List.length_cons, Nat.succ_mul]; omega
theorem pairs_len {n m : Nat} : (pairs n m).length = n * m := by
  unfold pairs
  rw [flat_len (c := m) fun a _ => by simp, List.length_range]
theorem allM_len {n m R : Nat} : (allM n m R).length = R * (n * m) := by
  unfold allM
  rw [flat_len (c := n * m) fun a _ => by rw [List.length_map, pairs_len], List.length_range]
theorem mem_pairs {n m : Nat} {p : Nat × Nat} : p ∈ pairs n m ↔ p.1 < n ∧ p.2 < m := by
  unfold pairs
  rw [List.mem_flatMap]
  constructor
  · rintro ⟨i, hi, h⟩
    obtain ⟨j, hj, rfl⟩ := List.mem_map.mp h
    exact ⟨List.mem_range.mp hi, List.mem_range.mp hj⟩
  · rintro ⟨h1, h2⟩
    exact ⟨p.1, List.mem_range.mpr h1, List.mem_map.mpr ⟨p.2, List.mem_range.mpr h2, rfl⟩⟩
theorem mem_allM {n m R : Nat} {a : Mt} : a ∈ allM n m R ↔ a.r < R ∧ a.i < n ∧ a.j < m := by
  unfold allM
  rw [List.mem_flatMap]
  constructor
  · rintro ⟨r, hr, h⟩
    obtain ⟨p, hp, rfl⟩ := List.mem_map.mp h
    exact ⟨List.mem_range.mp hr, mem_pairs.mp hp⟩
  · rintro ⟨h1, h2⟩
    exact ⟨a.r, List.mem_range.mpr h1, List.mem_map.mpr ⟨(a.i, a.j), mem_pairs.mpr h2, rfl⟩⟩
def Fl.lack (s : Fl) (R : Nat) : List Mt := (allM s.n s.m R).filter fun a => !has s.laid a
def rnLacking : RN := fun ds ps => ∃ (p0 : Pt) (s : Fl) (log und : List Deed) (R : Nat), s.small ∧ R ≤ 10 ∧ ds = [evD p0 s log und, .i R] ∧ ps = (s.lack R).map Mt.d
theorem f1_lacking (T : Tx K mg) : FnR P w K mg base CX0 1 (ma K "Evening" "lacking") (spN K rnLacking) :=
  fnR_N T.f_Evening_lacking sc_Evening_lacking bn_Evening_lacking (fun ds d ⟨_, _, _, _, _, _, _, h, _⟩ => by rw [h]; rfl) fun cdv A outer s H E hr ds d ⟨p0, fl, log, und, R, ⟨hn, hm, hnm, h64, hsm⟩, hR, h, h2⟩ => by
    subst h h2
    have hu1 : (A.deeper (envOfC "Evening.lacking" (defScope st_Evening_lacking) s.heap.objs.size (ma K "Evening" "lacking") cdv)).units + 1 < cLine := by have := room_u hr; omega
    have nd := sc_Evening_lacking.nd
    refine q_seq (n_set 2 nd rfl (.inr rfl) (d_new (n_eqv (d_lc2 (n := fl.n) (i0 := 3) (es2 := List.range fl.m) (ι2 := fun j => .int (j : Nat)) (f2 := fun i j => .tuple [.int (i : Nat), .int (j : Nat)]) (own := [("i", 3), ("j", 4)]) (vs1 := [4]) rfl nd
      (i_eqv (i_range (n := fl.n) (by omega) (by omega) rfl T.b_range (d_fld T.s_Evening_its_suns rfl (d_var 0 rfl))) rfl) (blkOk_by (by kernel_rfl)) (by decide) (by omega) (by rw [List.length_range]; omega) rfl (fun _ => rfl) (fun _ => rfl) (by decide) (by decide) (fun _ _ _ _ => rfl)
      (fun s H C cl fp => pg_name nd rfl (.inl rfl)) (fun r hr s H C cl fp => b_range (n := fl.m) (by omega) (by omega) rfl T.b_range (d_fld T.s_Evening_its_moons rfl (d_var 0 rfl)))
      (fun r hr e he s H C cl fp => g_name 4 nd rfl (.inl rfl)) (fun r hr e he s H C cl fp => d_tup2 (a_cons (d_var 3 rfl) (a_cons (d_var 4 rfl) a_nil)))) pairs_d))) ?_
    refine q_seq (n_setLc2 (i := 5) (n := R) (i0 := 6) (es2 := pairs fl.n fl.m) (ι2 := prD) (f2 := fun r p => .tuple [.int (r : Nat), .int (p.1 : Nat), .int (p.2 : Nat)]) (own := [("r", 6), ("i", 3), ("j", 4)]) (vs1 := [3, 4]) rfl nd rfl rfl (sw_true rfl rfl rfl rfl)
      (i_eqv (i_range (n := R) (by omega) (by omega) rfl T.b_range (d_var 1 rfl)) rfl) (blkOk_by (by kernel_rfl)) (by decide) (by omega) (by rw [pairs_len]; omega) rfl (fun _ => rfl) (fun _ => rfl) (by decide) (by decide) (fun _ _ _ _ => rfl)
      (fun s H C cl fp => pg_name nd rfl (.inl rfl)) (fun r hr s H C cl fp => b_var 2 rfl)
      (fun r hr e he s H C cl fp => g_tup (ps := [.int e.1, .int e.2]) rfl (gs_cons (g_name 3 nd rfl (.inl rfl)) (gs_cons (g_name 4 nd rfl (.inl rfl)) gs_nil)) rfl) (fun r hr e he s H C cl fp => d_tup3 (a_cons (d_var 6 rfl) (a_cons (d_var 3 rfl) (a_cons (d_var 4 rfl) a_nil))))) ?_
    rw [allM_d]
    have hlen : (allM fl.n fl.m R).length ≤ 1000 := by
      rw [allM_len]
      have : R * (fl.n * fl.m) ≤ 10 * 60 := Nat.mul_le_mul hR hnm
      omega
    exact q_retN (d_lc (l := allM fl.n fl.m R) (ι := Mt.d) (f := Mt.d) (k := fun a => !has fl.laid a) (own := [("meeting", 7)]) rfl nd (i_list (d_var 5 rfl)) (blkOk_by (by kernel_rfl)) rfl hlen (by decide) (fun _ _ _ => rfl)
      (fun a ha s H C cl fp => g_name 7 nd rfl (.inl rfl)) (fun a ha s H C cl fp => c_one (c_eqv (c_tnin (k := a.k) hu1 rfl (d_var 7 rfl) (d_fld T.s_Floor_truths rfl (d_fld T.s_Evening_its_floor rfl (d_var 0 rfl)))) (by rw [has_dtM])))
      (fun a ha _ s H C cl fp => d_var 7 rfl))
theorem sh_mt {a : Mt} : SeqAt.shaped a.d = true := by
  unfold SeqAt.shaped
  have h1 : PyData.canLay0 a.d = true := by simp [Mt.d, PyData.canLay0, PyData.canLayAll0]
  have h2 : PyData.depth a.d ≤ 64 := by simp [Mt.d, PyData.depth, PyData.depthAll]
  rw [h1, decide_eq_true h2]; rfl
theorem eqv_mt {a b : Mt} : PyData.eqv a.d b.d = decide (a = b) := by
  have e : PyData.eqv a.d b.d = ((a.r : Int) == b.r && ((a.i : Int) == b.i && ((a.j : Int) == b.j && true))) := by
    simp [Mt.d, PyData.eqv, PyData.eqvAll]
  rw [e]
  by_cases h : a = b
  · subst h; simp
  · rw [decide_eq_false h]
    cases a; cases b
    rw [Mt.mk.injEq] at h
    simp only [Bool.and_eq_false_imp, beq_iff_eq, Bool.and_true]
    intro h1 h2
    apply beq_eq_false_iff_ne.mpr
    omega
def bI (b : Bool) : Int := if b then 1 else 0
/-- whether a meeting is, or is ahead of, another one -/
def ahd (a b : Mt) : Bool := decide (bI (decide (b.i < a.i)) + bI (decide (b.j < a.j)) ≤ (b.r : Int) - a.r)
theorem flat_filter {l : List Mt} {k : Mt → Bool} : (l.flatMap fun a => if k a then [a.d] else []) = (l.filter k).map Mt.d := by
  induction l with
  | nil => rfl
  | cons a l ih =>
    rw [List.flatMap_cons, ih, List.filter_cons]
    cases k a <;> simp
def Fl.need (s : Fl) (b : Mt) : List Mt := if has s.laid b then [] else (s.lack (b.r + 1)).filter fun a => (!decide (a = b)) && ahd a b
def rnNeeded : RN := fun ds ps => ∃ (p0 : Pt) (s : Fl) (log und : List Deed) (b : Mt), s.small ∧ b.r < 10 ∧ b.i < s.n ∧ b.j < s.m ∧ ds = [evD p0 s log und, .p b.d] ∧ ps = (s.need b).map Mt.d
theorem int_lt_nat {a b : Nat} : decide ((a : Int) < (b : Int)) = decide (a < b) := decide_eq_decide.mpr (by omega)
theorem f4_needed (T : Tx K mg) : FnR P w K mg base CX0 4 (ma K "Evening" "needed") (spN K rnNeeded) :=
  fnR_N T.f_Evening_needed sc_Evening_needed bn_Evening_needed (fun ds d ⟨_, _, _, _, _, _, _, _, _, h, _⟩ => by rw [h]; rfl) fun cdv A outer s H E hr ds d ⟨p0, fl, log, und, b, hs, hbr, hi, hj, h, h2⟩ => by
    subst h h2
    have hu := room_u hr
    have hu1 : (A.deeper (envOfC "Evening.needed" (defScope st_Evening_needed) s.heap.objs.size (ma K "Evening" "needed") cdv)).units + 1 < cLine := by omega
    have nd := sc_Evening_needed.nd
    refine q_if (k := false) (c_eqv (c_not (c_val (d_meth T.c_Evening T.m_Evening_is_place (f3_is_place T) hr ⟨p0, fl, log, und, b, hi, hj, rfl, rfl⟩ (d_var 0 rfl) (a_cons (d_var 1 rfl) a_nil)))) rfl) (fun z => nomatch z) fun _ => ?_
    refine q_if (c_eqv (b2 := has fl.laid b) (c_tin (k := b.k) hu1 rfl (d_var 1 rfl) (d_fld T.s_Floor_truths rfl (d_fld T.s_Evening_its_floor rfl (d_var 0 rfl)))) has_dtM) (fun hk => ?_) fun hk => ?_
    · have e : fl.need b = [] := by unfold Fl.need; rw [if_pos hk]
      rw [e]
      exact q_retN (d_lstP a_nil)
    have e : fl.need b = (fl.lack (b.r + 1)).filter fun a => (!decide (a = b)) && ahd a b := by unfold Fl.need; rw [if_neg (by rw [hk]; decide)]
    rw [e, ← flat_filter]
    have hlen : ((fl.lack (b.r + 1)).flatMap fun a => if ((!decide (a = b)) && ahd a b) then [a.d] else []).length ≤ 1000 := by
      rw [flat_filter, List.length_map]
      have h1 := List.length_filter_le (fun a => (!decide (a = b)) && ahd a b) (fl.lack (b.r + 1))
      have h2 := List.length_filter_le (fun a => !has fl.laid a) (allM fl.n fl.m (b.r + 1))
      have h3 : (b.r + 1) * (fl.n * fl.m) ≤ 10 * 60 := Nat.mul_le_mul (by omega) hs.2.2.1
      have h4 := allM_len (n := fl.n) (m := fl.m) (R := b.r + 1)
      unfold Fl.lack at h1 ⊢
      omega
    refine q_accRet (k := 2) (δ2 := [some (evD p0 fl log und), some (.p b.d), none, some (.i b.r), some (.i b.i), some (.i b.j), none, none, none]) hlen
      (st_lst2 (k := 2) (dd := .p b.d) rfl nd rfl (.inl rfl) (by simp) (by decide) (d_var 1 rfl) (g_tup (ps := [.int b.r, .int b.i, .int b.j]) rfl (gs_cons (g_name 3 nd rfl (.inl rfl)) (gs_cons (g_name 4 nd rfl (.inl rfl)) (gs_cons (g_name 5 nd rfl (.inl rfl)) gs_nil))) rfl)) ?_
    refine ac_for (l := fl.lack (b.r + 1)) (ι := Mt.d) (is := [6, 7, 8]) PassesOwn.never rfl (i_list (d_new (d_methN T.c_Evening T.m_Evening_lacking ((f1_lacking T).mono (by decide)) hr ⟨p0, fl, log, und, b.r + 1, hs, by omega, rfl, rfl⟩ (d_var 0 rfl) (a_cons (d_eqv (d_add (d_var 3 rfl) d_int) (by push_cast; rfl)) a_nil)))) (fun _ _ h => h)
      (fun a ha => g_tup (ps := [.int a.r, .int a.i, .int a.j]) rfl (gs_cons (g_name 6 nd rfl (.inl rfl)) (gs_cons (g_name 7 nd rfl (.inl rfl)) (gs_cons (g_name 8 nd rfl (.inl rfl)) gs_nil))) rfl) (fun _ _ => rfl) (by decide) (fun a ha => ?_)
    refine ac_one (ac_weak (ac_if (PW.pt (w_and (c_eqv (c_ne hu sh_mt sh_mt (d_eqv (d := .p a.d) (d_tup3 (a_cons (d_var 6 rfl) (a_cons (d_var 7 rfl) (a_cons (d_var 8 rfl) a_nil)))) rfl) (d_var 1 rfl)) (by rw [eqv_mt])) fun _ => w_and1 (c_eqv (c_ge (d_sub (d_var 3 rfl) (d_var 6 rfl)) (d_add (d_intB rfl T.b_int (a_cons (d_lt (d_var 4 rfl) (d_var 7 rfl)) a_nil)) (d_intB rfl T.b_int (a_cons (d_lt (d_var 5 rfl) (d_var 8 rfl)) a_nil)))) (by rw [int_lt_nat, int_lt_nat]; rfl)))) (fun _ => ac_one (ac_append rfl (d_eqv (d := .p a.d) (d_tup3 (a_cons (d_var 6 rfl) (a_cons (d_var 7 rfl) (a_cons (d_var 8 rfl) a_nil)))) rfl)))) fun _ _ E => ((E.forget 6).forget 7).forget 8)
def rnLog : RN := fun ds ps => ∃ (p0 : Pt) (s : Fl) (log und : List Deed), ds = [evD p0 s log und] ∧ ps = log.map Deed.d
theorem f1_log (T : Tx K mg) : FnR P w K mg base CX0 1 (ma K "Evening" "log") (spN K rnLog) :=
  fnR_N T.f_Evening_log sc_Evening_log bn_Evening_log (fun ds d ⟨_, _, _, _, h, _⟩ => by rw [h]; rfl) fun cdv A outer s H E hr ds d ⟨p0, fl, log, und, h, h2⟩ => by
    subst h h2
    exact q_retN (d_listL rfl T.b_list (d_fld T.s_Evening_its_log rfl (d_var 0 rfl)))
end
end Pr
set_option maxHeartbeats 4000000
/-! Wn: sorted({x for x in .. if ..}), the x tuples of three ints. -/
namespace Pr
open PySem PySem.Spec PyProof.Rows L2
section
variable {X : Cx} {pins : List (Addr × Obj)} {σ : L2.St} {H : Hp} {s : Shared}
/-- a tuple goes into a set of tuples -/
theorem addT_ok {D t : Addr} {L : List (Addr × List Int)} {k : List Int} {E : Value → Shared → Prop} {Q : Value → Shared → Prop} (I : Inv X pins σ H s) (hu : X.A.units + 10 < cLine) (hD : H D = some (SetTO X.prog X.w D L)) (hL : ∀ p ∈ L, SqT X.K H p.1 (p.2.map V.int)) (ht : SqT X.K H t (k.map V.int)) (hf : L.length + 1 < 64)
    (h : ∀ L' s', (k ∈ L.map (·.2) → L' = L) → (k ∉ L.map (·.2) → L'.Perm ((t, k) :: L)) → Inv X pins σ (upd H D (SetTO X.prog X.w D L')) s' → Q .none s') : wpAny (model X.prog X.w) X.A (call (.builtin "set.add") [.ref D, .ref t]) Q E s := by
  have R0 : SetT0 X.prog X.w s.heap D L := (I.hok D _ hD).1
  obtain ⟨es, ep, tb, R⟩ := R0.full fun p hp => I.isT (hL p hp)
  obtain ⟨o, ho, hex, hdt⟩ := R.ob
  have hx := I.isT ht
  refine wpAny_call_entry F.slot_set_add ⟨o, ho, hex.1⟩ F.entry_set_add ?_ (F.args_set_add_2 _ _)
  unfold Builtin.«set.add» Builtin.Frozenset.oneOther
  simp only [List.isEmpty_nil, bind_assoc]
  unfold Builtin.Frozenset.addrOf setAdd
  refine wpAny_bind (wpAny_pure (wpAny_bind (wpAny_pure (wpAny_bind (wpAny_holding (wpAny_bind (wpAny_pyHash_tuple (by show X.A.units + 1 < cLine; omega) hx ?_)))))))
  refine add_at (s := { s with toks := s.toks + (k.length + 1) }) R hx (by show X.A.units + 1 < cLine; omega) hf fun b h' L' es' ep' t' sb R' c1 c2 => ?_
  refine wpAny_pure ⟨_, rfl, h L' _ c1 c2 ?_⟩
  obtain ⟨o', ho', _⟩ := R'.ob
  exact I.write (e := D) (t' := s.toks + (k.length + 1)) (by rw [hD]; trivial) (.inl rfl) (fun b u hb hu => (sb.2 b hb).trans hu) ⟨_, ho'⟩ (setTO_new R'.t0)
end
/-- {elt for target in iter if ..}, elt a tuple of ints: D the new set -/
def tScT (P : Program) (w : World) (K : PySem.W.Frag) (wi : TI) (g : TG) (tt : TT) (te : TE) (vs : List Nat) : TE := fun σ H Q => wi σ H fun J H1 => ∀ D, H1 D = none → ∃ W : Nat → Nat → Hp → Prop, (∃ m, W 0 m (upd H1 D (SetTO P w D []))) ∧ ∀ i m H, W i m H →
  (J.stop i H ∧ Q (.ref D) H) ∨ (J.go i H ∧ ∃ Nx : Hp → Prop, (∀ H', Nx H' → ∃ m', m' < m ∧ W (i + 1) m' H') ∧ ∀ x H', J.yld i H x H' → g x (wipe σ vs) H' fun σ2 H2 => wipe σ2 vs = wipe σ vs ∧ tt σ2 H2 fun b H3 =>
    if b = true then te σ2 H3 fun y H4 => ∃ (t : Addr) (k : List Int) (L : List (Addr × List Int)), y = .ref t ∧ SqT K H4 t (k.map V.int) ∧ H4 D = some (SetTO P w D L) ∧ (∀ p ∈ L, SqT K H4 p.1 (p.2.map V.int)) ∧ L.length + 1 < 64 ∧
      ∀ L', (k ∈ L.map (·.2) → L' = L) → (k ∉ L.map (·.2) → L'.Perm ((t, k) :: L)) → Nx (upd H4 D (SetTO P w D L')) else Nx H3)
section
variable {X : Cx}
theorem pe_scT {elt tg iter : Expr} {ifs : List Expr} {scope : Scope} {own : List (Str × Nat)} {pos : Pos} {wi : TI} {g : TG} {tt : TT} {te : TE} (hu : X.A.units + 10 < cLine) (hc : X.calm = true) (hN : X.N.Nodup) (hi : PI X tg iter wi) (ok : BlkOk X.N X.env.scope scope own)
    (hg : Blk X scope fun X' => PG X' tg g) (ht : Blk X scope fun X' => PTs X' ifs tt) (he : Blk X scope fun X' => PE X' elt te) (hs : ∀ x, foldedSetIterable iter X.env x = pure x := by intro _; rfl) :
    PE X (.SetComp elt [⟨tg, iter, ifs, 0⟩] scope pos) (tScT X.prog X.w X.K wi g tt te (own.map (·.2))) := by
  refine ⟨fun pins s σ H Q I h => ?_⟩
  rw [PpSet.eval_SetComp]
  have cap : ∀ y ∈ scope.names, y.2 = .free → ∃ c, X.env.cells.lookup y.1 = some c := fun y hy e => (ok.free y hy e).elim (fun k => I.ok.has _ (.inl k)) fun k => I.ok.has _ (.inr k)
  refine wpAny_comprehension_free (use := none) rfl hs (closure_ok cap) ok.kind (fun y hy e => by rw [ok.uniq y hy, e]) (thn (hi.run pins s σ H _ I h) fun xv s1 hx => thn hx fun itv s2 hit => ?_)
  obtain ⟨it, fp, tn, J, H2, rfl, I2, T, st2, f2, q⟩ := hit
  refine PpSet.newSet_ok (newEnv_comp ?_)
  obtain ⟨D, hD⟩ : ∃ D, D = s2.heap.objs.size := ⟨_, rfl⟩
  rw [← hD]
  obtain ⟨W, ⟨m0, w0⟩, turn⟩ := q D (I2.hok.fresh (Nat.le_of_eq hD.symm))
  obtain ⟨so, hso⟩ : ∃ so : Obj, so = { cls := .type "set", dict := none, data := .set #[] 0 (.fresh 0 0 (!X.w.params.followText "set-order")) } := ⟨_, rfl⟩
  rw [← hso]
  obtain ⟨s3, hs3⟩ : ∃ s3 : Shared, s3 = { s2 with heap := s2.heap.push so } := ⟨_, rfl⟩
  obtain ⟨H3, hH3⟩ : ∃ H3 : Hp, H3 = upd H2 D (SetTO X.prog X.w D []) := ⟨_, rfl⟩
  rw [← hH3] at w0
  have h3 : s3.heap = s2.heap.push so := by rw [hs3]
  have I3 : Inv X pins σ H3 s3 := by
    rw [hs3, hH3]
    refine I2.laid (t' := s2.toks) (fun b o e => Heap.get?_push_of_some _ e) (Nat.le_of_eq hD.symm) (setTO_new (setTR_fresh (w := X.w) (a := D) ?_).t0)
    rw [hD, ← hso]; exact Heap.get?_push_size _ (by rw [hso]; rfl)
  have f3 : ∀ b ∈ fp, FpOk X pins H3 b ∧ b < s3.heap.objs.size := fun b hb => by
    obtain ⟨o, e, _⟩ := T.obj _ _ st2 b hb
    have hlt := Heap.lt_size e
    refine ⟨⟨?_, (f2 b hb).2⟩, by rw [h3, Heap.size_push]; exact Nat.lt_succ_of_lt hlt⟩
    rw [hH3, upd_ne (by rw [hD]; exact Nat.ne_of_lt hlt)]
    exact (f2 b hb).1
  have st3 : tn 0 s3.heap := T.keep _ _ _ st2 fun b _ o e => by rw [h3]; exact Heap.get?_push_of_some _ e
  have I4 := block_start I3 ok hN f3
  have pg := hg s3 H3 s3.heap.objs.size (cellsFrom (s3.heap.objs.size + 1) scope.names (cloFrom X.env.cells scope.names [])) fp
  have pt := ht s3 H3 s3.heap.objs.size (cellsFrom (s3.heap.objs.size + 1) scope.names (cloFrom X.env.cells scope.names [])) fp
  have pe := he s3 H3 s3.heap.objs.size (cellsFrom (s3.heap.objs.size + 1) scope.names (cloFrom X.env.cells scope.names [])) fp
  obtain ⟨ce, hce⟩ : ∃ ce, ce = compEnvC scope (cellsFrom (s3.heap.objs.size + 1) scope.names (cloFrom X.env.cells scope.names [])) s3.heap.objs.size X.env := ⟨_, rfl⟩
  obtain ⟨s4, hs4⟩ : ∃ s4 : Shared, s4 = { s3 with heap := pushCells (s3.heap.push { cls := .type "dict", data := .dict #[] }) scope.names } := ⟨_, rfl⟩
  have goal : codeAny (model X.prog X.w) X.A (.compStart (.SetComp elt [⟨tg, iter, ifs, 0⟩] scope pos) 0 (.ref it) (.ref D) ce) (compPost (model X.prog X.w) X.A X.xe none (EP X pins σ Q) (.ref D) s3.heap.objs.size) s4 := by
    rw [← hs4, ← hce] at I4
    rw [← hce] at pg pt pe
    have cL : ce.locals = s3.heap.objs.size := by rw [hce]; rfl
    have st4 : tn 0 s4.heap := T.keep _ _ _ st3 fun b _ o e => by rw [hs4]; exact pushCells_keeps _ _ _ _ (Heap.get?_push_of_some _ e)
    have stat : ∀ {σ' : L2.St} {H' : Hp} {s' : Shared}, Inv (X.blk s3 H3 scope ce fp) [] σ' H' s' → (∀ b ∈ fp, H' b = none) → ∀ b ∈ fp, FpOk (X.blk s3 H3 scope ce fp) [] H' b := fun I' hn b hb =>
      ⟨hn b hb, (I'.ok.exf b hb).1, I'.ok.exfs b hb, .inl hb, fun x c e => (I'.ok.exf b hb).2 x c e, fun p hp => absurd (show p ∈ ([] : List (Addr × Obj)) ++ [] from hp) (by simp)⟩
    have loop : codeAny (model X.prog X.w) X.A (.compLoop (.SetComp elt [⟨tg, iter, ifs, 0⟩] scope pos) 0 (.ref it) (.ref D) ce) (compPost (model X.prog X.w) X.A X.xe none (EP X pins σ Q) (.ref D) s3.heap.objs.size) s4 := by
      refine PpSet.compLoopS_any (fun n s' => ∃ i H', Inv (X.blk s3 H3 scope ce fp) [] (wipe σ (own.map (·.2))) H' s' ∧ tn i s'.heap ∧ (∀ b ∈ fp, H' b = none) ∧ W i n H') ?_ m0 ⟨0, H3, I4, st4, fun b hb => (f3 b hb).1.1, w0⟩
      rintro n s5 ⟨i, H5, I5, st5, n5, w5⟩
      rcases turn i n H5 w5 with ⟨stop, qq⟩ | ⟨go, Nx, hNx, step⟩
      · refine thnF (T.done (X.blk s3 H3 scope ce fp) rfl rfl rfl hc i [] s5 _ H5 (fun _ _ => False) I5 (stat I5 n5) st5 stop) fun r s6 ⟨hr, I6⟩ => ?_
        subst hr
        have I7 : Inv X pins σ H5 s6 := I3.call' (ch := fp) I6.os I6.base I6.hok I6.bare fun b hb => ⟨(f3 b hb).1.2.2.2.1, (f3 b hb).1.2.1, (f3 b hb).1.2.2.2.2.1, (f3 b hb).1.2.2.2.2.2⟩
        have nC : H5 s3.heap.objs.size = none := cL ▸ (show H5 ce.locals = none from I6.free)
        obtain ⟨m, hn, _⟩ := I6.loc
        have hn' : s6.heap.Ns s3.heap.objs.size m := cL ▸ (show s6.heap.Ns ce.locals m from hn)
        obtain ⟨g0, g1, _, g3, g4, g5⟩ := I3.fpOk (Nat.le_refl _) nC
        have g2 := (I3.fpOk (Nat.le_refl _) nC).2.2.1
        exact ⟨m, hn', fun h'' sb => ⟨.ref D, H5, I7.turned (t' := s6.toks) (fun b o hb e => (sb.2 b hb).trans e) g0 g1 g3 g4 g5, rfl, qq⟩⟩
      · refine thnF (T.item (X.blk s3 H3 scope ce fp) rfl rfl rfl hc i [] s5 _ H5 (fun _ _ => False) I5 (stat I5 n5) st5 go) fun r s6 ⟨u, hr, h6⟩ => ?_
        subst hr
        refine thnF h6 fun _ s7 ⟨x, H7, I7, r7, y7, st7, n7⟩ => ?_
        have I7' := I7.pinned (stat I7 n7) (T.obj _ _ st7)
        refine thnF (pg.run _ s7 _ H7 x u _ I7' r7 (step x H7 y7)) fun _ s8 ⟨σ8, H8, I8, hw8, q8⟩ => ?_
        refine thnF (pt.run _ s8 σ8 H8 _ I8 q8) fun b s9 ⟨H9, I9, q9⟩ => ?_
        have fin : ∀ {s' : Shared} {H' : Hp}, Inv (X.blk s3 H3 scope ce fp) ([] ++ pinsAt fp s7.heap) σ8 H' s' → Nx H' → ∃ m, m < n ∧ ∃ i H', Inv (X.blk s3 H3 scope ce fp) [] (wipe σ (own.map (·.2))) H' s' ∧ tn i s'.heap ∧ (∀ b ∈ fp, H' b = none) ∧ W i m H' := fun {s' H'} I' nx => by
          obtain ⟨m', hm, w'⟩ := hNx H' nx
          have pin' : ∀ b ∈ fp, ∃ o, s7.heap.get? b = some o ∧ s'.heap.get? b = some o ∧ H' b = none := fun b hb => by
            obtain ⟨o, e, _⟩ := T.obj _ _ st7 b hb
            obtain ⟨z1, z2, _⟩ := I'.pin (b, o) (List.mem_append_right _ (List.mem_append_right _ (mem_pinsAt hb e)))
            exact ⟨o, e, z1, z2⟩
          refine ⟨m', hm, i + 1, H', (I'.unpinned (pins := [])).weak (by rw [← hw8, wipe_length]) (fun j v e => by rw [← hw8] at e; exact (wipe_some e).1), T.keep _ _ _ st7 fun b hb o e => ?_, fun b hb => by obtain ⟨_, _, _, z⟩ := pin' b hb; exact z, w'⟩
          obtain ⟨o', e1, e2, _⟩ := pin' b hb
          rw [e1] at e; cases e; exact e2
        cases b with
        | false =>
          simp only [Bool.false_eq_true, if_false] at q9 ⊢
          exact fin I9 q9
        | true =>
          simp only [if_true] at q9 ⊢
          refine thnF (pe.run _ s9 σ8 H9 _ I9 q9) fun z s10 ⟨yv, H10, I10, r10, t, k, L, ey, st, hD10, hL, hf, nx⟩ => ?_
          subst ey
          obtain rfl : z = Value.ref t := r10
          exact addT_ok (X := X.blk s3 H3 scope ce fp) I10 hu hD10 hL st hf fun L' s11 c1 c2 I11 => fin I11 (nx L' c1 c2)
    exact PpSet.codeAny_compStart_set loop (T.self X.A 0 _ _ _ st4 loop)
  subst hce hs4 hs3
  exact goal
/-- each once -/
def dd : List Mt → List Mt
  | [] => []
  | a :: l => if a ∈ l then dd l else a :: dd l
theorem mem_dd {a : Mt} : ∀ {l : List Mt}, a ∈ dd l ↔ a ∈ l
  | [] => Iff.rfl
  | b :: l => by
    unfold dd
    split
    · rename_i h
      rw [mem_dd, List.mem_cons]
      exact ⟨.inr, fun z => z.elim (fun e => e ▸ h) id⟩
    · rw [List.mem_cons, List.mem_cons, mem_dd]
theorem nodup_dd : ∀ l : List Mt, (dd l).Nodup
  | [] => List.nodup_nil
  | b :: l => by
    unfold dd
    split
    · exact nodup_dd l
    · rename_i h
      exact List.nodup_cons.mpr ⟨fun z => h (mem_dd.mp z), nodup_dd l⟩
theorem ns_inj {a b : Mt} (h : a.ns = b.ns) : a = b := by
  cases a; cases b
  simp only [Mt.ns, List.cons.injEq, and_true] at h
  rw [Mt.mk.injEq]
  omega
theorem ns_mem {a : Mt} {l : List Mt} : a.ns ∈ l.map Mt.ns ↔ a ∈ l :=
  ⟨fun h => by obtain ⟨b, hb, e⟩ := List.mem_map.mp h; exact ns_inj e ▸ hb, fun h => List.mem_map.mpr ⟨a, h, rfl⟩⟩
theorem nodup_ns : ∀ {l : List Mt}, l.Nodup → (l.map Mt.ns).Nodup
  | [], _ => List.nodup_nil
  | a :: l, h => by
    rw [List.nodup_cons] at h
    rw [List.map_cons, List.nodup_cons]
    exact ⟨fun z => h.1 (ns_mem.mp z), nodup_ns h.2⟩
theorem sort_refs {K : PySem.W.Frag} {H : Hp} {L : List (Addr × List Int)} {l : List Mt} (hs : ∀ a ∈ l, a.sm) (pm : (L.map (·.2)).Perm (l.map Mt.ns)) (hL : ∀ q ∈ L, H q.1 = some (.tup (q.2.map V.int))) (pw : (L.map (·.2)).Pairwise fun x y => TS.code 64 x ≤ TS.code 64 y) :
    DpAll K H (L.map fun q => V.ref q.1) ((sortM l).map Mt.d) := by
  obtain ⟨l', pl, pr'⟩ := perm_paired pm (paired_ns l)
  have w : l'.Pairwise fun a b => a.code ≤ b.code := paired_pw (fun v v' b b' h1 h2 h => by
    subst h1 h2
    rw [code_ns, code_ns] at h
    omega) pr' pw
  rw [sortM_uniq hs pl w] at pr'
  refine dpAll_paired.mpr ?_
  clear pm pw w pl
  generalize sortM l = m at pr'
  induction L generalizing m with
  | nil => cases pr'; exact .nil
  | cons x L ih =>
    rw [List.map_cons] at pr'
    cases pr' with
    | @cons _ b _ _ h t =>
      refine .cons (dp_mt_of ?_) (ih (fun q hq => hL q (List.mem_cons_of_mem _ hq)) _ t)
      rw [hL x List.mem_cons_self, h]
variable {δ : De} {iter : Expr} {ifs : List Expr} {l : List Mt} {k : Mt → Bool} {δ' : Mt → De} {δw : De} {is : List Nat} {scope : Scope} {own : List (Str × Nat)} {p pos pos2 : Pos}
theorem scD {J : It} {H1 : Hp} {D : Addr} {σ : L2.St} {vs : List Nat} {Qd : Hp → Prop} (w : DW X.K J (l.map Mt.d) H1) (E : EnvD X.K (wipe σ vs) H1 δw) (hD : H1 D = none) (hn : l.length < 60) (hi : ∀ i ∈ is, i ∈ vs)
    (q : ∀ L H', Same H1 H' → H' D = some (SetTO X.prog X.w D L) → (∀ p ∈ L, H' p.1 = some (.tup (p.2.map V.int))) → (∀ ns, ns ∈ L.map (·.2) ↔ ns ∈ (l.filter k).map Mt.ns) → Qd H') :
    ∃ W : Nat → Nat → Hp → Prop, (∃ m, W 0 m (upd H1 D (SetTO X.prog X.w D []))) ∧ ∀ i m H, W i m H →
      (J.stop i H ∧ Qd H) ∨ (J.go i H ∧ ∃ Nx : Hp → Prop, (∀ H', Nx H' → ∃ m', m' < m ∧ W (i + 1) m' H') ∧ ∀ x H', J.yld i H x H' → gX X.K l Mt.d δw is δ' x (wipe σ vs) H' fun σ2 H2 => wipe σ2 vs = wipe σ vs ∧ cX X.K l δ' k σ2 H2 fun b H3 =>
        if b = true then tX X.K (l.filter k) δ' Mt.d σ2 H3 fun y H4 => ∃ (t : Addr) (k : List Int) (L : List (Addr × List Int)), y = .ref t ∧ SqT X.K H4 t (k.map V.int) ∧ H4 D = some (SetTO X.prog X.w D L) ∧ (∀ p ∈ L, SqT X.K H4 p.1 (p.2.map V.int)) ∧ L.length + 1 < 64 ∧
      ∀ L', (k ∈ L.map (·.2) → L' = L) → (k ∉ L.map (·.2) → L'.Perm ((t, k) :: L)) → Nx (upd H4 D (SetTO X.prog X.w D L')) else Nx H3) := by
  refine ⟨fun i m H => m = l.length - i ∧ i ≤ l.length ∧ Same H1 H ∧ ∃ L, H D = some (SetTO X.prog X.w D L) ∧ L.length ≤ i ∧ (∀ p ∈ L, H p.1 = some (.tup (p.2.map V.int))) ∧ ∀ ns, ns ∈ L.map (·.2) ↔ ns ∈ ((l.take i).filter k).map Mt.ns, ⟨_, rfl, Nat.zero_le _, same_new hD, [], upd_same, Nat.le_refl _, fun p hp => (nomatch hp), fun ns => by simp⟩, ?_⟩
  rintro i m H ⟨rfl, hle, s, L, hL, hlen, ht, hm⟩
  by_cases hlt : i < l.length
  · have hp : l[i]? = some l[i] := List.getElem?_eq_getElem hlt
    have hmem : l[i] ∈ l := List.getElem_mem hlt
    have htk : (l.take (i + 1)).filter k = (l.take i).filter k ++ (if k l[i] then [l[i]] else []) := by
      rw [List.take_succ, hp]
      simp only [Option.toList, List.filter_append]
      congr 1
      cases z : k l[i] <;> simp [z]
    refine .inr ⟨w.goes i H (by rw [List.length_map]; exact hlt) s, fun H' => i + 1 ≤ l.length ∧ Same H1 H' ∧ ∃ L, H' D = some (SetTO X.prog X.w D L) ∧ L.length ≤ i + 1 ∧ (∀ p ∈ L, H' p.1 = some (.tup (p.2.map V.int))) ∧ ∀ ns, ns ∈ L.map (·.2) ↔ ns ∈ ((l.take (i + 1)).filter k).map Mt.ns, fun H' h => ⟨l.length - (i + 1), by omega, rfl, h⟩, fun x H' y => ?_⟩
    obtain ⟨s2, hx⟩ := w.yields i H x H' (by rw [List.length_map]; exact hlt) s y
    have hx' := hx (Mt.d l[i]) (by rw [List.getElem?_map, hp]; rfl)
    rw [htk]
    generalize l[i] = a at hp hmem hx'
    refine ⟨a, hmem, E.mono (s.trans s2), .p hx', fun σ2 E2 ag => ⟨wipe_agr hi ag, a, hmem, E2, fun H3 s3 => ?_⟩⟩
    have s13 : Same H1 H3 := (s.trans s2).trans s3
    have h3 : H3 D = some (SetTO X.prog X.w D L) := s3 _ _ (s2 _ _ hL)
    by_cases hk : k a = true
    · dsimp only
      rw [if_pos hk, if_pos hk]
      refine ⟨a, List.mem_filter.mpr ⟨hmem, hk⟩, E2.mono s3, fun y H4 s4 r4 => ?_⟩
      obtain ⟨t, rfl, htt⟩ := dp_mt r4.toDp
      have s04 : Same H H4 := (s2.trans s3).trans s4
      refine ⟨t, a.ns, L, rfl, SqT.of htt, s4 _ _ h3, fun p hp => SqT.of (s04 _ _ (ht p hp)), by omega, fun L' c1 c2 => ⟨hlt, same_mut (s13.trans s4) hD, L', upd_same, ?_, fun p hp => ?_, fun ns => ?_⟩⟩
      · by_cases c : a.ns ∈ L.map (·.2)
        · rw [c1 c]; omega
        · rw [(c2 c).length_eq, List.length_cons]; omega
      · have hne : ∀ b : Addr, (∃ u, H4 b = some (.tup u)) → b ≠ D := fun b ⟨u, hu⟩ e => by rw [e, s4 _ _ h3] at hu; cases hu
        have : H4 p.1 = some (.tup (p.2.map V.int)) := by
          by_cases c : a.ns ∈ L.map (·.2)
          · rw [c1 c] at hp; exact s04 _ _ (ht p hp)
          · rcases List.mem_cons.mp ((c2 c).mem_iff.mp hp) with e | hp
            · subst e; exact htt
            · exact s04 _ _ (ht p hp)
        rw [upd_ne (hne _ ⟨_, this⟩)]; exact this
      · rw [List.map_append, List.mem_append, ← hm ns]
        by_cases c : a.ns ∈ L.map (·.2)
        · rw [c1 c]
          exact ⟨.inl, fun z => z.elim id fun z => by simp at z; subst z; exact c⟩
        · rw [((c2 c).map (·.2)).mem_iff, List.map_cons, List.mem_cons]
          simp only [List.map_cons, List.map_nil, List.mem_singleton]
          exact ⟨fun z => z.elim .inr .inl, fun z => z.elim .inr .inl⟩
    · dsimp only
      rw [if_neg hk, if_neg hk]
      refine ⟨hlt, s13, L, h3, by omega, fun p hp => (s2.trans s3) _ _ (ht p hp), fun ns => by rw [List.append_nil]; exact hm ns⟩
  · have e : i = l.length := by omega
    subst e
    refine .inl ⟨by have := w.stops H s; rwa [List.length_map] at this, q L H s hL ht (by rw [List.take_length] at hm; exact hm)⟩
/-- sorted({x for x in iter if ..}) -/
theorem d_sortS {elt : Expr} {x : Str} {px : Pos} (hu : X.A.units + 65 < cLine) (hc : X.calm = true) (hN : X.N.Nodup) (hi : PI X (.Name x px) iter (iD X.K δ (l.map Mt.d))) (ok : BlkOk X.N X.env.scope scope own) (hδ : δw = wipeD δ (own.map (·.2))) (hn : l.length < 60) (hio : ∀ i ∈ is, i ∈ own.map (·.2)) (hsm : ∀ a ∈ l, k a = true → a.sm)
    (hg : ∀ a ∈ l, Blk X scope fun X' => PG X' (.Name x px) (gD X'.K δw (.p (Mt.d a)) is (δ' a))) (ht : ∀ a ∈ l, Blk X scope fun X' => PTs X' ifs (cD X'.K (δ' a) (k a))) (he : ∀ a ∈ l, k a = true → Blk X scope fun X' => PE X' elt (tD X'.K (δ' a) (.p (Mt.d a))))
    (hgs : Gl X "sorted") (hm : X.mg "sorted" = none) (hs : ∀ y, foldedSetIterable iter X.env y = pure y := by intro _; rfl)
    (hst : starEach [.SetComp elt [⟨.Name x px, iter, ifs, 0⟩] scope pos2] X.env = (false, eval (.SetComp elt [⟨.Name x px, iter, ifs, 0⟩] scope pos2) X.env) :: starEach [] X.env := by rfl) :
    PE X (.Call (.Name "sorted" p) [.SetComp elt [⟨.Name x px, iter, ifs, 0⟩] scope pos2] [] pos) (tN X.K δ ((sortM (dd (l.filter k))).map Mt.d)) :=
  PE_imp (pe_callB (cr_sortedT hc) hgs hm boot_sorted (pa_cons (pe_scT (by omega) hc hN hi ok (fun s H C cl fp => gX_of fun p hp => hg p hp s H C cl fp) (fun s H C cl fp => cX_of fun p hp => ht p hp s H C cl fp) (fun s H C cl fp => tX_of (l := l.filter k) fun p hp => he p (List.mem_filter.mp hp).1 (List.mem_filter.mp hp).2 s H C cl fp) hs) pa_nil hst) (by decide) (by decide) hst rfl) fun σ H Q ⟨E, q⟩ => ⟨E, fun J H1 s1 w D hD =>
    scD w (by rw [hδ]; exact (E.mono s1).wipe _) hD hn hio fun L H' s hL hT hmm => by
      have bd : ∀ p ∈ L, ∃ a, a ∈ l.filter k ∧ p.2 = a.ns := fun p hp => by
        obtain ⟨a, ha, e⟩ := List.mem_map.mp ((hmm p.2).mp (List.mem_map.mpr ⟨p, hp, rfl⟩))
        exact ⟨a, ha, e.symm⟩
      have sm : ∀ a ∈ l.filter k, a.sm := fun a ha => hsm a (List.mem_filter.mp ha).1 (List.mem_filter.mp ha).2
      refine ⟨D, L, 3, 64, rfl, hL, fun p hp => SqT.of (hT p hp), by decide, fun p hp => by obtain ⟨a, ha, e⟩ := bd p hp; rw [e]; exact bd_ns (sm a ha), fun L' p pm nd h64 pw hp => ?_⟩
      have pm2 : (L'.map (·.2)).Perm ((dd (l.filter k)).map Mt.ns) := (List.perm_ext_iff_of_nodup nd (nodup_ns (nodup_dd _))).mpr fun ns => by
        rw [(pm.map (·.2)).mem_iff, hmm ns]
        constructor
        · intro h
          obtain ⟨a, ha, e⟩ := List.mem_map.mp h
          exact List.mem_map.mpr ⟨a, mem_dd.mpr ha, e⟩
        · intro h
          obtain ⟨a, ha, e⟩ := List.mem_map.mp h
          exact List.mem_map.mpr ⟨a, mem_dd.mp ha, e⟩
      have sD : Same H1 H' := s
      refine q p _ _ (s1.free (sD.free hp)) ((s1.trans sD).trans (same_new hp)) upd_same (dpAll_mono (same_new hp) (sort_refs (fun a ha => sm a (mem_dd.mp ha)) pm2 (fun q hq => hT q (pm.mem_iff.mp hq)) (List.pairwise_map.mpr pw)))⟩
end
end Pr
set_option maxHeartbeats 4000000
/-! W8: Dance. -/
namespace Pr
open PySem PySem.Spec PyProof.Rows L2
variable {P : Program} {w : World} {K : PySem.W.Frag} {mg : Str → Option Value} {base : Heap}
def riDance : RI := fun ds fs => ∃ (n m R : Nat) (p : Pt), 1 ≤ n ∧ 1 ≤ m ∧ 1 ≤ R ∧ ds = [.i n, .i m, .i R, ruleD p] ∧ fs = dnF n m R p
theorem f3_Dance_init (T : Tx K mg) : FnR P w K mg base CX0 3 (ma K "Dance" "__init__") (spI K "Dance" riDance) :=
  fnR_I T.f_Dance_init sc_Dance_init bn_Dance_init (fun ds fs ⟨_, _, _, _, _, _, _, h, _⟩ => by rw [h]; rfl) fun cdv A outer s H E hr ds fs ⟨n, m, R, p, hn, hm, hR, h, h2⟩ => by
    subst h h2
    have nd := sc_Dance_init.nd
    refine i_loop (is := [5, 6]) (a_for (l := [(0, n), (1, m), (2, R)]) (ι := prD) PassesOwn.never rfl (i_eqv (i_enum rfl T.b_enumerate (d_new (d_lstP (ps := [.int n, .int m, .int R]) (a_cons (d_var 1 rfl) (a_cons (d_var 2 rfl) (a_cons (d_var 3 rfl) a_nil))) (by simp)))) rfl) (fun _ _ h => h)
      (fun q hq => g_tup (ps := [.int q.1, .int q.2]) rfl (gs_cons (g_name 5 nd rfl (.inl rfl)) (gs_cons (g_name 6 nd rfl (.inl rfl)) gs_nil)) rfl)
      (fun q hq => k_one (k_ifno (c_eqv (c_not (c_val (d_call (f2_is_number T) hr rfl T.g_is_number T.f_is_number.kp ⟨q.2, by simp at hq; rcases hq with h | h | h <;> (subst h; simp; omega), rfl, rfl⟩ (a_cons (d_var 6 rfl) a_nil)))) rfl))) (fun q hq _ _ E => (E.forget 5).forget 6)) (by decide) ?_
    refine i_if (c_eqv (c_not (c_val (d_isiC rfl T.b_isinstance rfl T.g_Rule T.c_Rule T.i_Rule T.kk_Rule (d_var 4 rfl)))) rfl) ?_
    exact i_end (l := [3, 0, 1, 2]) rfl (a_cons (d_var 1 rfl) (a_cons (d_var 2 rfl) (a_cons (d_var 3 rfl) (a_cons (d_var 4 rfl) a_nil)))) (gf_first (g_fld T.s_Dance_its_suns) (gf_cons (g_fld T.s_Dance_its_moons) (gf_cons (g_fld T.s_Dance_its_rounds) (gf_cons (g_fld T.s_Dance_its_rule) gf_nil)))) (by simp) rfl rfl (by simp)
      (fun vs hv => match vs, hv with | [x, y, z, u], _ => ⟨[y, z, u, x], rfl, fun K H r => by cases r with | cons r1 r => cases r with | cons r2 r => cases r with | cons r3 r => cases r with | cons r4 r => cases r; exact .cons r2 (.cons r3 (.cons r4 (.cons r1 .nil)))⟩)
def rdMeet : RD := fun ds d => ∃ (n m R : Nat) (p : Pt) (a : Mt), a.r < R ∧ a.i < n ∧ a.j < m ∧ ds = [dnD n m R p, .p a.d] ∧ d = .b true
theorem f3_is_meeting (T : Tx K mg) : FnR P w K mg base CX0 3 (ma K "Dance" "is_meeting") (spD K rdMeet) :=
  fnR_D T.f_Dance_is_meeting sc_Dance_is_meeting bn_Dance_is_meeting (fun ds d ⟨_, _, _, _, _, _, _, _, h, _⟩ => by rw [h]; rfl) fun cdv A outer s H E hr ds d ⟨n, m, R, p, a, ha, hi, hj, h, h2⟩ => by
    subst h h2
    have hu := room_u hr
    refine q_if (k := false) (c_eqv (PW.pt (w_or (c_not (c_val (d_isi (k := true) rfl T.b_isinstance rfl T.b_tuple boot_tuple kt_tt (d_var 1 rfl)))) fun _ => w_or (c_ne hu sh_int sh_int (d_lenT rfl T.b_len (a_cons (d_var 1 rfl) a_nil)) d_int) fun _ => w_or1 (c_not (c_val (d_all (bs := [true, true, true]) rfl rfl T.b_all (d_new
      (d_lc0 (l := [a.r, a.i, a.j]) (ι := fun n => .int n) (f := fun _ => .bool true) (own := [("part", 2)]) rfl sc_Dance_is_meeting.nd (i_tup (d_var 1 rfl)) (blkOk_by (by kernel_rfl)) rfl (by simp) (by decide) (fun _ _ => rfl)
        (fun p hp s H C cl fp => g_name 2 sc_Dance_is_meeting.nd rfl (.inl rfl)) (fun p hp s H C cl fp => d_call (f2_is_count T) hr rfl T.g_is_count T.f_is_count.kp ⟨p, by omega, rfl, rfl⟩ (a_cons (d_var 2 rfl) a_nil))))))))) rfl) (fun z => nomatch z) fun _ => ?_
    refine q_retE (d_and (d_lt (d_ixT (p := .int a.r) rfl (d_var 1 rfl) d_int) (d_fld T.s_Dance_its_rounds rfl (d_var 0 rfl))) fun _ => d_and (d_lt (d_ixT (p := .int a.i) rfl (d_var 1 rfl) d_int) (d_fld T.s_Dance_its_suns rfl (d_var 0 rfl))) fun _ => d_one (d_lt (d_ixT (p := .int a.j) rfl (d_var 1 rfl) d_int) (d_fld T.s_Dance_its_moons rfl (d_var 0 rfl)))) ?_
    rw [decide_eq_true (show (a.r : Int) < R by omega), decide_eq_true (show (a.i : Int) < n by omega), decide_eq_true (show (a.j : Int) < m by omega)]; rfl
def rdNeed : RD := fun ds d => ∃ (n m R : Nat) (p : Pt) (a : Mt), a.r < R ∧ a.i < n ∧ a.j < m ∧ ds = [dnD n m R p, .p a.d] ∧ d = .n
theorem f4_need_meeting (T : Tx K mg) : FnR P w K mg base CX0 4 (ma K "Dance" "need_meeting") (spD K rdNeed) :=
  fnR_U T.f_Dance_need_meeting sc_Dance_need_meeting bn_Dance_need_meeting (fun ds d ⟨_, _, _, _, _, _, _, _, h, h2⟩ => by rw [h]; exact ⟨rfl, h2⟩) fun cdv A outer s H E hr ds d ⟨n, m, R, p, a, ha, hi, hj, h, h2⟩ => by
    subst h h2
    exact u_cons (n_ifno (c_eqv (c_not (c_val (d_meth T.c_Dance T.m_Dance_is_meeting (f3_is_meeting T) hr ⟨n, m, R, p, a, ha, hi, hj, rfl, rfl⟩ (d_var 0 rfl) (a_cons (d_var 1 rfl) a_nil)))) rfl)) u_nil
def rnMeetings : RN := fun ds ps => ∃ (n m R : Nat) (p : Pt), n ≤ 60 ∧ m ≤ 60 ∧ n * m ≤ 60 ∧ R ≤ 60 ∧ ds = [dnD n m R p] ∧ ps = (allM n m R).map Mt.d
theorem f1_meetings (T : Tx K mg) : FnR P w K mg base CX0 1 (ma K "Dance" "meetings") (spN K rnMeetings) :=
  fnR_N T.f_Dance_meetings sc_Dance_meetings bn_Dance_meetings (fun ds d ⟨_, _, _, _, _, _, _, _, h, _⟩ => by rw [h]; rfl) fun cdv A outer s H E hr ds d ⟨n, m, R, p, hn, hm, hnm, hR, h, h2⟩ => by
    subst h h2
    have nd := sc_Dance_meetings.nd
    refine q_seq (n_set 1 nd rfl (.inr rfl) (d_new (n_eqv (d_lc2 (n := n) (i0 := 2) (es2 := List.range m) (ι2 := fun j => .int (j : Nat)) (f2 := fun i j => .tuple [.int (i : Nat), .int (j : Nat)]) (own := [("i", 2), ("j", 3)]) (vs1 := [3]) rfl nd
      (i_eqv (i_range (n := n) (by omega) (by omega) rfl T.b_range (d_fld T.s_Dance_its_suns rfl (d_var 0 rfl))) rfl) (blkOk_by (by kernel_rfl)) (by decide) (by omega) (by rw [List.length_range]; omega) rfl (fun _ => rfl) (fun _ => rfl) (by decide) (by decide) (fun _ _ _ _ => rfl)
      (fun s H C cl fp => pg_name nd rfl (.inl rfl)) (fun r hr s H C cl fp => b_range (n := m) (by omega) (by omega) rfl T.b_range (d_fld T.s_Dance_its_moons rfl (d_var 0 rfl)))
      (fun r hr e he s H C cl fp => g_name 3 nd rfl (.inl rfl)) (fun r hr e he s H C cl fp => d_tup2 (a_cons (d_var 2 rfl) (a_cons (d_var 3 rfl) a_nil)))) pairs_d))) ?_
    exact q_retN (n_eqv (d_lc2 (n := R) (i0 := 4) (es2 := pairs n m) (ι2 := prD) (f2 := fun r p => .tuple [.int (r : Nat), .int (p.1 : Nat), .int (p.2 : Nat)]) (own := [("r", 4), ("i", 2), ("j", 3)]) (vs1 := [2, 3]) rfl nd
      (i_eqv (i_range (n := R) (by omega) (by omega) rfl T.b_range (d_fld T.s_Dance_its_rounds rfl (d_var 0 rfl))) rfl) (blkOk_by (by kernel_rfl)) (by decide) (by omega) (by rw [pairs_len]; omega) rfl (fun _ => rfl) (fun _ => rfl) (by decide) (by decide) (fun _ _ _ _ => rfl)
      (fun s H C cl fp => pg_name nd rfl (.inl rfl)) (fun r hr s H C cl fp => b_var 1 rfl)
      (fun r hr e he s H C cl fp => g_tup (ps := [.int e.1, .int e.2]) rfl (gs_cons (g_name 2 nd rfl (.inl rfl)) (gs_cons (g_name 3 nd rfl (.inl rfl)) gs_nil)) rfl) (fun r hr e he s H C cl fp => d_tup3 (a_cons (d_var 4 rfl) (a_cons (d_var 2 rfl) (a_cons (d_var 3 rfl) a_nil))))) allM_d)
def rdSize : RD := fun ds d => ∃ (n m R : Nat) (p : Pt), n ≤ 1000 ∧ m ≤ 1000 ∧ R ≤ 1000 ∧ ds = [dnD n m R p] ∧ d = .i (n * m * R : Nat)
theorem f1_size (T : Tx K mg) : FnR P w K mg base CX0 1 (ma K "Dance" "size") (spD K rdSize) :=
  fnR_D T.f_Dance_size sc_Dance_size bn_Dance_size (fun ds d ⟨_, _, _, _, _, _, _, h, _⟩ => by rw [h]; rfl) fun cdv A outer s H E hr ds d ⟨n, m, R, p, hn, hm, hR, h, h2⟩ => by
    subst h h2
    exact q_retE (d_mul (.inr ⟨by omega, by omega⟩) (d_mul (cmul_small (by omega)) (d_fld T.s_Dance_its_suns rfl (d_var 0 rfl)) (d_fld T.s_Dance_its_moons rfl (d_var 0 rfl))) (d_fld T.s_Dance_its_rounds rfl (d_var 0 rfl))) (by push_cast; rfl)
def rdAhead : RD := fun ds d => ∃ (n m R : Nat) (p : Pt) (a b : Mt), (a.r < R ∧ a.i < n ∧ a.j < m) ∧ (b.r < R ∧ b.i < n ∧ b.j < m) ∧ ds = [dnD n m R p, .p a.d, .p b.d] ∧ d = .b ((!decide (a = b)) && ahd a b)
theorem f5_ahead (T : Tx K mg) : FnR P w K mg base CX0 5 (ma K "Dance" "ahead") (spD K rdAhead) :=
  fnR_D T.f_Dance_ahead sc_Dance_ahead bn_Dance_ahead (fun ds d ⟨_, _, _, _, _, _, _, _, h, _⟩ => by rw [h]; rfl) fun cdv A outer s H E hr ds d ⟨n, m, R, p, a, b, ⟨ha, hi, hj⟩, ⟨ha2, hi2, hj2⟩, h, h2⟩ => by
    subst h h2
    have hu := room_u hr
    refine q_seq (n_ofA (a_expr (d_meth T.c_Dance T.m_Dance_need_meeting (f4_need_meeting T) hr ⟨n, m, R, p, a, ha, hi, hj, rfl, rfl⟩ (d_var 0 rfl) (a_cons (d_var 1 rfl) a_nil)))) ?_
    refine q_seq (n_ofA (a_expr (d_meth T.c_Dance T.m_Dance_need_meeting (f4_need_meeting T) hr ⟨n, m, R, p, b, ha2, hi2, hj2, rfl, rfl⟩ (d_var 0 rfl) (a_cons (d_var 2 rfl) a_nil)))) ?_
    refine q_seq (n_set 3 sc_Dance_ahead.nd rfl (.inl rfl) (d_add (d_intB rfl T.b_int (a_cons (d_lt (d_ixT (p := .int b.i) rfl (d_var 2 rfl) d_int) (d_ixT (p := .int a.i) rfl (d_var 1 rfl) d_int)) a_nil)) (d_intB rfl T.b_int (a_cons (d_lt (d_ixT (p := .int b.j) rfl (d_var 2 rfl) d_int) (d_ixT (p := .int a.j) rfl (d_var 1 rfl) d_int)) a_nil)))) ?_
    exact q_retE (d_and (d_ne hu sh_mt sh_mt (d_var 1 rfl) (d_var 2 rfl)) fun _ => d_one (d_ge (d_sub (d_ixT (p := .int b.r) rfl (d_var 2 rfl) d_int) (d_ixT (p := .int a.r) rfl (d_var 1 rfl) d_int)) (d_var 3 rfl))) (by rw [eqv_mt, int_lt_nat, int_lt_nat]; rfl)
def lvl (n m : Nat) (a : Mt) : Nat := a.r * max n m + a.i + a.j
def rdLevel : RD := fun ds d => ∃ (n m R : Nat) (p : Pt) (a : Mt), (a.r < R ∧ a.i < n ∧ a.j < m) ∧ R ≤ 1000 ∧ ds = [dnD n m R p, .p a.d] ∧ d = .i (lvl n m a)
theorem f5_level (T : Tx K mg) : FnR P w K mg base CX0 5 (ma K "Dance" "level") (spD K rdLevel) :=
  fnR_D T.f_Dance_level sc_Dance_level bn_Dance_level (fun ds d ⟨_, _, _, _, _, _, _, h, _⟩ => by rw [h]; rfl) fun cdv A outer s H E hr ds d ⟨n, m, R, p, a, ⟨ha, hi, hj⟩, hR, h, h2⟩ => by
    subst h h2
    refine q_seq (n_ofA (a_expr (d_meth T.c_Dance T.m_Dance_need_meeting (f4_need_meeting T) hr ⟨n, m, R, p, a, ha, hi, hj, rfl, rfl⟩ (d_var 0 rfl) (a_cons (d_var 1 rfl) a_nil)))) ?_
    exact q_retE (d_add (d_add (d_mul (.inl ⟨by omega, by omega⟩) (d_ixT (p := .int a.r) rfl (d_var 1 rfl) d_int) (d_max2 rfl rfl T.b_max boot_max (a_cons (d_fld T.s_Dance_its_suns rfl (d_var 0 rfl)) (a_cons (d_fld T.s_Dance_its_moons rfl (d_var 0 rfl)) a_nil)))) (d_ixT (p := .int a.i) rfl (d_var 1 rfl) d_int)) (d_ixT (p := .int a.j) rfl (d_var 1 rfl) d_int)) (by
      have e : ((max n m : Nat) : Int) = max (n : Int) (m : Int) := by omega
      unfold lvl; push_cast; rw [e])
def alS (m : Nat) (a : Mt) : Mt := if a.j + 1 < m then ⟨a.r, a.i, a.j + 1⟩ else ⟨a.r + 1, a.i, 0⟩
def alM (n : Nat) (a : Mt) : Mt := if a.i + 1 < n then ⟨a.r, a.i + 1, a.j⟩ else ⟨a.r + 1, 0, a.j⟩
/-- the meetings that the two dancers have next -/
def bh (n m R : Nat) (a : Mt) : List Mt := sortM (dd ([alS m a, alM n a].filter fun b => decide (b.r < R)))
def rnBehind : RN := fun ds ps => ∃ (n m R : Nat) (p : Pt) (a : Mt), (a.r < R ∧ a.i < n ∧ a.j < m) ∧ n ≤ 60 ∧ m ≤ 60 ∧ R ≤ 60 ∧ ds = [dnD n m R p, .p a.d] ∧ ps = (bh n m R a).map Mt.d
theorem f5_behind (T : Tx K mg) : FnR P w K mg base CX0 5 (ma K "Dance" "behind") (spN K rnBehind) :=
  fnR_N T.f_Dance_behind sc_Dance_behind bn_Dance_behind (fun ds d ⟨_, _, _, _, _, _, _, _, _, h, _⟩ => by rw [h]; rfl) fun cdv A outer s H E hr ds d ⟨n, m, R, p, a, ⟨ha, hi, hj⟩, hn, hm, hR, h, h2⟩ => by
    subst h h2
    have hu := room_u hr
    have nd := sc_Dance_behind.nd
    refine q_seq (n_ofA (a_expr (d_meth T.c_Dance T.m_Dance_need_meeting (f4_need_meeting T) hr ⟨n, m, R, p, a, ha, hi, hj, rfl, rfl⟩ (d_var 0 rfl) (a_cons (d_var 1 rfl) a_nil)))) ?_
    refine q_seq (n_asg (d_var 1 rfl) (g_tup (ps := [.int a.r, .int a.i, .int a.j]) rfl (gs_cons (g_name 2 nd rfl (.inl rfl)) (gs_cons (g_name 3 nd rfl (.inl rfl)) (gs_cons (g_name 4 nd rfl (.inl rfl)) gs_nil))) rfl)) ?_
    refine q_seq (n_set 5 (d := .p (alS m a).d) nd rfl (.inl rfl) (d_if (c_lt (d_add (d_var 4 rfl) d_int) (d_fld T.s_Dance_its_moons rfl (d_var 0 rfl))) (fun hk => d_eqv (d_tup3 (a_cons (d_var 2 rfl) (a_cons (d_var 3 rfl) (a_cons (d_add (d_var 4 rfl) d_int) a_nil)))) ?_) (fun hk => d_eqv (d_tup3 (a_cons (d_add (d_var 2 rfl) d_int) (a_cons (d_var 3 rfl) (a_cons d_int a_nil)))) ?_))) ?_
    · have := of_decide_eq_true hk
      unfold alS; rw [if_pos (by omega)]; unfold Mt.d; push_cast; rfl
    · have := of_decide_eq_false hk
      unfold alS; rw [if_neg (by omega)]; unfold Mt.d; push_cast; rfl
    refine q_seq (n_set 6 (d := .p (alM n a).d) nd rfl (.inl rfl) (d_if (c_lt (d_add (d_var 3 rfl) d_int) (d_fld T.s_Dance_its_suns rfl (d_var 0 rfl))) (fun hk => d_eqv (d_tup3 (a_cons (d_var 2 rfl) (a_cons (d_add (d_var 3 rfl) d_int) (a_cons (d_var 4 rfl) a_nil)))) ?_) (fun hk => d_eqv (d_tup3 (a_cons (d_add (d_var 2 rfl) d_int) (a_cons d_int (a_cons (d_var 4 rfl) a_nil)))) ?_))) ?_
    · have := of_decide_eq_true hk
      unfold alM; rw [if_pos (by omega)]; unfold Mt.d; push_cast; rfl
    · have := of_decide_eq_false hk
      unfold alM; rw [if_neg (by omega)]; unfold Mt.d; push_cast; rfl
    refine q_retN (d_sortS (l := [alS m a, alM n a]) (k := fun b => decide (b.r < R)) (own := [("one", 7)]) hu rfl nd (i_tup (d_tup2 (a_cons (d_var 5 rfl) (a_cons (d_var 6 rfl) a_nil)))) (blkOk_by (by kernel_rfl)) rfl (by simp) (by decide) (fun b hb hk => ?_)
      (fun b hb s H C cl fp => g_name 7 nd rfl (.inl rfl)) (fun b hb s H C cl fp => c_one (c_eqv (c_lt (d_ixT (p := .int b.r) rfl (d_var 7 rfl) d_int) (d_fld T.s_Dance_its_rounds rfl (d_var 0 rfl))) int_lt_nat)) (fun b hb _ s H C cl fp => d_var 7 rfl) rfl T.b_sorted)
    have hk' := of_decide_eq_true hk
    simp only [List.mem_cons, List.not_mem_nil, or_false] at hb
    unfold Mt.sm
    rcases hb with e | e <;> subst e
    · unfold alS at hk' ⊢
      split at hk' <;> (rename_i q; simp only [q, if_true, if_false] at hk' ⊢; omega)
    · unfold alM at hk' ⊢
      split at hk' <;> (rename_i q; simp only [q, if_true, if_false] at hk' ⊢; omega)
end Pr
set_option maxHeartbeats 4000000
/-! Wo: count, slices, list + list, max, comprehensions over dicts, by data. -/
namespace Pr
open PySem PySem.Spec PyProof.Rows L2
section
variable {X : Cx}
/-- l.count(x) by data -/
def rCountD (K : PySem.W.Frag) : V → List V → Hp → VK → Prop := fun x xs H Q => ∃ (a : Addr) (ys : List V) (y : V) (d : PyData) (ds : List PyData), x = V.ref a ∧ xs = [y] ∧ SqL K H a ys ∧ DpAll K H ys ds ∧ Dp K H y d ∧ PyData.canLayAll0 ds = true ∧ SeqAt.shaped d = true ∧ Q (.int (ds.countP fun z => PyData.eqv z d : Nat)) H
theorem mt_countD (hu : X.A.units + 65 < cLine) : MtR X "list.count" (rCountD X.K) := by
  intro pins s σ H x xs v us Q I rx rxs h
  obtain ⟨a, ys, y, d, ds, rfl, rfl, hs, hds, hd, hc, sd, q⟩ := h
  cases rx
  obtain ⟨u, rfl, ru⟩ := rxs.one
  obtain ⟨its, rv, ⟨⟨cls, dd, data, sl⟩, n, ho, hcl, hdn, hdt⟩, hlen⟩ := I.list hs
  simp only at hcl hdt
  subst hcl hdt
  obtain ⟨as, h4⟩ := L2.Dp.readsAll I ds ys its hds.kit rv
  obtain ⟨bs, r1⟩ := L2.Dp.reads I d y u hd.kit ru
  have hmap : its.map (SeqAt.readOf s.heap) = ds := SeqAt.readsAll_map ds its as hc h4
  refine call_meets PySem.F.slot_list_count ⟨_, ho, rfl⟩ PySem.F.entry_list_count (PySem.F.args_list_count_2 _ _)
    (SeqAt.list_countAt a its.toArray n dd sl u (fun z => PyData.eqv (SeqAt.readOf s.heap z) d)) ⟨ho, SeqAt.items_eqAt (vs := its.toArray) (show ReadsAll s.heap its.toArray.toList ds as from h4) r1 hc (SeqAt.canLay_of_shaped sd) (room_in_shaped sd hu), ?_⟩
  refine ⟨.int (ds.countP fun z => PyData.eqv z d : Nat), H, I.tok _, ⟨s.toks, ?_⟩, q⟩
  have e : its.toArray.toList.countP (fun z => PyData.eqv (SeqAt.readOf s.heap z) d) = ds.countP fun z => PyData.eqv z d := by
    rw [← hmap, List.countP_map]; rfl
  show Value.int ((its.toArray.toList.countP _ : Nat) : Int) s.toks = _
  rw [e]
end
section
variable {X : Cx} {δ δ1 δw : De} {a b c e tg iter elt : Expr} {es ifs : List Expr} {k : Bool} {d : Dt} {ps qs : List PyData} {is : List Nat} {pos apos cpos p2 : Pos}
theorem d_count {y : PyData} (hu : X.A.units + 65 < cLine) (hc : PyData.canLayAll0 ps = true) (sd : SeqAt.shaped y = true) (ho : PE X a (tD X.K δ (.l ps))) (he : PE X e (tD X.K δ (.p y)))
    (hbase : attributeBase a "count" X.env (eval a X.env) = eval a X.env := by rfl)
    (hfew : ((backTo cpos (starEach [e] X.env)).all (fun x => !x.1) && (backToKw cpos (keywordEach [] X.env)).all (fun x => x.1.isSome)
      && decide (([e] : List Expr).length + ([] : List Keyword).length + (if ([] : List Keyword).isEmpty then 0 else 1) < 30)) = true := by rfl)
    (hline : (apos.endLine == cpos.line) = true := by rfl) (hst : starEach [e] X.env = (false, eval e X.env) :: starEach [] X.env := by rfl) : PE X (.Call (.Attribute a "count" apos) [e] [] cpos) (tD X.K δ (.i (ps.countP fun z => PyData.eqv z y : Nat))) :=
  PE_imp (pe_bm PySem.F.plainAttrs_list PySem.F.slot_list_count PySem.F.type_list_count (mt_countD hu) ho (a_cons he a_nil hst) hbase hfew hline hst rfl) fun σ H Q ⟨E, q⟩ => ⟨E, fun v H1 s1 r1 => by
    obtain ⟨ad, xs, rfl, sl, rr⟩ := dp_lst r1.toDp
    refine ⟨.inl ⟨rfl, _, sl⟩, E.mono s1, fun ws H2 s2 r2 => ?_⟩
    obtain ⟨y', rfl, ry⟩ := rpAll_1 r2
    exact ⟨ad, xs, y', y, ps, rfl, rfl, sqL_mono s2 sl, dpAll_mono s2 rr, ry.toDp, hc, sd, q _ H2 (s1.trans s2) (.p (.int _))⟩⟩
theorem d_neg {i : Int} (ha : PE X a (tD X.K δ (.i i))) : PE X (.UnaryOp .USub a pos) (tD X.K δ (.i (-i))) :=
  PE_imp (pe_un un_neg ha) fun σ H Q ⟨E, q⟩ => ⟨E, fun v H1 s r => ⟨i, r.i_inv, q _ H1 s (.p (.int _))⟩⟩
/-- t[1:], t a tuple -/
theorem d_slT1 {p : PyData} (ha : PE X a (tD X.K δ (.t (p :: ps)))) (hb : PE X b (tD X.K δ (.i 1))) : PE X (.Subscript a (.Slice (some b) none none p2) pos) (tD X.K δ (.t ps)) :=
  PE_imp (pe_slice sl_tup ha (po_some hb) po_none) fun σ H Q ⟨E, q⟩ => ⟨E, fun v H1 s1 r1 => ⟨E.mono s1, fun w H2 s2 r2 => by
    obtain ⟨ad, xs, rfl, sl, rr⟩ := dp_tup r1.toDp
    have e := r2.i_inv; subst e
    have el := dpAll_length rr
    refine ⟨1, rfl, ad, xs, rfl, sqT_mono s2 sl, ?_, fun q1 hq => ?_⟩
    · rintro ⟨h1, _⟩
      rw [show (1 : Int) = ((1 : Nat) : Int) from rfl, HT.sIx_nat, el, List.length_cons] at h1
      omega
    · have e2 : cutV xs (some 1) none = xs.drop 1 := by
        unfold cutV
        rw [show (1 : Int) = ((1 : Nat) : Int) from rfl, HT.sIx_nat, HT.sIx_none, el, List.length_cons, Nat.min_eq_left (by omega)]
        rw [List.take_of_length_le (by rw [List.length_drop, el, List.length_cons]; exact Nat.le_refl _)]
      rw [e2]
      cases rr with
      | cons r t =>
        rw [List.drop_one, List.tail_cons]
        exact q _ _ ((s1.trans s2).trans (same_new hq)) (.p (.tup (SqT.of upd_same) (fun _ => upd_same) (dpAll_mono ((s2).trans (same_new hq)) t)))⟩⟩
/-- xs + ys, both new lists -/
theorem d_cat (hl : ps.length + qs.length ≤ 1000) (ha : PE X a (tN X.K δ ps)) (hb : PE X b (tN X.K δ qs)) : PE X (.BinOp a .Add b pos) (tN X.K δ (ps ++ qs)) :=
  PE_imp (pe_op op_cat ha hb) fun σ H Q ⟨E, q⟩ => ⟨E, fun p1 vs1 H1 f1 s1 h1 r1 => ⟨E.mono s1, fun p2 vs2 H2 f2 s2 h2 r2 => by
    have e1 := dpAll_length r1
    have e2 := dpAll_length r2
    exact ⟨p1, p2, vs1, vs2, rfl, rfl, s2 _ _ h1, h2, Evl.sz_of (by omega), fun p hp => q p _ _ ((s1.trans s2).free hp) ((s1.trans s2).trans (same_new hp)) upd_same (dpAll_append (dpAll_mono (s2.trans (same_new hp)) r1) (dpAll_mono (same_new hp) r2))⟩⟩⟩
/-- max(xs), xs a list of ints -/
theorem d_maxL {ns : List Int} {m : Int} {p : Pos} (hc : X.calm = true) (h0 : 0 < ns.length) (hm1 : m ∈ ns) (hm2 : ∀ y ∈ ns, y ≤ m) (hg : Gl X "max") (hm : X.mg "max" = none) (ha : PE X e (tD X.K δ (.l (ns.map .int)))) (he : starEach [e] X.env = (false, eval e X.env) :: starEach [] X.env := by rfl) :
    PE X (.Call (.Name "max" p) [e] [] pos) (tD X.K δ (.i m)) :=
  d_callB (cr_max hc) (fun vs H Q r q => by
    obtain ⟨v, rfl, rv⟩ := rpAll_1 r
    obtain ⟨ad, xs, rfl, sl, rr⟩ := dp_lst rv.toDp
    have e := dpAll_ints rr
    subst e
    refine ⟨ad, ns, rfl, sl, h0, fun m' h1 h2 => ?_⟩
    have e : m' = m := Int.le_antisymm (hm2 m' h1) (h2 m hm1)
    subst e
    exact q _ H (Same.refl H) (.p (.int _))) hg hm boot_max (a_cons ha a_nil he) (by decide) (by decide) he rfl

/-! ### comprehensions over a dict whose keys are meetings -/
theorem PE_or {t1 t2 : TE} (h1 : PE X e t1) (h2 : PE X e t2) : PE X e (fun σ H Q => t1 σ H Q ∨ t2 σ H Q) := ⟨fun pins s σ H Q I q => q.elim (h1.run pins s σ H Q I) (h2.run pins s σ H Q I)⟩
theorem PS_or {st : Stmt} {t1 t2 : TS} (h1 : PS X st t1) (h2 : PS X st t2) : PS X st (fun D σ H => t1 D σ H ∨ t2 D σ H) := ⟨fun pins s σ H D I q => q.elim (h1.run pins s σ H D I) (h2.run pins s σ H D I)⟩
/-- td reads the dict with the keys l, whatever is locked -/
def dictAt (K : PySem.W.Frag) (δ : De) (l : List Mt) (td : TE) : Prop := ∀ σ H, EnvD K σ H δ → ∃ d kvs, Rd H d (.dT kvs) ∧ (kvs.map (·.1) = l.map Mt.k) ∧ ∀ H', Wk H H' → ∀ Q : VK, Q (.ref d) H' → td σ H' Q
theorem dictAt_var {K : PySem.W.Frag} {i : Nat} {l : List Mt} {ds : List (List Key × PyData)} (hd : δ[i]? = some (some (.dT ds))) (hk : ds.map (·.1) = l.map Mt.k) : dictAt K δ l (tVar i) := fun σ H E => by
  obtain ⟨v, a, r⟩ := E.at_ i _ hd
  obtain ⟨d, kvs, rfl, h1, h2⟩ := r.dT_inv
  exact ⟨d, kvs, h1, (kvP_keys h2).trans hk, fun H' _ Q q => ⟨_, a, q⟩⟩
variable {l : List Mt} {scope : Scope} {own : List (Str × Nat)} {δ' : Mt → De} {kk : Mt → Bool} {f : Mt → PyData} {y : Str} {py spos : Pos} {td : TE}
theorem lcK_N (hd : dictAt X.K δ l td) (hn : l.length ≤ 1000) (hδ : δw = wipeD δ (own.map (·.2))) (hi : ∀ i ∈ is, i ∈ own.map (·.2)) (hf : ∀ p ∈ l, kk p = true → noL (f p) = true) : ∀ σ H Q, tN X.K δ ((l.filter kk).map f) σ H Q →
    tLockE (tLc (iKeys td) (gX X.K l Mt.d δw is δ') (cX X.K l δ' kk) (tX X.K (l.filter kk) δ' f) (own.map (·.2))) σ H Q ∨ tLc (iKeys td) (gX X.K l Mt.d δw is δ') (cX X.K l δ' kk) (tX X.K (l.filter kk) δ' f) (own.map (·.2)) σ H Q := fun σ H Q ⟨E, q⟩ => by
  obtain ⟨d, kvs, hR, hk, ht⟩ := hd σ H E
  have hkd : l.map Mt.d = kvs.map fun kv => tkD kv.1 := by
    have := congrArg (List.map fun k : List Key => tkD k) hk
    rw [List.map_map, List.map_map] at this
    exact this.symm
  rcases hR with hR | ⟨o, hR⟩
  · refine .inl ⟨d, _, hR, trivial, fun od => ?_⟩
    have wl := wk_lock (od := od) hR
    refine ht _ wl _ ⟨d, od, rfl, .inr ⟨kvs, upd_same, fun D hD => ?_⟩⟩
    have hDd : D ≠ d := fun e => by rw [e, upd_same] at hD; cases hD
    refine lcD (dw_keysT upd_same hkd) (by rw [hδ]; exact (E.wk wl).wipe _) hD hn hi hf fun ws H' s h r => ?_
    have hd' : H' d = some (.frz od (.dT kvs)) := s _ _ upd_same
    rw [upd_ne hDd] at hD
    refine ⟨hd', q D ws _ hD (fun a u ha => ?_) (by rw [upd_ne hDd]; exact h) (dpAll_wk (wk_unlock hd') r)⟩
    by_cases e : a = d
    · subst e; rw [upd_same]; rw [hR] at ha; exact ha
    · rw [upd_ne e]; exact s _ _ (by rw [upd_ne e]; exact ha)
  · refine .inr (ht H (Wk.refl H) _ ⟨d, o, rfl, .inr ⟨kvs, hR, fun D hD => ?_⟩⟩)
    exact lcD (dw_keysT hR hkd) (by rw [hδ]; exact E.wipe _) hD hn hi hf fun ws H' s h r => q D ws H' hD s h r
/-- [elt for tg in d if ..] -/
theorem d_lcK (hc : X.calm = true) (hN : X.N.Nodup) (hi : PE X iter td) (hd : dictAt X.K δ l td) (ok : BlkOk X.N X.env.scope scope own) (hδ : δw = wipeD δ (own.map (·.2))) (hn : l.length ≤ 1000) (hio : ∀ i ∈ is, i ∈ own.map (·.2)) (hf : ∀ p ∈ l, kk p = true → noL (f p) = true)
    (hg : ∀ p ∈ l, Blk X scope fun X' => PG X' tg (gD X'.K δw (.p (Mt.d p)) is (δ' p))) (ht : ∀ p ∈ l, Blk X scope fun X' => PTs X' ifs (cD X'.K (δ' p) (kk p))) (he : ∀ p ∈ l, kk p = true → Blk X scope fun X' => PE X' elt (tD X'.K (δ' p) (.p (f p))))
    (hs : ∀ x, foldedSetIterable iter X.env x = pure x := by intro _; rfl) : PE X (.ListComp elt [⟨tg, iter, ifs, 0⟩] scope pos) (tN X.K δ ((l.filter kk).map f)) := by
  have h := pe_lc (te := tX X.K (l.filter kk) δ' f) (g := gX X.K l Mt.d δw is δ') (tt := cX X.K l δ' kk) (pos := pos) hc hN (pi_keys (tg := tg) hi) ok (fun s H C cl fp => gX_of fun p hp => hg p hp s H C cl fp) (fun s H C cl fp => cX_of fun p hp => ht p hp s H C cl fp) (fun s H C cl fp => tX_of (l := l.filter kk) fun p hp => he p (List.mem_filter.mp hp).1 (List.mem_filter.mp hp).2 s H C cl fp) hs
  exact PE_imp (PE_or (pe_lock h) h) (lcK_N hd hn hδ hio hf)
theorem d_lcK0 (hc : X.calm = true) (hN : X.N.Nodup) (hi : PE X iter td) (hd : dictAt X.K δ l td) (ok : BlkOk X.N X.env.scope scope own) (hδ : δw = wipeD δ (own.map (·.2))) (hn : l.length ≤ 1000) (hio : ∀ i ∈ is, i ∈ own.map (·.2)) (hf : ∀ p ∈ l, noL (f p) = true)
    (hg : ∀ p ∈ l, Blk X scope fun X' => PG X' tg (gD X'.K δw (.p (Mt.d p)) is (δ' p))) (he : ∀ p ∈ l, Blk X scope fun X' => PE X' elt (tD X'.K (δ' p) (.p (f p))))
    (hs : ∀ x, foldedSetIterable iter X.env x = pure x := by intro _; rfl) : PE X (.ListComp elt [⟨tg, iter, [], 0⟩] scope pos) (tN X.K δ (l.map f)) := by
  have h := d_lcK (kk := fun _ => true) (pos := pos) hc hN hi hd ok hδ hn hio (fun p hp _ => hf p hp) hg (fun p hp s H C cl fp => c_nil) (fun p hp _ => he p hp) hs
  rwa [List.filter_eq_self.mpr (by simp)] at h
end
end Pr
set_option maxHeartbeats 4000000
/-! W9: the law's own looking defs. -/
namespace Pr
open PySem PySem.Spec PyProof.Rows L2
variable {P : Program} {w : World} {K : PySem.W.Frag} {mg : Str → Option Value} {base : Heap}
def rdLBit : RD := fun ds d => ∃ (e a : List Bool) (x : Nat), e.length ≤ 100 ∧ a.length ≤ 100 ∧ a ≠ [] ∧ ds = [.t [.str (bitS e), .str (bitS a)], .i x] ∧ d = .b (bitAt e a x)
theorem f1_law_bit (T : Tx K mg) : FnR P w K mg base CX0 1 (ga K "_law_bit") (spD K rdLBit) :=
  fnR_D T.f_law_bit sc_law_bit bn_law_bit (fun ds d ⟨_, _, _, _, _, _, h, _⟩ => by rw [h]; rfl) fun cdv A outer s H E hr ds d ⟨e, a, x, he, ha, hne, h, h2⟩ => by
    subst h h2
    have ha0 : 0 < a.length := List.length_pos_iff.mpr hne
    have hu := room_u hr
    have nd := sc_law_bit.nd
    have he2 : (bitS e).length ≤ 100000 := by rw [bitS_len]; omega
    have ha2 : (bitS a).length ≤ 100000 := by rw [bitS_len]; omega
    refine q_seq (n_asg (d_var 0 rfl) (g_tup (ps := [.str (bitS e), .str (bitS a)]) rfl (gs_cons (g_name 2 nd rfl (.inl rfl)) (gs_cons (g_name 3 nd rfl (.inl rfl)) gs_nil)) rfl)) ?_
    refine q_if (c_lt (d_var 1 rfl) (d_lenS he2 rfl T.b_len (a_cons (d_var 2 rfl) a_nil))) (fun hk => ?_) (fun hk => ?_)
    · have hx : x < e.length := by have := of_decide_eq_true hk; rw [bitS_len] at this; omega
      refine q_retE (d_eq hu sgn_ok (sh_str (by decide +kernel)) (d_ixS (n := sgn e[x]) he2 ?_ (d_var 2 rfl) (d_var 1 rfl)) d_str) ?_
      · rw [bitS_cps, atI_nat (by simpa using hx)]; simp
      · rw [sgn_one]; unfold bitAt; rw [if_pos hx, getD_lt hx]
    · have hx : ¬ x < e.length := by have := of_decide_eq_false hk; rw [bitS_len] at this; omega
      have hm : (x - e.length) % a.length < a.length := Nat.mod_lt _ ha0
      refine q_retE (d_eq hu sgn_ok (sh_str (by decide +kernel)) (d_ixS (n := sgn a[(x - e.length) % a.length]) ha2 ?_ (d_var 3 rfl) (d_mod (by rw [bitS_len]; omega) (d_intI rfl T.b_int (a_cons (d_sub (d_var 1 rfl) (d_lenS he2 rfl T.b_len (a_cons (d_var 2 rfl) a_nil))) a_nil)) (d_lenS ha2 rfl T.b_len (a_cons (d_var 3 rfl) a_nil)))) d_str) ?_
      · rw [bitS_cps, bitS_len, bitS_len, show ((x : Int) - (e.length : Nat)) % (a.length : Nat) = (((x - e.length) % a.length : Nat) : Int) by rw [Int.natCast_emod]; congr 1; omega, atI_nat (by simpa using hm)]; simp
      · rw [sgn_one]; unfold bitAt; rw [if_neg hx, getD_lt hm]
def rdLTruth (n : Nat) : RD := fun ds d => ∃ (p : Pt) (a : Mt) (N M : Nat), p.ok ∧ p.deep < n ∧ a.r ≤ 1000 ∧ N ≤ 100 ∧ M ≤ 100 ∧ ds = [.p p.data, .i a.r, .i a.i, .i a.j, .i N, .i M] ∧ d = .b (p.truth (nums N M a.r a.i a.j))
theorem opN_if (o : Fin 3) : (opN o == "and") = decide (o = 0) ∧ (opN o == "or") = decide (o = 1) := by
  match o with
  | 0 => decide +kernel
  | 1 => decide +kernel
  | 2 => decide +kernel
theorem cl_bools : ∀ bs : List Bool, PyData.canLayAll0 (bs.map .bool) = true
  | [] => rfl
  | b :: bs => by rw [List.map_cons]; unfold PyData.canLayAll0; rw [cl_bools bs]; rfl
theorem eqv_bool {x y : Bool} : PyData.eqv (.bool x) (.bool y) = (x == y) := by rfl
theorem fn_law_truth (T : Tx K mg) : ∀ n, FnR P w K mg base CX0 (1 + n) (ga K "_law_truth") (spD K (rdLTruth n))
  | 0 => fnR_0 fun ds d ⟨p, _, _, _, _, h, _⟩ => absurd h (Nat.not_lt_zero _)
  | n + 1 => fnR_D T.f_law_truth sc_law_truth bn_law_truth (fun ds d ⟨_, _, _, _, _, _, _, _, _, h, _⟩ => by rw [h]; rfl) fun cdv A outer s H E hr ds d ⟨p, a, N, M, ho, hn, hra, hN, hM, h, h2⟩ => by
    subst h h2
    have hu := room_u hr
    have hu1 : (A.deeper (envOfC "_law_truth" (defScope st_law_truth) s.heap.objs.size (ga K "_law_truth") cdv)).units + 1 < cLine := by omega
    have ih := fn_law_truth T n
    have nd := sc_law_truth.nd
    have al : SeqAt.shaped (.str "always") = true := sh_str (by decide +kernel)
    have nt : SeqAt.shaped (.str "not") = true := sh_str (by decide +kernel)
    match p with
    | .always b =>
      refine q_if (k := true) (c_eqv (c_eq hu al al (d_ixT (p := .str "always") rfl (d_var 0 rfl) d_int) d_str) (by decide +kernel)) (fun _ => ?_) (fun z => nomatch z)
      exact q_retD (d_ixT (p := .bool b) rfl (d_var 0 rfl) d_int)
    | .no p =>
      refine q_if (k := false) (c_eqv (c_eq hu nt al (d_ixT (p := .str "not") rfl (d_var 0 rfl) d_int) d_str) (by decide +kernel)) (fun z => nomatch z) (fun _ => ?_)
      refine q_if (k := true) (c_eqv (c_eq hu nt nt (d_ixT (p := .str "not") rfl (d_var 0 rfl) d_int) d_str) (by decide +kernel)) (fun _ => ?_) (fun z => nomatch z)
      exact q_retE (d_not (d_call ih hr rfl T.g_law_truth T.f_law_truth.kp ⟨p, a, N, M, ho, by simp only [Pt.deep] at hn; omega, hra, hN, hM, rfl, rfl⟩ (a_cons (d_ixT (p := p.data) rfl (d_var 0 rfl) d_int) (a_cons (d_var 1 rfl) (a_cons (d_var 2 rfl) (a_cons (d_var 3 rfl) (a_cons (d_var 4 rfl) (a_cons (d_var 5 rfl) a_nil)))))))) rfl
    | .two o p q =>
      obtain ⟨o1, o2, o3, o4⟩ := opN_ok o
      have so := sh_str o1
      obtain ⟨i0, i1⟩ := opN_if o
      simp only [Pt.deep] at hn
      refine q_if (k := false) (c_eqv (c_eq hu so al (d_ixT (p := .str (opN o)) rfl (d_var 0 rfl) d_int) d_str) (eqv_str.trans o2)) (fun z => nomatch z) (fun _ => ?_)
      refine q_if (k := false) (c_eqv (c_eq hu so nt (d_ixT (p := .str (opN o)) rfl (d_var 0 rfl) d_int) d_str) (eqv_str.trans o3)) (fun z => nomatch z) (fun _ => ?_)
      refine q_if (k := true) (c_eqv (c_inT (zs := opNames) (d_ixT (p := .str (opN o)) rfl (d_var 0 rfl) d_int) (d_tup3 (a_cons d_str (a_cons d_str (a_cons d_str a_nil))))) o4) (fun _ => ?_) (fun z => nomatch z)
      have hb : ∀ x ∈ [p, q], x.ok ∧ x.deep < n := fun x hx => by
        simp only [List.mem_cons, List.not_mem_nil, or_false] at hx
        rcases hx with e | e <;> subst e
        · exact ⟨ho.1, by omega⟩
        · exact ⟨ho.2, by omega⟩
      refine q_seq (n_set 6 nd rfl (.inl rfl) (d_count hu (cl_bools ([p, q].map fun x => x.truth (nums N M a.r a.i a.j))) sh_bool (d_new (n_eqv (d_lc0 (l := [p, q]) (ι := Pt.data) (f := fun x => .bool (x.truth (nums N M a.r a.i a.j))) (own := [("_law_part", 7)]) rfl nd (i_tup (d_slT1 (p := .str (opN o)) (d_var 0 rfl) d_int)) (blkOk_by (by kernel_rfl)) rfl (by simp) (by decide) (fun _ _ => rfl)
        (fun x hx s H C cl fp => g_name 7 nd rfl (.inl rfl)) (fun x hx s H C cl fp => d_call ih hr rfl T.g_law_truth T.f_law_truth.kp ⟨x, a, N, M, (hb x hx).1, (hb x hx).2, hra, hN, hM, rfl, rfl⟩ (a_cons (d_var 7 rfl) (a_cons (d_var 1 rfl) (a_cons (d_var 2 rfl) (a_cons (d_var 3 rfl) (a_cons (d_var 4 rfl) (a_cons (d_var 5 rfl) a_nil)))))))) (by simp))) d_bl)) ?_
      have hcnt : (([p, q].map fun x => x.truth (nums N M a.r a.i a.j)).map PyData.bool).countP (fun z => PyData.eqv z (.bool true)) = (if p.truth (nums N M a.r a.i a.j) then 1 else 0) + (if q.truth (nums N M a.r a.i a.j) then 1 else 0) := by
        simp only [List.map_cons, List.map_nil, List.countP_cons, List.countP_nil, eqv_bool]
        cases p.truth (nums N M a.r a.i a.j) <;> cases q.truth (nums N M a.r a.i a.j) <;> rfl
      rw [hcnt]
      match o with
      | 0 =>
        refine q_retE (d_if (k := true) (c_eqv (c_eq hu so (sh_str (by decide +kernel)) (d_ixT (p := .str (opN 0)) rfl (d_var 0 rfl) d_int) d_str) (by decide +kernel)) (fun _ => d_eq hu sh_int sh_int (d_var 6 rfl) d_int) (fun z => nomatch z)) ?_
        rw [eqv_int]; simp only [Pt.truth, opT]
        cases p.truth (nums N M a.r a.i a.j) <;> cases q.truth (nums N M a.r a.i a.j) <;> rfl
      | 1 =>
        refine q_retE (d_if (k := false) (c_eqv (c_eq hu so (sh_str (by decide +kernel)) (d_ixT (p := .str (opN 1)) rfl (d_var 0 rfl) d_int) d_str) (by decide +kernel)) (fun z => nomatch z) (fun _ => d_if (k := true) (c_eqv (c_eq hu so (sh_str (by decide +kernel)) (d_ixT (p := .str (opN 1)) rfl (d_var 0 rfl) d_int) d_str) (by decide +kernel)) (fun _ => d_gt (d_var 6 rfl) d_int) (fun z => nomatch z))) ?_
        simp only [Pt.truth, opT]
        cases p.truth (nums N M a.r a.i a.j) <;> cases q.truth (nums N M a.r a.i a.j) <;> rfl
      | 2 =>
        refine q_retE (d_if (k := false) (c_eqv (c_eq hu so (sh_str (by decide +kernel)) (d_ixT (p := .str (opN 2)) rfl (d_var 0 rfl) d_int) d_str) (by decide +kernel)) (fun z => nomatch z) (fun _ => d_if (k := false) (c_eqv (c_eq hu so (sh_str (by decide +kernel)) (d_ixT (p := .str (opN 2)) rfl (d_var 0 rfl) d_int) d_str) (by decide +kernel)) (fun z => nomatch z) (fun _ => d_eq hu sh_int sh_int (d_var 6 rfl) d_int))) ?_
        rw [eqv_int]; simp only [Pt.truth, opT]
        cases p.truth (nums N M a.r a.i a.j) <;> cases q.truth (nums N M a.r a.i a.j) <;> rfl
    | .word r e b =>
      obtain ⟨o1, o2, o3, o4, o5⟩ := rdN_ok r
      have so := sh_str o1
      refine q_if (k := false) (c_eqv (c_eq hu so al (d_ixT (p := .str (rdN r)) rfl (d_var 0 rfl) d_int) d_str) (eqv_str.trans o2)) (fun z => nomatch z) (fun _ => ?_)
      refine q_if (k := false) (c_eqv (c_eq hu so nt (d_ixT (p := .str (rdN r)) rfl (d_var 0 rfl) d_int) d_str) (eqv_str.trans o3)) (fun z => nomatch z) (fun _ => ?_)
      refine q_if (k := false) (c_eqv (c_inT (zs := opNames) (d_ixT (p := .str (rdN r)) rfl (d_var 0 rfl) d_int) (d_tup3 (a_cons d_str (a_cons d_str (a_cons d_str a_nil))))) o4) (fun z => nomatch z) (fun _ => ?_)
      refine q_seq (n_set 8 nd rfl (.inl rfl) (d_eqv (d := .dK (numsD (nums N M a.r a.i a.j))) (d_disp (kvs := [("turns", .int (a.r * M + a.j)), ("others", .int (a.r * N + a.i)), ("rounds", .int a.r), ("suns", .int a.i), ("moons", .int a.j)])
        (pps_cons d_str (d_add (d_mul (cmul_small (by omega)) (d_var 1 rfl) (d_var 5 rfl)) (d_var 3 rfl)) (pps_cons d_str (d_add (d_mul (cmul_small (by omega)) (d_var 1 rfl) (d_var 4 rfl)) (d_var 2 rfl)) (pps_cons d_str (d_var 1 rfl) (pps_cons d_str (d_var 2 rfl) (pps_cons d_str (d_var 3 rfl) pps_nil)))))
        rfl rfl (by simp) (by decide) (by simp) numsK_nd (by intro kv hkv; simp at hkv; rcases hkv with h | h | h | h | h <;> (subst h; rfl))) (by simp [numsD, kvsN, nums]))) ?_
      exact q_retD (d_call ((f1_law_bit T).mono (Nat.le_add_right 1 n)) hr rfl T.g_law_bit T.f_law_bit.kp ⟨e, b, nums N M a.r a.i a.j r, ho.1, ho.2.1, ho.2.2, rfl, rfl⟩ (a_cons (d_slT1 (p := .str (rdN r)) (d_var 0 rfl) d_int) (a_cons (d_dsub (kx := .inr (rdN r)) hu1 (numsD_at _ r) (d_var 8 rfl) (d_ixT (p := .str (rdN r)) rfl (d_var 0 rfl) d_int)) a_nil)))
/-! meetings, ahead, can, ends -/
def rnLMeetings : RN := fun ds ps => ∃ (n m R : Nat), n ≤ 60 ∧ m ≤ 60 ∧ R * (n * m) ≤ 900 ∧ R ≤ 60 ∧ ds = [.i n, .i m, .i R] ∧ ps = (allM n m R).map Mt.d
theorem allM_nest {n m R : Nat} : ((List.range R).flatMap fun r => (List.range n).flatMap fun i => (List.range m).map fun j => Mt.d ⟨r, i, j⟩) = (allM n m R).map Mt.d := by
  unfold allM pairs
  rw [List.map_flatMap]
  congr 1
  funext r
  rw [List.map_flatMap, List.map_flatMap]
  congr 1
  funext i
  rw [List.map_map, List.map_map]; rfl
theorem f1_law_meetings (T : Tx K mg) : FnR P w K mg base CX0 1 (ga K "_law_meetings") (spN K rnLMeetings) :=
  fnR_N T.f_law_meetings sc_law_meetings bn_law_meetings (fun ds d ⟨_, _, _, _, _, _, _, h, _⟩ => by rw [h]; rfl) fun cdv A outer s H E hr ds d ⟨n, m, R, hn, hm, hnm, hR, h, h2⟩ => by
    subst h h2
    have nd := sc_law_meetings.nd
    refine q_accRet (k := 3) (δ2 := [some (.i n), some (.i m), some (.i R), none, none, none, none]) (by rw [List.length_map, allM_len]; omega) (st_lst nd rfl (.inl rfl) (by simp)) ?_
    rw [← allM_nest]
    refine ac_for (l := List.range R) (ι := fun r => .int (r : Nat)) (δw := [some (.i n), some (.i m), some (.i R), none, none, none, none]) (is := [4]) PassesOwn.never rfl (i_eqv (i_range (n := R) (by omega) (by omega) rfl T.b_range (d_var 2 rfl)) rfl) (fun _ _ h => h) (fun r hr => g_name 4 nd rfl (.inr rfl)) (fun _ _ => rfl) (by decide) (fun r hr => ?_)
    refine ac_one (ac_weak (ac_for (l := List.range n) (ι := fun i => .int (i : Nat)) (δw := [some (.i n), some (.i m), some (.i R), none, some (.i r), none, none]) (is := [5]) PassesOwn.never rfl (i_eqv (i_range (n := n) (by omega) (by omega) rfl T.b_range (d_var 0 rfl)) rfl) (fun _ _ h => h) (fun i hi => g_name 5 nd rfl (.inr rfl)) (fun _ _ => rfl) (by decide) (fun i hi => ?_)) fun _ _ E => E.forget 4)
    refine ac_one (ac_weak (ac_extend (noLs_mem fun a ha => by obtain ⟨j, _, rfl⟩ := List.mem_map.mp ha; rfl) (d_lc0 (l := List.range m) (ι := fun j => .int (j : Nat)) (f := fun j => Mt.d ⟨r, i, j⟩) (own := [("_law_j", 6)]) rfl nd (i_eqv (i_range (n := m) (by omega) (by omega) rfl T.b_range (d_var 1 rfl)) rfl) (blkOk_by (by kernel_rfl)) rfl (by rw [List.length_range]; omega) (by decide) (fun _ _ => rfl)
      (fun j hj s H C cl fp => g_name 6 nd rfl (.inl rfl)) (fun j hj s H C cl fp => d_tup3 (a_cons (d_var 4 rfl) (a_cons (d_var 5 rfl) (a_cons (d_var 6 rfl) a_nil)))))) fun _ _ E => E.forget 5)
def rdLAhead : RD := fun ds d => ∃ a b : Mt, ds = [.p a.d, .p b.d] ∧ d = .b (ahd a b)
theorem f1_law_ahead (T : Tx K mg) : FnR P w K mg base CX0 1 (ga K "_law_ahead") (spD K rdLAhead) :=
  fnR_D T.f_law_ahead sc_law_ahead bn_law_ahead (fun ds d ⟨_, _, h, _⟩ => by rw [h]; rfl) fun cdv A outer s H E hr ds d ⟨a, b, h, h2⟩ => by
    subst h h2
    exact q_retE (d_ge (d_sub (d_ixT (p := .int b.r) rfl (d_var 1 rfl) d_int) (d_ixT (p := .int a.r) rfl (d_var 0 rfl) d_int)) (d_add (d_intB rfl T.b_int (a_cons (d_lt (d_ixT (p := .int b.i) rfl (d_var 1 rfl) d_int) (d_ixT (p := .int a.i) rfl (d_var 0 rfl) d_int)) a_nil)) (d_intB rfl T.b_int (a_cons (d_lt (d_ixT (p := .int b.j) rfl (d_var 1 rfl) d_int) (d_ixT (p := .int a.j) rfl (d_var 0 rfl) d_int)) a_nil)))) (by rw [int_lt_nat, int_lt_nat]; rfl)
def keysOf (l : List (Mt × Bool)) : List Mt := l.map (·.1)
/-- the rounds that are looked at -/
def upR : List Mt → Nat
  | [] => 1
  | a :: l => max (a.r + 2) (upR l)
theorem upR_le {b : Nat} (h1 : 1 ≤ b) : ∀ {l : List Mt}, (∀ a ∈ l, a.r + 2 ≤ b) → upR l ≤ b
  | [], _ => h1
  | a :: l, h => by
    have := upR_le h1 fun c hc => h c (List.mem_cons_of_mem _ hc)
    have := h a List.mem_cons_self
    unfold upR; omega
theorem upR_one : ∀ l : List Mt, 1 ≤ upR l
  | [] => Nat.le_refl _
  | a :: l => by have := upR_one l; unfold upR; omega
theorem upR_ge {a : Mt} : ∀ {l : List Mt}, a ∈ l → a.r + 2 ≤ upR l
  | b :: l, h => by
    unfold upR
    rcases List.mem_cons.mp h with e | h
    · subst e; omega
    · have := upR_ge h; omega
theorem upR_in : ∀ l : List Mt, upR l = 1 ∨ ∃ a ∈ l, upR l = a.r + 2
  | [] => .inl rfl
  | a :: l => by
    unfold upR
    rcases Nat.le_total (upR l) (a.r + 2) with h | h
    · exact .inr ⟨a, List.mem_cons_self, Nat.max_eq_left h⟩
    · rw [Nat.max_eq_right h]
      rcases upR_in l with e | ⟨b, hb, e⟩
      · exact .inl e
      · exact .inr ⟨b, List.mem_cons_of_mem _ hb, e⟩
def lookR (l : List (Mt × Bool)) : Nat := upR (keysOf l)
theorem lookR_le {l : List (Mt × Bool)} {b : Nat} (h1 : 1 ≤ b) (h : ∀ a ∈ keysOf l, a.r + 2 ≤ b) : lookR l ≤ b := upR_le h1 h
theorem lookR_ge {l : List (Mt × Bool)} {a : Mt} (h : a ∈ keysOf l) : a.r + 2 ≤ lookR l := upR_ge h
theorem lookR_max {l : List (Mt × Bool)} : ((lookR l : Int) - 2) ∈ ([-1] ++ (keysOf l).map fun a => (a.r : Int)) ∧ ∀ y ∈ ([-1] ++ (keysOf l).map fun a => (a.r : Int)), y ≤ (lookR l : Int) - 2 := by
  constructor
  · unfold lookR
    rcases upR_in (keysOf l) with e | ⟨a, ha, e⟩
    · rw [e]; exact List.mem_cons_self
    · rw [e]
      exact List.mem_append_right _ (List.mem_map.mpr ⟨a, ha, by push_cast; omega⟩)
  · intro y hy
    rcases List.mem_append.mp hy with h | h
    · have e := List.mem_singleton.mp h
      have : 1 ≤ lookR l := upR_one _
      omega
    · obtain ⟨a, ha, rfl⟩ := List.mem_map.mp h
      have := lookR_ge ha
      omega
/-- the meetings not laid -/
def openL (l : List (Mt × Bool)) (n m : Nat) : List Mt := (allM n m (lookR l)).filter fun a => !has l a
def lcan (l : List (Mt × Bool)) (n m : Nat) : List Mt := (openL l n m).filter fun a => ((openL l n m).filter fun b => (!decide (b = a)) && ahd b a).isEmpty
def lends (l : List (Mt × Bool)) : List Mt := (sortM (keysOf l)).filter fun a => ((keysOf l).filter fun b => (!decide (b = a)) && ahd a b).isEmpty
theorem cl_ones : ∀ (l : List Mt), PyData.canLayAll0 (l.map fun _ => PyData.int 1) = true ∧ PyData.depthAll (l.map fun _ => PyData.int 1) = 0
  | [] => ⟨rfl, rfl⟩
  | a :: l => by
    rw [List.map_cons]
    unfold PyData.canLayAll0 PyData.depthAll
    rw [(cl_ones l).1, (cl_ones l).2]
    exact ⟨rfl, rfl⟩
theorem sh_ones {l : List Mt} : SeqAt.shaped (.list (l.map fun _ => PyData.int 1)) = true := by
  unfold SeqAt.shaped
  have h1 : PyData.canLay0 (.list (l.map fun _ => PyData.int 1)) = true := by unfold PyData.canLay0; exact (cl_ones l).1
  have h2 : PyData.depth (.list (l.map fun _ => PyData.int 1)) ≤ 64 := by unfold PyData.depth; rw [(cl_ones l).2]; decide
  rw [h1, decide_eq_true h2]; rfl
theorem sh_nil : SeqAt.shaped (.list []) = true := sh_ones (l := [])
theorem eqv_nil {l : List Mt} : PyData.eqv (.list (l.map fun _ => PyData.int 1)) (.list []) = l.isEmpty := by
  cases l with
  | nil => rfl
  | cons a l => rfl
def rnLCan : RN := fun ds ps => ∃ (l : List (Mt × Bool)) (n m : Nat), n ≤ 60 ∧ m ≤ 60 ∧ n * m ≤ 30 ∧ (∀ a ∈ keysOf l, a.r + 2 ≤ 30) ∧ l.length ≤ 900 ∧ ds = [.dT (dtM l), .i n, .i m] ∧ ps = (lcan l n m).map Mt.d
theorem dtM_keysOf {l : List (Mt × Bool)} : (dtM l).map (·.1) = (keysOf l).map Mt.k := by simp [dtM, keysOf]
theorem f2_law_can (T : Tx K mg) : FnR P w K mg base CX0 2 (ga K "_law_can") (spN K rnLCan) :=
  fnR_N T.f_law_can sc_law_can bn_law_can (fun ds d ⟨_, _, _, _, _, _, _, _, h, _⟩ => by rw [h]; rfl) fun cdv A outer s H E hr ds d ⟨l, n, m, hn, hm, hnm, hk, hl, h, h2⟩ => by
    subst h h2
    have hu := room_u hr
    have hu1 : (A.deeper (envOfC "_law_can" (defScope st_law_can) s.heap.objs.size (ga K "_law_can") cdv)).units + 1 < cLine := by omega
    have nd := sc_law_can.nd
    have hkl : (keysOf l).length ≤ 900 := by unfold keysOf; rw [List.length_map]; exact hl
    have hR : lookR l ≤ 30 := lookR_le (by decide) hk
    have hRm : lookR l * (n * m) ≤ 30 * 30 := Nat.mul_le_mul hR hnm
    have hlen : (openL l n m).length ≤ 900 := by
      unfold openL
      have := List.length_filter_le (fun a => !has l a) (allM n m (lookR l))
      rw [allM_len] at this
      omega
    have mx := lookR_max (l := l)
    refine q_seq (n_set 3 (d := .i (lookR l : Nat)) nd rfl (.inl rfl) (d_eqv (d_add (d_maxL (ns := [-1] ++ (keysOf l).map fun a => (a.r : Int)) (m := (lookR l : Int) - 2) rfl (by simp) mx.1 mx.2 rfl T.b_max (d_new (n_eqv (d_cat (by rw [List.length_map]; simp; omega) (d_lstP (ps := [.int (-1)]) (a_cons (d_neg d_int) a_nil))
      (d_lcK0 (l := keysOf l) (f := fun a => .int a.r) (own := [("_law_spot", 4)]) rfl nd (pe_var (i := 0) rfl (.inr (.inl rfl)) (by decide) (by decide)) (dictAt_var rfl dtM_keysOf) (blkOk_by (by kernel_rfl)) rfl (by omega) (by decide) (fun _ _ => rfl)
        (fun a ha s H C cl fp => g_name 4 nd rfl (.inl rfl)) (fun a ha s H C cl fp => d_ixT (p := .int a.r) rfl (d_var 4 rfl) d_int))) (by simp)))) d_int) (by congr 2; omega))) ?_
    refine q_seq (n_set 5 nd rfl (.inr rfl) (d_new (d_lc (l := allM n m (lookR l)) (ι := Mt.d) (f := Mt.d) (k := fun a => !has l a) (own := [("_law_spot", 4)]) rfl nd
      (i_list (d_new (d_callN (f1_law_meetings T) hr rfl T.g_law_meetings T.f_law_meetings.kp ⟨n, m, lookR l, hn, hm, by omega, by omega, rfl, rfl⟩ (a_cons (d_var 1 rfl) (a_cons (d_var 2 rfl) (a_cons (d_var 3 rfl) a_nil)))))) (blkOk_by (by kernel_rfl)) rfl (by rw [allM_len]; omega) (by decide) (fun _ _ _ => rfl)
      (fun a ha s H C cl fp => g_name 4 nd rfl (.inl rfl)) (fun a ha s H C cl fp => c_one (c_eqv (c_tnin (k := a.k) hu1 rfl (d_var 4 rfl) (d_var 0 rfl)) (by rw [has_dtM]))) (fun a ha _ s H C cl fp => d_var 4 rfl)))) ?_
    exact q_retN (d_lc (l := openL l n m) (ι := Mt.d) (f := Mt.d) (k := fun a => ((openL l n m).filter fun b => (!decide (b = a)) && ahd b a).isEmpty) (own := [("_law_spot", 4)]) rfl nd (i_list (d_var 5 rfl)) (blkOk_by (by kernel_rfl)) rfl (by omega) (by decide) (fun _ _ _ => rfl)
      (fun a ha s H C cl fp => g_name 4 nd rfl (.inr rfl)) (fun a ha s H C cl fp => c_one (c_eqv (c_eq hu sh_ones sh_nil (d_new (d_lc (l := openL l n m) (ι := Mt.d) (f := fun _ => .int 1) (k := fun b => (!decide (b = a)) && ahd b a) (own := [("_law_one", 6)]) rfl nd (i_list (d_var 5 rfl)) (blkOk_by (by kernel_rfl)) rfl (by omega) (by decide) (fun _ _ _ => rfl)
        (fun b hb s H C cl fp => g_name 6 nd rfl (.inl rfl)) (fun b hb s H C cl fp => c_one (PW.pt (w_and (c_eqv (c_ne hu sh_mt sh_mt (d_var 6 rfl) (d_var 4 rfl)) (by rw [eqv_mt])) fun _ => w_and1 (c_val (d_call (f1_law_ahead T) hr rfl T.g_law_ahead T.f_law_ahead.kp ⟨b, a, rfl, rfl⟩ (a_cons (d_var 6 rfl) (a_cons (d_var 4 rfl) a_nil))))))) (fun b hb _ s H C cl fp => d_int))) (d_new (d_lstP (ps := []) a_nil))) eqv_nil)) (fun a ha _ s H C cl fp => d_var 4 rfl))
def rnLEnds : RN := fun ds ps => ∃ (l : List (Mt × Bool)), l.length < 64 ∧ (∀ a ∈ keysOf l, a.sm) ∧ ds = [.dT (dtM l)] ∧ ps = (lends l).map Mt.d
theorem f2_law_ends (T : Tx K mg) : FnR P w K mg base CX0 2 (ga K "_law_ends") (spN K rnLEnds) :=
  fnR_N T.f_law_ends sc_law_ends bn_law_ends (fun ds d ⟨_, _, _, h, _⟩ => by rw [h]; rfl) fun cdv A outer s H E hr ds d ⟨l, h64, hsm, h, h2⟩ => by
    subst h h2
    have hu := room_u hr
    have nd := sc_law_ends.nd
    have hkl : (keysOf l).length < 64 := by unfold keysOf; rw [List.length_map]; exact h64
    exact q_retN (d_lc (l := sortM (keysOf l)) (ι := Mt.d) (f := Mt.d) (k := fun a => ((keysOf l).filter fun b => (!decide (b = a)) && ahd a b).isEmpty) (own := [("_law_spot", 1)]) rfl nd (i_list (d_new (d_sortD rfl dtM_keysOf hkl hsm rfl T.b_sorted (d_var 0 rfl)))) (blkOk_by (by kernel_rfl)) rfl (by rw [(sortM_perm _).length_eq]; omega) (by decide) (fun _ _ _ => rfl)
      (fun a ha s H C cl fp => g_name 1 nd rfl (.inr rfl)) (fun a ha s H C cl fp => c_one (c_eqv (c_eq hu sh_ones sh_nil (d_new (d_lcK (l := keysOf l) (f := fun _ => .int 1) (kk := fun b => (!decide (b = a)) && ahd a b) (own := [("_law_one", 2)]) rfl nd (pe_var (i := 0) rfl (.inr (.inl rfl)) (by decide) (by decide)) (dictAt_var rfl dtM_keysOf) (blkOk_by (by kernel_rfl)) rfl (by omega) (by decide) (fun _ _ _ => rfl)
        (fun b hb s H C cl fp => g_name 2 nd rfl (.inl rfl)) (fun b hb s H C cl fp => c_one (PW.pt (w_and (c_eqv (c_ne hu sh_mt sh_mt (d_var 2 rfl) (d_var 1 rfl)) (by rw [eqv_mt])) fun _ => w_and1 (c_val (d_call (f1_law_ahead T) hr rfl T.g_law_ahead T.f_law_ahead.kp ⟨a, b, rfl, rfl⟩ (a_cons (d_var 1 rfl) (a_cons (d_var 2 rfl) a_nil))))))) (fun b hb _ s H C cl fp => d_int))) (d_new (d_lstP (ps := []) a_nil))) eqv_nil)) (fun a ha _ s H C cl fp => d_var 1 rfl))
end Pr
set_option maxHeartbeats 4000000
/-! Wq: objects that change: a memory (Ms) of addresses and what stands there, readings over it. -/
namespace Pr
open PySem PySem.Spec PyProof.Rows L2
abbrev Ms := List (Addr × Dt)
abbrev dm (m : Ms) : List Addr := m.map (·.1)
/-- slots, some of them not yet set; a set one is told as a tuple of one datum, another one as the empty tuple -/
inductive RpO (K : PySem.W.Frag) (H : Hp) : List (Option V) → List Dt → Prop
  | nil : RpO K H [] []
  | no {vs : List (Option V)} {ds : List Dt} : RpO K H vs ds → RpO K H (none :: vs) (.tu [] :: ds)
  | yes {v : V} {d : Dt} {vs : List (Option V)} {ds : List Dt} : Rp K H v d → RpO K H vs ds → RpO K H (some v :: vs) (.tu [d] :: ds)
theorem RpO.mono {K : PySem.W.Frag} {H H' : Hp} (s : Same H H') : ∀ {vs : List (Option V)} {ds : List Dt}, RpO K H vs ds → RpO K H' vs ds
  | _, _, .nil => .nil
  | _, _, .no h => .no (RpO.mono s h)
  | _, _, .yes r h => .yes (r.mono s) (RpO.mono s h)
/-- the object at a stands for d, its parts in M -/
def MO (K : PySem.W.Frag) (H M : Hp) (a : Addr) : Dt → Prop
  | .p (.list ds) => ∃ vs, H a = some (.lst vs) ∧ DpAll K M vs ds
  | .dT ds => ∃ kvs, H a = some (.dT kvs) ∧ KvP K M kvs ds
  | .dK ds => ∃ kvs, H a = some (.dK kvs) ∧ KvP K M kvs ds
  | .ob c fs => ∃ dx vs, H a = some (SlX.SlO a (ga K c) dx (vs.map some)) ∧ M dx = some (.xd []) ∧ RpAll K M vs fs
  | .tu (.p (.str c) :: os) => ∃ dx ws, H a = some (SlX.SlO a (ga K c) dx ws) ∧ M dx = some (.xd []) ∧ RpO K M ws os
  | _ => False
structure Mem (K : PySem.W.Frag) (H : Hp) (m : Ms) : Prop where
  nd : (dm m).Nodup
  all : ∀ p ∈ m, MO K H (mn H (dm m)) p.1 p.2
section
variable {K : PySem.W.Frag} {H H' H1 M M' : Hp} {a : Addr} {d : Dt} {m m' m1 m2 : Ms}
theorem Fo.sub {H : Hp} {F G : List Addr} (h : Fo H F) (s : ∀ a ∈ G, a ∈ F) (o : ∀ f ∈ G, ∀ y, H f ≠ some (.own y)) (i : ∀ f ∈ G, ∀ C dx fs, H f ≠ some (.ins C dx fs)) : Fo H G :=
  ⟨fun f hf => h.all f (s f hf), fun f hf y e => absurd e (o f hf y), fun f hf C dx fs e => absurd e (i f hf C dx fs)⟩
theorem MO.fg (h : MO K H M a d) : Fg H a := by
  match d, h with
  | .p (.list ds), ⟨vs, h, _⟩ => exact .inl ⟨vs, h⟩
  | .dT ds, ⟨kvs, h, _⟩ => exact .inr (.inr (.inl ⟨kvs, h⟩))
  | .dK ds, ⟨kvs, h, _⟩ => exact .inr (.inl ⟨kvs, h⟩)
  | .ob c fs, ⟨dx, vs, h, _⟩ => exact .inr (.inr (.inr (.inl ⟨_, _, _, h⟩)))
  | .tu (.p (.str c) :: os), ⟨dx, vs, h, _⟩ => exact .inr (.inr (.inr (.inl ⟨_, _, _, h⟩)))
theorem slO_ext {a C dx : Addr} {vs : List (Option V)} : ∃ z, SlX.SlO a C dx vs = .ext z := ⟨_, rfl⟩
theorem MO.plain (h : MO K H M a d) : (∀ y, H a ≠ some (.own y)) ∧ (∀ C dx fs, H a ≠ some (.ins C dx fs)) ∧ (∀ xs, H a ≠ some (.tup xs)) ∧ ∀ xs, H a ≠ some (.xd xs) := by
  match d, h with
  | .p (.list ds), ⟨vs, h, _⟩ => rw [h]; exact ⟨(fun _ z => nomatch z), (fun _ _ _ z => nomatch z), (fun _ z => nomatch z), (fun _ z => nomatch z)⟩
  | .dT ds, ⟨kvs, h, _⟩ => rw [h]; exact ⟨(fun _ z => nomatch z), (fun _ _ _ z => nomatch z), (fun _ z => nomatch z), (fun _ z => nomatch z)⟩
  | .dK ds, ⟨kvs, h, _⟩ => rw [h]; exact ⟨(fun _ z => nomatch z), (fun _ _ _ z => nomatch z), (fun _ z => nomatch z), (fun _ z => nomatch z)⟩
  | .ob c fs, ⟨dx, vs, h, _⟩ => rw [h]; unfold SlX.SlO; exact ⟨(fun _ z => nomatch z), (fun _ _ _ z => nomatch z), (fun _ z => nomatch z), (fun _ z => nomatch z)⟩
  | .tu (.p (.str c) :: os), ⟨dx, vs, h, _⟩ => rw [h]; unfold SlX.SlO; exact ⟨(fun _ z => nomatch z), (fun _ _ _ z => nomatch z), (fun _ z => nomatch z), (fun _ z => nomatch z)⟩
theorem MO.mono (h : MO K H M a d) (e : H' a = H a) (s : Same M M') : MO K H' M' a d := by
  match d, h with
  | .p (.list ds), ⟨vs, h, r⟩ => exact ⟨vs, e.trans h, dpAll_mono s r⟩
  | .dT ds, ⟨kvs, h, r⟩ => exact ⟨kvs, e.trans h, kvP_mono s r⟩
  | .dK ds, ⟨kvs, h, r⟩ => exact ⟨kvs, e.trans h, kvP_mono s r⟩
  | .ob c fs, ⟨dx, vs, h, z, r⟩ => exact ⟨dx, vs, e.trans h, s _ _ z, r.mono s⟩
  | .tu (.p (.str c) :: os), ⟨dx, vs, h, z, r⟩ => exact ⟨dx, vs, e.trans h, s _ _ z, r.mono s⟩
theorem mem_dm {a : Addr} : a ∈ dm m ↔ ∃ d, (a, d) ∈ m := by
  constructor
  · intro h
    obtain ⟨⟨b, d⟩, h1, rfl⟩ := List.mem_map.mp h
    exact ⟨d, h1⟩
  · intro ⟨d, h⟩
    exact List.mem_map.mpr ⟨_, h, rfl⟩
theorem Mem.fo (h : Mem K H m) : Fo H (dm m) := by
  refine ⟨fun a ha => ?_, fun a ha y hy => ?_, fun a ha C dx fs hy => ?_⟩
  · obtain ⟨d, hd⟩ := mem_dm.mp ha; exact (h.all _ hd).fg
  · obtain ⟨d, hd⟩ := mem_dm.mp ha; exact absurd hy ((h.all _ hd).plain.1 y)
  · obtain ⟨d, hd⟩ := mem_dm.mp ha; exact absurd hy ((h.all _ hd).plain.2.1 C dx fs)
theorem Mem.foS (h : Mem K H m) {G : List Addr} (s : ∀ a ∈ G, a ∈ dm m) : Fo H G := by
  refine h.fo.sub s (fun a ha y hy => ?_) (fun a ha C dx fs hy => ?_)
  · obtain ⟨d, hd⟩ := mem_dm.mp (s a ha); exact absurd hy ((h.all _ hd).plain.1 y)
  · obtain ⟨d, hd⟩ := mem_dm.mp (s a ha); exact absurd hy ((h.all _ hd).plain.2.1 C dx fs)
theorem Mem.has (h : Mem K H m) {a : Addr} (ha : a ∈ dm m) : ∃ o, H a = some o := (h.fo.all a ha).has
theorem mn_perm {F G : List Addr} (h : ∀ a, a ∈ F ↔ a ∈ G) : mn H F = mn H G := funext fun a => by
  by_cases x : a ∈ F
  · rw [mn_in x, mn_in ((h a).mp x)]
  · rw [mn_out x, mn_out fun z => x ((h a).mpr z)]
theorem perm_dm (h : m.Perm m') : ∀ a, a ∈ dm m ↔ a ∈ dm m' := fun a => (h.map (·.1)).mem_iff
theorem Mem.perm (h : Mem K H m) (e : m.Perm m') : Mem K H m' :=
  ⟨(e.map (·.1)).nodup_iff.mp h.nd, fun p hp => by rw [mn_perm fun a => (perm_dm e a).symm]; exact h.all p (e.mem_iff.mpr hp)⟩
theorem Mem.keep (h : Mem K H m) (e : ∀ a ∈ dm m, H' a = H a) (s : Same (mn H (dm m)) (mn H' (dm m))) : Mem K H' m :=
  ⟨h.nd, fun p hp => (h.all p hp).mono (e _ (List.mem_map.mpr ⟨p, hp, rfl⟩)) s⟩
theorem Mem.same (h : Mem K H m) (s : Same H H') : Mem K H' m := h.keep (fun a ha => by obtain ⟨o, e⟩ := h.has ha; rw [e]; exact s _ _ e) (same_mn s)
theorem mn_mn {F G : List Addr} : mn (mn H F) G = mn H (F ++ G) := funext fun a => by
  by_cases x : a ∈ G
  · rw [mn_in x, mn_in (List.mem_append_right _ x)]
  · rw [mn_out x]
    by_cases y : a ∈ F
    · rw [mn_in y, mn_in (List.mem_append_left _ y)]
    · rw [mn_out y, mn_out fun z => (List.mem_append.mp z).elim y x]
theorem dm_append : dm (m1 ++ m2) = dm m1 ++ dm m2 := List.map_append
theorem mn_app : mn H (dm (m1 ++ m2)) = mn (mn H (dm m2)) (dm m1) := by
  rw [mn_mn, dm_append]
  exact mn_perm fun a => by simp only [List.mem_append]; exact Or.comm
theorem mn_app2 : mn H (dm (m1 ++ m2)) = mn (mn H (dm m1)) (dm m2) := by rw [mn_mn, dm_append]
/-- a part, the other one forgotten -/
theorem Mem.left (h : Mem K H (m1 ++ m2)) : Mem K (mn H (dm m2)) m1 := by
  have nd := h.nd
  rw [dm_append, List.nodup_append] at nd
  refine ⟨nd.1, fun p hp => ?_⟩
  have x := h.all p (List.mem_append_left _ hp)
  rw [mn_app] at x
  refine x.mono (mn_out fun z => ?_) (Same.refl _)
  exact nd.2.2 p.1 (List.mem_map.mpr ⟨p, hp, rfl⟩) p.1 z rfl
/-- .. and put together again -/
theorem Mem.join (h : Mem K H (m1 ++ m2)) (h1 : Mem K H1 m') (n : ∀ f ∈ dm m2, H1 f = none) (c : Chg (mn H (dm m2)) (dm m1) H1 (dm m')) : Mem K (jn H (dm m2) H1) (m' ++ m2) ∧ mn (jn H (dm m2) H1) (dm (m' ++ m2)) = mn H1 (dm m') := by
  have e0 : mn (jn H (dm m2) H1) (dm m2) = H1 := funext fun a => by
    by_cases x : a ∈ dm m2
    · rw [mn_in x, n a x]
    · rw [mn_out x, jn_out x]
  have e1 : mn (jn H (dm m2) H1) (dm (m' ++ m2)) = mn H1 (dm m') := by rw [mn_app, e0]
  have nd := h.nd
  rw [dm_append, List.nodup_append] at nd
  have dj : ∀ a ∈ dm m', a ∉ dm m2 := fun a ha z => by obtain ⟨o, e⟩ := h1.has ha; rw [n a z] at e; cases e
  refine ⟨⟨by rw [dm_append, List.nodup_append]; exact ⟨h1.nd, nd.2.1, fun a ha b hb e => dj a ha (e ▸ hb)⟩, fun p hp => ?_⟩, e1⟩
  rw [e1]
  rcases List.mem_append.mp hp with hp | hp
  · exact (h1.all p hp).mono (jn_out (dj _ (List.mem_map.mpr ⟨p, hp, rfl⟩))) (Same.refl _)
  · have x := h.all p (List.mem_append_right _ hp)
    rw [mn_app] at x
    exact x.mono (jn_in (List.mem_map.mpr ⟨p, hp, rfl⟩)) c
theorem Mem.owns (h : Mem K H m) (c : Chg H (dm m) H' (dm m')) : ∀ a y, H a = some (.own y) → H' a = some (.own y) := fun a y e => by
  have ha : a ∉ dm m := fun z => by obtain ⟨d, hd⟩ := mem_dm.mp z; exact (h.all _ hd).plain.1 y e
  exact mn_same _ _ _ _ (c a _ (by rw [mn_out ha]; exact e))
end
/-! ### the frame around a call -/
structure BhT (H : Hp) (F : List Addr) (H1 H' : Hp) : Prop where
  is : H' = jn H F H1
  non : ∀ f ∈ F, H1 f = none
def frSp (sp : Sp) : Sp := fun vs H Q E => ∃ G, Fo H G ∧ sp vs (mn H G) (fun v H1 => ∀ H', BhT H G H1 H' → Q v H') E
section
variable {P : Program} {w : World} {K : PySem.W.Frag} {mg : Str → Option Value} {base : Heap} {k : Nat} {f : Addr} {sp : Sp}
theorem hok_forget {H : Hp} {h : Heap} {F : List Addr} (x : HOk P w H h) (o : Fo H F) : HOk P w (mn H F) h := fun b u e => by
  have hb : b ∉ F := fun h => by rw [mn_in h] at e; cases e
  rw [mn_out hb] at e
  exact (x b u e).stay (fun _ _ _ z => z) (fun c z => by rw [mn_out fun h => hb (o.own c h b z)]; exact z) fun c xs z => by rw [mn_out fun h => ((o.all c h).not z).1 xs rfl]; exact z
theorem fg_hok {H : Hp} {h : Heap} (I : HOk P w H h) {f : Addr} (hf : Fg H f) : ∃ o, h.get? f = some o := by
  rcases hf with ⟨xs, h⟩ | ⟨k, h⟩ | ⟨k, h⟩ | ⟨C, dx, vs, h⟩ | h | ⟨C, dx, fs, h⟩ | ⟨y, C, fs, h, h2⟩
  · obtain ⟨_, its, n, _, e⟩ := I f _ h
    exact ⟨_, e⟩
  · obtain ⟨_, _, vs, _, o, es, ep, e, _⟩ := I f _ h
    exact ⟨_, e⟩
  · obtain ⟨_, _, xs, _, o, es, ep, e, _⟩ := I f _ h
    exact ⟨_, e⟩
  · obtain ⟨⟨sl, e, _⟩, _⟩ := I f _ h
    exact ⟨_, e⟩
  · obtain ⟨mA, ⟨o, es, ep, e, _⟩, _⟩ := I f _ h
    exact ⟨_, e⟩
  · obtain ⟨_, _, _, e, _⟩ := I f _ h
    exact ⟨_, e⟩
  · obtain ⟨_, _, _, _, mA, ⟨o, es, ep, e, _⟩, _⟩ := I y _ h2
    exact ⟨_, e⟩
theorem ce_frame {outer : List Env} {H : Hp} {s s' : Shared} {Q : VK} {u : Value} {G : List Addr} (x : HOk P w H s.heap) (hfr : ∀ b ∈ frs outer, H b = none) (o : Fo H G)
    (h : CE outer P w (mn H G) s (fun v H1 => ∀ H', BhT H G H1 H' → Q v H') u s') : CE outer P w H s Q u s' := by
  obtain ⟨v, H1, os, bare, un, hok, r, q⟩ := h
  have pin : ∀ f ∈ G, ∃ ob, s.heap.get? f = some ob ∧ s'.heap.get? f = some ob ∧ H1 f = none := fun f hf => by
    obtain ⟨ob, e⟩ := fg_hok x (o.all f hf)
    obtain ⟨u, hu⟩ := (o.all f hf).has
    exact ⟨ob, e, un.keep f ob e (mn_in hf) (fun z => by rw [hfr f z] at hu; cases hu) (by simp), un.free f ob e (mn_in hf) (by simp)⟩
  have non : ∀ f ∈ G, H1 f = none := fun f hf => by obtain ⟨_, _, _, n⟩ := pin f hf; exact n
  have nin : ∀ b, H b = none → b ∉ G := fun b e h => by
    obtain ⟨u, hu⟩ := (o.all b h).has
    rw [e] at hu; cases hu
  have up : ∀ b u, H1 b = some u → jn H G H1 b = some u := fun b u e => by
    rw [jn_out fun h => by rw [non b h] at e; cases e]; exact e
  have mno : ∀ b, H b = none → mn H G b = none := fun b e => by rw [mn_out (nin b e)]; exact e
  have allO : ∀ b ∈ G, ∀ y, H b = some (.own y) → jn H G H1 b = some (.own y) := fun b h u e => by rw [jn_in h]; exact e
  have allT : ∀ b y, H b = some (.tup y) → jn H G H1 b = some (.tup y) := fun b u e => by
    have h : b ∉ G := fun h => ((o.all b h).not e).1 u rfl
    exact up _ _ (un.tups b u (by rw [mn_out h]; exact e))
  refine ⟨v, jn H G H1, os, bare, ⟨fun b ob e n hx hz => un.keep b ob e (mno b n) hx hz, fun b ob e n hx hz => un.slot b ob e (mno b n) hx hz, fun b ob e n hz => ?_, un.there, allT, fun b ob u e => ?_, fun b ps e => ?_⟩, fun b u e => ?_, r, q _ ⟨rfl, non⟩⟩
  · rw [jn_out (nin b n)]; exact un.free b ob e (mno b n) hz
  · have h : b ∉ G := fun h => ((o.all b h).not e).2.1 ob u rfl
    exact up _ _ (un.frzs b ob u (by rw [mn_out h]; exact e))
  · have h : b ∉ G := fun h => ((o.all b h).not e).2.2 ps rfl
    obtain ⟨mo, z⟩ := un.tbls b ps (by rw [mn_out h]; exact e)
    exact ⟨mo, up _ _ z⟩
  · by_cases h : b ∈ G
    · rw [jn_in h] at e
      refine objok_fg o h e (x b u e) (fun c hcF q hq => ?_) allO allT
      obtain ⟨ob, e1, e2, _⟩ := pin c hcF
      rw [e1] at hq; cases hq
      exact e2
    · rw [jn_out h] at e
      exact (hok b u e).stay (fun c v _ q => q) (fun c q => up _ _ q) fun c xs q => up _ _ q
theorem fnR_frame (F : FnR P w K mg base CX0 k f sp) : FnR P w K mg base CX0 k f (frSp sp) := fun A outer s H us vs Q E hr e0 r ⟨G, o, h⟩ => by
  refine codeAny_mono (F A outer s (mn H G) us vs _ E hr ⟨e0.frames, e0.mod, fun b ob e => ⟨(e0.bs b ob e).1, ?_⟩, e0.bsz, e0.funs, fun b hb => ?_, hok_forget e0.hok o, e0.bare⟩ r h) fun r s' hq => ?_
  · by_cases z : b ∈ G
    · exact mn_in z
    · rw [mn_out z]; exact (e0.bs b ob e).2
  · by_cases z : b ∈ G
    · exact mn_in z
    · rw [mn_out z]; exact e0.frf b hb
  · cases r with
    | error e => exact hq
    | ok fl =>
      cases fl with
      | ret u => exact ce_frame e0.hok e0.frf o hq
      | next => exact hq
      | brk => exact hq
      | cont => exact hq
end
end Pr
set_option maxHeartbeats 4000000
/-! Wr: readings over a memory: expressions, statements, calls. -/
namespace Pr
open PySem PySem.Spec PyProof.Rows L2
abbrev Rs := Dt → Ms → Prop
def xE (K : PySem.W.Frag) (δ : De) (m : Ms) (T : Rs) : TE := fun σ H Q => Mem K H m ∧ EnvD K σ (mn H (dm m)) δ ∧ ∀ v d m' H', T d m' → Mem K H' m' → Chg H (dm m) H' (dm m') → Rp K (mn H' (dm m')) v d → Q v H'
def xT (K : PySem.W.Frag) (δ : De) (m : Ms) (T : Bool → Ms → Prop) : TT := fun σ H Q => Mem K H m ∧ EnvD K σ (mn H (dm m)) δ ∧ ∀ b m' H', T b m' → Mem K H' m' → Chg H (dm m) H' (dm m') → Q b H'
def xA (K : PySem.W.Frag) (δ : De) (m : Ms) (T : List Dt → Ms → Prop) : TA := fun σ H Q => Mem K H m ∧ EnvD K σ (mn H (dm m)) δ ∧ ∀ vs ds m' H', T ds m' → Mem K H' m' → Chg H (dm m) H' (dm m') → RpAll K (mn H' (dm m')) vs ds → Q vs H'
def xG (K : PySem.W.Frag) (δ : De) (m : Ms) (d : Dt) (N : De → Ms → Prop) : TG := fun v σ H Q => Mem K H m ∧ EnvD K σ (mn H (dm m)) δ ∧ Rp K (mn H (dm m)) v d ∧ ∀ σ' δ' m' H', N δ' m' → Mem K H' m' → Chg H (dm m) H' (dm m') → EnvD K σ' (mn H' (dm m')) δ' → Q σ' H'
def xS (K : PySem.W.Frag) (δ : De) (m : Ms) (N : De → Ms → Prop) (R : Rs) : TS := fun D σ H => Mem K H m ∧ EnvD K σ (mn H (dm m)) δ ∧
  (∀ σ' δ' m' H', N δ' m' → Mem K H' m' → Chg H (dm m) H' (dm m') → EnvD K σ' (mn H' (dm m')) δ' → D.nx σ' H') ∧ ∀ v d m' H', R d m' → Mem K H' m' → Chg H (dm m) H' (dm m') → Rp K (mn H' (dm m')) v d → D.rt v H'
theorem Chg.trans {H H1 H2 : Hp} {F F1 F2 : List Addr} (a : Chg H F H1 F1) (b : Chg H1 F1 H2 F2) : Chg H F H2 F2 := Same.trans a b
theorem Chg.refl {H : Hp} {F : List Addr} : Chg H F H F := Same.refl _
section
variable {X : Cx} {δ δ1 δ2 δ' : De} {m m' m1 m2 : Ms} {T T1 T2 : Rs} {C : Bool → Ms → Prop} {A A1 A2 : List Dt → Ms → Prop} {N N1 N2 : De → Ms → Prop} {R R1 : Rs} {st : Stmt} {body rest els : List Stmt} {a b c e o tg iter : Expr} {es : List Expr} {d d1 d2 : Dt} {ds : List Dt} {q : PyData} {ps : List PyData} {k : Bool} {pos p apos : Pos} {x : Str}

/-! ### from readings by data -/
theorem x_imp (h : PE X e (xE X.K δ m T)) (i : ∀ d m', T d m' → T1 d m') : PE X e (xE X.K δ m T1) := PE_imp h fun σ H Q ⟨M, E, q⟩ => ⟨M, E, fun v d m' H' t => q v d m' H' (i _ _ t)⟩
theorem xt_imp {C1 : Bool → Ms → Prop} (h : PT X e (xT X.K δ m C)) (i : ∀ d m', C d m' → C1 d m') : PT X e (xT X.K δ m C1) := PT_imp h fun σ H Q ⟨M, E, q⟩ => ⟨M, E, fun b m' H' t => q b m' H' (i _ _ t)⟩
theorem xa_imp (h : PA X es (xA X.K δ m A)) (i : ∀ d m', A d m' → A1 d m') : PA X es (xA X.K δ m A1) := PA_imp h fun σ H Q ⟨M, E, q⟩ => ⟨M, E, fun v d m' H' t => q v d m' H' (i _ _ t)⟩
theorem xs_imp (h : PSs X body (xS X.K δ m N R)) (i : ∀ d m', N d m' → N1 d m') (j : ∀ d m', R d m' → R1 d m') : PSs X body (xS X.K δ m N1 R1) := PSs_imp h fun D σ H ⟨M, E, q, r⟩ => ⟨M, E, fun σ' d m' H' t => q σ' d m' H' (i _ _ t), fun v d m' H' t => r v d m' H' (j _ _ t)⟩
theorem x_pure (h : PE X e (tD X.K δ d)) : PE X e (xE X.K δ m fun d' m' => d' = d ∧ m' = m) :=
  PE_imp (PE_frame h) fun σ H Q ⟨M, E, q⟩ => ⟨dm m, M.fo, E, fun v H1 s r => ⟨s, fun H' b => q v d m H' ⟨rfl, rfl⟩ (M.keep (fun a ha => b.at ha) b.chg) b.chg (by rw [b.mn]; exact r)⟩⟩
theorem x_pureC (h : PT X e (cD X.K δ k)) : PT X e (xT X.K δ m fun b m' => b = k ∧ m' = m) :=
  PT_imp (PT_frame h) fun σ H Q ⟨M, E, q⟩ => ⟨dm m, M.fo, E, fun H1 s => ⟨s, fun H' b => q k m H' ⟨rfl, rfl⟩ (M.keep (fun a ha => b.at ha) b.chg) b.chg⟩⟩
theorem x_pureA (h : PA X es (aD X.K δ ds)) : PA X es (xA X.K δ m fun d' m' => d' = ds ∧ m' = m) :=
  PA_imp (PA_frame h) fun σ H Q ⟨M, E, q⟩ => ⟨dm m, M.fo, E, fun vs H1 s r => ⟨s, fun H' b => q vs ds m H' ⟨rfl, rfl⟩ (M.keep (fun a ha => b.at ha) b.chg) b.chg (by rw [b.mn]; exact r)⟩⟩
theorem x_pureS (h : PS X st (sN X.K δ δ')) : PS X st (xS X.K δ m (fun d' m' => d' = δ' ∧ m' = m) R) :=
  PS_imp (PS_frame h) fun D σ H ⟨M, E, q, _⟩ => ⟨dm m, M.fo, E, fun σ' H1 s E' => ⟨s, fun H' b => q σ' δ' m H' ⟨rfl, rfl⟩ (M.keep (fun a ha => b.at ha) b.chg) b.chg (by rw [b.mn]; exact E')⟩⟩
/-! ### a new object in the memory -/
theorem mem_cons {K : PySem.W.Frag} {H H' : Hp} {p : Addr} {d : Dt} (M : Mem K H m) (hp : H p = none) (e : ∀ a ∈ dm m, H' a = H a) (s : Same (mn H (dm m)) (mn H' (dm m))) (o : MO K H' (mn H' (p :: dm m)) p d) : Mem K H' ((p, d) :: m) ∧ Chg H (dm m) H' (dm ((p, d) :: m)) := by
  have np : p ∉ dm m := fun z => by obtain ⟨o, h⟩ := M.has z; rw [hp] at h; cases h
  have c : Same (mn H (dm m)) (mn H' (p :: dm m)) := fun a u h => by
    have h2 := s a u h
    by_cases z : a = p
    · subst z; rw [mn_out np, hp] at h; cases h
    · by_cases w : a ∈ dm m
      · rw [mn_in w] at h2; cases h2
      · rw [mn_out w] at h2; rw [mn_out (by simp [z]; simpa using w)]; exact h2
  refine ⟨⟨List.nodup_cons.mpr ⟨np, M.nd⟩, fun z hz => ?_⟩, c⟩
  rcases List.mem_cons.mp hz with hz | hz
  · subst hz; exact o
  · exact (M.all z hz).mono (e _ (List.mem_map.mpr ⟨z, hz, rfl⟩)) c
theorem mn_cons {H : Hp} {p : Addr} {F : List Addr} : mn H (p :: F) = mn (mn H F) [p] := by rw [mn_mn]; exact mn_perm fun a => by simp; exact Or.comm
/-- a new list, from now on one that changes -/
theorem x_new (hn : noLs ps = true) (h : PE X e (tN X.K δ ps)) : PE X e (xE X.K δ m fun d' m' => ∃ p, d' = .r p ∧ m' = (p, .l ps) :: m) :=
  PE_imp (PE_frame h) fun σ H Q ⟨M, E, q⟩ => ⟨dm m, M.fo, E, fun p vs H1 hp s hl r => ⟨s, fun H' b => by
    have hp1 : H' p = some (.lst vs) := by rw [← b.mn] at hl; exact mn_same _ _ _ _ hl
    have np : p ∉ dm m := fun z => by rw [b.non p z] at hl; cases hl
    have hp0 : H p = none := by rw [mn_out np] at hp; exact hp
    obtain ⟨M', c⟩ := mem_cons (p := p) (d := .l ps) M hp0 (fun a ha => b.at ha) b.chg ⟨vs, hp1, by
      rw [mn_cons, b.mn]
      exact dpAll_tl (tl_mn fun f hf => by rw [List.mem_singleton.mp hf]; exact .inl ⟨_, hl⟩) hn r⟩
    exact q _ _ _ H' ⟨p, rfl, rfl⟩ M' c (.r p)⟩⟩
/-- a new list as data -/
theorem x_newD (h : PE X e (tN X.K δ ps)) : PE X e (xE X.K δ m fun d' m' => d' = .l ps ∧ m' = m) := x_pure (d_new h)

/-! ### what looks at the objects of the memory as at data -/
def Rsv (K : PySem.W.Frag) (m : Ms) (δ δ' : De) : Prop := ∀ σ H, Mem K H m → EnvD K σ (mn H (dm m)) δ → EnvD K σ H δ'
/-- one datum -/
def RsD (K : PySem.W.Frag) (m : Ms) (d d' : Dt) : Prop := ∀ H v, Mem K H m → Rp K (mn H (dm m)) v d → Rp K H v d'
def RsA (K : PySem.W.Frag) (m : Ms) (ds ds' : List Dt) : Prop := ∀ H vs, Mem K H m → RpAll K (mn H (dm m)) vs ds → RpAll K H vs ds'
theorem RsD.refl {K : PySem.W.Frag} : RsD K m d d := fun H v _ r => r.mono (mn_same _ _)
theorem RsA.nil {K : PySem.W.Frag} : RsA K m [] [] := fun H vs _ r => by cases r; exact .nil
theorem RsA.cons {K : PySem.W.Frag} {ds ds' : List Dt} (h : RsD K m d d1) (t : RsA K m ds ds') : RsA K m (d :: ds) (d1 :: ds') := fun H vs M r => by cases r with | cons r1 r2 => exact .cons (h H _ M r1) (t H _ M r2)
theorem RsD.l {K : PySem.W.Frag} {a : Addr} (n : Nat) (h : m[n]? = some (a, .l ps)) : RsD K m (.r a) (.l ps) := fun H v M r => by
  cases r
  obtain ⟨vs, h1, h2⟩ := M.all _ (List.mem_of_getElem? h)
  exact .p (.lst (SqL.of h1) (dpAll_mono (mn_same _ _) h2))
theorem RsD.dT {K : PySem.W.Frag} {a : Addr} {ds : List (List Key × PyData)} (n : Nat) (h : m[n]? = some (a, .dT ds)) : RsD K m (.r a) (.dT ds) := fun H v M r => by
  cases r
  obtain ⟨vs, h1, h2⟩ := M.all _ (List.mem_of_getElem? h)
  exact .dT (.inl h1) (kvP_mono (mn_same _ _) h2)
theorem RsD.dK {K : PySem.W.Frag} {a : Addr} {ds : List (Key × PyData)} (n : Nat) (h : m[n]? = some (a, .dK ds)) : RsD K m (.r a) (.dK ds) := fun H v M r => by
  cases r
  obtain ⟨vs, h1, h2⟩ := M.all _ (List.mem_of_getElem? h)
  exact .dK (.inl h1) (kvP_mono (mn_same _ _) h2)
theorem RsD.ob {K : PySem.W.Frag} {a : Addr} {c : Str} {fs fs' : List Dt} (n : Nat) (h : m[n]? = some (a, .ob c fs)) (t : RsA K m fs fs') : RsD K m (.r a) (.ob c fs') := fun H v M r => by
  cases r
  obtain ⟨dx, vs, h1, h2, h3⟩ := M.all _ (List.mem_of_getElem? h)
  exact .ob (.inr ⟨h1, mn_same _ _ _ _ h2⟩) (t H _ M h3)
theorem Rsv.refl {K : PySem.W.Frag} : Rsv K m δ δ := fun σ H M E => E.mono (mn_same _ _)
theorem Rsv.one {K : PySem.W.Frag} {d' : Dt} (i : Nat) (hd : δ[i]? = some (some d)) (h : RsD K m d d') (t : Rsv K m δ δ1) : Rsv K m δ (δ1.set i (some d')) := fun σ H M E => by
  obtain ⟨v, a, r⟩ := E.at_ i d hd
  exact (t σ H M E).put a (h H v M r)
theorem x_look (hr : Rsv X.K m δ δ') (hn : noL q = true) (h : PE X e (tD X.K δ' (.p q))) : PE X e (xE X.K δ m fun d' m' => d' = .p q ∧ m' = m) :=
  PE_imp h fun σ H Q ⟨M, E, z⟩ => ⟨hr σ H M E, fun v H' s r => z v _ m H' ⟨rfl, rfl⟩ (M.same s) (.of s) (.p (dp_tl (tl_mn (M.same s).fo.all) hn r.toDp))⟩
theorem x_lookC (hr : Rsv X.K m δ δ') (h : PT X e (cD X.K δ' k)) : PT X e (xT X.K δ m fun b m' => b = k ∧ m' = m) :=
  PT_imp h fun σ H Q ⟨M, E, z⟩ => ⟨hr σ H M E, fun H' s => z k m H' ⟨rfl, rfl⟩ (M.same s) (.of s)⟩
theorem x_lookM (hr : Rsv X.K m δ δ') (hn : noLs ps = true) (h : PE X e (tN X.K δ' ps)) : PE X e (xE X.K δ m fun d' m' => ∃ p, d' = .r p ∧ m' = (p, .l ps) :: m) :=
  PE_imp h fun σ H Q ⟨M, E, z⟩ => ⟨hr σ H M E, fun p vs H' hp s hl r => by
    have np : p ∉ dm m := fun z => by obtain ⟨o, e⟩ := M.has z; rw [hp] at e; cases e
    obtain ⟨M', c⟩ := mem_cons (p := p) (d := .l ps) M hp (fun a ha => by obtain ⟨o, e⟩ := M.has ha; rw [e]; exact s _ _ e) (same_mn s) ⟨vs, hl, by
      refine dpAll_tl (tl_mn fun f hf => ?_) hn r
      rcases List.mem_cons.mp hf with hf | hf
      · subst hf; exact .inl ⟨_, hl⟩
      · exact (M.same s).fo.all f hf⟩
    exact z _ _ _ H' ⟨p, rfl, rfl⟩ M' c (.r p)⟩
theorem x_lookN (hr : Rsv X.K m δ δ') (hn : noLs ps = true) (h : PE X e (tN X.K δ' ps)) : PE X e (xE X.K δ m fun d' m' => d' = .l ps ∧ m' = m) :=
  PE_imp h fun σ H Q ⟨M, E, z⟩ => ⟨hr σ H M E, fun p vs H' hp s hl r => by
    have np : p ∉ dm m := fun z => by obtain ⟨o, e⟩ := M.has z; rw [hp] at e; cases e
    exact z _ _ m H' ⟨rfl, rfl⟩ (M.same s) (.of s) (.p (.lst (SqL.of (by rw [mn_out np]; exact hl)) (dpAll_tl (tl_mn (M.same s).fo.all) hn r)))⟩
theorem x_fld {c : Str} {fs : List Dt} {fn : Str} {n : Nat} {i : Nat} {ad : Addr} (S : SlF X.K c fn n) (hd : fs[n]? = some d) (ha : PE X e (xE X.K δ m fun d' m' => d' = .r ad ∧ m' = m)) (hm : m[i]? = some (ad, .ob c fs)) (hb : attributeBase e fn X.env (eval e X.env) = eval e X.env := by rfl) :
    PE X (.Attribute e fn pos) (xE X.K δ m fun d' m' => d' = d ∧ m' = m) := by
  obtain ⟨p, hp⟩ := S.sl
  refine PE_imp (SlX.pe_sl ha hb) fun σ H Q ⟨M, E, z⟩ => ⟨M, E, fun v d' m' H1 ⟨e1, e2⟩ M1 c1 r1 => ?_⟩
  subst e1 e2
  cases r1
  obtain ⟨dx, vs, h1, h2, h3⟩ := M1.all _ (List.mem_of_getElem? hm)
  obtain ⟨v, e, r⟩ := h3.get hd
  exact ⟨ad, _, dx, p, _, n, v, rfl, .inr ⟨h1, mn_same _ _ _ _ h2⟩, S.cl, hp, map_some_get e, z v d _ H1 ⟨rfl, rfl⟩ M1 c1 r⟩
theorem x_var (i : Nat) {x : Str} (hd : δ[i]? = some (some d)) (hN : X.N[i]? = some x := by rfl) (hv : Vis X.env.scope x := by first | exact Or.inl rfl | exact Or.inr (Or.inl rfl) | exact Or.inr (Or.inr rfl))
    (h1 : (x == ("__debug__" : Str)) = false := by decide) (h2 : (x == ("__classdict__" : Str)) = false := by decide) : PE X (.Name x pos) (xE X.K δ m fun d' m' => d' = d ∧ m' = m) := x_pure (d_var i hd hN hv h1 h2)

/-! ### dependent readings -/
theorem pe_ex {ι : Type} {W : ι → Prop} {t : ι → TE} (h : ∀ i, W i → PE X e (t i)) : PE X e (fun σ H Q => ∃ i, W i ∧ t i σ H Q) := ⟨fun pins s σ H Q I ⟨i, w, q⟩ => (h i w).run pins s σ H Q I q⟩
theorem pt_ex {ι : Type} {W : ι → Prop} {t : ι → TT} (h : ∀ i, W i → PT X e (t i)) : PT X e (fun σ H Q => ∃ i, W i ∧ t i σ H Q) := ⟨fun pins s σ H Q I ⟨i, w, q⟩ => (h i w).run pins s σ H Q I q⟩
theorem pa_ex {ι : Type} {W : ι → Prop} {t : ι → TA} (h : ∀ i, W i → PA X es (t i)) : PA X es (fun σ H Q => ∃ i, W i ∧ t i σ H Q) := ⟨fun pos pins s σ H Q I ⟨i, w, q⟩ => (h i w).run pos pins s σ H Q I q⟩
theorem pg_ex {ι : Type} {W : ι → Prop} {t : ι → TG} (h : ∀ i, W i → PG X e (t i)) : PG X e (fun v σ H Q => ∃ i, W i ∧ t i v σ H Q) := ⟨fun pins s σ H v u Q I r ⟨i, w, q⟩ => (h i w).run pins s σ H v u Q I r q⟩
theorem ps_ex {ι : Type} {W : ι → Prop} {t : ι → TS} (h : ∀ i, W i → PS X st (t i)) : PS X st (fun D σ H => ∃ i, W i ∧ t i D σ H) := ⟨fun pins s σ H D I ⟨i, w, q⟩ => (h i w).run pins s σ H D I q⟩
theorem pss_ex {ι : Type} {W : ι → Prop} {t : ι → TS} (h : ∀ i, W i → PSs X body (t i)) : PSs X body (fun D σ H => ∃ i, W i ∧ t i D σ H) := ⟨fun pins s σ H D I ⟨i, w, q⟩ => (h i w).run pins s σ H D I q⟩
theorem xe_go {K : PySem.W.Frag} {σ : L2.St} {H H1 : Hp} {Q : VK} {T : Rs} (M : Mem K H1 m1) (E : EnvD K σ (mn H (dm m)) δ) (c : Chg H (dm m) H1 (dm m1)) (q : ∀ v d m' H', T d m' → Mem K H' m' → Chg H (dm m) H' (dm m') → Rp K (mn H' (dm m')) v d → Q v H') : xE K δ m1 T σ H1 Q :=
  ⟨M, E.mono c, fun v d m' H' t M' c' r => q v d m' H' t M' (c.trans c') r⟩

/-! ### statements -/
theorem s_nil (h : N δ m) : PSs X [] (xS X.K δ m N R) := PSs_imp pss_nil fun D σ H ⟨M, E, q, _⟩ => q σ δ m H h M .refl E
theorem s_one (h : PS X st (xS X.K δ m N R)) : PSs X [st] (xS X.K δ m N R) := pss_one h
theorem s_seq (h : PS X st (xS X.K δ m N1 R)) (hr : ∀ δ1 m1, N1 δ1 m1 → PSs X rest (xS X.K δ1 m1 N R)) : PSs X (st :: rest) (xS X.K δ m N R) :=
  PSs_imp (pss_cons h (pss_ex (W := fun i : De × Ms => N1 i.1 i.2) fun i w => hr i.1 i.2 w)) fun D σ H ⟨M, E, q, r⟩ => ⟨M, E, fun σ1 δ1 m1 H1 n M1 c1 E1 => ⟨(δ1, m1), n, M1, E1, fun σ' δ' m' H' n' M' c' E' => q σ' δ' m' H' n' M' (c1.trans c') E', fun v d m' H' n' M' c' r' => r v d m' H' n' M' (c1.trans c') r'⟩, r⟩
theorem s_ret (h : PE X e (xE X.K δ m R)) : PS X (.Return (some e) pos) (xS X.K δ m N R) := PS_imp (ps_ret h) fun D σ H ⟨M, E, _, r⟩ => ⟨M, E, r⟩
theorem s_expr (h : PE X e (xE X.K δ m fun _ m' => N δ m')) (hs : swapsWith e none pos.line X.env = pure false := by rfl) : PS X (.Expr e pos) (xS X.K δ m N R) :=
  PS_imp (ps_expr h hs) fun D σ H ⟨M, E, q, _⟩ => ⟨M, E, fun v d m' H' n M' c r => q σ δ m' H' n M' c (E.mono c)⟩
theorem s_if (hc : PT X c (xT X.K δ m C)) (ht : ∀ m1, C true m1 → PSs X body (xS X.K δ m1 N R)) (hf : ∀ m1, C false m1 → PSs X els (xS X.K δ m1 N R)) : PS X (.If c body els pos) (xS X.K δ m N R) :=
  PS_imp (ps_if hc (pss_ex (W := fun m1 => C true m1) ht) (pss_ex (W := fun m1 => C false m1) hf)) fun D σ H ⟨M, E, q, r⟩ => ⟨M, E, fun b m1 H1 cc M1 c1 => by
    have go : xS X.K δ m1 N R D σ H1 := ⟨M1, E.mono c1, fun σ' δ' m' H' n' M' c' E' => q σ' δ' m' H' n' M' (c1.trans c') E', fun v d m' H' n' M' c' r' => r v d m' H' n' M' (c1.trans c') r'⟩
    cases b with
    | true => exact ⟨m1, cc, go⟩
    | false => exact ⟨m1, cc, go⟩⟩
theorem s_asg (he : PE X e (xE X.K δ m T)) (hg : ∀ d m1, T d m1 → PG X tg (xG X.K δ m1 d N)) (hs : swapsWithSole [tg] e pos.line X.env = pure false := by rfl) (hw : swappedStores [tg] e X.env = pure none := by rfl)
    (h1 : (assignEach [tg] X.env).map (·.2) = [assign tg X.env] := by rfl) : PS X (.Assign [tg] e pos) (xS X.K δ m N R) :=
  PS_imp (ps_asg he (pg_ex (W := fun i : Dt × Ms => T i.1 i.2) fun i w => hg i.1 i.2 w) hs hw h1) fun D σ H ⟨M, E, q, _⟩ => ⟨M, E, fun v d m1 H1 t M1 c1 r => ⟨(d, m1), t, M1, E.mono c1, r, fun σ' δ' m' H' n' M' c' E' => q σ' δ' m' H' n' M' (c1.trans c') E'⟩⟩
/-- x = e -/
theorem s_set (i : Nat) {x : Str} {pos' : Pos} (hN : X.N.Nodup) (hi : X.N[i]? = some x) (hx : Loc X.env.scope x) (he : PE X e (xE X.K δ m T)) (hs : swapsWith e (some (.Name x pos')) pos.line X.env = pure false := by rfl)
    (hf : X.fn x = true ∨ X.env.scope.names.lookup x = some .local := by first | exact .inl rfl | exact .inr rfl | assumption) : PS X (.Assign [.Name x pos'] e pos) (xS X.K δ m (fun δ' m' => ∃ d, T d m' ∧ δ' = δ.set i (some d)) R) :=
  PS_imp (ps_set hN hi hx he hs hf) fun D σ H ⟨M, E, q, _⟩ => ⟨M, E, fun v d m' H' t M' c r => q _ _ m' H' ⟨d, t, rfl⟩ M' c ((E.mono c).set i r)⟩
theorem xg_of {is : List Nat} (h : PG X tg (gD X.K δ d is δ')) : PG X tg (xG X.K δ m d fun δ1 m1 => δ1 = δ' ∧ m1 = m) := ⟨fun pins s σ H v u Q I r ⟨M, E, rr, q⟩ =>
  (PG_frame h).run pins s σ H v u Q I r ⟨dm m, M.fo, E, rr, fun σ' E' _ => ⟨Same.refl _, fun H' b => q σ' δ' m H' ⟨rfl, rfl⟩ (M.keep (fun a ha => b.at ha) b.chg) b.chg (by rw [b.mn]; exact E')⟩⟩⟩
def forG (X : Cx) {α : Type} (tg : Expr) (body : List Stmt) (l : List α) (ι : α → PyData) (is : List Nat) (J : Nat → De → Ms → Prop) (R : Rs) : TG := fun v σ H Q => ∃ z : Nat × α × De × De × Ms, (l[z.1]? = some z.2.1 ∧ J z.1 z.2.2.1 z.2.2.2.2 ∧ PG X tg (gD X.K z.2.2.1 (.p (ι z.2.1)) is z.2.2.2.1) ∧ PSs X body (xS X.K z.2.2.2.1 z.2.2.2.2 (J (z.1 + 1)) R)) ∧ fG (gD X.K z.2.2.1 (.p (ι z.2.1)) is z.2.2.2.1) v σ H Q
def forB (X : Cx) (body : List Stmt) (J : Nat → De → Ms → Prop) (R : Rs) : TS := fun D σ H => ∃ z : Nat × De × Ms, PSs X body (xS X.K z.2.1 z.2.2 (J (z.1 + 1)) R) ∧ xS X.K z.2.1 z.2.2 (J (z.1 + 1)) R D σ H
/-- a loop over data: I tells what stands behind so many passes -/
theorem s_for {α : Type} {l : List α} {ι : α → PyData} {is : List Nat} (J : Nat → De → Ms → Prop) (hp : PassesOwn (model X.prog X.w) X.A X.env X.xe) (hc : X.calm = true) (hi : PI X tg iter (iD X.K δ (l.map ι))) (hnl : ∀ p ∈ l, noL (ι p) = true) (h0 : J 0 δ m)
    (hb : ∀ i p δ1 m1, l[i]? = some p → J i δ1 m1 → ∃ δ2, PG X tg (gD X.K δ1 (.p (ι p)) is δ2) ∧ PSs X body (xS X.K δ2 m1 (J (i + 1)) R))
    (hs : ∀ x, foldedSetIterable iter X.env x = pure x := by intro _; rfl) : PS X (.For tg iter body [] pos) (xS X.K δ m (fun δ' m' => J l.length δ' m') R) := by
  have hg : PG X tg (forG X tg body l ι is J R) := pg_ex fun z w => PG_frame w.2.2.1
  have hbd : PSs X body (forB X body J R) := pss_ex fun z w => w
  refine PS_imp (ps_for hp hc (PI_frame hi) hg hbd hs) fun D σ H ⟨M, E, q, r⟩ => ⟨dm m, M.fo, E, fun It H1 s1 w => ⟨s1, fun H' b => ?_⟩⟩
  have M0 : Mem X.K H' m := M.keep (fun a ha => b.at ha) b.chg
  refine for_it (g := forG X tg body l ι is J R) (tb := forB X body J R) w (fun i σ' H' => ∃ δ1 m1, J i δ1 m1 ∧ Mem X.K H' m1 ∧ Chg H (dm m) H' (dm m1) ∧ Same H1 (mn H' (dm m1)) ∧ EnvD X.K σ' (mn H' (dm m1)) δ1) ⟨δ, m, h0, M0, b.chg, by rw [b.mn]; exact Same.refl _, by rw [b.mn]; exact E.mono s1⟩
    (fun i σ' H' _ ⟨δ1, m1, _, _, _, h, _⟩ => h.trans (mn_same _ _)) (fun i x σ' H2 H3 hlt ⟨δ1, m1, j, M2, c2, s2, E2⟩ ⟨s3, hx⟩ => ?_) fun σ' H2 ⟨δ1, m1, j, M2, c2, s2, E2⟩ => q σ' δ1 m1 H2 (by rw [List.length_map] at j; exact j) M2 c2 E2
  rw [List.length_map] at hlt
  have hpp : l[i]? = some l[i] := List.getElem?_eq_getElem hlt
  obtain ⟨δ2, g2, b2⟩ := hb i l[i] δ1 m1 hpp j
  have M3 := M2.same s3
  refine ⟨(i, l[i], δ1, δ2, m1), ⟨hpp, j, g2, b2⟩, dm m1, M3.fo, E2.mono (same_mn s3), .p (dp_tl (tl_mn M3.fo.all) (hnl _ (List.getElem_mem hlt)) (hx (ι l[i]) (by rw [List.getElem?_map, hpp]; rfl))), fun σ2 E3 ag => ⟨Same.refl _, fun H4 b4 => ?_⟩⟩
  have M4 := M3.keep (fun a ha => b4.at ha) b4.chg
  have c4 : Chg H2 (dm m1) H4 (dm m1) := (Chg.of s3).trans b4.chg
  refine ⟨(i, δ2, m1), b2, M4, by rw [b4.mn]; exact E3, fun σ5 δ5 m5 H5 n5 M5 c5 E5 => ⟨δ5, m5, n5, M5, (c2.trans c4).trans c5, s2.trans (c4.trans c5), E5⟩, fun v d m5 H5 n5 M5 c5 r5 => r v d m5 H5 n5 M5 ((c2.trans c4).trans c5) r5⟩

/-! ### defs over a memory, and calls of them -/
def spX (K : PySem.W.Frag) (F : Ms → List Dt → Rs → Prop) : Sp := fun vs H Q _ => ∃ m ds T, F m ds T ∧ Mem K H m ∧ RpAll K (mn H (dm m)) vs ds ∧ ∀ v d m' H', T d m' → Mem K H' m' → Chg H (dm m) H' (dm m') → Rp K (mn H' (dm m')) v d → Q v H'
/-- .. with more in the memory -/
def Rf (F : Ms → List Dt → Rs → Prop) : Ms → List Dt → Rs → Prop := fun m ds T => ∃ ma mb T', m.Perm (ma ++ mb) ∧ F ma ds T' ∧ ∀ d m', T' d m' → T d (m' ++ mb)
theorem fnX_frame {P : Program} {w : World} {K : PySem.W.Frag} {mg : Str → Option Value} {base : Heap} {k : Nat} {f : Addr} {F : Ms → List Dt → Rs → Prop} (h : FnR P w K mg base CX0 k f (spX K F)) : FnR P w K mg base CX0 k f (spX K (Rf F)) :=
  (fnR_frame h).imp fun vs H Q E ⟨m, ds, T, ⟨ma, mb, T', pm, hf, ht⟩, M, r, q⟩ => by
    have M' := M.perm pm
    have e := mn_perm (H := H) (perm_dm pm)
    rw [e] at r
    have fo : Fo H (dm mb) := M'.foS fun a ha => by rw [dm_append]; exact List.mem_append_right _ ha
    refine ⟨dm mb, fo, ma, ds, T', hf, M'.left, by rw [← mn_app]; exact r, fun v d m' H1 t M1 c1 r1 H2 b => ?_⟩
    obtain ⟨h1, h2⟩ := M'.join M1 b.non c1
    rw [← b.is] at h1 h2
    refine q v d (m' ++ mb) H2 (ht _ _ t) h1 ?_ (by rw [h2]; exact r1)
    show Same _ _
    rw [h2, e, mn_app]
    exact c1
end
end Pr
set_option maxHeartbeats 4000000
/-! Ws: what changes the objects of a memory; calls of defs over a memory. -/
namespace Pr
open PySem PySem.Spec PyProof.Rows L2
section
variable {X : Cx}
/-- d.pop(k), k a tuple and there -/
def rPopT1 : V → List V → Hp → VK → Prop := fun x xs H Q => ∃ (a : Addr) (kvs : List (List L2.Key × V)) (k : List L2.Key) (b : Addr) (v : V), x = .ref a ∧ xs = [.ref b] ∧ H a = some (.dT kvs) ∧ H b = some (.tup (k.map kV)) ∧ valV kvs k = some v ∧ Q v (upd H a (.dT (dropK kvs k)))
theorem mt_popT1 (hu : X.A.units + 1 < cLine) : MtR X "dict.pop" rPopT1 := by
  intro pins s σ H x xs v us Q I rx rxs h
  obtain ⟨a, kvs, k, b, v0, rfl, rfl, ha, hb, ev, q⟩ := h
  cases rx
  obtain ⟨u1, rfl, r1⟩ := rxs.one
  cases r1
  obtain ⟨z, hd, xs', rel, dd⟩ := dt_of I.hok ha
  have hz : xs'.length ≤ sizeLine := by rw [← Paired.length rel]; exact z
  have r := rel.val k
  rw [ev] at r
  obtain ⟨p, hp, rv⟩ : ∃ p, atKey xs' k = some p ∧ RelV v0 p.2 := by
    cases e : atKey xs' k with
    | none => rw [e] at r; exact (show False from r).elim
    | some p => rw [e] at r; exact ⟨p, rfl, r⟩
  refine PySem.call_pop_heap (more := []) (knd := tupleKind (mixKind X.prog X.w)) (k := k) (.inl rfl) (PySem.F.args_dict_pop_2 _ _) (tupleKind_room_in1 hu) (key_of I.hok hb) hd dd hp (fun h' dd' hs => ?_) hz
  obtain ⟨o, es, ep, hq, h2, h3, h4, _, h5⟩ := dd'
  have I2 : Inv X pins σ (upd H a (.dT (dropK kvs k))) { s with heap := h', toks := s.toks + (tupleKind (mixKind X.prog X.w)).draws k } :=
    d_write I (by rw [ha]; exact True.intro) hs ⟨o, hq⟩ ⟨Nat.le_trans (dropK_le kvs k) z, hd, _, (L2.DX.KT_drop k rel).keeps (fun c ys ec => (by rw [upd_ne (ne_of ec ha (fun z => nomatch z))]; exact ec)), o, es, ep, hq, h2, h3, h4, h5⟩
  exact ⟨v0, _, I2, rv, q⟩
end
/-! ### data of dicts, changed -/
def putD {κ : Type} [DecidableEq κ] (kvs : List (κ × PyData)) (k : κ) (d : PyData) : List (κ × PyData) :=
  if (kvs.any fun kv => decide (kv.1 = k)) = true then kvs.map (fun kv => if kv.1 = k then (kv.1, d) else kv) else kvs ++ [(k, d)]
def dropD {κ : Type} [DecidableEq κ] (kvs : List (κ × PyData)) (k : κ) : List (κ × PyData) := kvs.filter fun kv => decide (kv.1 ≠ k)
section
variable {κ : Type} [DecidableEq κ] {K : PySem.W.Frag} {H H' : Hp} {k : κ} {v : V} {d : PyData}
theorem kvP_any : ∀ {kvs : List (κ × V)} {ds : List (κ × PyData)}, KvP K H kvs ds → (kvs.any fun kv => decide (kv.1 = k)) = ds.any fun kv => decide (kv.1 = k)
  | [], [], _ => rfl
  | p :: kvs, q :: ds, .cons r t => by rw [List.any_cons, List.any_cons, kvP_any t, r.1]
theorem kvP_put {kvs : List (κ × V)} {ds : List (κ × PyData)} (h : KvP K H kvs ds) (r : Dp K H v d) : KvP K H (putK kvs k v) (putD ds k d) := by
  unfold putK putD
  rw [kvP_any h]
  by_cases e : (ds.any fun kv => decide (kv.1 = k)) = true
  · rw [if_pos e, if_pos e]
    clear e
    induction h with
    | nil => exact .nil
    | cons r1 t ih =>
      rename_i p q _ _
      refine .cons ?_ ih
      show (if p.1 = k then (p.1, v) else p).1 = (if q.1 = k then (q.1, d) else q).1 ∧ Dp K H (if p.1 = k then (p.1, v) else p).2 (if q.1 = k then (q.1, d) else q).2
      by_cases z : q.1 = k
      · rw [if_pos z, if_pos (r1.1.trans z)]; exact ⟨r1.1, r⟩
      · rw [if_neg z, if_neg (by rw [r1.1]; exact z)]; exact r1
  · rw [if_neg e, if_neg e]
    clear e
    induction h with
    | nil => exact .cons ⟨rfl, r⟩ .nil
    | cons r1 t ih => exact .cons r1 ih
theorem kvP_drop {kvs : List (κ × V)} {ds : List (κ × PyData)} (h : KvP K H kvs ds) : KvP K H (dropK kvs k) (dropD ds k) := by
  unfold dropK dropD
  induction h with
  | nil => exact .nil
  | cons r1 t ih =>
    rename_i p q _ _
    rw [List.filter_cons, List.filter_cons, r1.1]
    by_cases z : q.1 = k
    · simp only [z, ne_eq, not_true_eq_false, decide_false, Bool.false_eq_true, if_false]; exact ih
    · simp only [ne_eq, z, not_false_eq_true, decide_true, if_true]; exact .cons r1 ih
theorem kvP_len {kvs : List (κ × V)} {ds : List (κ × PyData)} (h : KvP K H kvs ds) : kvs.length = ds.length := Paired.length h
end
section
variable {X : Cx} {K : PySem.W.Frag} {H H' : Hp} {δ δ1 δ2 δ' : De} {m m' m1 m2 : Ms} {T T1 T2 : Rs} {C : Bool → Ms → Prop} {A A1 A2 : List Dt → Ms → Prop} {N N1 N2 : De → Ms → Prop} {R R1 : Rs} {st : Stmt} {body rest els : List Stmt} {a b c e o tg iter value : Expr} {es : List Expr} {d d1 d2 d0 : Dt} {ds fs : List Dt} {q : PyData} {ps : List PyData} {k n i : Nat} {pos p apos cpos pos' : Pos} {x cn : Str} {ad f g : Addr}
theorem dm_set (hi : m[i]? = some (ad, d0)) : dm (m.set i (ad, d)) = dm m := by
  apply List.ext_getElem?
  intro j
  rw [List.getElem?_map, List.getElem?_map, List.getElem?_set]
  by_cases e : i = j
  · subst e
    rw [hi]
    obtain ⟨h1, _⟩ := List.getElem?_eq_some_iff.mp hi
    simp [h1]
  · simp [e]
theorem Mem.at (M : Mem K H m) (hi : m[i]? = some (ad, d0)) : MO K H (mn H (dm m)) ad d0 := M.all _ (List.mem_of_getElem? hi)
theorem dm_of (hi : m[i]? = some (ad, d0)) : ad ∈ dm m := List.mem_map.mpr ⟨_, List.mem_of_getElem? hi, rfl⟩
/-- one object is changed -/
theorem mem_set (M : Mem K H m) (hi : m[i]? = some (ad, d0)) {u : HO} (o : MO K (upd H ad u) (mn H (dm m)) ad d) : Mem K (upd H ad u) (m.set i (ad, d)) ∧ Chg H (dm m) (upd H ad u) (dm (m.set i (ad, d))) := by
  have hd : dm (m.set i (ad, d)) = dm m := dm_set hi
  have hu : mn (upd H ad u) (dm m) = mn H (dm m) := mn_upd (dm_of hi)
  refine ⟨⟨by rw [hd]; exact M.nd, fun p hp => ?_⟩, by rw [hd]; show Same _ _; rw [hu]; exact Same.refl _⟩
  rw [hd, hu]
  obtain ⟨j, hj⟩ := List.getElem?_of_mem hp
  rw [List.getElem?_set] at hj
  by_cases e : i = j
  · subst e
    obtain ⟨h1, _⟩ := List.getElem?_eq_some_iff.mp hi
    simp only [if_true, if_pos h1] at hj
    cases hj
    exact o
  · rw [if_neg e] at hj
    refine (M.at hj).mono (upd_ne fun z => e ?_) (Same.refl _)
    have nd := M.nd
    have g1 : (dm m)[i]? = some ad := by rw [List.getElem?_map, hi]; rfl
    have g2 : (dm m)[j]? = some p.1 := by rw [List.getElem?_map, hj]; rfl
    rw [z] at g2
    obtain ⟨l1, e1⟩ := List.getElem?_eq_some_iff.mp g1
    obtain ⟨l2, e2⟩ := List.getElem?_eq_some_iff.mp g2
    have pw := List.pairwise_iff_getElem.mp nd
    rcases Nat.lt_trichotomy i j with h | h | h
    · exact absurd (e1.trans e2.symm) (pw i j l1 l2 h)
    · exact h
    · exact absurd (e2.trans e1.symm) (pw j i l2 l1 h)
theorem dpAll_take {H : Hp} : ∀ (n : Nat) {vs : List V} {ds : List PyData}, DpAll K H vs ds → DpAll K H (vs.take n) (ds.take n)
  | 0, _, _, _ => by rw [List.take_zero, List.take_zero]; exact .nil
  | n + 1, _, _, .nil => .nil
  | n + 1, _, _, .cons r t => .cons r (dpAll_take n t)
theorem rpAll_set {H : Hp} {v : V} {d : Dt} : ∀ (j : Nat) {vs : List V} {ds : List Dt}, RpAll K H vs ds → Rp K H v d → RpAll K H (vs.set j v) (ds.set j d)
  | _, _, _, .nil, _ => .nil
  | 0, _, _, .cons r t, h => .cons h t
  | j + 1, _, _, .cons r t, h => .cons r (rpAll_set j t h)
theorem Mem.dpx {v : V} {p : PyData} (r : Rp K (mn H (dm m)) v (.p p)) : Dp K (mn H (dm m)) v p := r.toDp

/-! ### arguments -/
theorem xa_nil : PA X [] (xA X.K δ m fun d' m' => d' = [] ∧ m' = m) := PA_imp pa_nil fun σ H Q ⟨M, E, q⟩ => q [] [] m H ⟨rfl, rfl⟩ M .refl .nil
theorem xa_cons {B : Dt → Ms → List Dt → Ms → Prop} (h : PE X e (xE X.K δ m T)) (hr : ∀ d m1, T d m1 → PA X es (xA X.K δ m1 (B d m1))) (hs : starEach (e :: es) X.env = (false, eval e X.env) :: starEach es X.env := by rfl) :
    PA X (e :: es) (xA X.K δ m fun ds m' => ∃ d m1 r, T d m1 ∧ B d m1 r m' ∧ ds = d :: r) :=
  PA_imp (pa_cons h (pa_ex (W := fun i : Dt × Ms => T i.1 i.2) fun i w => hr i.1 i.2 w) hs) fun σ H Q ⟨M, E, q⟩ => ⟨M, E, fun v d m1 H1 t M1 c1 r1 => ⟨(d, m1), t, M1, E.mono c1, fun vs ds m2 H2 t2 M2 c2 r2 => q (v :: vs) (d :: ds) m2 H2 ⟨d, m1, ds, t, t2, rfl⟩ M2 (c1.trans c2) (.cons (r1.mono c2) r2)⟩⟩
theorem xa_1 (h : PE X e (xE X.K δ m T)) (hs : starEach [e] X.env = (false, eval e X.env) :: starEach [] X.env := by rfl) : PA X [e] (xA X.K δ m fun ds m' => ∃ d, T d m' ∧ ds = [d]) :=
  xa_imp (xa_cons h (fun _ _ _ => xa_nil) hs) fun ds m' ⟨d, m1, r, t, ⟨e1, e2⟩, e⟩ => ⟨d, by subst e2; exact t, by rw [e, e1]⟩

/-! ### calls -/
theorem x_call {F : Ms → List Dt → Rs → Prop} (hF : FnR X.prog X.w X.K X.mg X.base CX0 k f (spX X.K F)) (hr : Room k X.A) (hg : Gl X x) (hm : X.mg x = some (.ref f)) (hk : PySem.W.keepIn X.K (.ref f) = true) (ha : PA X (e :: es) (xA X.K δ m A)) (hR : ∀ ds m1, A ds m1 → Rf F m1 ds T)
    (hdb : (x == ("__debug__" : Str)) = false := by decide) (he : starEach (e :: es) X.env = (false, eval e X.env) :: starEach es X.env := by rfl) (hpl : (backTo pos (starEach es X.env)).any (·.1) = false := by rfl) : PE X (.Call (.Name x p) (e :: es) [] pos) (xE X.K δ m T) :=
  PE_imp (pe_callR (fnX_frame hF) hr hg hm hk pass0 ha hdb he hpl) fun σ H Q ⟨M, E, q⟩ => ⟨M, E, fun vs ds m1 H1 t M1 c1 r1 => ⟨m1, ds, T, hR ds m1 t, M1, r1, fun v d m' H' t' M' c' r' => q v d m' H' t' M' (c1.trans c') r'⟩⟩
theorem x_meth {F : Ms → List Dt → Rs → Prop} {pl : Sem Bool} {mt : Str} (hc : SlX.SCls X.K (ga X.K cn)) (hm : Meth X.K (ga X.K cn) mt g) (hF : FnR X.prog X.w X.K X.mg X.base CX0 k g (spX X.K F)) (hr : Room k X.A) (ho : PE X o (xE X.K δ m fun d' m' => d' = .r ad ∧ m' = m)) (hi : m[i]? = some (ad, .ob cn fs))
    (ha : PA X (e :: es) (xA X.K δ m A)) (hR : ∀ ds m1, A ds m1 → Rf F m1 (.r ad :: ds) T)
    (hst : starEach (e :: es) X.env = (false, eval e X.env) :: starEach es X.env := by rfl) (hpl : (backTo pos (starEach es X.env)).any (·.1) = false := by rfl)
    (ht : eval (.Call (.Attribute o mt apos) (e :: es) [] pos) X.env = (do
      let ov ← eval o X.env
      standAt apos.atName
      let (f, first) ← holding [ov] (getMethod ov mt pl)
      callWith pos f first (backTo pos (starEach (e :: es) X.env)) (backToKw pos (keywordEach [] X.env))) := by rfl) : PE X (.Call (.Attribute o mt apos) (e :: es) [] pos) (xE X.K δ m T) :=
  PE_imp (SlX.pe_methSl ho hc hm (fnX_frame hF) hr pass0 ha hst hpl ht) fun σ H Q ⟨M, E, q⟩ => ⟨M, E, fun v d' m' H1 ⟨e1, e2⟩ M1 c1 r1 => by
    subst e1 e2
    cases r1
    obtain ⟨dx, vs, h1, h2, h3⟩ := M1.at hi
    exact ⟨ad, dx, _, rfl, .inr ⟨h1, mn_same _ _ _ _ h2⟩, M1, E.mono c1, fun ws ds m2 H2 t M2 c2 r2 => ⟨m2, .r ad :: ds, T, hR ds m2 t, M2, .cons (.r ad) r2, fun v d m' H' t' M' c' r' => q v d m' H' t' M' ((c1.trans c2).trans c') r'⟩⟩⟩
theorem x_meth0 {F : Ms → List Dt → Rs → Prop} {pl : Sem Bool} {mt : Str} (hc : SlX.SCls X.K (ga X.K cn)) (hm : Meth X.K (ga X.K cn) mt g) (hF : FnR X.prog X.w X.K X.mg X.base CX0 k g (spX X.K F)) (hr : Room k X.A) (ho : PE X o (xE X.K δ m fun d' m' => d' = .r ad ∧ m' = m)) (hi : m[i]? = some (ad, .ob cn fs)) (hR : Rf F m [.r ad] T)
    (ht : eval (.Call (.Attribute o mt apos) [] [] pos) X.env = (do
      let ov ← eval o X.env
      standAt apos.atName
      let (f, first) ← holding [ov] (getMethod ov mt pl)
      callWith pos f first (backTo pos (starEach [] X.env)) (backToKw pos (keywordEach [] X.env))) := by rfl) : PE X (.Call (.Attribute o mt apos) [] [] pos) (xE X.K δ m T) :=
  PE_imp (SlX.pe_methSl0 ho hc hm (fnX_frame hF) hr pass0 ht) fun σ H Q ⟨M, E, q⟩ => ⟨M, E, fun v d' m' H1 ⟨e1, e2⟩ M1 c1 r1 => by
    subst e1 e2
    cases r1
    obtain ⟨dx, vs, h1, h2, h3⟩ := M1.at hi
    exact ⟨ad, dx, _, rfl, .inr ⟨h1, mn_same _ _ _ _ h2⟩, _, [.r ad], T, hR, M1, .cons (.r ad) .nil, fun v d m' H' t' M' c' r' => q v d m' H' t' M' (c1.trans c') r'⟩⟩
/-- a def over a memory -/
theorem fnR_X {P : Program} {w : World} {mg : Str → Option Value} {base : Heap} {qual : Str} {Nn pn : List Str} {F : Ms → List Dt → Rs → Prop} (Fa : FnAt K qual st f) (S : FnScope Nn pn (defScope st)) (B : BindAt st pn) (hl : ∀ m ds T, F m ds T → ds.length = pn.length)
    (hbody : ∀ (cdv : Value) (A : Around) (outer : List Env) (s : Shared) (H : Hp) (E : XK), Room k (A.deeper (envOfC qual (defScope st) s.heap.objs.size f cdv)) → ∀ m ds T, F m ds T →
      PSs (cxOf CX0 P w K mg base Nn qual (defScope st) f cdv A outer s H E).nox (defBody st) (xS K (ds.map some ++ List.replicate (Nn.length - ds.length) none) m (fun _ m' => T .n m') T)) : FnR P w K mg base CX0 (k + 1) f (spX K F) := by
  refine fnR_of Fa S B (fun vs H Q E ⟨m, ds, T, h, _, r, _⟩ => r.length.trans (hl m ds T h)) fun cdv A outer s H vs Q E hr ⟨m, ds, T, h, M, r, q⟩ => ⟨_, (hbody cdv A outer s H E hr m ds T h).nox, ?_⟩
  have hpl : pn.length ≤ Nn.length := by have := congrArg List.length S.pre; rw [List.length_take] at this; omega
  exact ⟨M, envD_start r (by rw [r.length, hl m ds T h]; exact hpl), fun σ' δ' m' H' n M' c E' => q .non .n m' H' n M' c (.p .non), q⟩

/-! ### lists -/
theorem x_append (ho : PE X o (xE X.K δ m fun d' m' => d' = .r ad ∧ m' = m)) (hi : m[i]? = some (ad, d0)) (hl0 : ∃ ps0, d0 = .l ps0) (he : PE X e (xE X.K δ m T)) (ht : ∀ d m1, T d m1 → ∃ q ps, d = .p q ∧ m1[n]? = some (ad, .l ps) ∧ ps.length < 1000 ∧ T1 .n (m1.set n (ad, .l (ps ++ [q]))))
    (hbase : attributeBase o "append" X.env (eval o X.env) = eval o X.env := by rfl)
    (hfew : ((backTo cpos (starEach [e] X.env)).all (fun x => !x.1) && (backToKw cpos (keywordEach [] X.env)).all (fun x => x.1.isSome)
      && decide (([e] : List Expr).length + ([] : List Keyword).length + (if ([] : List Keyword).isEmpty then 0 else 1) < 30)) = true := by rfl)
    (hline : (apos.endLine == cpos.line) = true := by rfl) (hst : starEach [e] X.env = (false, eval e X.env) :: starEach [] X.env := by rfl) : PE X (.Call (.Attribute o "append" apos) [e] [] cpos) (xE X.K δ m T1) :=
  PE_imp (pe_bm PySem.F.plainAttrs_list PySem.F.slot_list_append PySem.F.type_list_append mt_append ho (xa_1 he hst) hbase hfew hline hst rfl) fun σ H Q ⟨M, E, z⟩ => ⟨M, E, fun v d' m' H1 ⟨e1, e2⟩ M1 c1 r1 => by
    subst e1 e2
    cases r1
    obtain ⟨ps0, rfl⟩ := hl0
    obtain ⟨xs0, x1, _⟩ := M1.at hi
    refine ⟨.inl ⟨rfl, _, SqL.of x1⟩, M1, E.mono c1, fun vs ds m2 H2 ⟨d, t, e⟩ M2 c2 r2 => ?_⟩
    subst e
    obtain ⟨q, ps, rfl, h1, h2, h3⟩ := ht _ _ t
    obtain ⟨y, rfl, ry⟩ := rpAll_1 r2
    obtain ⟨xs, g1, g2⟩ := M2.at h1
    have el := dpAll_length g2
    obtain ⟨M3, c3⟩ := mem_set (d := .l (ps ++ [q])) M2 h1 (u := .lst (xs ++ [y])) ⟨_, upd_same, dpAll_append g2 (.cons ry.toDp .nil)⟩
    exact ⟨ad, xs, y, rfl, rfl, g1, Evl.sz_lt (by omega), z _ .n _ _ h3 M3 ((c1.trans c2).trans c3) (.p .non)⟩⟩
theorem x_pop (ho : PE X o (xE X.K δ m fun d' m' => d' = .r ad ∧ m' = m)) (hi : m[i]? = some (ad, .l (ps ++ [q])))
    (hbase : attributeBase o "pop" X.env (eval o X.env) = eval o X.env := by rfl) (hline : (apos.endLine == cpos.line) = true := by rfl) : PE X (.Call (.Attribute o "pop" apos) [] [] cpos) (xE X.K δ m fun d' m' => d' = .p q ∧ m' = m.set i (ad, .l ps)) :=
  PE_imp (pe_bm0 PySem.F.plainAttrs_list PySem.F.slot_list_pop PySem.F.type_list_pop mt_pop ho hbase hline) fun σ H Q ⟨M, E, z⟩ => ⟨M, E, fun v d' m' H1 ⟨e1, e2⟩ M1 c1 r1 => by
    subst e1 e2
    cases r1
    obtain ⟨xs, g1, g2⟩ := M1.at hi
    have el := dpAll_length g2
    rw [List.length_append, List.length_singleton] at el
    obtain ⟨y, hy, ry⟩ := dpAll_get (i := ps.length) (d := q) g2 (by simp)
    have e1 : xs.length - 1 = ps.length := by omega
    have g3 : DpAll X.K (mn H1 (dm m')) xs.dropLast ps := by
      have := dpAll_take ps.length g2
      rw [List.take_left', ← e1, ← List.dropLast_eq_take] at this
      exact this
      rfl
    obtain ⟨M3, c3⟩ := mem_set (d := .l ps) M1 hi (u := .lst xs.dropLast) ⟨_, upd_same, g3⟩
    refine ⟨.inl ⟨rfl, _, SqL.of g1⟩, ad, xs, y, rfl, rfl, g1, by rw [e1]; exact hy, z _ _ _ _ ⟨rfl, rfl⟩ M3 (c1.trans c3) (.p ?_)⟩
    rw [dm_set hi, mn_upd (dm_of hi)]
    exact ry⟩
theorem x_clear (ho : PE X o (xE X.K δ m fun d' m' => d' = .r ad ∧ m' = m)) (hi : m[i]? = some (ad, .l ps))
    (hbase : attributeBase o "clear" X.env (eval o X.env) = eval o X.env := by rfl) (hline : (apos.endLine == cpos.line) = true := by rfl) : PE X (.Call (.Attribute o "clear" apos) [] [] cpos) (xE X.K δ m fun d' m' => d' = .n ∧ m' = m.set i (ad, .l [])) :=
  PE_imp (pe_bm0 PySem.F.plainAttrs_list PySem.F.slot_list_clear PySem.F.type_list_clear mt_clear ho hbase hline) fun σ H Q ⟨M, E, z⟩ => ⟨M, E, fun v d' m' H1 ⟨e1, e2⟩ M1 c1 r1 => by
    subst e1 e2
    cases r1
    obtain ⟨xs, g1, g2⟩ := M1.at hi
    obtain ⟨M3, c3⟩ := mem_set (d := .l []) M1 hi (u := .lst []) ⟨_, upd_same, .nil⟩
    exact ⟨.inl ⟨rfl, _, SqL.of g1⟩, ad, xs, rfl, rfl, g1, z _ _ _ _ ⟨rfl, rfl⟩ M3 (c1.trans c3) (.p .non)⟩⟩

/-! ### dicts -/
theorem x_dnewT : PE X (.Dict [] [] pos) (xE X.K δ m fun d' m' => ∃ p, d' = .r p ∧ m' = (p, .dT []) :: m) :=
  PE_imp pe_dnewT fun σ H Q ⟨M, E, z⟩ p hp => by
    have s : Same H (upd H p (.dT [])) := same_new hp
    obtain ⟨M', c⟩ := mem_cons (p := p) (d := .dT []) M hp (fun a ha => upd_ne fun e => by obtain ⟨o, h⟩ := M.has ha; rw [e, hp] at h; cases h) (same_mn s) ⟨[], upd_same, .nil⟩
    exact z _ _ _ _ ⟨p, rfl, rfl⟩ M' c (.r p)
theorem x_dnewK : PE X (.Dict [] [] pos) (xE X.K δ m fun d' m' => ∃ p, d' = .r p ∧ m' = (p, .dK []) :: m) :=
  PE_imp pe_dnewK fun σ H Q ⟨M, E, z⟩ p hp => by
    have s : Same H (upd H p (.dK [])) := same_new hp
    obtain ⟨M', c⟩ := mem_cons (p := p) (d := .dK []) M hp (fun a ha => upd_ne fun e => by obtain ⟨o, h⟩ := M.has ha; rw [e, hp] at h; cases h) (same_mn s) ⟨[], upd_same, .nil⟩
    exact z _ _ _ _ ⟨p, rfl, rfl⟩ M' c (.r p)
/-- o[k] = value: the value's data, then the dict's address, then the key -/
theorem s_putT {kvs : List (List Key × PyData)} {l : List Int} (hu : X.A.units + 1 < cLine) (hv : PE X value (xE X.K δ m fun d' m' => d' = .p q ∧ m' = m)) (ho : PE X o (xE X.K δ m fun d' m' => d' = .r ad ∧ m' = m)) (hk : PE X b (xE X.K δ m fun d' m' => d' = .t (l.map .int) ∧ m' = m)) (hl0 : l ≠ [])
    (hi : m[i]? = some (ad, .dT kvs)) (hl : kvs.length < 1000) (hN : N δ (m.set i (ad, .dT (putD kvs (l.map .inl) q)))) (hs : swapsWith value (some (.Subscript o b pos')) pos.line X.env = pure false := by rfl) : PS X (.Assign [.Subscript o b pos'] value pos) (xS X.K δ m N R) :=
  PS_imp (ps_dput hu ho hk hv hs) fun D σ H ⟨M, E, z, _⟩ => ⟨M, E, fun v d' m' H1 ⟨e1, e2⟩ M1 c1 r1 => by
    subst e1 e2
    refine ⟨M1, E.mono c1, fun v2 d2 m2 H2 ⟨e1, e2⟩ M2 c2 r2 => ?_⟩
    subst e1 e2
    cases r2
    refine ⟨M2, E.mono (c1.trans c2), fun v3 d3 m3 H3 ⟨e1, e2⟩ M3 c3 r3 => ?_⟩
    subst e1 e2
    obtain ⟨kv, g1, g2⟩ := M3.at hi
    have r3' := r3.toDp
    cases r3' with
    | tup sq ex rr =>
      rename_i bb xs
      have hx : xs = l.map V.int := dpAll_ints rr
      subst hx
      have hz : kz (l.map PyData.int) = true := by
        cases l with
        | nil => exact absurd rfl hl0
        | cons y l2 => unfold kz; simp
      have hb := mn_same _ _ _ _ (ex hz)
      have el := kvP_len g2
      have rq := r1.toDp
      obtain ⟨M4, c4⟩ := mem_set (d := .dT (putD kvs (l.map .inl) q)) M3 hi (u := .dT (putK kv (l.map .inl) v)) ⟨_, upd_same, kvP_put g2 (dp_mono (c2.trans c3) rq)⟩
      refine ⟨ad, _, rfl, DPut.t (k := l.map .inl) g1 (by rw [List.map_map]; exact hb) (Evl.sz_lt (by omega)), z σ δ _ _ hN M4 (((c1.trans c2).trans c3).trans c4) (E.mono (((c1.trans c2).trans c3).trans c4))⟩⟩
theorem s_putK {kvs : List (Key × PyData)} {j : Int} (hu : X.A.units + 1 < cLine) (hv : PE X value (xE X.K δ m fun d' m' => d' = .p q ∧ m' = m)) (ho : PE X o (xE X.K δ m fun d' m' => d' = .r ad ∧ m' = m)) (hk : PE X b (xE X.K δ m fun d' m' => d' = .i j ∧ m' = m))
    (hi : m[i]? = some (ad, .dK kvs)) (hl : kvs.length < 1000) (hN : N δ (m.set i (ad, .dK (putD kvs (.inl j) q)))) (hs : swapsWith value (some (.Subscript o b pos')) pos.line X.env = pure false := by rfl) : PS X (.Assign [.Subscript o b pos'] value pos) (xS X.K δ m N R) :=
  PS_imp (ps_dput hu ho hk hv hs) fun D σ H ⟨M, E, z, _⟩ => ⟨M, E, fun v d' m' H1 ⟨e1, e2⟩ M1 c1 r1 => by
    subst e1 e2
    refine ⟨M1, E.mono c1, fun v2 d2 m2 H2 ⟨e1, e2⟩ M2 c2 r2 => ?_⟩
    subst e1 e2
    cases r2
    refine ⟨M2, E.mono (c1.trans c2), fun v3 d3 m3 H3 ⟨e1, e2⟩ M3 c3 r3 => ?_⟩
    subst e1 e2
    obtain ⟨kv, g1, g2⟩ := M3.at hi
    have e3 := r3.i_inv
    subst e3
    have el := kvP_len g2
    have rq := r1.toDp
    obtain ⟨M4, c4⟩ := mem_set (d := .dK (putD kvs (.inl j) q)) M3 hi (u := .dK (putK kv (.inl j) v)) ⟨_, upd_same, kvP_put g2 (dp_mono (c2.trans c3) rq)⟩
    exact ⟨ad, _, rfl, DPut.k (k := .inl j) g1 (Evl.sz_lt (by omega)), z σ δ _ _ hN M4 (((c1.trans c2).trans c3).trans c4) (E.mono (((c1.trans c2).trans c3).trans c4))⟩⟩
/-- o.pop(k), k there -/
theorem x_dpop {kvs : List (List Key × PyData)} {l : List Int} (hu : X.A.units + 1 < cLine) (ho : PE X o (xE X.K δ m fun d' m' => d' = .r ad ∧ m' = m)) (hi : m[i]? = some (ad, .dT kvs)) (hk : PE X e (xE X.K δ m fun d' m' => d' = .t (l.map .int) ∧ m' = m)) (hl0 : l ≠ []) (hq : valD kvs (l.map .inl) = some q)
    (hbase : attributeBase o "pop" X.env (eval o X.env) = eval o X.env := by rfl)
    (hfew : ((backTo cpos (starEach [e] X.env)).all (fun x => !x.1) && (backToKw cpos (keywordEach [] X.env)).all (fun x => x.1.isSome)
      && decide (([e] : List Expr).length + ([] : List Keyword).length + (if ([] : List Keyword).isEmpty then 0 else 1) < 30)) = true := by rfl)
    (hline : (apos.endLine == cpos.line) = true := by rfl) (hst : starEach [e] X.env = (false, eval e X.env) :: starEach [] X.env := by rfl) :
    PE X (.Call (.Attribute o "pop" apos) [e] [] cpos) (xE X.K δ m fun d' m' => d' = .p q ∧ m' = m.set i (ad, .dT (dropD kvs (l.map .inl)))) :=
  PE_imp (pe_bm PySem.F.plainAttrs_dict PySem.F.slot_dict_pop PySem.F.type_dict_pop (mt_popT1 hu) ho (xa_1 hk hst) hbase hfew hline hst rfl) fun σ H Q ⟨M, E, z⟩ => ⟨M, E, fun v d' m' H1 ⟨e1, e2⟩ M1 c1 r1 => by
    subst e1 e2
    cases r1
    obtain ⟨xs0, x1, _⟩ := M1.at hi
    refine ⟨.inr (.inr (.inl ⟨rfl, .inr ⟨_, x1⟩⟩)), M1, E.mono c1, fun vs ds m2 H2 ⟨d, ⟨e1, e2⟩, e⟩ M2 c2 r2 => ?_⟩
    subst e1 e2 e
    obtain ⟨y, rfl, ry⟩ := rpAll_1 r2
    obtain ⟨kv, g1, g2⟩ := M2.at hi
    have r3' := ry.toDp
    cases r3' with
    | tup sq ex rr =>
      rename_i bb xs
      have hx : xs = l.map V.int := dpAll_ints rr
      subst hx
      have hz : kz (l.map PyData.int) = true := by
        cases l with
        | nil => exact absurd rfl hl0
        | cons y l2 => unfold kz; simp
      have hb := mn_same _ _ _ _ (ex hz)
      obtain ⟨w, ew, rw'⟩ := (kvP_val (l.map .inl) g2).1 q hq
      obtain ⟨M4, c4⟩ := mem_set (d := .dT (dropD kvs (l.map .inl))) M2 hi (u := .dT (dropK kv (l.map .inl))) ⟨_, upd_same, kvP_drop g2⟩
      refine ⟨ad, kv, l.map .inl, bb, w, rfl, rfl, g1, by rw [List.map_map]; exact hb, ew, z _ _ _ _ ⟨rfl, rfl⟩ M4 ((c1.trans c2).trans c4) (.p ?_)⟩
      rw [dm_set hi, mn_upd (dm_of hi)]
      exact rw'⟩

/-! ### fields -/
theorem xg_fld {fn : Str} {j : Nat} (S : SlF X.K cn fn j) (ho : PE X o (xE X.K δ m fun d' m' => d' = .r ad ∧ m' = m)) (hi : m[i]? = some (ad, .ob cn fs)) (hj : j < fs.length) : PG X (.Attribute o fn pos) (xG X.K δ m d fun δ' m' => δ' = δ ∧ m' = m.set i (ad, .ob cn (fs.set j d))) := by
  obtain ⟨p, hp⟩ := S.sl
  refine ⟨fun pins s σ H v u Q I r ⟨M, E, rr, q⟩ => (pg_sl ho).run pins s σ H v u Q I r ⟨M, E, fun x d' m' H1 ⟨e1, e2⟩ M1 c1 r1 => ?_⟩⟩
  subst e1 e2
  cases r1
  obtain ⟨dx, vs, h1, h2, h3⟩ := M1.at hi
  have ne : dx ≠ ad := fun z => by
    rw [z, mn_in (dm_of hi)] at h2; cases h2
  refine ⟨ad, _, dx, p, vs.map some, j, rfl, .inr ⟨h1, mn_same _ _ _ _ h2⟩, S.cl, hp, ?_⟩
  have el := h3.length
  have e : SlX.slH H1 ad (ga X.K cn) dx (SlX.putS j v (vs.map some)) = upd H1 ad (SlX.SlO ad (ga X.K cn) dx ((vs.set j v).map some)) := by
    unfold SlX.slH SlX.putS
    rw [List.length_map, show j + 1 - vs.length = 0 by omega, List.replicate_zero, List.append_nil, ← List.map_set]
    funext b
    by_cases z : b = ad
    · subst z; rw [upd_same, upd_same]
    · rw [upd_ne z, upd_ne z]
      by_cases y : b = dx
      · subst y; rw [upd_same]; exact (mn_same _ _ _ _ h2).symm
      · rw [upd_ne y]
  rw [e]
  obtain ⟨M4, c4⟩ := mem_set (d := .ob cn (fs.set j d)) M1 hi (u := SlX.SlO ad (ga X.K cn) dx ((vs.set j v).map some)) ⟨dx, _, upd_same, h2, rpAll_set j h3 (rr.mono c1)⟩
  exact q σ δ _ _ ⟨rfl, rfl⟩ M4 (c1.trans c4) (E.mono (c1.trans c4))
end
end Pr
set_option maxHeartbeats 4000000
/-! Y1: floors that change. -/
namespace Pr
open PySem PySem.Spec PyProof.Rows L2
variable {P : Program} {w : World} {K : PySem.W.Frag} {mg : Str → Option Value} {base : Heap}
abbrev flO (s : Fl) (a b c : Addr) : Dt := .ob "Floor" [.i s.m, ruleD s.p, .i s.n, .r a, .r b, .r c]
def flM (f a b c : Addr) (s : Fl) : Ms := [(f, flO s a b c), (a, .dK (dkN s.moon)), (b, .dK (dkN s.sun)), (c, .dT (dtM s.laid))]
theorem rs_fl {m : Ms} {f a b c : Addr} {s : Fl} (i0 i1 i2 i3 : Nat) (h0 : m[i0]? = some (f, flO s a b c)) (h1 : m[i1]? = some (a, .dK (dkN s.moon))) (h2 : m[i2]? = some (b, .dK (dkN s.sun))) (h3 : m[i3]? = some (c, .dT (dtM s.laid))) : RsD K m (.r f) (flD s) :=
  .ob i0 h0 (.cons .refl (.cons .refl (.cons .refl (.cons (.dK i1 h1) (.cons (.dK i2 h2) (.cons (.dT i3 h3) .nil))))))
def putN (l : List (Nat × Nat)) (k v : Nat) : List (Nat × Nat) := if (l.any fun kv => decide (kv.1 = k)) = true then l.map (fun kv => if kv.1 = k then (kv.1, v) else kv) else l ++ [(k, v)]
def bump (l : List (Nat × Nat)) (k : Nat) (x : Int) : List (Nat × Nat) := putN l k ((cnt l k : Int) + x).toNat
def Fl.bump (s : Fl) (a : Mt) (x : Int) : Fl := { s with sun := Pr.bump s.sun a.i x, moon := Pr.bump s.moon a.j x }
theorem dkN_put {l : List (Nat × Nat)} {k v : Nat} : putD (dkN l) (.inl (k : Int)) (.int (v : Nat)) = dkN (putN l k v) := by
  unfold putD putN
  have e : ((dkN l).any fun kv => decide (kv.1 = (.inl (k : Int) : Key))) = l.any fun kv => decide (kv.1 = k) := by
    unfold dkN
    rw [List.any_map]
    congr 1
    funext kv
    exact decide_eq_decide.mpr ⟨fun h => by have := Sum.inl.inj h; omega, fun h => by show (Sum.inl (kv.1 : Int) : Key) = _; rw [h]⟩
  rw [e]
  split
  · unfold dkN
    rw [List.map_map, List.map_map]
    apply List.map_congr_left
    intro kv _
    show (if ((.inl (kv.1 : Int) : Key)) = .inl (k : Int) then _ else _) = _
    by_cases h : kv.1 = k
    · subst h; simp
    · rw [if_neg (fun z => h (by have := Sum.inl.inj z; omega))]
      simp [h]
  · unfold dkN; rw [List.map_append]; rfl
def rxCounted : Ms → List Dt → Rs → Prop := fun m ds T => ∃ (f a b c : Addr) (s : Fl) (t : Mt) (x : Int), 0 ≤ (cnt s.sun t.i : Int) + x ∧ 0 ≤ (cnt s.moon t.j : Int) + x ∧ s.sun.length < 1000 ∧ s.moon.length < 1000 ∧ m = flM f a b c s ∧ ds = [.r f, .p t.d, .i x] ∧ T = fun d m' => d = .n ∧ m' = flM f a b c (s.bump t x)
theorem f1_counted (T : Tx K mg) : FnR P w K mg base CX0 1 (ma K "Floor" "counted") (spX K rxCounted) :=
  fnR_X T.f_Floor_counted sc_Floor_counted bn_Floor_counted (fun m ds T ⟨_, _, _, _, _, _, _, _, _, _, _, _, h, _⟩ => by rw [h]; rfl) fun cdv A outer s H E hr m ds R ⟨f, a, b, c, fl, t, x, hx, hy, hl1, hl2, h, h2, h3⟩ => by
    subst h h2 h3
    have hu := room_u hr
    have hu1 : (A.deeper (envOfC "Floor.counted" (defScope st_Floor_counted) s.heap.objs.size (ma K "Floor" "counted") cdv)).units + 1 < cLine := by omega
    have e1 : (dkN fl.sun).length < 1000 := by unfold dkN; rw [List.length_map]; exact hl1
    have e2 : (dkN fl.moon).length < 1000 := by unfold dkN; rw [List.length_map]; exact hl2
    have n1 : Dt.i ((cnt fl.sun t.i : Int) + x) = .p (.int (((cnt fl.sun t.i : Int) + x).toNat : Nat)) := by rw [Int.toNat_of_nonneg hx]
    have n2 : Dt.i ((cnt fl.moon t.j : Int) + x) = .p (.int (((cnt fl.moon t.j : Int) + x).toNat : Nat)) := by rw [Int.toNat_of_nonneg hy]
    refine s_seq (N1 := fun δ' m' => δ' = [some (.r f), some (.p t.d), some (.i x)] ∧ m' = [(f, flO fl a b c), (a, .dK (dkN fl.moon)), (b, .dK (dkN (Pr.bump fl.sun t.i x))), (c, .dT (dtM fl.laid))])
      (s_putK (i := 2) (j := (t.i : Int)) (q := .int (((cnt fl.sun t.i : Int) + x).toNat : Nat)) hu1 (x_look (Rsv.one 0 rfl (rs_fl 0 1 2 3 rfl rfl rfl rfl) .refl) rfl (d_eqv (d_add (d_eqv (d_dget2 (kx := .inl (t.i : Int)) hu1 (d_fld T.s_Floor_on_sun rfl (d_var 0 rfl)) (d_ixT (p := .int t.i) rfl (d_var 1 rfl) d_int) d_int ⟨rfl, rfl, rfl, rfl⟩) getD_cnt) (d_var 2 rfl)) n1))
        (x_fld T.s_Floor_on_sun rfl (x_var 0 rfl) (i := 0) rfl) (x_pure (d_ixT (p := .int t.i) rfl (d_var 1 rfl) d_int)) rfl e1 ⟨rfl, by rw [dkN_put]; rfl⟩) fun δ1 m1 ⟨h1, h2⟩ => ?_
    subst h1 h2
    refine s_one (s_putK (i := 1) (j := (t.j : Int)) (q := .int (((cnt fl.moon t.j : Int) + x).toNat : Nat)) hu1 (x_look (Rsv.one 0 rfl (rs_fl (s := { fl with sun := Pr.bump fl.sun t.i x }) 0 1 2 3 rfl rfl rfl rfl) .refl) rfl (d_eqv (d_add (d_eqv (d_dget2 (kx := .inl (t.j : Int)) hu1 (d_fld T.s_Floor_on_moon rfl (d_var 0 rfl)) (d_ixT (p := .int t.j) rfl (d_var 1 rfl) d_int) d_int ⟨rfl, rfl, rfl, rfl⟩) getD_cnt) (d_var 2 rfl)) n2))
        (x_fld T.s_Floor_on_moon rfl (x_var 0 rfl) (i := 0) rfl) (x_pure (d_ixT (p := .int t.j) rfl (d_var 1 rfl) d_int)) rfl e2 ⟨rfl, by rw [dkN_put]; rfl⟩)
/-- o.f(e, ..), the slot f of o an instance -/
theorem pe_callF {X : Cx} {CX : CXT} {k : Nat} {C g : Addr} {sp : Sp} {E : XK} {o e : Expr} {es : List Expr} {fn : Str} {to : TE} {t : TA} {pos apos : Pos} {pl : Sem Bool} (ho : PE X o to) (c : StX.CallO X.K C g) (F : FnR X.prog X.w X.K X.mg X.base CX k g sp) (hr : Room k X.A) (hx : Passes CX X E) (ha : PA X (e :: es) t)
    (hst : starEach (e :: es) X.env = (false, eval e X.env) :: starEach es X.env := by rfl) (hpl : (backTo pos (starEach es X.env)).any (·.1) = false := by rfl)
    (ht : eval (.Call (.Attribute o fn apos) (e :: es) [] pos) X.env = (do
      let ov ← eval o X.env
      standAt apos.atName
      let (f, first) ← holding [ov] (getMethod ov fn pl)
      callWith pos f first (backTo pos (starEach (e :: es) X.env)) (backToKw pos (keywordEach [] X.env))) := by rfl) :
    PE X (.Call (.Attribute o fn apos) (e :: es) [] pos) (fun σ H Q => to σ H fun x H1 => ∃ a D dx p vs i b, x = .ref a ∧ SlX.Slt H1 a D dx vs ∧ SlX.SCls X.K D ∧ SlX.Slot1 X.K D fn p i ∧ vs[i]? = some (some (.ref b)) ∧ t σ H1 fun ws H2 => StX.InsC X H2 b C ∧ sp (.ref b :: ws) H2 Q E) := by
  refine ⟨fun pins s σ H Q I h => ?_⟩
  refine PySem.W.methodCall_KW (pl := pl) (thn (ho.run pins s σ H _ I h) fun u s1 ⟨x, H1, I1, rx, a, D, dx, p, vs, i, b, ex, sl, cl, t1, l, q⟩ => ?_) ht
  subst ex
  obtain rfl : u = Value.ref a := rx
  refine SlX.getslotm_ok I1 sl cl t1 l fun u' s2 I2 ru => ?_
  obtain rfl : u' = Value.ref b := ru
  refine StX.callO_with (thn (ha.run pos pins s2 σ H1 _ I2 q) fun us s3 ⟨ws, H2, I3, r, hi, q2⟩ => ?_) hst hpl
  obtain ⟨ox, od, J, hd⟩ := StX.insC_at I3 hi
  exact ⟨⟨C, ox, od, J, hd⟩, StX.run_callO c F hr hx I3 hi r q2⟩
theorem d_callF {X : Cx} {δ : De} {k n : Nat} {g : Addr} {o e : Expr} {es : List Expr} {fn c cD : Str} {pos apos : Pos} {pl : Sem Bool} {R : RD} {fs fs2 : List Dt} {ds : List Dt} {d : Dt} (S : SlF X.K cD fn n) (hd : fs[n]? = some (.ob c fs2)) (hc : StX.CallO X.K (ga X.K c) g) (F : FnR X.prog X.w X.K X.mg X.base CX0 k g (spD X.K R)) (hr : Room k X.A)
    (hR : R (.ob c fs2 :: ds) d) (ho : PE X o (tD X.K δ (.ob cD fs))) (ha : PA X (e :: es) (aD X.K δ ds))
    (hst : starEach (e :: es) X.env = (false, eval e X.env) :: starEach es X.env := by rfl) (hpl : (backTo pos (starEach es X.env)).any (·.1) = false := by rfl)
    (ht : eval (.Call (.Attribute o fn apos) (e :: es) [] pos) X.env = (do
      let ov ← eval o X.env
      standAt apos.atName
      let (f, first) ← holding [ov] (getMethod ov fn pl)
      callWith pos f first (backTo pos (starEach (e :: es) X.env)) (backToKw pos (keywordEach [] X.env))) := by rfl) : PE X (.Call (.Attribute o fn apos) (e :: es) [] pos) (tD X.K δ d) := by
  obtain ⟨p, hp⟩ := S.sl
  refine PE_imp (pe_callF (E := E0) ho hc F hr pass0 ha hst hpl ht) fun σ H Q ⟨En, q⟩ => ⟨En, fun v H1 s1 r1 => ?_⟩
  obtain ⟨a, dx, vs, rfl, sl, rr⟩ := id r1.ob_inv
  obtain ⟨v, e, r⟩ := rr.get hd
  obtain ⟨b, dx2, ws2, rfl, sl2, rr2⟩ := id r.ob_inv
  exact ⟨a, _, dx, p, _, n, b, rfl, sl, S.cl, hp, map_some_get e, En.mono s1, fun ws H2 s2 r2 => ⟨.inl ⟨dx2, _, slt_mono s2 sl2⟩, _, d, .cons (r.mono s2) r2, hR, fun v H' s3 rv => q v H' ((s1.trans s2).trans s3) rv⟩⟩
theorem xg_imp {X : Cx} {δ : De} {m : Ms} {d : Dt} {tg : Expr} {N N1 : De → Ms → Prop} (h : PG X tg (xG X.K δ m d N)) (i : ∀ δ' m', N δ' m' → N1 δ' m') : PG X tg (xG X.K δ m d N1) := ⟨fun pins s σ H v u Q I r ⟨M, E, rr, q⟩ => h.run pins s σ H v u Q I r ⟨M, E, rr, fun σ' δ' m' H' n => q σ' δ' m' H' (i _ _ n)⟩⟩
theorem Rf.self {F : Ms → List Dt → Rs → Prop} {m : Ms} {ds : List Dt} {T T' : Rs} (h : F m ds T') (i : ∀ d m', T' d m' → T d m') : Rf F m ds T := ⟨m, [], T', by rw [List.append_nil], h, fun d m' t => by rw [List.append_nil]; exact i d m' t⟩
def Fl.doD (s : Fl) : Deed → Fl
  | .rule p => { s with p := p }
  | .lay a => ({ s with laid := s.laid ++ [(a, s.p.truth (nums s.n s.m a.r a.i a.j))] } : Fl).bump a 1
  | .take a => ({ s with laid := s.laid.filter fun kv => decide (kv.1 ≠ a) } : Fl).bump a (-1)
structure Fl.szd (s : Fl) : Prop where
  ok : s.p.ok
  dp : s.p.deep < DP
  n : s.n ≤ 100
  m : s.m ≤ 100
  sun : s.sun.length < 1000
  moon : s.moon.length < 1000
  laid : s.laid.length < 1000
def Deed.okD (s : Fl) : Deed → Prop
  | .rule p => p.ok ∧ p.deep < DP
  | .lay a => a.r ≤ 1000 ∧ has s.laid a = false
  | .take a => a.r ≤ 1000 ∧ has s.laid a = true ∧ 1 ≤ cnt s.sun a.i ∧ 1 ≤ cnt s.moon a.j
theorem dtM_put {l : List (Mt × Bool)} {a : Mt} {b : Bool} (h : has l a = false) : putD (dtM l) a.k (.bool b) = dtM (l ++ [(a, b)]) := by
  unfold putD
  have e : ((dtM l).any fun kv => decide (kv.1 = a.k)) = false := by
    have hv := valD_dtM (a := a) (l := l)
    have hn : l.lookup a = none := by unfold has at h; cases z : l.lookup a with | none => rfl | some _ => rw [z] at h; cases h
    rw [hn] at hv
    unfold valD at hv
    cases z : ((dtM l).find? fun kv => decide (kv.1 = a.k)) with
    | some p => rw [z] at hv; cases hv
    | none =>
      rw [List.any_eq_false]
      intro kv hkv
      exact List.find?_eq_none.mp z kv hkv
  rw [e, if_neg (by decide)]
  unfold dtM; rw [List.map_append]; rfl
theorem dtM_drop {l : List (Mt × Bool)} {a : Mt} : dropD (dtM l) a.k = dtM (l.filter fun kv => decide (kv.1 ≠ a)) := by
  unfold dropD dtM
  rw [List.filter_map]
  congr 1
  apply List.filter_congr
  intro kv _
  exact decide_eq_decide.mpr ⟨fun h z => h (by show kv.1.k = a.k; rw [z]), fun h z => h (Mt.k_inj z)⟩
def rxDo : Ms → List Dt → Rs → Prop := fun m ds T => ∃ (f a b c : Addr) (s : Fl) (t : Deed), s.szd ∧ t.okD s ∧ m = flM f a b c s ∧ ds = [.r f, .p t.d] ∧ T = fun d m' => d = .n ∧ m' = flM f a b c (s.doD t)
theorem f8_Floor_do (T : Tx K mg) : FnR P w K mg base CX0 8 (ma K "Floor" "do") (spX K rxDo) :=
  fnR_X T.f_Floor_do sc_Floor_do bn_Floor_do (fun m ds T ⟨_, _, _, _, _, _, _, _, _, h, _⟩ => by rw [h]; rfl) fun cdv A outer s H E hr m ds R ⟨f, a, b, c, fl, t, hz, ho, h, h2, h3⟩ => by
    subst h h2 h3
    have hu := room_u hr
    have hu1 : (A.deeper (envOfC "Floor.do" (defScope st_Floor_do) s.heap.objs.size (ma K "Floor" "do") cdv)).units + 1 < cLine := by omega
    have nd := sc_Floor_do.nd
    have e3 : (dtM fl.laid).length < 1000 := by unfold dtM; rw [List.length_map]; exact hz.laid
    match t with
    | .rule p =>
      refine s_one (s_if (x_pureC (k := true) (c_eqv (c_eq hu sh_rule sh_rule (d_ixT (p := .str "rule") rfl (d_var 1 rfl) d_int) d_str) (by decide +kernel))) (fun m1 ⟨_, h⟩ => ?_) (fun m1 ⟨h, _⟩ => nomatch h))
      subst h
      exact s_one (s_asg (x_pure (d_smeth rfl T.g_Rule T.a_Rule_of T.f_Rule_of.kp (f7_Rule_of T) hr ⟨p, ho.1, ho.2, rfl, rfl⟩ (a_cons (d_ixT (p := p.data) rfl (d_var 1 rfl) d_int) a_nil)))
        fun d m1 ⟨h1, h2⟩ => by subst h1 h2; exact xg_imp (xg_fld T.s_Floor_floor_rule (x_var 0 rfl) (i := 0) rfl (by simp)) fun δ' m' ⟨h1, h2⟩ => ⟨rfl, h2⟩)
    | .lay t =>
      refine s_one (s_if (x_pureC (k := false) (c_eqv (c_eq hu sh_lay sh_rule (d_ixT (p := .str "lay") rfl (d_var 1 rfl) d_int) d_str) (by decide +kernel))) (fun m1 ⟨h, _⟩ => nomatch h) (fun m1 ⟨_, h⟩ => ?_))
      subst h
      refine s_one (s_if (x_pureC (k := true) (c_eqv (c_eq hu sh_lay sh_lay (d_ixT (p := .str "lay") rfl (d_var 1 rfl) d_int) d_str) (by decide +kernel))) (fun m1 ⟨_, h⟩ => ?_) (fun m1 ⟨h, _⟩ => nomatch h))
      subst h
      refine s_seq (x_pureS (n_asg (d_ixT (p := t.d) rfl (d_var 1 rfl) d_int) (g_tup (ps := [.int t.r, .int t.i, .int t.j]) rfl (gs_cons (g_name 2 nd rfl (.inl rfl)) (gs_cons (g_name 3 nd rfl (.inl rfl)) (gs_cons (g_name 4 nd rfl (.inl rfl)) gs_nil))) rfl))) fun δ1 m1 ⟨h1, h2⟩ => ?_
      subst h1 h2
      refine s_seq (N1 := fun δ' m' => δ' = [some (.r f), some (.p (Deed.lay t).d), some (.i t.r), some (.i t.i), some (.i t.j)] ∧ m' = flM f a b c { fl with laid := fl.laid ++ [(t, fl.p.truth (nums fl.n fl.m t.r t.i t.j))] })
        (s_putT (i := 3) (l := [(t.r : Int), t.i, t.j]) (q := .bool (fl.p.truth (nums fl.n fl.m t.r t.i t.j))) hu1 (x_look (Rsv.one 0 rfl (rs_fl 0 1 2 3 rfl rfl rfl rfl) .refl) rfl
          (d_callF T.s_Floor_floor_rule rfl T.o_call (f7_Rule_call T) hr ⟨fl.p, fl.n, fl.m, t.r, t.i, t.j, hz.ok, hz.dp, hz.n, hz.m, ho.1, rfl, rfl⟩ (d_var 0 rfl) (a_cons (d_var 2 rfl) (a_cons (d_var 3 rfl) (a_cons (d_var 4 rfl) (a_cons (d_fld T.s_Floor_floor_suns rfl (d_var 0 rfl)) (a_cons (d_fld T.s_Floor_floor_moons rfl (d_var 0 rfl)) a_nil)))))))
          (x_fld T.s_Floor_truths rfl (x_var 0 rfl) (i := 0) rfl) (x_pure (d_ixT (p := t.d) rfl (d_var 1 rfl) d_int)) (by simp) rfl e3 ⟨rfl, by rw [show ([(t.r : Int), t.i, t.j].map Sum.inl : List Key) = t.k from rfl, dtM_put ho.2]; rfl⟩) fun δ1 m1 ⟨h1, h2⟩ => ?_
      subst h1 h2
      exact s_one (s_expr (x_meth T.c_Floor T.m_Floor_counted ((f1_counted T).mono (by decide)) hr (x_var 0 rfl) (i := 0) rfl (x_pureA (a_cons (d_ixT (p := t.d) rfl (d_var 1 rfl) d_int) (a_cons d_int a_nil)))
        fun ds m1 ⟨h1, h2⟩ => by subst h1 h2; exact Rf.self ⟨f, a, b, c, { fl with laid := fl.laid ++ [(t, fl.p.truth (nums fl.n fl.m t.r t.i t.j))] }, t, 1, by omega, by omega, hz.sun, hz.moon, rfl, rfl, rfl⟩ fun d m' ⟨h1, h2⟩ => ⟨rfl, h2⟩))
    | .take t =>
      refine s_one (s_if (x_pureC (k := false) (c_eqv (c_eq hu sh_take sh_rule (d_ixT (p := .str "take") rfl (d_var 1 rfl) d_int) d_str) (by decide +kernel))) (fun m1 ⟨h, _⟩ => nomatch h) (fun m1 ⟨_, h⟩ => ?_))
      subst h
      refine s_one (s_if (x_pureC (k := false) (c_eqv (c_eq hu sh_take sh_lay (d_ixT (p := .str "take") rfl (d_var 1 rfl) d_int) d_str) (by decide +kernel))) (fun m1 ⟨h, _⟩ => nomatch h) (fun m1 ⟨_, h⟩ => ?_))
      subst h
      obtain ⟨v, hv⟩ : ∃ v, fl.laid.lookup t = some v := Option.isSome_iff_exists.mp ho.2.1
      refine s_seq (N1 := fun δ' m' => δ' = [some (.r f), some (.p (Deed.take t).d), none, none, none] ∧ m' = flM f a b c { fl with laid := fl.laid.filter fun kv => decide (kv.1 ≠ t) })
        (s_expr (x_imp (x_dpop (i := 3) (l := [(t.r : Int), t.i, t.j]) (q := .bool v) hu1 (x_fld T.s_Floor_truths rfl (x_var 0 rfl) (i := 0) rfl) rfl (x_pure (d_ixT (p := t.d) rfl (d_var 1 rfl) d_int)) (by simp) (by rw [show ([(t.r : Int), t.i, t.j].map Sum.inl : List Key) = t.k from rfl, valD_dtM, hv]; rfl))
          fun d m' ⟨_, h⟩ => ⟨rfl, by rw [h, show ([(t.r : Int), t.i, t.j].map Sum.inl : List Key) = t.k from rfl, dtM_drop]; rfl⟩)) fun δ1 m1 ⟨h1, h2⟩ => ?_
      subst h1 h2
      exact s_one (s_expr (x_meth T.c_Floor T.m_Floor_counted ((f1_counted T).mono (by decide)) hr (x_var 0 rfl) (i := 0) rfl (x_pureA (a_cons (d_ixT (p := t.d) rfl (d_var 1 rfl) d_int) (a_cons (d_neg d_int) a_nil)))
        fun ds m1 ⟨h1, h2⟩ => by subst h1 h2; exact Rf.self ⟨f, a, b, c, { fl with laid := fl.laid.filter fun kv => decide (kv.1 ≠ t) }, t, -1, by have := ho.2.2.1; show 0 ≤ (cnt fl.sun t.i : Int) + -1; omega, by have := ho.2.2.2; show 0 ≤ (cnt fl.moon t.j : Int) + -1; omega, hz.sun, hz.moon, rfl, rfl, rfl⟩ fun d m' ⟨h1, h2⟩ => ⟨rfl, h2⟩))
end Pr
set_option maxHeartbeats 4000000
/-! Wt: new objects that change: __init__ bodies over a memory, calls of the class. -/
namespace Pr
open PySem PySem.Spec PyProof.Rows L2
def putO (i : Nat) (d : Dt) (os : List Dt) : List Dt := (os ++ List.replicate (i + 1 - os.length) (Dt.tu [])).set i (Dt.tu [d])
section
variable {K : PySem.W.Frag} {H : Hp} {v : V} {d : Dt}
theorem RpO.length : ∀ {vs : List (Option V)} {ds : List Dt}, RpO K H vs ds → vs.length = ds.length
  | _, _, .nil => rfl
  | _, _, .no h => congrArg (· + 1) (RpO.length h)
  | _, _, .yes _ h => congrArg (· + 1) (RpO.length h)
theorem RpO.reps : ∀ n : Nat, RpO K H (List.replicate n none) (List.replicate n (.tu []))
  | 0 => .nil
  | n + 1 => .no (RpO.reps n)
theorem RpO.app {a : List (Option V)} {b : List Dt} {x : List (Option V)} {y : List Dt} (h : RpO K H a b) (g : RpO K H x y) : RpO K H (a ++ x) (b ++ y) := by
  induction h with
  | nil => exact g
  | no _ ih => exact .no ih
  | yes r _ ih => exact .yes r ih
theorem RpO.set (r : Rp K H v d) : ∀ (i : Nat) {vs : List (Option V)} {ds : List Dt}, RpO K H vs ds → RpO K H (vs.set i (some v)) (ds.set i (.tu [d]))
  | _, _, _, .nil => .nil
  | 0, _, _, .no h => .yes r h
  | 0, _, _, .yes _ h => .yes r h
  | i + 1, _, _, .no h => .no (RpO.set r i h)
  | i + 1, _, _, .yes q h => .yes q (RpO.set r i h)
theorem RpO.put {vs : List (Option V)} {ds : List Dt} (h : RpO K H vs ds) (r : Rp K H v d) (i : Nat) : RpO K H (SlX.putS i v vs) (putO i d ds) := by
  unfold SlX.putS putO
  rw [h.length]
  exact RpO.set r i (h.app (.reps _))
theorem RpO.full : ∀ {fs : List Dt} {vs : List (Option V)}, RpO K H vs (fs.map fun d => Dt.tu [d]) → ∃ us, vs = us.map some ∧ RpAll K H us fs
  | [], _, .nil => ⟨[], rfl, .nil⟩
  | f :: fs, _, .yes r h => by
    obtain ⟨us, e, rr⟩ := RpO.full h
    exact ⟨_ :: us, by rw [e]; rfl, .cons r rr⟩
def putL (l : List Nat) (ds : List Dt) (os : List Dt) : List Dt := (l.zip ds).foldl (fun os p => putO p.1 p.2 os) os
theorem RpO.puts : ∀ {l : List Nat} {vs : List V} {ds : List Dt} {ws : List (Option V)} {os : List Dt}, RpO K H ws os → RpAll K H vs ds → RpO K H ((l.zip vs).foldl (fun ws p => SlX.putS p.1 p.2 ws) ws) (putL l ds os)
  | [], _, _, _, _, h, _ => by simp only [putL, List.zip_nil_left, List.foldl_nil]; exact h
  | i :: l, _, _, _, _, h, .nil => by simp only [putL, List.zip_nil_right, List.foldl_nil]; exact h
  | i :: l, _, _, _, _, h, .cons r t => by
    simp only [putL, List.zip_cons_cons, List.foldl_cons]
    exact RpO.puts (h.put r i) t
end
section
variable {X : Cx} {K : PySem.W.Frag} {H H' : Hp} {δ δ1 δ2 δ' : De} {m m' m1 m2 : Ms} {T T1 T2 : Rs} {A A1 A2 : List Dt → Ms → Prop} {R R1 : Rs} {st : Stmt} {body rest els : List Stmt} {a b c e o tg iter value : Expr} {es : List Expr} {d d1 d2 d0 : Dt} {ds fs os : List Dt} {q : PyData} {ps : List PyData} {i : Nat} {pos p apos cpos pos' : Pos} {cn : Str} {ad f g x : Addr}
theorem mem_done (M : Mem K H m) (hi : m[i]? = some (ad, .tu (.s cn :: fs.map fun d => Dt.tu [d]))) : Mem K H (m.set i (ad, .ob cn fs)) ∧ dm (m.set i (ad, .ob cn fs)) = dm m := by
  have hd : dm (m.set i (ad, .ob cn fs)) = dm m := dm_set hi
  refine ⟨⟨by rw [hd]; exact M.nd, fun p hp => ?_⟩, hd⟩
  rw [hd]
  obtain ⟨j, hj⟩ := List.getElem?_of_mem hp
  rw [List.getElem?_set] at hj
  by_cases e : i = j
  · subst e
    obtain ⟨h1, _⟩ := List.getElem?_eq_some_iff.mp hi
    simp only [if_true, if_pos h1] at hj
    cases hj
    obtain ⟨dx, ws, z1, z2, z3⟩ := M.at hi
    obtain ⟨us, e, rr⟩ := z3.full
    subst e
    exact ⟨dx, us, z1, z2, rr⟩
  · rw [if_neg e] at hj
    exact M.at hj
/-- a slot of an object that is being made -/
theorem xg_fldP {fn : Str} {j : Nat} (S : SlF X.K cn fn j) (ho : PE X o (xE X.K δ m fun d' m' => d' = .r ad ∧ m' = m)) (hi : m[i]? = some (ad, .tu (.s cn :: os))) : PG X (.Attribute o fn pos) (xG X.K δ m d fun δ' m' => δ' = δ ∧ m' = m.set i (ad, .tu (.s cn :: putO j d os))) := by
  obtain ⟨p, hp⟩ := S.sl
  refine ⟨fun pins s σ H v u Q I r ⟨M, E, rr, q⟩ => (pg_sl ho).run pins s σ H v u Q I r ⟨M, E, fun x d' m' H1 ⟨e1, e2⟩ M1 c1 r1 => ?_⟩⟩
  subst e1 e2
  cases r1
  obtain ⟨dx, vs, h1, h2, h3⟩ := M1.at hi
  have ne : dx ≠ ad := fun z => by
    rw [z, mn_in (dm_of hi)] at h2; cases h2
  refine ⟨ad, _, dx, p, vs, j, rfl, .inr ⟨h1, mn_same _ _ _ _ h2⟩, S.cl, hp, ?_⟩
  have e : SlX.slH H1 ad (ga X.K cn) dx (SlX.putS j v vs) = upd H1 ad (SlX.SlO ad (ga X.K cn) dx (SlX.putS j v vs)) := by
    unfold SlX.slH
    funext b
    by_cases z : b = ad
    · subst z; rw [upd_same, upd_same]
    · rw [upd_ne z, upd_ne z]
      by_cases y : b = dx
      · subst y; rw [upd_same]; exact (mn_same _ _ _ _ h2).symm
      · rw [upd_ne y]
  rw [e]
  obtain ⟨M4, c4⟩ := mem_set (d := .tu (.s cn :: putO j d os)) M1 hi (u := SlX.SlO ad (ga X.K cn) dx (SlX.putS j v vs)) ⟨dx, _, upd_same, h2, h3.put (rr.mono c1) j⟩
  exact q σ δ _ _ ⟨rfl, rfl⟩ M4 (c1.trans c4) (E.mono (c1.trans c4))
/-- an __init__ body's rest, no slot yet set; N tells of the memory at the end -/
def jX (K : PySem.W.Frag) (c : Str) (δ : De) (N : Addr → Ms → Prop) : TS := fun D σ H => ∃ x dx, Ini K c δ x dx σ H ∧ ∀ σ' m' H', N x m' → Mem K H' m' → Same (mn H [x, dx]) (mn H' (dm m')) → D.nx σ' H'
variable {N : Addr → Ms → Prop} {k : Bool} {is : List Nat} {δw : De}
theorem ix_if (hc : PT X e (cD X.K δ false)) (hr : PSs X rest (jX X.K cn δ N)) : PSs X (.If e body [] pos :: rest) (jX X.K cn δ N) :=
  PSs_imp (pss_cons (PS_frame (k_ifno hc)) hr) fun D σ H ⟨x, dx, I, q⟩ => ⟨[x, dx], fo_bare I.hx I.hd, I.env, fun H1 s => ⟨s, fun H' b => ⟨x, dx, I.bh b (I.env.mono s) rfl, fun σ2 m2 H2 n M c2 => q σ2 m2 H2 n M (Same.trans b.chg c2)⟩⟩⟩
theorem ix_loop (h : PS X st (aS X.K δ δw is)) (h0 : 0 ∉ is) (hr : PSs X rest (jX X.K cn δw N)) : PSs X (st :: rest) (jX X.K cn δ N) :=
  PSs_imp (pss_cons (PS_frame h) hr) fun D σ H ⟨x, dx, I, q⟩ => ⟨[x, dx], fo_bare I.hx I.hd, I.env, fun σ' H1 s E ag => ⟨s, fun H' b => ⟨x, dx, I.bh b E (ag.2 0 h0), fun σ2 m2 H2 n M c2 => q σ2 m2 H2 n M (Same.trans b.chg c2)⟩⟩⟩
/-- self.f1, self.f2, .. = e1, e2, ..: the first slots -/
theorem ix_first {ts : List Expr} {l : List Nat} {kt n : Nat} {k2 : Nat} {pt pt2 : Pos} (hc : X.calm = true) (ha : PA X es (xA X.K δ [] A)) (hA : ∀ ds m1, A ds m1 → ds.length = l.length ∧ ds.length = n ∧ ds.length ≤ 1000) (hg : PGs X ts (gFs X.K cn l)) (hl : l ≠ []) (h00 : δ[0]? = some none)
    (hr : ∀ x ds m1, A ds m1 → PSs X rest (xS X.K (δ.set 0 (some (.r x))) ((x, .tu (.s cn :: putL l ds [])) :: m1) (fun _ m' => N x m') fun _ _ => False))
    (hs : swapsWithSole [.Tuple ts kt pt] (.Tuple es k2 pt2) pos.line X.env = pure false := by rfl) (hw : swappedStores [.Tuple ts kt pt] (.Tuple es k2 pt2) X.env = pure none := by rfl)
    (h1 : (assignEach [.Tuple ts kt pt] X.env).map (·.2) = [assign (.Tuple ts kt pt) X.env] := by rfl) (hn2 : (assignEach ts X.env).length = n := by rfl) (hst : (assignEach ts X.env).findIdx? (·.1) = none := by rfl) :
    PSs X (.Assign [.Tuple ts kt pt] (.Tuple es k2 pt2) pos :: rest) (jX X.K cn δ N) :=
  PSs_imp (pss_cons (ps_asg (pe_tup (PA_frame ha)) (pg_tup hc hg hn2 hst) hs hw h1) (pss_ex (W := fun i : Addr × List Dt × Ms => A i.2.1 i.2.2) fun i w => hr i.1 i.2.1 i.2.2 w)) fun D σ H ⟨x, dx, I, q⟩ => ⟨[x, dx], fo_bare I.hx I.hd, ⟨List.nodup_nil, fun _ z => nomatch z⟩, by rw [show dm ([] : Ms) = [] from rfl, mn_nil]; exact I.env, fun vs ds m1 H1 hA1 M1 c1 r1 => by
    rw [show dm ([] : Ms) = [] from rfl] at c1
    have c1' : Same (mn H [x, dx]) (mn H1 (dm m1)) := by have := c1; unfold Chg at this; rw [mn_nil] at this; exact this
    refine ⟨c1'.trans (mn_same _ _), fun H' b => ?_⟩
    obtain ⟨l1, l2, l3⟩ := hA ds m1 hA1
    have el := r1.length
    refine ⟨Evl.sz_of (by omega), fun p hp => ?_⟩
    have nx : p ≠ x := fun e => by rw [e, b.at (by simp), I.hx] at hp; cases hp
    have nd : p ≠ dx := fun e => by rw [e, b.at (by simp), I.hd] at hp; cases hp
    have hp1 : H1 p = none := by rw [← b.mn, mn_out (by simp [nx, nd])]; exact hp
    have hx1 : H1 x = none := b.non x (by simp)
    have hd1 : H1 dx = none := b.non dx (by simp)
    refine ⟨p, vs, rfl, SqT.of upd_same, by omega, x, dx, [], I.s0, I.ne, .inl ⟨by rw [upd_ne (Ne.symm nx), b.at (by simp)]; exact I.hx, rfl⟩, by omega, hl, (x, ds, m1), hA1, ?_⟩
    generalize hW : (l.zip vs).foldl (fun ws p => SlX.putS p.1 p.2 ws) [] = W
    have n1 : x ∉ dm m1 := fun z => by obtain ⟨o, h⟩ := M1.has z; rw [hx1] at h; cases h
    have n2 : dx ∉ dm m1 := fun z => by obtain ⟨o, h⟩ := M1.has z; rw [hd1] at h; cases h
    have up : ∀ y u, H1 y = some u → SlX.slH (upd H' p (.tup vs)) x (ga X.K cn) dx W y = some u := fun y u h => by
      have y1 : y ≠ x := fun e => by rw [e, hx1] at h; cases h
      have y2 : y ≠ dx := fun e => by rw [e, hd1] at h; cases h
      have y3 : y ≠ p := fun e => by rw [e, hp1] at h; cases h
      rw [SlX.slH_ne y1 y2, upd_ne y3]
      rw [← b.mn] at h
      exact mn_same _ _ _ _ h
    have sm : Same (mn H1 (dm m1)) (mn (SlX.slH (upd H' p (.tup vs)) x (ga X.K cn) dx W) (x :: dm m1)) := fun y u h => by
      have y1 : y ∉ dm m1 := fun z => by rw [mn_in z] at h; cases h
      rw [mn_out y1] at h
      have y2 : y ≠ x := fun e => by rw [e, hx1] at h; cases h
      rw [mn_out (by simp [y2]; simpa using y1)]
      exact up y u h
    have hdx : mn (SlX.slH (upd H' p (.tup vs)) x (ga X.K cn) dx W) (x :: dm m1) dx = some (.xd []) := by
      rw [mn_out (by simp [I.ne]; simpa using n2)]
      unfold SlX.slH
      rw [upd_ne I.ne, upd_same]
    have M2 : Mem X.K (SlX.slH (upd H' p (.tup vs)) x (ga X.K cn) dx W) ((x, .tu (.s cn :: putL l ds [])) :: m1) := by
      refine ⟨List.nodup_cons.mpr ⟨n1, M1.nd⟩, fun z hz => ?_⟩
      show MO X.K _ (mn _ (x :: dm m1)) z.1 z.2
      rcases List.mem_cons.mp hz with hz | hz
      · subst hz
        exact ⟨dx, W, upd_same, hdx, by have := RpO.puts (l := l) .nil (r1.mono sm); rw [hW] at this; exact this⟩
      · have hz1 : z.1 ∈ dm m1 := List.mem_map.mpr ⟨z, hz, rfl⟩
        obtain ⟨o, ho⟩ := M1.has hz1
        exact (M1.all z hz).mono ((up _ _ ho).trans ho.symm) sm
    have c2 : Same (mn H [x, dx]) (mn (SlX.slH (upd H' p (.tup vs)) x (ga X.K cn) dx W) (x :: dm m1)) := c1'.trans sm
    refine ⟨M2, ?_, fun σ' δ' m' H3 n M3 c3 E3 => q σ' m' H3 n M3 (Same.trans c2 c3), fun v d m' H3 z => z.elim⟩
    exact ((I.env.mono c2).put I.s0 (.r x))⟩
end
section
variable {P : Program} {w : World} {K : PySem.W.Frag} {mg : Str → Option Value} {base : Heap} {k : Nat} {f : Addr} {qual c : Str} {st : Stmt} {N ps : List Str}
/-- an __init__ that makes an object that changes -/
def spIX (K : PySem.W.Frag) (c : Str) (F : List Dt → (Addr → Ms → Prop) → Prop) : Sp := fun vs H Q _ => ∃ x dx ws ds T, vs = .ref x :: ws ∧ H x = some (.ins (ga K c) dx []) ∧ H dx = some (.own x) ∧ dx ≠ x ∧ RpAll K (mn H [x, dx]) ws ds ∧ F ds T ∧ ∀ m' H', T x m' → Mem K H' m' → Same (mn H [x, dx]) (mn H' (dm m')) → Q .non H'
theorem fnR_IX {R : List Dt → (Addr → Ms → Prop) → Prop} (F : FnAt K qual st f) (S : FnScope N ps (defScope st)) (B : BindAt st ps) (hl : ∀ ds T, R ds T → ds.length + 1 = ps.length)
    (hbody : ∀ (cdv : Value) (A : Around) (outer : List Env) (s : Shared) (H : Hp) (E : XK), Room k (A.deeper (envOfC qual (defScope st) s.heap.objs.size f cdv)) → ∀ ds T, R ds T →
      PSs (cxOf CX0 P w K mg base N qual (defScope st) f cdv A outer s H E).nox (defBody st) (jX K c (none :: (ds.map some ++ List.replicate (N.length - 1 - ds.length) none)) fun x m' => ∃ i fs m'', m'[i]? = some (x, .tu (.s c :: fs.map fun d => Dt.tu [d])) ∧ (m'.set i (x, .ob c fs)).Perm m'' ∧ T x m'')) : FnR P w K mg base CX0 (k + 1) f (spIX K c R) := by
  refine fnR_of F S B (fun vs H Q E ⟨x, dx, ws, ds, T, e, _, _, _, r, h, _⟩ => by rw [e, List.length_cons, r.length]; exact hl ds T h) fun cdv A outer s H vs Q E hr ⟨x, dx, ws, ds, T, e, h1, h2, ne, r, h, q⟩ => ⟨_, (hbody cdv A outer s H E hr ds T h).nox, ?_⟩
  have hpl : ps.length ≤ N.length := by have := congrArg List.length S.pre; rw [List.length_take] at this; omega
  have hh := hl ds T h
  have el := r.length
  subst e
  refine ⟨x, dx, ⟨rfl, h1, h2, ne, ?_⟩, fun σ' m' H' ⟨i, fs, m2, hi, pp, t⟩ M c => ?_⟩
  · have hlen : (V.ref x :: ws).length ≤ N.length := by rw [List.length_cons, el]; omega
    have e0 := envD_start (K := K) (H := mn H [x, dx]) (N := N) (vs := V.ref x :: ws) (ds := Dt.r x :: ds) (.cons (.r x) r) hlen
    have e1 := e0.forget 0
    have : ((Dt.r x :: ds).map some ++ List.replicate (N.length - (Dt.r x :: ds).length) none).set 0 none = none :: (ds.map some ++ List.replicate (N.length - 1 - ds.length) none) := by
      simp only [List.map_cons, List.cons_append, List.set_cons_zero, List.length_cons]
      congr 3
      omega
    rw [this] at e1
    exact e1
  · obtain ⟨M', hd⟩ := mem_done M hi
    exact q _ H' t (M'.perm pp) (by rw [← mn_perm (perm_dm pp), hd]; exact c)
end
section
variable {X : Cx} {δ : De} {m : Ms} {k : Nat} {g : Addr} {c : Str} {p pos : Pos} {e : Expr} {es : List Expr} {ds : List Dt} {T : Rs} {A : List Dt → Ms → Prop}
theorem x_make {F : List Dt → (Addr → Ms → Prop) → Prop} (M : Mk X.K (ga X.K c) g) (hF : FnR X.prog X.w X.K X.mg X.base CX0 k g (spIX X.K c F)) (hr : Room (k + 1) X.A) (hg : Gl X c) (hm : X.mg c = some (.ref (ga X.K c))) (ha : PA X (e :: es) (xA X.K δ m A)) (hR : ∀ ds m1, A ds m1 → ∃ T', F ds T' ∧ ∀ x ma, T' x ma → T (.r x) (ma ++ m1)) (hdb : (c == ("__debug__" : Str)) = false := by decide)
    (he : starEach (e :: es) X.env = (false, eval e X.env) :: starEach es X.env := by rfl) (hpl : (backTo pos (starEach es X.env)).any (·.1) = false := by rfl) : PE X (.Call (.Name c p) (e :: es) [] pos) (xE X.K δ m T) :=
  PE_imp (StX.pe_makeR (E := E0) M (fnR_frame hF) hr hg hm pass0 ha hdb he hpl) fun σ H Q ⟨Me, E, z⟩ => ⟨Me, E, fun vs ds' m' H1 aa M1 c1 r1 x dx h1 h2 hne => by
    obtain ⟨T', hR, ht⟩ := hR ds' m' aa
    have nx : x ∉ dm m' := fun z => by obtain ⟨o, h⟩ := M1.has z; rw [h1] at h; cases h
    have nd : dx ∉ dm m' := fun z => by obtain ⟨o, h⟩ := M1.has z; rw [h2] at h; cases h
    have s1 : Same H1 (upd (upd H1 dx (.own x)) x (.ins (ga X.K c) dx [])) := (same_new h2).trans (same_new (by rw [upd_ne (Ne.symm hne)]; exact h1))
    have M2 := M1.same s1
    have e3 : ∀ H3 : Hp, mn (mn H3 (dm m')) [x, dx] = mn (mn H3 [x, dx]) (dm m') := fun H3 => by rw [mn_mn, mn_mn]; exact mn_perm fun a => by simp only [List.mem_append]; exact Or.comm
    have s2 : Same (mn H1 (dm m')) (mn (mn (upd (upd H1 dx (.own x)) x (.ins (ga X.K c) dx [])) (dm m')) [x, dx]) := by
      rw [e3]
      exact same_mn (mn_made h1 h2)
    refine ⟨dm m', M2.fo, x, dx, vs, ds', T', rfl, by rw [mn_out nx, upd_same], by rw [mn_out nd, upd_ne hne, upd_same], hne, r1.mono s2, hR, fun m1 H3 t M3 c3 H' b => ⟨rfl, ?_⟩⟩
    have a1 : ∀ y u, H1 y = some u → mn (upd (upd H1 dx (.own x)) x (.ins (ga X.K c) dx [])) [x, dx] y = some u := mn_made h1 h2
    have M4 : Mem X.K (mn (upd (upd H1 dx (.own x)) x (.ins (ga X.K c) dx [])) [x, dx]) ([] ++ m') := M1.same a1
    have ej : jn (mn (upd (upd H1 dx (.own x)) x (.ins (ga X.K c) dx [])) [x, dx]) (dm m') H3 = H' := by
      rw [b.is]
      funext y
      by_cases hy : y ∈ dm m'
      · have y1 : y ≠ x := fun e => nx (e ▸ hy)
        have y2 : y ≠ dx := fun e => nd (e ▸ hy)
        rw [jn_in hy, jn_in hy, mn_out (by simp [y1, y2])]
      · rw [jn_out hy, jn_out hy]
    obtain ⟨j1, j2⟩ := Mem.join M4 M3 b.non (by
      show Same (mn (mn _ (dm m')) (dm ([] : Ms))) (mn H3 (dm m1))
      rw [show dm ([] : Ms) = [] from rfl, mn_nil, ← e3]
      exact c3)
    rw [ej] at j1 j2
    refine z _ _ _ H' (ht x m1 t) j1 (c1.trans ?_) (.r x)
    show Same (mn H1 (dm m')) (mn H' (dm (m1 ++ m')))
    rw [j2]
    exact s2.trans c3⟩
end
end Pr
set_option maxHeartbeats 4000000
/-! Wu: several targets at once; more expressions over a memory. -/
namespace Pr
open PySem PySem.Spec PyProof.Rows L2
def xGs (K : PySem.W.Frag) (δ : De) (m : Ms) (ds : List Dt) (N : De → Ms → Prop) : TGs := fun vs σ H Q => Mem K H m ∧ EnvD K σ (mn H (dm m)) δ ∧ RpAll K (mn H (dm m)) vs ds ∧ ∀ σ' δ' m' H', N δ' m' → Mem K H' m' → Chg H (dm m) H' (dm m') → EnvD K σ' (mn H' (dm m')) δ' → Q σ' H'
section
variable {X : Cx} {δ δ1 δ2 δ' : De} {m m' m1 m2 : Ms} {T T1 T2 : Rs} {A A1 A2 : List Dt → Ms → Prop} {N N1 N2 : De → Ms → Prop} {R R1 : Rs} {st : Stmt} {body rest els : List Stmt} {a b c e o tg iter value : Expr} {es ts : List Expr} {d d1 d2 d0 : Dt} {ds fs os : List Dt} {q : PyData} {ps : List PyData} {i k : Nat} {pos p apos cpos pos' : Pos} {cn : Str} {ad f g x : Addr}
theorem xa_d (h : PE X e (xE X.K δ m fun d' m' => d' = d ∧ m' = m)) (hr : PA X es (xA X.K δ m fun d' m' => d' = ds ∧ m' = m)) (hs : starEach (e :: es) X.env = (false, eval e X.env) :: starEach es X.env := by rfl) : PA X (e :: es) (xA X.K δ m fun d' m' => d' = d :: ds ∧ m' = m) :=
  xa_imp (xa_cons (B := fun _ _ d' m' => d' = ds ∧ m' = m) h (fun d1 m1 h2 => by obtain ⟨_, h2⟩ := h2; rw [h2]; exact hr) hs) fun ds' m' h => by
    obtain ⟨d1, m1, r, ⟨h1, h2⟩, ⟨h3, h4⟩, h5⟩ := h
    exact ⟨by rw [h5, h1, h3], h4⟩
theorem xa_dc (h : PE X e (xE X.K δ m fun d' m' => d' = d ∧ m' = m)) (hr : PA X es (xA X.K δ m A)) (hs : starEach (e :: es) X.env = (false, eval e X.env) :: starEach es X.env := by rfl) : PA X (e :: es) (xA X.K δ m fun ds' m' => ∃ r, A r m' ∧ ds' = d :: r) :=
  xa_imp (xa_cons (B := fun _ _ d' m' => A d' m') h (fun d1 m1 h2 => by obtain ⟨_, h2⟩ := h2; rw [h2]; exact hr) hs) fun ds' m' h => by
    obtain ⟨d1, m1, r, ⟨h1, h2⟩, h3, h5⟩ := h
    exact ⟨r, h3, by rw [h5, h1]⟩
theorem range_get {α : Type} : ∀ l : List α, (List.range l.length).filterMap (fun i => l[i]?) = l
  | [] => rfl
  | x :: l => by
    rw [List.length_cons, List.range_succ_eq_map, List.filterMap_cons]
    simp only [List.getElem?_cons_zero, List.filterMap_map]
    rw [show ((fun i => (x :: l)[i]?) ∘ Nat.succ) = fun i => l[i]? from funext fun i => List.getElem?_cons_succ, range_get l]
/-- the same entries in another order -/
theorem pm {α : Type} {l l' : List α} (n : Nat) (is : List Nat) (hl : l.length = n) (e : is.filterMap (fun i => l[i]?) = l') (h : is.isPerm (List.range n) = true := by decide) : l.Perm l' := by
  subst hl
  have p := (List.isPerm_iff.mp h).filterMap fun i => l[i]?
  rw [range_get, e] at p
  exact p.symm
/-- a part of the memory is all that is told of from now on -/
theorem Mem.drop {K : PySem.W.Frag} {H : Hp} (M : Mem K H (m1 ++ m2)) : Mem K H m1 ∧ Same (mn H (dm (m1 ++ m2))) (mn H (dm m1)) := by
  have s : Same (mn H (dm (m1 ++ m2))) (mn H (dm m1)) := by rw [mn_app2]; exact mn_same _ _
  have nd := M.nd
  rw [dm_append, List.nodup_append] at nd
  exact ⟨⟨nd.1, fun p hp => (M.all p (List.mem_append_left _ hp)).mono rfl s⟩, s⟩
theorem Mem.sub {K : PySem.W.Frag} {H : Hp} (M : Mem K H m) (p : m.Perm (m1 ++ m2)) : Mem K H m1 ∧ Same (mn H (dm m)) (mn H (dm m1)) := by
  obtain ⟨a, b⟩ := (M.perm p).drop
  exact ⟨a, by rw [mn_perm (perm_dm p)]; exact b⟩
theorem x_shift (h : PE X e (xE X.K δ m T)) (i : ∀ d m', T d m' → ∃ m2 r, m'.Perm (m2 ++ r) ∧ T1 d m2) : PE X e (xE X.K δ m T1) := PE_imp h fun σ H Q ⟨M, E, q⟩ => ⟨M, E, fun v d m' H' t M' c r => by
  obtain ⟨m2, rr, pp, t1⟩ := i d m' t
  obtain ⟨M2, s2⟩ := M'.sub pp
  exact q v d m2 H' t1 M2 (Same.trans c s2) (r.mono s2)⟩
theorem s_shift (h : PS X st (xS X.K δ m N R)) (i : ∀ δ' m', N δ' m' → ∃ δ2 m2 r, m'.Perm (m2 ++ r) ∧ N1 δ2 m2 ∧ ∀ σ H, EnvD X.K σ H δ' → EnvD X.K σ H δ2) : PS X st (xS X.K δ m N1 R) := PS_imp h fun D σ H ⟨M, E, q, r⟩ => ⟨M, E, fun σ' δ' m' H' t M' c E' => by
  obtain ⟨δ2, m2, rr, pp, t1, w⟩ := i δ' m' t
  obtain ⟨M2, s2⟩ := M'.sub pp
  exact q σ' δ2 m2 H' t1 M2 (Same.trans c s2) (w _ _ (E'.mono s2)), r⟩
theorem ss_shift (h : PSs X body (xS X.K δ m N R)) (i : ∀ δ' m', N δ' m' → ∃ δ2 m2 r, m'.Perm (m2 ++ r) ∧ N1 δ2 m2 ∧ ∀ σ H, EnvD X.K σ H δ' → EnvD X.K σ H δ2) : PSs X body (xS X.K δ m N1 R) := PSs_imp h fun D σ H ⟨M, E, q, r⟩ => ⟨M, E, fun σ' δ' m' H' t M' c E' => by
  obtain ⟨δ2, m2, rr, pp, t1, w⟩ := i δ' m' t
  obtain ⟨M2, s2⟩ := M'.sub pp
  exact q σ' δ2 m2 H' t1 M2 (Same.trans c s2) (w _ _ (E'.mono s2)), r⟩
theorem pgs_ex {ι : Type} {W : ι → Prop} {t : ι → TGs} (h : ∀ i, W i → PGs X es (t i)) : PGs X es (fun v σ H Q => ∃ i, W i ∧ t i v σ H Q) := ⟨fun pins s σ H v u Q I r ⟨i, w, q⟩ => (h i w).run pins s σ H v u Q I r q⟩
theorem xgs_nil (h : N δ m) : PGs X [] (xGs X.K δ m [] N) := PGs_imp pgs_nil fun vs σ H Q ⟨M, E, r, q⟩ => by
  cases r
  exact ⟨rfl, q σ δ m H h M .refl E⟩
theorem xgs_cons (h1 : PG X e (xG X.K δ m d N1)) (h2 : ∀ δ1 m1, N1 δ1 m1 → PGs X es (xGs X.K δ1 m1 ds N)) (hs : (assignEach (e :: es) X.env).map (·.2) = assign e X.env :: (assignEach es X.env).map (·.2) := by rfl) : PGs X (e :: es) (xGs X.K δ m (d :: ds) N) :=
  PGs_imp (pgs_cons h1 (pgs_ex (W := fun i : De × Ms => N1 i.1 i.2) fun i w => h2 i.1 i.2 w) hs) fun vs σ H Q ⟨M, E, r, q⟩ => by
    cases r with
    | cons r1 r2 => exact ⟨_, _, rfl, M, E, r1, fun σ1 δ1 m1 H1 n1 M1 c1 E1 => ⟨(δ1, m1), n1, M1, E1, r2.mono c1, fun σ' δ' m' H' n M' c' E' => q σ' δ' m' H' n M' (c1.trans c') E'⟩⟩
theorem xg_name (i : Nat) {x : Str} (hN : X.N.Nodup) (hi : X.N[i]? = some x) (hx : Loc X.env.scope x) (hf : X.fn x = true ∨ X.env.scope.names.lookup x = some .local := by first | exact .inl rfl | exact .inr rfl | assumption) :
    PG X (.Name x pos) (xG X.K δ m d fun δ' m' => δ' = δ.set i (some d) ∧ m' = m) := xg_of (g_name i hN hi hx hf)
/-- a, b, .. = e1, e2, .. -/
theorem s_asgT {kt n k2 : Nat} {pt pt2 : Pos} (hc : X.calm = true) (ha : PA X es (xA X.K δ m A)) (hA : ∀ ds m1, A ds m1 → ds.length = n ∧ ds.length ≤ 1000) (hg : ∀ ds m1, A ds m1 → PGs X ts (xGs X.K δ m1 ds N))
    (hs : swapsWithSole [.Tuple ts kt pt] (.Tuple es k2 pt2) pos.line X.env = pure false := by rfl) (hw : swappedStores [.Tuple ts kt pt] (.Tuple es k2 pt2) X.env = pure none := by rfl)
    (h1 : (assignEach [.Tuple ts kt pt] X.env).map (·.2) = [assign (.Tuple ts kt pt) X.env] := by rfl) (hn2 : (assignEach ts X.env).length = n := by rfl) (hst : (assignEach ts X.env).findIdx? (·.1) = none := by rfl) :
    PS X (.Assign [.Tuple ts kt pt] (.Tuple es k2 pt2) pos) (xS X.K δ m N R) :=
  PS_imp (ps_asg (pe_tup ha) (pg_tup hc (pgs_ex (W := fun i : List Dt × Ms => A i.1 i.2) fun i w => hg i.1 i.2 w) hn2 hst) hs hw h1) fun D σ H ⟨M, E, q, _⟩ => ⟨M, E, fun vs ds m1 H1 hA1 M1 c1 r1 => by
    obtain ⟨l1, l2⟩ := hA ds m1 hA1
    have el := r1.length
    refine ⟨Evl.sz_of (by omega), fun p hp => ?_⟩
    have s1 : Same H1 (upd H1 p (.tup vs)) := same_new hp
    have c2 : Chg H1 (dm m1) (upd H1 p (.tup vs)) (dm m1) := .of s1
    exact ⟨p, vs, rfl, SqT.of upd_same, by omega, (ds, m1), hA1, M1.same s1, E.mono (c1.trans c2), r1.mono c2, fun σ' δ' m' H' n M' c' E' => q σ' δ' m' H' n M' ((c1.trans c2).trans c') E'⟩⟩
/-- a target that takes data apart -/
theorem x_if {C : Bool → Ms → Prop} (hc : PT X c (xT X.K δ m C)) (ha : ∀ m1, C true m1 → PE X a (xE X.K δ m1 T)) (hb : ∀ m1, C false m1 → PE X b (xE X.K δ m1 T)) : PE X (.IfExp c a b pos) (xE X.K δ m T) :=
  PE_imp (pe_ifExp hc (pe_ex (W := fun m1 => C true m1) ha) (pe_ex (W := fun m1 => C false m1) hb)) fun σ H Q ⟨M, E, q⟩ => ⟨M, E, fun k m1 H1 cc M1 c1 => by
    cases k with
    | true => exact ⟨m1, cc, M1, E.mono c1, fun v d m' H' t M' c' r => q v d m' H' t M' (c1.trans c') r⟩
    | false => exact ⟨m1, cc, M1, E.mono c1, fun v d m' H' t M' c' r => q v d m' H' t M' (c1.trans c') r⟩⟩
/-- a op b: both plain, the value without lists -/
theorem x_op {op : Operator} {r : R2} {q1 q2 : PyData} {U : PyData → Ms → Prop} (ho : OpR X (binaryOp op) r) (ha : PE X a (xE X.K δ m fun d' m' => d' = .p q1 ∧ m' = m)) (hb : PE X b (xE X.K δ m fun d' m' => ∃ q2, d' = .p q2 ∧ U q2 m')) (h2 : ∀ q2 m', U q2 m' → ∃ q, R2D X.K r (.p q1) (.p q2) (.p q) ∧ noL q = true ∧ T (.p q) m') :
    PE X (.BinOp a op b pos) (xE X.K δ m T) :=
  PE_imp (pe_op ho ha hb) fun σ H Q ⟨M, E, z⟩ => ⟨M, E, fun v d m1 H1 ⟨e1, e2⟩ M1 c1 r1 => by
    subst e1 e2
    refine ⟨M1, E.mono c1, fun w d2 m2 H2 ⟨q2, e1, u⟩ M2 c2 r2 => ?_⟩
    subst e1
    obtain ⟨q, rr, nl, t⟩ := h2 q2 m2 u
    refine rr v w H2 Q ((r1.mono c2).mono (mn_same _ _)) (r2.mono (mn_same _ _)) fun y H3 s3 r3 => ?_
    exact z y _ m2 H3 t (M2.same s3) ((c1.trans c2).trans (.of s3)) (.p (dp_tl (tl_mn (M2.same s3).fo.all) nl r3.toDp))⟩
/-- (e, ..) as a tuple of plain data -/
theorem x_tup (h : PA X es (xA X.K δ m A)) (hA : ∀ ds m1, A ds m1 → ∃ ps : List PyData, ds = ps.map Dt.p ∧ ps.length ≤ 1000 ∧ T (.t ps) m1) {x1} : PE X (.Tuple es x1 pos) (xE X.K δ m T) :=
  PE_imp (pe_tup h) fun σ H Q ⟨M, E, z⟩ => ⟨M, E, fun vs ds m1 H1 a M1 c1 r1 => by
    obtain ⟨ps, e, hl, t⟩ := hA ds m1 a
    subst e
    have el := r1.length
    rw [List.length_map] at el
    refine ⟨Evl.sz_of (by omega), fun p hp => ?_⟩
    have np : p ∉ dm m1 := fun z => by obtain ⟨o, h⟩ := M1.has z; rw [hp] at h; cases h
    have s1 : Same H1 (upd H1 p (.tup vs)) := same_new hp
    have hm : mn (upd H1 p (.tup vs)) (dm m1) p = some (.tup vs) := by rw [mn_out np, upd_same]
    exact z _ _ m1 _ t (M1.same s1) (c1.trans (.of s1)) (.p (.tup (SqT.of hm) (fun _ => hm) (rpAll_p (r1.mono (same_mn s1)))))⟩
/-- [e, ..] as plain data -/
theorem x_lstD (h : PA X es (xA X.K δ m A)) (hA : ∀ ds m1, A ds m1 → ∃ ps : List PyData, ds = ps.map Dt.p ∧ ps.length ≤ 1000 ∧ T (.l ps) m1) : PE X (.List es pos) (xE X.K δ m T) :=
  PE_imp (pe_lst h) fun σ H Q ⟨M, E, z⟩ => ⟨M, E, fun vs ds m1 H1 a M1 c1 r1 => by
    obtain ⟨ps, e, hl, t⟩ := hA ds m1 a
    subst e
    have el := r1.length
    rw [List.length_map] at el
    refine ⟨Evl.sz_of (by omega), fun p hp => ?_⟩
    have np : p ∉ dm m1 := fun z => by obtain ⟨o, h⟩ := M1.has z; rw [hp] at h; cases h
    have s1 : Same H1 (upd H1 p (.lst vs)) := same_new hp
    have hm : mn (upd H1 p (.lst vs)) (dm m1) p = some (.lst vs) := by rw [mn_out np, upd_same]
    exact z _ _ m1 _ t (M1.same s1) (c1.trans (.of s1)) (.p (.lst (SqL.of hm) (rpAll_p (r1.mono (same_mn s1)))))⟩
/-- t[i]: the index may change the memory -/
theorem x_ix {r : R2} {d1 : Dt} (hr : IxR X r) (ha : PE X a (xE X.K δ m fun d' m' => d' = d1 ∧ m' = m)) (hb : PE X b (xE X.K δ m T1)) (h2 : ∀ d2 m', T1 d2 m' → ∃ q, R2D X.K r d1 d2 (.p q) ∧ noL q = true ∧ T (.p q) m') (hs : PlainIx b := by intro _ _; rfl) : PE X (.Subscript a b pos) (xE X.K δ m T) :=
  PE_imp (pe_ix hr ha hb hs) fun σ H Q ⟨M, E, z⟩ => ⟨M, E, fun v d m1 H1 ⟨e1, e2⟩ M1 c1 r1 => by
    subst e1 e2
    refine ⟨M1, E.mono c1, fun w d2 m2 H2 t2 M2 c2 r2 => ?_⟩
    obtain ⟨q, rr, nl, t⟩ := h2 d2 m2 t2
    refine rr v w H2 Q ((r1.mono c2).mono (mn_same _ _)) (r2.mono (mn_same _ _)) fun y H3 s3 r3 => ?_
    exact z y _ m2 H3 t (M2.same s3) ((c1.trans c2).trans (.of s3)) (.p (dp_tl (tl_mn (M2.same s3).fo.all) nl r3.toDp))⟩
end
end Pr
set_option maxHeartbeats 4000000
/-! Y2: evenings that change. -/
namespace Pr
open PySem PySem.Spec PyProof.Rows L2
variable {P : Program} {w : World} {K : PySem.W.Frag} {mg : Str → Option Value} {base : Heap}
theorem noL_pt : ∀ p : Pt, noL p.data = true
  | .always b => rfl
  | .no p => by simp [Pt.data, noL, noLs, noL_pt p]
  | .two o p q => by simp [Pt.data, noL, noLs, noL_pt p, noL_pt q]
  | .word r e a => by simp [Pt.data, noL, noLs]
theorem noL_deed : ∀ d : Deed, noL d.d = true
  | .rule p => by simp [Deed.d, noL, noLs, noL_pt p]
  | .lay a => rfl
  | .take a => rfl
theorem noLs_deeds (l : List Deed) : noLs (l.map Deed.d) = true := noLs_mem fun a ha => by obtain ⟨d, _, rfl⟩ := List.mem_map.mp ha; exact noL_deed d
def rxFloorI : List Dt → (Addr → Ms → Prop) → Prop := fun ds T => ∃ (n m : Nat) (p : Pt), ds = [.i n, .i m, ruleD p] ∧ T = fun x m' => ∃ a b c, m' = flM x a b c ⟨n, m, p, [], [], []⟩
theorem f1_Floor_init (T : Tx K mg) : FnR P w K mg base CX0 1 (ma K "Floor" "__init__") (spIX K "Floor" rxFloorI) :=
  fnR_IX T.f_Floor_init sc_Floor_init bn_Floor_init (fun ds T ⟨_, _, _, h, _⟩ => by rw [h]; rfl) fun cdv A outer s H E hr ds R ⟨n, m, p, h, h2⟩ => by
    subst h h2
    refine ix_first (n := 4) (l := [2, 0, 1, 5]) (A := fun ds m' => ∃ t, ds = [.i n, .i m, ruleD p, .r t] ∧ m' = [(t, .dT [])]) rfl
      (xa_imp (xa_dc (x_var 1 rfl) (xa_dc (x_var 2 rfl) (xa_dc (x_var 3 rfl) (xa_1 x_dnewT)))) fun ds m' h => ?_)
      (fun ds m1 ⟨t, h, _⟩ => by rw [h]; exact ⟨rfl, rfl, by simp⟩) (gf_first (g_fld T.s_Floor_floor_suns) (gf_cons (g_fld T.s_Floor_floor_moons) (gf_cons (g_fld T.s_Floor_floor_rule) (gf_cons (g_fld T.s_Floor_truths) gf_nil)))) (by simp) rfl fun x ds m1 ⟨t, h1, h2⟩ => ?_
    · obtain ⟨r1, ⟨r2, ⟨r3, ⟨d4, ⟨t, e7, e8⟩, e9⟩, e10⟩, e11⟩, e12⟩ := h
      exact ⟨t, by rw [e12, e11, e10, e9, e7], e8⟩
    · subst h1 h2
      refine s_one (s_asgT (n := 2) (A := fun ds m' => ∃ a b, ds = [.r b, .r a] ∧ m' = [(a, .dK []), (b, .dK []), (x, .tu (.s "Floor" :: putL [2, 0, 1, 5] [.i n, .i m, ruleD p, .r t] [])), (t, .dT [])]) rfl (xa_imp (xa_cons (B := fun _ m1 ds m' => ∃ d, (∃ p, d = .r p ∧ m' = (p, .dK []) :: m1) ∧ ds = [d]) x_dnewK fun d1 m1 _ => xa_1 x_dnewK) fun ds m' h => ?_)
        (fun ds m1 ⟨a, b, h, _⟩ => by rw [h]; exact ⟨rfl, by simp⟩) fun ds m1 ⟨a, b, h1, h2⟩ => ?_)
      · obtain ⟨d1, m1, r, ⟨b, e1, e2⟩, ⟨d2, ⟨a, e3, e4⟩, e5⟩, e6⟩ := h
        exact ⟨a, b, by rw [e6, e1, e5, e3], by rw [e4, e2]⟩
      · subst h1 h2
        refine xgs_cons (xg_fldP T.s_Floor_on_sun (x_var 0 rfl) (i := 2) rfl) fun δ1 m1 ⟨h1, h2⟩ => ?_
        subst h1 h2
        refine xgs_cons (xg_imp (xg_fldP T.s_Floor_on_moon (x_var 0 rfl) (i := 2) rfl) fun δ1 m1 h => ?_) fun δ1 m1 h => xgs_nil h
        obtain ⟨h1, h2⟩ := h
        have e1 : putO 3 (.r a) (putO 4 (.r b) (putL [2, 0, 1, 5] [.i n, .i m, ruleD p, .r t] [])) = [.i m, ruleD p, .i n, .r a, .r b, .r t].map fun d => Dt.tu [d] := by
          simp [putL, putO, List.replicate]
        have e2 : m1 = [(a, .dK []), (b, .dK []), (x, .tu (.s "Floor" :: [.i m, ruleD p, .i n, .r a, .r b, .r t].map fun d => Dt.tu [d])), (t, .dT [])] := by rw [← e1]; exact h2
        clear h2
        subst e2
        exact ⟨2, [.i m, ruleD p, .i n, .r a, .r b, .r t], _, rfl, pm (l' := flM x a b t ⟨n, m, p, [], [], []⟩) 4 [2, 0, 1, 3] rfl rfl, a, b, t, rfl⟩
structure Ad where
  f : Addr
  l : Addr
  u : Addr
  a : Addr
  b : Addr
  c : Addr
structure Ev where
  p0 : Pt
  s : Fl
  log : List Deed
  und : List Deed
abbrev evO (A : Ad) (V : Ev) : Dt := .ob "Evening" [ruleD V.p0, .r A.f, .r A.l, .i V.s.m, .i V.s.n, .r A.u]
def evM (e : Addr) (A : Ad) (V : Ev) : Ms := [(e, evO A V), (A.l, .l (V.log.map Deed.d)), (A.u, .l (V.und.map Deed.d)), (A.f, flO V.s A.a A.b A.c), (A.a, .dK (dkN V.s.moon)), (A.b, .dK (dkN V.s.sun)), (A.c, .dT (dtM V.s.laid))]
abbrev Ev.D (V : Ev) : Dt := evD V.p0 V.s V.log V.und
theorem rs_ev {m : Ms} {e : Addr} {A : Ad} {V : Ev} (i : Nat) (h0 : m[i]? = some (e, evO A V)) (h1 : m[i+1]? = some (A.l, .l (V.log.map Deed.d))) (h2 : m[i+2]? = some (A.u, .l (V.und.map Deed.d))) (h3 : m[i+3]? = some (A.f, flO V.s A.a A.b A.c)) (h4 : m[i+4]? = some (A.a, .dK (dkN V.s.moon))) (h5 : m[i+5]? = some (A.b, .dK (dkN V.s.sun))) (h6 : m[i+6]? = some (A.c, .dT (dtM V.s.laid))) : RsD K m (.r e) V.D :=
  .ob i h0 (.cons .refl (.cons (rs_fl (i+3) (i+4) (i+5) (i+6) h3 h4 h5 h6) (.cons (.l (i+1) h1) (.cons .refl (.cons .refl (.cons (.l (i+2) h2) .nil))))))
def rxEveI : List Dt → (Addr → Ms → Prop) → Prop := fun ds T => ∃ (n m : Nat) (p : Pt), 1 ≤ n ∧ 1 ≤ m ∧ ds = [.i n, .i m, ruleD p] ∧ T = fun x m' => ∃ A, m' = evM x A ⟨p, ⟨n, m, p, [], [], []⟩, [], []⟩
theorem f3_Evening_init (T : Tx K mg) : FnR P w K mg base CX0 3 (ma K "Evening" "__init__") (spIX K "Evening" rxEveI) :=
  fnR_IX T.f_Evening_init sc_Evening_init bn_Evening_init (fun ds T ⟨_, _, _, _, _, h, _⟩ => by rw [h]; rfl) fun cdv A outer s H E hr ds R ⟨n, m, p, hn, hm, h, h2⟩ => by
    subst h h2
    have nd := sc_Evening_init.nd
    refine ix_loop (is := [4, 5]) (a_for (l := [(0, n), (1, m)]) (ι := prD) PassesOwn.never rfl (i_eqv (i_enum rfl T.b_enumerate (d_new (d_lstP (ps := [.int n, .int m]) (a_cons (d_var 1 rfl) (a_cons (d_var 2 rfl) a_nil)) (by simp)))) rfl) (fun _ _ h => h)
      (fun q hq => g_tup (ps := [.int q.1, .int q.2]) rfl (gs_cons (g_name 4 nd rfl (.inl rfl)) (gs_cons (g_name 5 nd rfl (.inl rfl)) gs_nil)) rfl)
      (fun q hq => k_one (k_ifno (c_eqv (c_not (c_val (d_call (f2_is_number T) hr rfl T.g_is_number T.f_is_number.kp ⟨q.2, by simp at hq; rcases hq with h | h <;> (subst h; simp; omega), rfl, rfl⟩ (a_cons (d_var 5 rfl) a_nil)))) rfl))) (fun q hq _ _ E => (E.forget 4).forget 5)) (by decide) ?_
    refine ix_if (c_eqv (c_not (c_val (d_isiC rfl T.b_isinstance rfl T.g_Rule T.c_Rule T.i_Rule T.kk_Rule (d_var 3 rfl)))) rfl) ?_
    refine ix_first (n := 3) (l := [4, 3, 0]) (A := fun ds m' => ds = [.i n, .i m, ruleD p] ∧ m' = []) rfl (xa_d (x_var 1 rfl) (xa_d (x_var 2 rfl) (xa_d (x_var 3 rfl) xa_nil)))
      (fun ds m1 ⟨h, _⟩ => by rw [h]; exact ⟨rfl, rfl, by simp⟩) (gf_first (g_fld T.s_Evening_its_suns) (gf_cons (g_fld T.s_Evening_its_moons) (gf_cons (g_fld T.s_Evening_its_first) gf_nil))) (by simp) rfl fun x ds m1 ⟨h1, h2⟩ => ?_
    subst h1 h2
    have e1 : putO 5 (.r x) (putO 2 (.r x) (putL [4, 3, 0] [.i n, .i m, ruleD p] [])) = [Dt.tu [ruleD p], Dt.tu [], Dt.tu [.r x], Dt.tu [.i m], Dt.tu [.i n], Dt.tu [.r x]] := by
      simp [putL, putO, List.replicate]
    refine s_seq (N1 := fun δ' m' => ∃ l u, δ' = [some (.r x), some (.i n), some (.i m), some (ruleD p), none, none] ∧ m' = [(u, .l []), (l, .l []), (x, .tu (.s "Evening" :: [Dt.tu [ruleD p], Dt.tu [], Dt.tu [.r l], Dt.tu [.i m], Dt.tu [.i n], Dt.tu [.r u]]))])
      (s_asgT (n := 2) (A := fun ds m' => ∃ l u, ds = [.r l, .r u] ∧ m' = [(u, .l []), (l, .l []), (x, .tu (.s "Evening" :: putL [4, 3, 0] [.i n, .i m, ruleD p] []))]) rfl
        (xa_imp (xa_cons (B := fun _ m1 ds m' => ∃ d, (∃ p, d = .r p ∧ m' = (p, .l []) :: m1) ∧ ds = [d]) (x_new rfl (d_lstP (ps := []) a_nil (by simp))) fun d1 m1 _ => xa_1 (x_new rfl (d_lstP (ps := []) a_nil (by simp)))) fun ds m' h => ?_)
        (fun ds m1 ⟨a, b, h, _⟩ => by rw [h]; exact ⟨rfl, by simp⟩) fun ds m1 ⟨l, u, h1, h2⟩ => ?_) fun δ1 m1 ⟨l, u, h1, h2⟩ => ?_
    · obtain ⟨d1, m1, r, ⟨b, e1, e2⟩, ⟨d2, ⟨a, e3, e4⟩, e5⟩, e6⟩ := h
      exact ⟨b, a, by rw [e6, e1, e5, e3], by rw [e4, e2]⟩
    · subst h1 h2
      refine xgs_cons (xg_fldP T.s_Evening_its_log (x_var 0 rfl) (i := 2) rfl) fun δ1 m1 ⟨h1, h2⟩ => ?_
      subst h1 h2
      refine xgs_cons (xg_imp (xg_fldP T.s_Evening_its_undone (x_var 0 rfl) (i := 2) rfl) fun δ1 m1 h => ?_) fun δ1 m1 h => xgs_nil h
      obtain ⟨h1, h2⟩ := h
      have e2 : putO 5 (.r u) (putO 2 (.r l) (putL [4, 3, 0] [.i n, .i m, ruleD p] [])) = [Dt.tu [ruleD p], Dt.tu [], Dt.tu [.r l], Dt.tu [.i m], Dt.tu [.i n], Dt.tu [.r u]] := by
        simp [putL, putO, List.replicate]
      exact ⟨l, u, h1, by rw [← e2]; exact h2⟩
    · subst h1 h2
      refine s_one (s_asg (T := fun d m' => ∃ f a b c, d = .r f ∧ m' = flM f a b c ⟨n, m, p, [], [], []⟩ ++ [(u, .l []), (l, .l []), (x, .tu (.s "Evening" :: [Dt.tu [ruleD p], Dt.tu [], Dt.tu [.r l], Dt.tu [.i m], Dt.tu [.i n], Dt.tu [.r u]]))])
        (x_make T.k_Floor (f1_Floor_init T) hr rfl T.g_Floor (xa_d (x_var 1 rfl) (xa_d (x_var 2 rfl) (xa_d (x_var 3 rfl) xa_nil))) fun ds m1 h => ?_) fun d m1 ⟨f, a, b, c, h1, h2⟩ => ?_)
      · obtain ⟨h1, h2⟩ := h
        exact ⟨_, ⟨n, m, p, h1, rfl⟩, fun x' ma ⟨a, b, c, h3⟩ => ⟨x', a, b, c, rfl, by rw [h3, h2]⟩⟩
      · subst h1 h2
        refine xg_imp (xg_fldP T.s_Evening_its_floor (x_var 0 rfl) (i := 6) rfl) fun δ1 m1 h => ?_
        obtain ⟨h1, h2⟩ := h
        have e3 : putO 1 (.r f) [Dt.tu [ruleD p], Dt.tu [], Dt.tu [.r l], Dt.tu [.i m], Dt.tu [.i n], Dt.tu [.r u]] = [ruleD p, .r f, .r l, .i m, .i n, .r u].map fun d => Dt.tu [d] := by simp [putO]
        have e2 : m1 = flM f a b c ⟨n, m, p, [], [], []⟩ ++ [(u, .l []), (l, .l []), (x, .tu (.s "Evening" :: [ruleD p, .r f, .r l, .i m, .i n, .r u].map fun d => Dt.tu [d]))] := by rw [← e3]; exact h2
        clear h2
        subst e2
        exact ⟨6, [ruleD p, .r f, .r l, .i m, .i n, .r u], evM x ⟨f, l, u, a, b, c⟩ ⟨p, ⟨n, m, p, [], [], []⟩, [], []⟩, rfl, pm 7 [6, 5, 4, 0, 1, 2, 3] rfl rfl, ⟨f, l, u, a, b, c⟩, rfl⟩
end Pr
set_option maxHeartbeats 4000000
/-! Y3: floor_behind, begin_anew, do, undo, redo, past, copied. -/
namespace Pr
open PySem PySem.Spec PyProof.Rows L2
variable {P : Program} {w : World} {K : PySem.W.Frag} {mg : Str → Option Value} {base : Heap}
def okL : Fl → List Deed → Prop
  | _, [] => True
  | s, d :: l => s.szd ∧ d.okD s ∧ okL (s.doD d) l
def runL (s : Fl) (l : List Deed) : Fl := l.foldl Fl.doD s
theorem okL_at : ∀ {s : Fl} {l : List Deed} {i : Nat} {d : Deed}, okL s l → l[i]? = some d → (runL s (l.take i)).szd ∧ d.okD (runL s (l.take i))
  | s, x :: l, 0, d, h, e => by simp at e; subst e; exact ⟨h.1, h.2.1⟩
  | s, x :: l, i + 1, d, h, e => by
    have := okL_at (i := i) (d := d) h.2.2 (by simpa using e)
    exact this
theorem runL_succ {s : Fl} {l : List Deed} {i : Nat} {d : Deed} (e : l[i]? = some d) : runL s (l.take (i + 1)) = (runL s (l.take i)).doD d := by
  unfold runL
  rw [List.take_succ, e, Option.toList_some, List.foldl_append]; rfl
abbrev Ev.s0 (V : Ev) : Fl := ⟨V.s.n, V.s.m, V.p0, [], [], []⟩
def rxBehind : Ms → List Dt → Rs → Prop := fun m ds T => ∃ (e : Addr) (A : Ad) (V : Ev) (log : List Deed), okL V.s0 log ∧ m = evM e A V ∧ ds = [.r e, .l (log.map Deed.d)] ∧ T = fun d m' => ∃ f a b c, d = .r f ∧ m' = flM f a b c (runL V.s0 log) ++ evM e A V
theorem f9_floor_behind (T : Tx K mg) : FnR P w K mg base CX0 9 (ma K "Evening" "floor_behind") (spX K rxBehind) :=
  fnR_X T.f_Evening_floor_behind sc_Evening_floor_behind bn_Evening_floor_behind (fun m ds T ⟨_, _, _, _, _, _, h, _⟩ => by rw [h]; rfl) fun cdv A outer s H E hr m ds R ⟨e, Ad, V, log, hk, h, h2, h3⟩ => by
    subst h h2 h3
    have nd := sc_Evening_floor_behind.nd
    refine s_seq (N1 := fun δ' m' => ∃ f a b c, δ' = [some (.r e), some (.l (log.map Deed.d)), some (.r f), none] ∧ m' = flM f a b c V.s0 ++ evM e Ad V) (s_shift (s_set (T := fun d m' => ∃ f a b c, d = .r f ∧ m' = flM f a b c V.s0 ++ evM e Ad V) 2 nd rfl (.inl rfl)
      (x_make T.k_Floor ((f1_Floor_init T).mono (show 1 ≤ 7 by decide)) hr rfl T.g_Floor (xa_d (x_fld T.s_Evening_its_suns rfl (x_var 0 rfl) (i := 0) rfl) (xa_d (x_fld T.s_Evening_its_moons rfl (x_var 0 rfl) (i := 0) rfl) (xa_d (x_fld T.s_Evening_its_first rfl (x_var 0 rfl) (i := 0) rfl) xa_nil))) fun ds m1 h => ?_)) fun δ' m' h => ?_) fun δ1 m1 ⟨f, a, b, c, h1, h2⟩ => ?_
    · obtain ⟨h1, h2⟩ := h
      exact ⟨_, ⟨V.s.n, V.s.m, V.p0, h1, rfl⟩, fun x' ma ⟨a, b, c, h3⟩ => ⟨x', a, b, c, rfl, by rw [h3, h2]⟩⟩
    · obtain ⟨d, ⟨f, a, b, c, h1, h2⟩, h3⟩ := h
      subst h1 h2 h3
      exact ⟨_, _, [], by rw [List.append_nil], ⟨f, a, b, c, rfl, rfl⟩, fun _ _ h => h⟩
    · subst h1 h2
      refine s_seq (s_for (l := log) (ι := Deed.d) (is := [3]) (fun i δ' m' => δ' = [some (.r e), some (.l (log.map Deed.d)), some (.r f), none] ∧ m' = flM f a b c (runL V.s0 (log.take i)) ++ evM e Ad V) PassesOwn.never rfl (i_list (d_var 1 rfl)) (fun p _ => noL_deed p) ⟨rfl, rfl⟩ fun i p δ1 m1 hp h => ?_) fun δ1 m1 h => ?_
      · obtain ⟨h1, h2⟩ := h
        subst h1 h2
        obtain ⟨hz, ho⟩ := okL_at hk hp
        refine ⟨_, g_name 3 nd rfl (.inl rfl), ss_shift (N := fun δ' m' => δ' = [some (.r e), some (.l (log.map Deed.d)), some (.r f), some (.p p.d)] ∧ m' = flM f a b c (runL V.s0 (log.take (i + 1))) ++ evM e Ad V) (s_one (s_expr (x_meth T.c_Floor T.m_Floor_do (f8_Floor_do T) hr (x_var 2 rfl) (i := 0) rfl (x_pureA (a_cons (d_var 3 rfl) a_nil)) fun ds m1 h => ?_))) fun δ' m' h => ?_⟩
        · obtain ⟨h1, h2⟩ := h
          subst h1 h2
          exact ⟨flM f a b c (runL V.s0 (log.take i)), evM e Ad V, _, .refl _, ⟨f, a, b, c, _, p, hz, ho, rfl, rfl, rfl⟩, fun d m' ⟨h1, h2⟩ => ⟨rfl, by rw [h2, runL_succ hp]⟩⟩
        · obtain ⟨h1, h2⟩ := h
          subst h1 h2
          exact ⟨_, _, [], by rw [List.append_nil], ⟨rfl, rfl⟩, fun _ _ E => E.forget 3⟩
      · obtain ⟨h1, h2⟩ := h
        subst h1 h2
        rw [List.take_length]
        exact s_one (s_ret (x_imp (x_var 2 rfl) fun d m' ⟨h1, h2⟩ => ⟨f, a, b, c, h1, h2⟩))
def rxAnew : Ms → List Dt → Rs → Prop := fun m ds T => ∃ (e : Addr) (A : Ad) (V : Ev) (log : List Deed), okL V.s0 log ∧ log.length ≤ 1000 ∧ m = evM e A V ∧ ds = [.r e, .l (log.map Deed.d)] ∧ T = fun d m' => d = .n ∧ ∃ A', A'.u = A.u ∧ m' = evM e A' ⟨V.p0, runL V.s0 log, log, V.und⟩
theorem runL_nm : ∀ (l : List Deed) (s : Fl), (runL s l).n = s.n ∧ (runL s l).m = s.m
  | [], s => ⟨rfl, rfl⟩
  | d :: l, s => by
    have h := runL_nm l (s.doD d)
    have e : (s.doD d).n = s.n ∧ (s.doD d).m = s.m := by cases d <;> exact ⟨rfl, rfl⟩
    exact ⟨h.1.trans e.1, h.2.trans e.2⟩
theorem f10_begin_anew (T : Tx K mg) : FnR P w K mg base CX0 10 (ma K "Evening" "begin_anew") (spX K rxAnew) :=
  fnR_X T.f_Evening_begin_anew sc_Evening_begin_anew bn_Evening_begin_anew (fun m ds T ⟨_, _, _, _, _, _, _, h, _⟩ => by rw [h]; rfl) fun cdv A outer s H E hr m ds R ⟨e, Ad, V, log, hk, hl, h, h2, h3⟩ => by
    subst h h2 h3
    obtain ⟨hn, hm⟩ := runL_nm log V.s0
    refine s_one (s_shift (s_asgT (n := 2) (N := fun δ' m' => ∃ f a b c l, m' = (l, .l (log.map Deed.d)) :: (flM f a b c (runL V.s0 log) ++ (evM e Ad V).set 0 (e, .ob "Evening" [ruleD V.p0, .r f, .r l, .i V.s.m, .i V.s.n, .r Ad.u])))
      (A := fun ds m' => ∃ f a b c l, ds = [.r f, .r l] ∧ m' = (l, .l (log.map Deed.d)) :: (flM f a b c (runL V.s0 log) ++ evM e Ad V)) rfl
      (xa_imp (xa_cons (B := fun _ m1 ds m' => ∃ d, (∃ p, d = .r p ∧ m' = (p, .l (log.map Deed.d)) :: m1) ∧ ds = [d]) (T := fun d m' => ∃ f a b c, d = .r f ∧ m' = flM f a b c (runL V.s0 log) ++ evM e Ad V)
        (x_meth T.c_Evening T.m_Evening_floor_behind (f9_floor_behind T) hr (x_var 0 rfl) (i := 0) rfl (x_pureA (a_cons (d_var 1 rfl) a_nil)) fun ds m1 h => ?_)
        fun d1 m1 _ => by exact xa_1 (x_new (noLs_deeds log) (d_listL rfl T.b_list (d_var 1 rfl)))) fun ds m' h => ?_)
      (fun ds m1 ⟨a, b, _, _, _, h, _⟩ => by rw [h]; exact ⟨rfl, by simp⟩) fun ds m1 ⟨f, a, b, c, l, h1, h2⟩ => ?_) fun δ' m' h => ?_)
    · obtain ⟨h1, h2⟩ := h
      subst h1 h2
      exact Rf.self ⟨e, Ad, V, log, hk, rfl, rfl, rfl⟩ fun d m' h => h
    · obtain ⟨d1, m1, r, ⟨f, a, b, c, e1, e2⟩, ⟨d2, ⟨l, e3, e4⟩, e5⟩, e6⟩ := h
      exact ⟨f, a, b, c, l, by rw [e6, e1, e5, e3], by rw [e4, e2]⟩
    · subst h1 h2
      refine xgs_cons (xg_fld T.s_Evening_its_floor (x_var 0 rfl) (i := 5) rfl (by simp)) fun δ1 m1 ⟨h1, h2⟩ => ?_
      subst h1 h2
      refine xgs_cons (xg_imp (xg_fld T.s_Evening_its_log (x_var 0 rfl) (i := 5) rfl (by simp)) fun δ1 m1 h => ?_) fun δ1 m1 h => xgs_nil h
      obtain ⟨h1, h2⟩ := h
      exact ⟨f, a, b, c, l, h2⟩
    · obtain ⟨f, a, b, c, l, h⟩ := h
      subst h
      refine ⟨δ', evM e ⟨f, l, Ad.u, a, b, c⟩ ⟨V.p0, runL V.s0 log, log, V.und⟩, [(Ad.l, .l (V.log.map Deed.d)), (Ad.f, flO V.s Ad.a Ad.b Ad.c), (Ad.a, .dK (dkN V.s.moon)), (Ad.b, .dK (dkN V.s.sun)), (Ad.c, .dT (dtM V.s.laid))], ?_, ⟨rfl, ⟨f, l, Ad.u, a, b, c⟩, rfl, rfl⟩, fun _ _ h => h⟩
      refine pm 12 [5, 0, 7, 1, 2, 3, 4, 6, 8, 9, 10, 11] rfl ?_
      unfold evM evO
      rw [hn, hm]
      rfl
end Pr
set_option maxHeartbeats 4000000
/-! Y4: do, undo, redo, as they go well. -/
namespace Pr
open PySem PySem.Spec PyProof.Rows L2
variable {P : Program} {w : World} {K : PySem.W.Frag} {mg : Str → Option Value} {base : Heap}
theorem strOk_opN (o : Fin 3) : PyData.strOk (opN o) = true := by
  match o with
  | 0 => decide +kernel
  | 1 => decide +kernel
  | 2 => decide +kernel
theorem strOk_rdN (r : Fin 5) : PyData.strOk (rdN r) = true := by
  match r with
  | 0 => decide +kernel
  | 1 => decide +kernel
  | 2 => decide +kernel
  | 3 => decide +kernel
  | 4 => decide +kernel
theorem strOk_w : PyData.strOk "always" = true ∧ PyData.strOk "not" = true ∧ PyData.strOk "rule" = true ∧ PyData.strOk "lay" = true ∧ PyData.strOk "take" = true := by decide +kernel
theorem cl_pt : ∀ p : Pt, PyData.canLay0 p.data = true
  | .always b => by simp [Pt.data, PyData.canLay0, PyData.canLayAll0, strOk_w.1]
  | .no p => by simp [Pt.data, PyData.canLay0, PyData.canLayAll0, strOk_w.2.1, cl_pt p]
  | .two o p q => by simp [Pt.data, PyData.canLay0, PyData.canLayAll0, strOk_opN, cl_pt p, cl_pt q]
  | .word r e a => by simp [Pt.data, PyData.canLay0, PyData.canLayAll0, strOk_rdN, strOk_bitS]
theorem dp_pt : ∀ p : Pt, PyData.depth p.data ≤ p.deep + 3
  | .always b => by simp [Pt.data, PyData.depth, PyData.depthAll]
  | .no p => by have := dp_pt p; simp [Pt.data, PyData.depth, PyData.depthAll, Pt.deep]; omega
  | .two o p q => by have := dp_pt p; have := dp_pt q; simp [Pt.data, PyData.depth, PyData.depthAll, Pt.deep]; omega
  | .word r e a => by simp [Pt.data, PyData.depth, PyData.depthAll]
def Deed.sh : Deed → Prop
  | .rule p => p.deep < DP
  | _ => True
theorem cl_deed : ∀ d : Deed, PyData.canLay0 d.d = true
  | .rule p => by simp [Deed.d, PyData.canLay0, PyData.canLayAll0, strOk_w, cl_pt p]
  | .lay a => by simp [Deed.d, PyData.canLay0, PyData.canLayAll0, strOk_w]
  | .take a => by simp [Deed.d, PyData.canLay0, PyData.canLayAll0, strOk_w]
theorem dp_deed : ∀ d : Deed, d.sh → PyData.depth d.d ≤ 20
  | .rule p, h => by have := dp_pt p; have h : p.deep < 5 := h; simp [Deed.d, PyData.depth, PyData.depthAll]; omega
  | .lay a, _ => by simp [Deed.d, PyData.depth, PyData.depthAll]
  | .take a, _ => by simp [Deed.d, PyData.depth, PyData.depthAll]
theorem sh_deed {d : Deed} (h : d.sh) : SeqAt.shaped d.d = true := by
  unfold SeqAt.shaped
  rw [cl_deed d, decide_eq_true (Nat.le_trans (dp_deed d h) (by decide))]; rfl
theorem cl_deeds : ∀ l : List Deed, PyData.canLayAll0 (l.map Deed.d) = true
  | [] => rfl
  | d :: l => by rw [List.map_cons]; unfold PyData.canLayAll0; rw [cl_deed d, cl_deeds l]; rfl
theorem dp_deeds : ∀ l : List Deed, (∀ d ∈ l, d.sh) → PyData.depthAll (l.map Deed.d) ≤ 20
  | [], _ => by decide
  | d :: l, h => by
    rw [List.map_cons]; unfold PyData.depthAll
    exact Nat.max_le.mpr ⟨dp_deed d (h d (by simp)), dp_deeds l fun x hx => h x (by simp [hx])⟩
theorem sh_deeds {l : List Deed} (h : ∀ d ∈ l, d.sh) : SeqAt.shaped (.list (l.map Deed.d)) = true := by
  unfold SeqAt.shaped
  have h1 : PyData.canLay0 (.list (l.map Deed.d)) = true := by unfold PyData.canLay0; exact cl_deeds l
  have h2 : PyData.depth (.list (l.map Deed.d)) ≤ 64 := by unfold PyData.depth; have := dp_deeds l h; omega
  rw [h1, decide_eq_true h2]; rfl
theorem eqv_deeds {l : List Deed} : PyData.eqv (.list (l.map Deed.d)) (.list []) = l.isEmpty := by cases l <;> rfl
def rxEDo : Ms → List Dt → Rs → Prop := fun m ds T => ∃ (e : Addr) (A : Ad) (V : Ev) (t : Deed), t.okE V.s.n V.s.m ∧ V.log.length < 200 ∧ V.s.szd ∧ t.okD V.s ∧ t.okF V.s ∧ V.s.can t = true ∧ m = evM e A V ∧ ds = [.r e, .p t.d] ∧ T = fun d m' => d = .n ∧ m' = evM e A ⟨V.p0, V.s.doD t, V.log ++ [t], []⟩
theorem doD_nm : ∀ (s : Fl) (t : Deed), (s.doD t).n = s.n ∧ (s.doD t).m = s.m
  | s, .rule _ => ⟨rfl, rfl⟩
  | s, .lay _ => ⟨rfl, rfl⟩
  | s, .take _ => ⟨rfl, rfl⟩
theorem f9_Evening_do (T : Tx K mg) : FnR P w K mg base CX0 9 (ma K "Evening" "do") (spX K rxEDo) :=
  fnR_X T.f_Evening_do sc_Evening_do bn_Evening_do (fun m ds T ⟨_, _, _, _, _, _, _, _, _, _, _, h, _⟩ => by rw [h]; rfl) fun cdv A outer s H E hr m ds R ⟨e, Ad, V, t, hE, hl, hz, hD, hF, hc, h, h2, h3⟩ => by
    subst h h2 h3
    have hu := room_u hr
    obtain ⟨tk, htk⟩ := T.t_MOST
    obtain ⟨hn, hm⟩ := doD_nm V.s t
    refine s_seq (N1 := fun δ' m' => δ' = [some (.r e), some (.p t.d)] ∧ m' = evM e Ad V) (s_if (x_lookC (k := false) (Rsv.one 0 rfl (rs_ev 0 rfl rfl rfl rfl rfl rfl rfl) .refl)
      (c_eqv (c_not (c_val (d_meth T.c_Evening T.m_Evening_is_deed ((f7_is_deed T).mono (by decide)) hr ⟨V.p0, V.s, V.log, V.und, t, hE, rfl, rfl⟩ (d_var 0 rfl) (a_cons (d_var 1 rfl) a_nil)))) rfl)) (fun m1 ⟨h, _⟩ => nomatch h) (fun m1 ⟨_, h⟩ => s_nil ⟨rfl, h⟩)) fun δ1 m1 ⟨h1, h2⟩ => ?_
    subst h1 h2
    refine s_seq (N1 := fun δ' m' => δ' = [some (.r e), some (.p t.d)] ∧ m' = evM e Ad V) (s_if (x_lookC (k := false) (Rsv.one 0 rfl (rs_ev 0 rfl rfl rfl rfl rfl rfl rfl) .refl)
      (c_eqv (c_ge (d_lenL rfl T.b_len (a_cons (d_fld T.s_Evening_its_log rfl (d_var 0 rfl)) a_nil)) (d_glob (v := .int 200) rfl htk ⟨tk, rfl⟩ (fun H => .p (.int 200)))) (by rw [List.length_map]; exact decide_eq_false (by omega)))) (fun m1 ⟨h, _⟩ => nomatch h) (fun m1 ⟨_, h⟩ => s_nil ⟨rfl, h⟩)) fun δ1 m1 ⟨h1, h2⟩ => ?_
    subst h1 h2
    refine s_seq (N1 := fun δ' m' => δ' = [some (.r e), some (.p t.d)] ∧ m' = evM e Ad V) (s_if (x_lookC (k := false) (Rsv.one 0 rfl (rs_ev 0 rfl rfl rfl rfl rfl rfl rfl) .refl)
      (c_eqv (c_not (c_val (d_meth T.c_Floor T.m_Floor_can_do ((f2_can_do T).mono (by decide)) hr ⟨V.s, t, hz.n, hz.m, hF, rfl, rfl⟩ (d_fld T.s_Evening_its_floor rfl (d_var 0 rfl)) (a_cons (d_var 1 rfl) a_nil)))) (by rw [hc]; rfl))) (fun m1 ⟨h, _⟩ => nomatch h) (fun m1 ⟨_, h⟩ => s_nil ⟨rfl, h⟩)) fun δ1 m1 ⟨h1, h2⟩ => ?_
    subst h1 h2
    refine s_seq (N1 := fun δ' m' => δ' = [some (.r e), some (.p t.d)] ∧ m' = evM e Ad ⟨V.p0, V.s.doD t, V.log, V.und⟩) (s_shift (s_expr (N := fun δ' m' => δ' = [some (.r e), some (.p t.d)] ∧ m' = flM Ad.f Ad.a Ad.b Ad.c (V.s.doD t) ++ [(e, evO Ad V), (Ad.l, .l (V.log.map Deed.d)), (Ad.u, .l (V.und.map Deed.d))])
      (x_meth T.c_Floor T.m_Floor_do (f8_Floor_do T) hr (x_fld T.s_Evening_its_floor rfl (x_var 0 rfl) (i := 0) rfl) (i := 3) rfl (x_pureA (a_cons (d_var 1 rfl) a_nil)) fun ds m1 h => ?_)) fun δ' m' h => ?_) fun δ1 m1 h => ?_
    · obtain ⟨h1, h2⟩ := h
      subst h1 h2
      exact ⟨flM Ad.f Ad.a Ad.b Ad.c V.s, _, _, pm 7 [3, 4, 5, 6, 0, 1, 2] rfl rfl, ⟨Ad.f, Ad.a, Ad.b, Ad.c, V.s, t, hz, hD, rfl, rfl, rfl⟩, fun d m' ⟨h1, h2⟩ => ⟨rfl, by rw [h2]; rfl⟩⟩
    · obtain ⟨h1, h2⟩ := h
      subst h1 h2
      refine ⟨_, _, [], ?_, ⟨rfl, rfl⟩, fun _ _ h => h⟩
      refine pm 7 [4, 5, 6, 0, 1, 2, 3] rfl ?_
      rw [List.append_nil]
      unfold evM evO
      rw [hn, hm]
      rfl
    · obtain ⟨h1, h2⟩ := h
      subst h1 h2
      refine s_seq (N1 := fun δ' m' => δ' = [some (.r e), some (.p t.d)] ∧ m' = evM e Ad ⟨V.p0, V.s.doD t, V.log ++ [t], V.und⟩) (s_expr (x_append (T := fun d m' => d = .p t.d ∧ m' = evM e Ad ⟨V.p0, V.s.doD t, V.log, V.und⟩) (n := 1) (x_fld T.s_Evening_its_log rfl (x_var 0 rfl) (i := 0) rfl) (i := 1) rfl ⟨_, rfl⟩ (x_var 1 rfl) fun d m1 h => ?_)) fun δ1 m1 h => ?_
      · obtain ⟨h1, h2⟩ := h
        subst h1 h2
        exact ⟨t.d, V.log.map Deed.d, rfl, rfl, by rw [List.length_map]; omega, rfl, by unfold evM; rw [List.map_append]; rfl⟩
      · obtain ⟨h1, h2⟩ := h
        subst h1 h2
        exact s_one (s_expr (x_imp (x_clear (x_fld T.s_Evening_its_undone rfl (x_var 0 rfl) (i := 0) rfl) (i := 2) rfl) fun d m' ⟨_, h⟩ => ⟨rfl, by rw [h]; rfl⟩))
end Pr
set_option maxHeartbeats 4000000
/-! Y5: undo, redo, past, copied, as they go well. -/
namespace Pr
open PySem PySem.Spec PyProof.Rows L2
section
variable {X : Cx} {δ : De} {a b : Expr} {ps : List PyData} {i : Int} {k : Nat} {pos p2 : Pos}
/-- xs[:i] -/
theorem d_slL (hk : HT.sIx ps.length ps.length (some i) = k) (ha : PE X a (tD X.K δ (.l ps))) (hb : PE X b (tD X.K δ (.i i))) : PE X (.Subscript a (.Slice none (some b) none p2) pos) (tN X.K δ (ps.take k)) :=
  PE_imp (pe_slice sl_list ha po_none (po_some hb)) fun σ H Q ⟨E, q⟩ => ⟨E, fun v H1 s1 r1 => ⟨E.mono s1, fun w H2 s2 r2 => by
    obtain ⟨ad, xs, rfl, sl, rr⟩ := dp_lst r1.toDp
    have e := r2.i_inv; subst e
    have el := dpAll_length rr
    refine ⟨i, rfl, ad, xs, rfl, sqL_mono s2 sl, fun p hp => ?_⟩
    have e2 : cutV xs none (some i) = xs.take k := by
      unfold cutV
      rw [HT.sIx_none, List.drop_zero, Nat.sub_zero, el, hk]
    rw [e2]
    exact q p _ _ ((s1.trans s2).free hp) ((s1.trans s2).trans (same_new hp)) upd_same (dpAll_take k (dpAll_mono (s2.trans (same_new hp)) rr))⟩⟩
end
variable {P : Program} {w : World} {K : PySem.W.Frag} {mg : Str → Option Value} {base : Heap}
def rxUndo : Ms → List Dt → Rs → Prop := fun m ds T => ∃ (e : Addr) (A : Ad) (V : Ev) (lg : List Deed) (t : Deed), V.log = lg ++ [t] ∧ (∀ d ∈ V.log, d.sh) ∧ okL V.s0 lg ∧ lg.length ≤ 900 ∧ V.und.length < 900 ∧ m = evM e A V ∧ ds = [.r e] ∧ T = fun d m' => d = .p t.d ∧ ∃ A', m' = evM e A' ⟨V.p0, runL V.s0 lg, lg, V.und ++ [t]⟩
theorem f11_undo (T : Tx K mg) : FnR P w K mg base CX0 11 (ma K "Evening" "undo") (spX K rxUndo) :=
  fnR_X T.f_Evening_undo sc_Evening_undo bn_Evening_undo (fun m ds T ⟨_, _, _, _, _, _, _, _, _, _, _, h, _⟩ => by rw [h]; rfl) fun cdv A outer s H E hr m ds R ⟨e, Ad, V, lg, t, hlg, hsh, hk, hl, hul, h, h2, h3⟩ => by
    subst h h2 h3
    have hu := room_u hr
    have nd := sc_Evening_undo.nd
    refine s_seq (N1 := fun δ' m' => δ' = [some (.r e), none] ∧ m' = evM e Ad V) (s_if (x_lookC (k := false) (Rsv.one 0 rfl (rs_ev 0 rfl rfl rfl rfl rfl rfl rfl) .refl)
      (c_eqv (c_eq hu (sh_deeds hsh) sh_nil (d_fld T.s_Evening_its_log rfl (d_var 0 rfl)) (d_new (d_lstP (ps := []) a_nil (by simp)))) (by rw [eqv_deeds, hlg]; simp))) (fun m1 ⟨h, _⟩ => nomatch h) (fun m1 ⟨_, h⟩ => s_nil ⟨rfl, h⟩)) fun δ1 m1 ⟨h1, h2⟩ => ?_
    subst h1 h2
    refine s_seq (N1 := fun δ' m' => δ' = [some (.r e), some (.p t.d)] ∧ m' = evM e Ad V) (s_shift (s_set 1 nd rfl (.inl rfl) (x_look (Rsv.one 0 rfl (rs_ev 0 rfl rfl rfl rfl rfl rfl rfl) .refl) (noL_deed t)
      (d_ixL (p := t.d) (i := -1) (by rw [hlg, List.map_append]; exact atI_last _ _) (d_fld T.s_Evening_its_log rfl (d_var 0 rfl)) (d_neg d_int)))) fun δ' m' h => ?_) fun δ1 m1 ⟨h1, h2⟩ => ?_
    · obtain ⟨d, ⟨h1, h2⟩, h3⟩ := h
      subst h1 h2 h3
      exact ⟨_, _, [], by rw [List.append_nil], ⟨rfl, rfl⟩, fun _ _ h => h⟩
    subst h1 h2
    refine s_seq (N1 := fun δ' m' => δ' = [some (.r e), some (.p t.d)] ∧ ∃ A', m' = evM e A' ⟨V.p0, runL V.s0 lg, lg, V.und⟩) (s_expr
      (x_meth T.c_Evening T.m_Evening_begin_anew (f10_begin_anew T) hr (x_var 0 rfl) (i := 0) rfl (xa_1 (x_lookN (Rsv.one 0 rfl (rs_ev 0 rfl rfl rfl rfl rfl rfl rfl) .refl) (ps := lg.map Deed.d) (noLs_deeds lg)
        (n_eqv (d_slL (k := lg.length) (i := -1) (by rw [hlg]; simp [HT.sIx]; omega) (d_fld T.s_Evening_its_log rfl (d_var 0 rfl)) (d_neg d_int)) (by rw [hlg, List.map_append, List.take_left' (by simp)])))) fun ds m1 h => ?_)) fun δ1 m1 h => ?_
    · obtain ⟨d, ⟨h1, h2⟩, h3⟩ := h
      subst h1 h2 h3
      exact Rf.self ⟨e, Ad, V, lg, hk, by omega, rfl, rfl, rfl⟩ fun d m' ⟨h1, A', _, h2⟩ => ⟨rfl, A', h2⟩
    obtain ⟨h1, A', h2⟩ := h
    subst h1 h2
    refine s_seq (N1 := fun δ' m' => δ' = [some (.r e), some (.p t.d)] ∧ m' = evM e A' ⟨V.p0, runL V.s0 lg, lg, V.und ++ [t]⟩) (s_expr (x_append (T := fun d m' => d = .p t.d ∧ m' = evM e A' ⟨V.p0, runL V.s0 lg, lg, V.und⟩) (n := 2) (x_fld T.s_Evening_its_undone rfl (x_var 0 rfl) (i := 0) rfl) (i := 2) rfl ⟨_, rfl⟩ (x_var 1 rfl) fun d m1 h => ?_)) fun δ1 m1 h => ?_
    · obtain ⟨h1, h2⟩ := h
      subst h1 h2
      exact ⟨t.d, V.und.map Deed.d, rfl, rfl, by rw [List.length_map]; omega, rfl, by unfold evM; rw [List.map_append]; rfl⟩
    · obtain ⟨h1, h2⟩ := h
      subst h1 h2
      exact s_one (s_ret (x_imp (x_var 1 rfl) fun d m' ⟨h1, h2⟩ => ⟨h1, A', h2⟩))
def rxRedo : Ms → List Dt → Rs → Prop := fun m ds T => ∃ (e : Addr) (A : Ad) (V : Ev) (ud : List Deed) (t : Deed), V.und = ud ++ [t] ∧ (∀ d ∈ V.und, d.sh) ∧ V.s.szd ∧ t.okD V.s ∧ V.log.length ≤ 900 ∧ m = evM e A V ∧ ds = [.r e] ∧ T = fun d m' => d = .p t.d ∧ m' = evM e A ⟨V.p0, V.s.doD t, V.log ++ [t], ud⟩
theorem f9_redo (T : Tx K mg) : FnR P w K mg base CX0 9 (ma K "Evening" "redo") (spX K rxRedo) :=
  fnR_X T.f_Evening_redo sc_Evening_redo bn_Evening_redo (fun m ds T ⟨_, _, _, _, _, _, _, _, _, _, _, h, _⟩ => by rw [h]; rfl) fun cdv A outer s H E hr m ds R ⟨e, Ad, V, ud, t, hud, hsh, hz, hD, hl, h, h2, h3⟩ => by
    subst h h2 h3
    have hu := room_u hr
    have nd := sc_Evening_redo.nd
    obtain ⟨hn, hm⟩ := doD_nm V.s t
    have hud2 : V.und.map Deed.d = ud.map Deed.d ++ [t.d] := by rw [hud, List.map_append]; rfl
    refine s_seq (N1 := fun δ' m' => δ' = [some (.r e), none] ∧ m' = evM e Ad V) (s_if (x_lookC (k := false) (Rsv.one 0 rfl (rs_ev 0 rfl rfl rfl rfl rfl rfl rfl) .refl)
      (c_eqv (c_eq hu (sh_deeds hsh) sh_nil (d_fld T.s_Evening_its_undone rfl (d_var 0 rfl)) (d_new (d_lstP (ps := []) a_nil (by simp)))) (by rw [eqv_deeds, hud]; simp))) (fun m1 ⟨h, _⟩ => nomatch h) (fun m1 ⟨_, h⟩ => s_nil ⟨rfl, h⟩)) fun δ1 m1 ⟨h1, h2⟩ => ?_
    subst h1 h2
    refine s_seq (N1 := fun δ' m' => δ' = [some (.r e), some (.p t.d)] ∧ m' = evM e Ad ⟨V.p0, V.s, V.log, ud⟩) (s_shift (s_set 1 nd rfl (.inl rfl) (x_pop (x_fld T.s_Evening_its_undone rfl (x_var 0 rfl) (i := 0) rfl) (i := 2) (ps := ud.map Deed.d) (q := t.d) (by rw [← hud2]; rfl))) fun δ' m' h => ?_) fun δ1 m1 ⟨h1, h2⟩ => ?_
    · obtain ⟨d, ⟨h1, h2⟩, h3⟩ := h
      subst h1 h2 h3
      exact ⟨_, _, [], by rw [List.append_nil]; exact .refl _, ⟨rfl, rfl⟩, fun _ _ h => h⟩
    subst h1 h2
    refine s_seq (N1 := fun δ' m' => δ' = [some (.r e), some (.p t.d)] ∧ m' = evM e Ad ⟨V.p0, V.s.doD t, V.log, ud⟩) (s_shift (s_expr (N := fun δ' m' => δ' = [some (.r e), some (.p t.d)] ∧ m' = flM Ad.f Ad.a Ad.b Ad.c (V.s.doD t) ++ [(e, evO Ad V), (Ad.l, .l (V.log.map Deed.d)), (Ad.u, .l (ud.map Deed.d))])
      (x_meth T.c_Floor T.m_Floor_do (f8_Floor_do T) hr (x_fld T.s_Evening_its_floor rfl (x_var 0 rfl) (i := 0) rfl) (i := 3) rfl (x_pureA (a_cons (d_var 1 rfl) a_nil)) fun ds m1 h => ?_)) fun δ' m' h => ?_) fun δ1 m1 h => ?_
    · obtain ⟨h1, h2⟩ := h
      subst h1 h2
      exact ⟨flM Ad.f Ad.a Ad.b Ad.c V.s, _, _, pm 7 [3, 4, 5, 6, 0, 1, 2] rfl rfl, ⟨Ad.f, Ad.a, Ad.b, Ad.c, V.s, t, hz, hD, rfl, rfl, rfl⟩, fun d m' ⟨h1, h2⟩ => ⟨rfl, by rw [h2]; rfl⟩⟩
    · obtain ⟨h1, h2⟩ := h
      subst h1 h2
      refine ⟨_, _, [], ?_, ⟨rfl, rfl⟩, fun _ _ h => h⟩
      refine pm 7 [4, 5, 6, 0, 1, 2, 3] rfl ?_
      rw [List.append_nil]
      unfold evM evO
      rw [hn, hm]
      rfl
    · obtain ⟨h1, h2⟩ := h
      subst h1 h2
      refine s_seq (N1 := fun δ' m' => δ' = [some (.r e), some (.p t.d)] ∧ m' = evM e Ad ⟨V.p0, V.s.doD t, V.log ++ [t], ud⟩) (s_expr (x_append (T := fun d m' => d = .p t.d ∧ m' = evM e Ad ⟨V.p0, V.s.doD t, V.log, ud⟩) (n := 1) (x_fld T.s_Evening_its_log rfl (x_var 0 rfl) (i := 0) rfl) (i := 1) rfl ⟨_, rfl⟩ (x_var 1 rfl) fun d m1 h => ?_)) fun δ1 m1 h => ?_
      · obtain ⟨h1, h2⟩ := h
        subst h1 h2
        exact ⟨t.d, V.log.map Deed.d, rfl, rfl, by rw [List.length_map]; omega, rfl, by unfold evM; rw [List.map_append]; rfl⟩
      · obtain ⟨h1, h2⟩ := h
        subst h1 h2
        exact s_one (s_ret (x_imp (x_var 1 rfl) fun d m' ⟨h1, h2⟩ => ⟨h1, h2⟩))
section
variable {X : Cx} {δ : De} {a b c : Expr} {x y z : Int} {pos : Pos}
theorem c_leLe (ha : PE X a (tD X.K δ (.i x))) (hb : PE X b (tD X.K δ (.i y))) (hc : PE X c (tD X.K δ (.i z))) (hm : lastMarks [.LtE, .LtE] [b, c] = false := by with_unfolding_all rfl) : PT X (.Compare a [.LtE, .LtE] [b, c] pos) (cD X.K δ (decide (x ≤ y) && decide (y ≤ z))) :=
  PT_imp (pt_chain op_le op_le ha hb hc hm) fun σ H Q ⟨E, q⟩ => ⟨E, fun v H1 s1 r1 => ⟨E.mono s1, fun w H2 s2 r2 => by
    have e1 := r1.i_inv
    have e2 := r2.i_inv
    subst e1 e2
    refine ⟨x, y, rfl, rfl, _, rfl, ?_⟩
    by_cases h : x ≤ y
    · simp only [h, decide_true, if_true, Bool.true_and] at q ⊢
      refine ⟨E.mono (s1.trans s2), fun u H3 s3 r3 => ?_⟩
      have e3 := r3.i_inv
      subst e3
      exact ⟨y, z, rfl, rfl, _, rfl, q H3 ((s1.trans s2).trans s3)⟩
    · simp only [h, decide_false, Bool.false_eq_true, if_false, Bool.false_and] at q ⊢
      exact ⟨_, rfl, q H2 (s1.trans s2)⟩⟩⟩
end
def rxPast : Ms → List Dt → Rs → Prop := fun m ds T => ∃ (e : Addr) (A : Ad) (V : Ev) (k : Nat), 1 ≤ V.s.n ∧ 1 ≤ V.s.m ∧ k ≤ V.log.length ∧ V.log.length ≤ 900 ∧ okL V.s0 (V.log.take k) ∧ m = evM e A V ∧ ds = [.r e, .i k] ∧ T = fun d m' => ∃ x A', d = .r x ∧ m' = evM x A' ⟨V.p0, runL V.s0 (V.log.take k), V.log.take k, []⟩ ++ evM e A V
theorem f11_past (T : Tx K mg) : FnR P w K mg base CX0 11 (ma K "Evening" "past") (spX K rxPast) :=
  fnR_X T.f_Evening_past sc_Evening_past bn_Evening_past (fun m ds T ⟨_, _, _, _, _, _, _, _, _, _, h, _⟩ => by rw [h]; rfl) fun cdv A outer s H E hr m ds R ⟨e, Ad, V, k, hn1, hm1, hkl, hl, hk, h, h2, h3⟩ => by
    subst h h2 h3
    have hu := room_u hr
    have nd := sc_Evening_past.nd
    refine s_seq (N1 := fun δ' m' => δ' = [some (.r e), some (.i k), none] ∧ m' = evM e Ad V) (s_if (x_lookC (k := false) (Rsv.one 0 rfl (rs_ev 0 rfl rfl rfl rfl rfl rfl rfl) .refl)
      (c_eqv (c_not (c_leLe d_int (d_var 1 rfl) (d_lenL rfl T.b_len (a_cons (d_fld T.s_Evening_its_log rfl (d_var 0 rfl)) a_nil)))) (by rw [List.length_map, decide_eq_true (show (0 : Int) ≤ k by omega), decide_eq_true (show (k : Int) ≤ (V.log.length : Nat) by omega)]; rfl)))
      (fun m1 ⟨h, _⟩ => nomatch h) (fun m1 ⟨_, h⟩ => s_nil ⟨rfl, h⟩)) fun δ1 m1 ⟨h1, h2⟩ => ?_
    subst h1 h2
    refine s_seq (N1 := fun δ' m' => ∃ x A', δ' = [some (.r e), some (.i k), some (.r x)] ∧ m' = evM x A' ⟨V.p0, V.s0, [], []⟩ ++ evM e Ad V) (s_shift (s_set (T := fun d m' => ∃ x A', d = .r x ∧ m' = evM x A' ⟨V.p0, V.s0, [], []⟩ ++ evM e Ad V) 2 nd rfl (.inl rfl)
      (x_make T.k_Evening ((f3_Evening_init T).mono (show 3 ≤ 9 by decide)) hr rfl T.g_Evening (xa_d (x_fld T.s_Evening_its_suns rfl (x_var 0 rfl) (i := 0) rfl) (xa_d (x_fld T.s_Evening_its_moons rfl (x_var 0 rfl) (i := 0) rfl) (xa_d (x_fld T.s_Evening_its_first rfl (x_var 0 rfl) (i := 0) rfl) xa_nil))) fun ds m1 h => ?_)) fun δ' m' h => ?_) fun δ1 m1 ⟨x, A', h1, h2⟩ => ?_
    · obtain ⟨h1, h2⟩ := h
      exact ⟨_, ⟨V.s.n, V.s.m, V.p0, hn1, hm1, h1, rfl⟩, fun x' ma ⟨A', h3⟩ => ⟨x', A', rfl, by rw [h3, h2]⟩⟩
    · obtain ⟨d, ⟨x, A', h1, h2⟩, h3⟩ := h
      subst h1 h2 h3
      exact ⟨_, _, [], by rw [List.append_nil], ⟨x, A', rfl, rfl⟩, fun _ _ h => h⟩
    subst h1 h2
    refine s_seq (N1 := fun δ' m' => δ' = [some (.r e), some (.i k), some (.r x)] ∧ ∃ A', m' = evM x A' ⟨V.p0, runL V.s0 (V.log.take k), V.log.take k, []⟩ ++ evM e Ad V) (s_expr
      (x_meth T.c_Evening T.m_Evening_begin_anew (f10_begin_anew T) hr (x_var 2 rfl) (i := 0) rfl (xa_1 (x_lookN (Rsv.one 0 rfl (rs_ev 7 rfl rfl rfl rfl rfl rfl rfl) .refl) (ps := (V.log.take k).map Deed.d) (noLs_deeds _)
        (n_eqv (d_slL (k := k) (i := (k : Int)) (by rw [HT.sIx_nat, List.length_map]; omega) (d_fld T.s_Evening_its_log rfl (d_var 0 rfl)) (d_var 1 rfl)) (by rw [List.map_take])))) fun ds m1 h => ?_)) fun δ1 m1 h => ?_
    · obtain ⟨d, ⟨h1, h2⟩, h3⟩ := h
      subst h1 h2 h3
      exact ⟨evM x A' ⟨V.p0, V.s0, [], []⟩, evM e Ad V, _, .refl _, ⟨x, A', ⟨V.p0, V.s0, [], []⟩, V.log.take k, hk, by rw [List.length_take]; omega, rfl, rfl, rfl⟩, fun d m' ⟨h1, A2, _, h2⟩ => ⟨rfl, A2, by rw [h2]⟩⟩
    obtain ⟨h1, A2, h2⟩ := h
    subst h1 h2
    exact s_one (s_ret (x_imp (x_var 2 rfl) fun d m' ⟨h1, h2⟩ => ⟨x, A2, h1, h2⟩))
def rxCopied : Ms → List Dt → Rs → Prop := fun m ds T => ∃ (e : Addr) (A : Ad) (V : Ev), 1 ≤ V.s.n ∧ 1 ≤ V.s.m ∧ V.log.length ≤ 900 ∧ okL V.s0 V.log ∧ m = evM e A V ∧ ds = [.r e] ∧ T = fun d m' => ∃ x A', d = .r x ∧ m' = evM x A' ⟨V.p0, runL V.s0 V.log, V.log, V.und⟩ ++ evM e A V
theorem f12_copied (T : Tx K mg) : FnR P w K mg base CX0 12 (ma K "Evening" "copied") (spX K rxCopied) :=
  fnR_X T.f_Evening_copied sc_Evening_copied bn_Evening_copied (fun m ds T ⟨_, _, _, _, _, _, _, _, h, _⟩ => by rw [h]; rfl) fun cdv A outer s H E hr m ds R ⟨e, Ad, V, hn1, hm1, hl, hk, h, h2, h3⟩ => by
    subst h h2 h3
    have nd := sc_Evening_copied.nd
    obtain ⟨hn, hm⟩ := runL_nm V.log V.s0
    refine s_seq (N1 := fun δ' m' => ∃ x A', δ' = [some (.r e), some (.r x)] ∧ m' = evM x A' ⟨V.p0, runL V.s0 V.log, V.log, []⟩ ++ evM e Ad V) (s_shift (s_set (T := fun d m' => ∃ x A', d = .r x ∧ m' = evM x A' ⟨V.p0, runL V.s0 V.log, V.log, []⟩ ++ evM e Ad V) 1 nd rfl (.inl rfl)
      (x_meth T.c_Evening T.m_Evening_past (f11_past T) hr (x_var 0 rfl) (i := 0) rfl (xa_1 (x_look (q := .int V.log.length) (Rsv.one 0 rfl (rs_ev 0 rfl rfl rfl rfl rfl rfl rfl) .refl) rfl (d_eqv (d_lenL rfl T.b_len (a_cons (d_fld T.s_Evening_its_log rfl (d_var 0 rfl)) a_nil)) (by rw [List.length_map])))) fun ds m1 h => ?_)) fun δ' m' h => ?_) fun δ1 m1 ⟨x, A', h1, h2⟩ => ?_
    · obtain ⟨d, ⟨h1, h2⟩, h3⟩ := h
      subst h1 h2 h3
      exact Rf.self ⟨e, Ad, V, V.log.length, hn1, hm1, Nat.le_refl _, hl, by rw [List.take_length]; exact hk, rfl, rfl, rfl⟩ fun d m' ⟨x, A', h1, h2⟩ => ⟨x, A', h1, by rw [h2, List.take_length]⟩
    · obtain ⟨d, ⟨x, A', h1, h2⟩, h3⟩ := h
      subst h1 h2 h3
      exact ⟨_, _, [], by rw [List.append_nil], ⟨x, A', rfl, rfl⟩, fun _ _ h => h⟩
    subst h1 h2
    refine s_seq (N1 := fun δ' m' => ∃ A2, δ' = [some (.r e), some (.r x)] ∧ m' = evM x A2 ⟨V.p0, runL V.s0 V.log, V.log, V.und⟩ ++ evM e Ad V) (s_shift (s_asg (N := fun δ' m' => ∃ l, δ' = [some (.r e), some (.r x)] ∧ m' = (l, .l (V.und.map Deed.d)) :: ((evM x A' ⟨V.p0, runL V.s0 V.log, V.log, []⟩).set 0 (x, evO ⟨A'.f, A'.l, l, A'.a, A'.b, A'.c⟩ ⟨V.p0, runL V.s0 V.log, V.log, V.und⟩) ++ evM e Ad V))
      (x_lookM (Rsv.one 0 rfl (rs_ev 7 rfl rfl rfl rfl rfl rfl rfl) .refl) (noLs_deeds V.und) (d_listL rfl T.b_list (d_fld T.s_Evening_its_undone rfl (d_var 0 rfl)))) fun d m1 ⟨l, h1, h2⟩ => ?_) fun δ' m' h => ?_) fun δ1 m1 ⟨A2, h1, h2⟩ => ?_
    · subst h1 h2
      exact xg_imp (xg_fld T.s_Evening_its_undone (x_var 1 rfl) (i := 1) rfl (by simp)) fun δ1 m1 ⟨h1, h2⟩ => ⟨l, h1, h2⟩
    · obtain ⟨l, h1, h2⟩ := h
      subst h1 h2
      refine ⟨_, _, [(A'.u, .l [])], ?_, ⟨⟨A'.f, A'.l, l, A'.a, A'.b, A'.c⟩, rfl, rfl⟩, fun _ _ h => h⟩
      exact pm 15 [1, 2, 0, 4, 5, 6, 7, 8, 9, 10, 11, 12, 13, 14, 3] rfl rfl
    subst h1 h2
    exact s_one (s_ret (x_imp (x_var 1 rfl) fun d m' ⟨h1, h2⟩ => ⟨x, A2, h1, h2⟩))
end Pr
set_option maxHeartbeats 4000000
/-! Y6: the bag of draws. -/
namespace Pr
open PySem PySem.Spec PyProof.Rows L2
section
variable {X : Cx} {δ δ' : De} {m m' : Ms} {T T1 : Rs} {N : De → Ms → Prop} {R : Rs} {a b c e o : Expr} {ps : List PyData} {q : PyData} {i j n : Nat} {k x y : Int} {ad : Addr} {pos p2 tpos : Pos}
theorem set_dp {K : PySem.W.Frag} {H : Hp} {v : V} {d : PyData} : ∀ (j : Nat) {vs : List V} {ds : List PyData}, DpAll K H vs ds → Dp K H v d → DpAll K H (vs.set j v) (ds.set j d)
  | _, _, _, .nil, _ => .nil
  | 0, _, _, .cons r t, h => .cons h t
  | j + 1, _, _, .cons r t, h => .cons r (set_dp j t h)
/-- o[k] = .., o a list -/
theorem xg_setL (ho : PE X o (xE X.K δ m fun d' m' => d' = .r ad ∧ m' = m)) (hb : PE X b (xE X.K δ m fun d' m' => d' = .i k ∧ m' = m)) (hi : m[i]? = some (ad, .l ps)) (hj : ixN ps.length k = some j)
    (ha : ∀ v, assign (.Subscript o b pos) X.env v = (do
      let ov ← holding [v] (eval o X.env)
      let iv ← holding [v, ov] (eval b X.env)
      standAt pos
      holding [v, ov, iv] (setItem ov iv v)
      release [v, ov, iv] []) := by intro _; rfl) : PG X (.Subscript o b pos) (xG X.K δ m (.p q) fun δ' m' => δ' = δ ∧ m' = m.set i (ad, .l (ps.set j q))) := by
  refine ⟨fun pins s σ H v u Q I r ⟨M, E, rr, z⟩ => (pg_sub ho hb set_list ha).run pins s σ H v u Q I r ⟨M, E, fun w d' m' H1 ⟨e1, e2⟩ M1 c1 r1 => ?_⟩⟩
  subst e1 e2
  cases r1
  refine ⟨M1, E.mono c1, fun w2 d2 m2 H2 ⟨e1, e2⟩ M2 c2 r2 => ?_⟩
  subst e1 e2
  have e3 := r2.i_inv
  subst e3
  obtain ⟨xs, g1, g2⟩ := M2.at hi
  have el := dpAll_length g2
  obtain ⟨M4, c4⟩ := mem_set (d := .l (ps.set j q)) M2 hi (u := .lst (xs.set j v)) ⟨_, upd_same, set_dp j g2 (dp_mono (c1.trans c2) rr.toDp)⟩
  exact ⟨ad, xs, k, j, rfl, rfl, g1, by rw [el]; exact hj, z σ δ _ _ ⟨rfl, rfl⟩ M4 ((c1.trans c2).trans c4) (E.mono ((c1.trans c2).trans c4))⟩
/-- o[k] by values, k from 0 on -/
def rGetL (K : PySem.W.Frag) : V → V → Hp → VK → Prop := fun o i H Q => ∃ p xs k z, o = .ref p ∧ i = .int k ∧ 0 ≤ k ∧ SqL K H p xs ∧ atI xs k = some z ∧ Q z H
theorem get_list : PGet X (rGetL X.K) := by
  intro pins s σ H x y v u Q I rx ry h
  obtain ⟨p, xs, i, z, rfl, rfl, h0, hq, he, q⟩ := h
  cases rx
  obtain ⟨t, rfl⟩ := ry
  obtain ⟨its, r, pl, hz⟩ := I.list hq
  obtain ⟨j, h1, h2, h3, h4, h5⟩ := atI_get he
  obtain ⟨w, ew, rw'⟩ := r.get h2
  have hl := r.length
  have hn := line63
  have hj : i.toNat = j := by
    rw [seqIndex_of h0 h5] at h1
    exact Option.some.inj h1
  exact wpAny_getItem_list pl.isList h0 (by omega) (by rw [hj]; simpa using ew) ⟨z, H, I, rw', q⟩
/-- o[k] += e, o a list -/
theorem s_augL (hm : m[i]? = some (ad, .l ps)) (ho : PE X o (xE X.K δ m fun d' m' => d' = .r ad ∧ m' = m)) (hb : PE X b (xE X.K δ m fun d' m' => d' = .i k ∧ m' = m)) (hk : 0 ≤ k) (hx : atI ps k = some (.int x)) (hj : ixN ps.length k = some j) (he : PE X e (xE X.K δ m fun d' m' => d' = .i y ∧ m' = m))
    (ha : ∀ ov iv new, augStore b ov iv new = (do holding [new, ov, iv] (setItem ov iv new); release [new, ov, iv] []; pure .next) := by intros; rfl) : PS X (.AugAssign (.Subscript o b tpos) .Add e pos) (xS X.K δ m (fun δ' m' => δ' = δ ∧ m' = m.set i (ad, .l (ps.set j (.int (x + y))))) R) :=
  PS_imp (ps_augS ho hb get_list he ip_add set_list ha) fun D σ H ⟨M, E, z, _⟩ => ⟨M, E, fun v d' m' H1 ⟨e1, e2⟩ M1 c1 r1 => by
    subst e1 e2
    cases r1
    refine ⟨M1, E.mono c1, fun w2 d2 m2 H2 ⟨e1, e2⟩ M2 c2 r2 => ?_⟩
    subst e1 e2
    have e3 := r2.i_inv
    subst e3
    obtain ⟨xs, g1, g2⟩ := M2.at hm
    obtain ⟨w, ew, rw'⟩ := atI_dp g2 hx
    refine ⟨ad, xs, k, w, rfl, rfl, hk, SqL.of g1, ew, M2, E.mono (c1.trans c2), fun w3 d3 m3 H3 ⟨e1, e2⟩ M3 c3 r3 => ?_⟩
    subst e1 e2
    have e4 := r3.i_inv
    subst e4
    have e5 := dp_int rw'
    subst e5
    obtain ⟨xs', g1', g2'⟩ := M3.at hm
    have el := dpAll_length g2'
    obtain ⟨M4, c4⟩ := mem_set (d := .l (ps.set j (.int (x + y)))) M3 hm (u := .lst (xs'.set j (.int (x + y)))) ⟨_, upd_same, set_dp j g2' (.int _)⟩
    exact ⟨x, y, rfl, rfl, ad, xs', k, j, rfl, rfl, g1', by rw [el]; exact hj, z σ δ _ _ ⟨rfl, rfl⟩ M4 (((c1.trans c2).trans c3).trans c4) (E.mono (((c1.trans c2).trans c3).trans c4))⟩⟩
end
variable {P : Program} {w : World} {K : PySem.W.Frag} {mg : Str → Option Value} {base : Heap}
theorem ap0 {α : Type} {l : List α} : l.Perm (l ++ []) := by rw [List.append_nil]
def bgL (c s p : Int) (cs : List Int) : List PyData := [.int c, .int s, .int p, .list (cs.map .int)]
structure Bag where
  c : Int
  s : Int
  p : Int
  cs : List Int
structure Bag.ok (B : Bag) : Prop where
  c : 0 ≤ B.c
  s : 0 ≤ B.s
  p : 0 ≤ B.p
  cs : ∀ x ∈ B.cs, 0 ≤ x
abbrev Bag.m (b : Addr) (B : Bag) : Ms := [(b, .l (bgL B.c B.s B.p B.cs))]
/-- the memory is a bag's -/
def Bg (b : Addr) (m : Ms) : Prop := ∃ B : Bag, B.ok ∧ m = B.m b
def rxTake : Ms → List Dt → Rs → Prop := fun m ds T => ∃ (b : Addr) (n : Nat), 0 < n ∧ n ≤ 1000000 ∧ Bg b m ∧ ds = [.r b, .i n] ∧ T = fun d m' => ∃ v : Nat, v < n ∧ d = .i v ∧ Bg b m'
theorem rs_bag {b : Addr} {B : Bag} : RsD K (B.m b) (.r b) (.l (bgL B.c B.s B.p B.cs)) := .l 0 rfl
theorem nat_mod {x : Int} {n : Nat} (h : 0 < n) : ∃ v : Nat, v < n ∧ x % (n : Int) = v := by
  have h1 := Int.emod_nonneg x (show (n : Int) ≠ 0 by omega)
  have h2 := Int.emod_lt_of_pos x (show (0 : Int) < n by omega)
  exact ⟨(x % n).toNat, by omega, by omega⟩
theorem f1_law_take (T : Tx K mg) : FnR P w K mg base CX0 1 (ga K "_law_take") (spX K rxTake) :=
  fnR_X T.f_law_take sc_law_take bn_law_take (fun m ds T ⟨_, _, _, _, _, h, _⟩ => by rw [h]; rfl) fun cdv A outer s H E hr m ds R ⟨b, n, hn, hn2, ⟨B, hB, hm⟩, h2, h3⟩ => by
    subst h2 h3 hm
    have hu := room_u hr
    have nd := sc_law_take.nd
    have rs : ∀ B : Bag, ∀ δ : De, δ[0]? = some (some (.r b)) → Rsv K (B.m b) δ (δ.set 0 (some (.l (bgL B.c B.s B.p B.cs)))) := fun B δ h => Rsv.one 0 h rs_bag .refl
    refine s_seq (N1 := fun δ' m' => δ' = [some (.r b), some (.i n), none, none, none, none, none] ∧ Bg b m') (s_shift (N := fun δ' m' => Bg b m' ∧ ∃ x y, δ' = [some (.r b), some (.i n), x, y, none, none, none])
      (s_if (x_lookC (rs B _ rfl) (c_eq hu sh_int sh_int (d_ixL (p := .int B.c) rfl (d_var 0 rfl) d_int) d_int)) (fun m1 ⟨_, h⟩ => ?_) (fun m1 ⟨_, h⟩ => s_nil ⟨⟨B, hB, h⟩, none, none, rfl⟩)) fun δ' m' h => ?_) fun δ1 m1 h => ?_
    · subst h
      refine s_seq (x_pureS (n_set 2 nd rfl (.inl rfl) (d_int (i := 0)))) fun δ1 m1 ⟨h1, h2⟩ => ?_
      subst h1 h2
      refine s_seq (N1 := fun δ' m' => ∃ x : Int, 0 ≤ x ∧ δ' = [some (.r b), some (.i n), some (.i x), none, none, none, none] ∧ m' = B.m b)
        (s_if (x_lookC (rs B _ rfl) (c_lt (d_ixL (p := .int B.p) rfl (d_var 0 rfl) d_int) (d_lenL rfl T.b_len (a_cons (d_ixL (p := .list (B.cs.map .int)) rfl (d_var 0 rfl) d_int) a_nil)))) (fun m1 h => ?_) (fun m1 ⟨_, h⟩ => s_nil ⟨0, by decide, rfl, h⟩)) fun δ1 m1 h => ?_
      · obtain ⟨h0, h⟩ := h
        subst h
        have hlt : B.p < (B.cs.length : Nat) := by have := of_decide_eq_true h0.symm; rw [List.length_map] at this; exact this
        have hp := hB.p
        obtain ⟨pn, hpn⟩ : ∃ pn : Nat, B.p = pn := ⟨B.p.toNat, by omega⟩
        have hpl : pn < B.cs.length := by omega
        have hat : atI (B.cs.map PyData.int) B.p = some (.int B.cs[pn]) := by
          rw [hpn, atI_nat (by rw [List.length_map]; exact hpl), List.getElem_map]
        refine s_one (s_shift (s_set 2 nd rfl (.inl rfl) (x_look (rs B _ rfl) rfl (d_ixL (p := .int B.cs[pn]) (i := B.p) hat (d_ixL (p := .list (B.cs.map .int)) rfl (d_var 0 rfl) d_int) (d_ixL (p := .int B.p) rfl (d_var 0 rfl) d_int)))) fun δ' m' h => ?_)
        obtain ⟨d, ⟨h1, h2⟩, h3⟩ := h
        subst h1 h2 h3
        exact ⟨_, _, [], ap0, ⟨B.cs[pn], hB.cs _ (List.getElem_mem hpl), rfl, rfl⟩, fun _ _ h => h⟩
      obtain ⟨x, hx, h1, h2⟩ := h
      subst h1 h2
      refine s_seq (N1 := fun δ' m' => δ' = [some (.r b), some (.i n), some (.i x), none, none, none, none] ∧ m' = Bag.m b ⟨B.c, B.s, B.p + 1, B.cs⟩) (s_shift (s_augL (i := 0) (ps := bgL B.c B.s B.p B.cs) (k := 2) (x := B.p) (y := 1) rfl (x_var 0 rfl) (x_pure d_int) (by decide) rfl rfl (x_pure d_int)) fun δ' m' h => ?_) fun δ1 m1 ⟨h1, h2⟩ => ?_
      · obtain ⟨h1, h2⟩ := h
        subst h1 h2
        exact ⟨_, _, [], ap0, ⟨rfl, rfl⟩, fun _ _ h => h⟩
      subst h1 h2
      refine s_seq (N1 := fun δ' m' => δ' = [some (.r b), some (.i n), some (.i x), none, none, none, none] ∧ ∃ c : Int, 0 ≤ c ∧ m' = Bag.m b ⟨c, B.s, B.p + 1, B.cs⟩)
        (s_if (x_pureC (c_ge (d_var 2 rfl) d_int)) (fun m1 ⟨_, h⟩ => ?_) (fun m1 ⟨_, h⟩ => s_nil ⟨rfl, B.c, hB.c, h⟩)) fun δ1 m1 ⟨h1, c, hc, h2⟩ => ?_
      · subst h
        refine s_one (s_asg (x_var 2 rfl) fun d m1 ⟨h1, h2⟩ => ?_)
        subst h1 h2
        exact xg_imp (xg_setL (i := 0) (j := 0) (k := 0) (x_var 0 rfl) (x_pure d_int) rfl rfl) fun δ' m' ⟨h1, h2⟩ => ⟨h1, x, hx, h2⟩
      subst h1 h2
      refine s_seq (N1 := fun δ' m' => ∃ y : Int, δ' = [some (.r b), some (.i n), some (.i x), some (.i y), none, none, none] ∧ m' = Bag.m b ⟨c, B.s, B.p + 1, B.cs⟩) (s_shift (s_set 3 nd rfl (.inl rfl) (x_look (rs ⟨c, B.s, B.p + 1, B.cs⟩ _ rfl) rfl
        (d_add (d_add (d_mul (.inr (by decide)) (d_ixL (p := .int B.s) rfl (d_var 0 rfl) d_int) (d_int (i := 48271))) (d_mod (by decide) (d_intI rfl T.b_int (a_cons (d_var 2 rfl) a_nil)) (d_int (i := 2147483647)))) (d_mul (.inl (by decide)) (d_int (i := 7919)) (d_ixL (p := .int (B.p + 1)) rfl (d_var 0 rfl) d_int))))) fun δ' m' h => ?_) fun δ1 m1 h => ?_
      · obtain ⟨d, ⟨h1, h2⟩, h3⟩ := h
        subst h1 h2 h3
        exact ⟨_, _, [], ap0, ⟨_, rfl, rfl⟩, fun _ _ h => h⟩
      obtain ⟨y, h1, h2⟩ := h
      subst h1 h2
      refine s_one (s_asg (x_pure (d_mod (by decide) (d_intI rfl T.b_int (a_cons (d_var 3 rfl) a_nil)) (d_int (i := 2147483647)))) fun d m1 ⟨h1, h2⟩ => ?_)
      subst h1 h2
      exact xg_imp (xg_setL (i := 0) (j := 1) (k := 1) (x_var 0 rfl) (x_pure d_int) rfl rfl) fun δ' m' ⟨h1, h2⟩ => ⟨⟨⟨c, y % 2147483647, B.p + 1, B.cs⟩, ⟨hc, Int.emod_nonneg _ (by decide), by have := hB.p; show 0 ≤ B.p + 1; omega, hB.cs⟩, h2⟩, _, _, h1⟩
    · obtain ⟨hb, x, y, h1⟩ := h
      subst h1
      exact ⟨_, _, [], ap0, ⟨rfl, hb⟩, fun _ _ E => (E.forget 2).forget 3⟩
    · obtain ⟨h1, B2, hB2, h2⟩ := h
      subst h1 h2
      refine s_seq (N1 := fun δ' m' => δ' = [some (.r b), some (.i n), none, none, none, none, none] ∧ m' = B2.m b) (s_if (x_lookC (rs B2 _ rfl) (c_gt (d_ixL (p := .int B2.c) rfl (d_var 0 rfl) d_int) d_int)) (fun m1 ⟨_, h⟩ => ?_) (fun m1 ⟨_, h⟩ => s_nil ⟨rfl, h⟩)) fun δ1 m1 ⟨h1, h2⟩ => ?_
      · subst h
        refine s_seq (N1 := fun δ' m' => ∃ v : Nat, v < n ∧ δ' = [some (.r b), some (.i n), none, none, some (.i v), none, none] ∧ m' = B2.m b) (s_shift (s_set 4 nd rfl (.inl rfl) (x_look (rs B2 _ rfl) rfl (d_mod (show (0 : Int) < n by omega) (d_intI rfl T.b_int (a_cons (d_ixL (p := .int B2.c) rfl (d_var 0 rfl) d_int) a_nil)) (d_var 1 rfl)))) fun δ' m' h => ?_) fun δ1 m1 ⟨v, hv, h1, h2⟩ => ?_
        · obtain ⟨d, ⟨h1, h2⟩, h3⟩ := h
          obtain ⟨v, hv, e⟩ := nat_mod (x := B2.c) hn
          subst h1 h2 h3
          exact ⟨_, _, [], ap0, ⟨v, hv, by rw [e]; rfl, rfl⟩, fun _ _ h => h⟩
        subst h1 h2
        refine s_seq (N1 := fun δ' m' => δ' = [some (.r b), some (.i n), none, none, some (.i v), none, none] ∧ Bg b m') (s_asg (x_look (rs B2 _ rfl) rfl (d_fdiv ⟨by omega, by omega⟩ (d_ixL (p := .int B2.c) rfl (d_var 0 rfl) d_int) (d_var 1 rfl))) fun d m1 ⟨h1, h2⟩ => ?_) fun δ1 m1 ⟨h1, h2⟩ => ?_
        · subst h1 h2
          exact xg_imp (xg_setL (i := 0) (j := 0) (k := 0) (x_var 0 rfl) (x_pure d_int) rfl rfl) fun δ' m' ⟨h1, h2⟩ => ⟨h1, ⟨B2.c / n, B2.s, B2.p, B2.cs⟩, ⟨Int.ediv_nonneg hB2.c (by omega), hB2.s, hB2.p, hB2.cs⟩, h2⟩
        subst h1
        exact s_one (s_ret (x_imp (x_var 4 rfl) fun d m' ⟨h1, h3⟩ => ⟨v, hv, h1, by rw [h3]; exact h2⟩))
      subst h1 h2
      refine s_seq (N1 := fun δ' m' => ∃ x : Int, (0 ≤ x ∧ x < 1000000007) ∧ δ' = [some (.r b), some (.i n), none, none, none, some (.i x), none] ∧ m' = B2.m b) (s_shift (s_set 5 nd rfl (.inl rfl) (x_look (rs B2 _ rfl) rfl (d_mod (by decide) (d_intI rfl T.b_int (a_cons (d_mul (.inr (by decide)) (d_add (d_ixL (p := .int B2.s) rfl (d_var 0 rfl) d_int) (d_int (i := 1))) (d_int (i := 39373))) a_nil)) (d_int (i := 1000000007))))) fun δ' m' h => ?_) fun δ1 m1 h => ?_
      · obtain ⟨d, ⟨h1, h2⟩, h3⟩ := h
        subst h1 h2 h3
        exact ⟨_, _, [], ap0, ⟨_, ⟨Int.emod_nonneg _ (by decide), Int.emod_lt_of_pos _ (by decide)⟩, rfl, rfl⟩, fun _ _ h => h⟩
      obtain ⟨x, hx, h1, h2⟩ := h
      subst h1 h2
      refine s_seq (N1 := fun δ' m' => ∃ y : Int, (0 ≤ y ∧ y < 998244353) ∧ δ' = [some (.r b), some (.i n), none, none, none, some (.i x), some (.i y)] ∧ m' = B2.m b) (s_shift (x_pureS (n_set 6 nd rfl (.inl rfl) (d_mod (by decide) (d_intI rfl T.b_int (a_cons (d_mul (.inr (by decide)) (d_mod (by decide) (d_intI rfl T.b_int (a_cons (d_mul (.inl ⟨by omega, by omega⟩) (d_var 5 rfl) (d_var 5 rfl)) a_nil)) (d_int (i := 998244353))) (d_int (i := 30011))) a_nil)) (d_int (i := 998244353))))) fun δ' m' h => ?_) fun δ1 m1 h => ?_
      · obtain ⟨h1, h2⟩ := h
        subst h1 h2
        exact ⟨_, _, [], ap0, ⟨_, ⟨Int.emod_nonneg _ (by decide), Int.emod_lt_of_pos _ (by decide)⟩, rfl, rfl⟩, fun _ _ h => h⟩
      obtain ⟨y, hy, h1, h2⟩ := h
      subst h1 h2
      refine s_seq (N1 := fun δ' m' => δ' = [some (.r b), some (.i n), none, none, none, some (.i x), some (.i y)] ∧ m' = B2.m b) (s_if (x_pureC (k := false) (c_eqv (c_gt (d_var 1 rfl) (d_int (i := 1000000))) (decide_eq_false (by omega)))) (fun m1 ⟨h, _⟩ => nomatch h) (fun m1 ⟨_, h⟩ => s_nil ⟨rfl, h⟩)) fun δ1 m1 ⟨h1, h2⟩ => ?_
      subst h1 h2
      exact s_one (s_ret (x_imp (x_pure (d_mod (show (0 : Int) < n by omega) (d_intI rfl T.b_int (a_cons (d_fdiv ⟨by decide, by decide⟩ (d_var 6 rfl) (d_int (i := 7))) a_nil)) (d_var 1 rfl))) fun d m' ⟨h1, h2⟩ => by
        obtain ⟨v, hv, e⟩ := nat_mod (x := y / 7) hn
        exact ⟨v, hv, by rw [h1, e], ⟨B2, hB2, h2⟩⟩))
end Pr
set_option maxHeartbeats 4000000
/-! Y7: the law's drawing defs. -/
namespace Pr
open PySem PySem.Spec PyProof.Rows L2
section
variable {X : Cx} {δ δ' : De} {m m' : Ms} {T T1 : Rs} {a b c e o : Expr} {es : List Expr} {ps : List PyData} {i : Int} {pos p : Pos}
/-- [e, ..], from now on a list that changes -/
theorem x_lstM (h : PA X es (aD X.K δ (ps.map Dt.p))) (hl : ps.length ≤ 1000) : PE X (.List es pos) (xE X.K δ m fun d' m' => ∃ p, d' = .r p ∧ m' = (p, .l ps) :: m) :=
  PE_imp (pe_lst (x_pureA (m := m) h)) fun σ H Q ⟨M, E, z⟩ => ⟨M, E, fun vs ds m1 H1 ⟨e1, e2⟩ M1 c1 r1 => by
    subst e1 e2
    have el := r1.length
    rw [List.length_map] at el
    refine ⟨Evl.sz_of (by omega), fun p hp => ?_⟩
    have np : p ∉ dm m1 := fun z => by obtain ⟨o, h⟩ := M1.has z; rw [hp] at h; cases h
    have s1 : Same H1 (upd H1 p (.lst vs)) := same_new hp
    have s2 : Same (mn H1 (dm m1)) (mn (upd H1 p (.lst vs)) (p :: dm m1)) := fun a u h => by
      have a1 : a ∉ dm m1 := fun z => by rw [mn_in z] at h; cases h
      rw [mn_out a1] at h
      have a2 : a ≠ p := fun e => by rw [e, hp] at h; cases h
      rw [mn_out (by simp [a2]; simpa using a1), upd_ne a2]
      exact h
    obtain ⟨M', c⟩ := mem_cons (p := p) (d := .l ps) M1 hp (fun a ha => upd_ne fun e => by rw [e] at ha; exact np ha) (same_mn s1) ⟨vs, upd_same, dpAll_mono s2 (rpAll_p r1)⟩
    exact z _ _ _ _ ⟨p, rfl, rfl⟩ M' (c1.trans c) (.r p)⟩
theorem d_abs (hg : Gl X "abs") (hm : X.mg "abs" = none) (ha : PE X e (tD X.K δ (.i i))) (he : starEach [e] X.env = (false, eval e X.env) :: starEach [] X.env := by rfl) : PE X (.Call (.Name "abs" p) [e] [] pos) (tD X.K δ (.i (if i < 0 then -i else i))) :=
  d_callB call_abs (fun vs H Q r q => by
    obtain ⟨v, rfl, rv⟩ := rpAll_1 r
    have e := rv.i_inv
    subst e
    exact ⟨i, rfl, q _ H (Same.refl H) (.p (.int _))⟩) hg hm boot_abs (a_cons ha a_nil he) (by decide) (by decide) he rfl
end
variable {P : Program} {w : World} {K : PySem.W.Frag} {mg : Str → Option Value} {base : Heap}
def rxBag : Ms → List Dt → Rs → Prop := fun m ds T => ∃ cs : List Int, m = [] ∧ ds = [.l (cs.map .int)] ∧ T = fun d m' => ∃ b, d = .r b ∧ Bg b m'
theorem f1_law_bag (T : Tx K mg) : FnR P w K mg base CX0 1 (ga K "_law_bag") (spX K rxBag) :=
  fnR_X T.f_law_bag sc_law_bag bn_law_bag (fun m ds T ⟨_, _, h, _⟩ => by rw [h]; rfl) fun cdv A outer s H E hr m ds R ⟨cs, h, h2, h3⟩ => by
    subst h h2 h3
    have nd := sc_law_bag.nd
    obtain ⟨k, hk⟩ : ∃ k, HT.sIx (cs.map PyData.int).length (cs.map PyData.int).length (some (63 : Int)) = k := ⟨_, rfl⟩
    have hkl : k ≤ 63 := by rw [← hk, show (63 : Int) = ((63 : Nat) : Int) from rfl, HT.sIx_nat]; omega
    refine s_one (s_ret (x_imp (x_lstM (ps := bgL 0 1234567891 0 ((cs.take k).map fun x => if x < 0 then -x else x)) (a_cons d_int (a_cons d_int (a_cons d_int (a_cons (d_new (n_eqv (d_lc0 (l := cs.take k) (ι := fun x => .int x) (f := fun x => .int (if x < 0 then -x else x)) (own := [("_law_cell", 1)]) rfl nd
      (i_list (d_new (n_eqv (d_slL hk (d_var 0 rfl) d_int) (by rw [List.map_take])))) (blkOk_by (by kernel_rfl)) rfl (by rw [List.length_take]; omega) (by decide) (fun _ _ => rfl)
      (fun x hx s H C cl fp => g_name 1 nd rfl (.inl rfl)) (fun x hx s H C cl fp => d_abs rfl T.b_abs (d_var 1 rfl))) (by rw [List.map_map]; rfl))) a_nil)))) (by simp [bgL])) fun d m' ⟨b, h1, h2⟩ => ?_))
    refine ⟨b, h1, ⟨0, 1234567891, 0, (cs.take k).map fun x => if x < 0 then -x else x⟩, ⟨Int.le_refl 0, (show (0 : Int) ≤ 1234567891 by decide), Int.le_refl 0, fun x hx => ?_⟩, h2⟩
    obtain ⟨y, _, rfl⟩ := List.mem_map.mp hx
    split <;> omega
def rxPick : Ms → List Dt → Rs → Prop := fun m ds T => ∃ (b : Addr) (ps : List PyData), 0 < ps.length ∧ ps.length ≤ 1000 ∧ noLs ps = true ∧ Bg b m ∧ ds = [.r b, .l ps] ∧ T = fun d m' => ∃ q, q ∈ ps ∧ d = .p q ∧ Bg b m'
theorem noLs_get : ∀ {ps : List PyData} {q : PyData}, noLs ps = true → q ∈ ps → noL q = true
  | p :: ps, q, h, hq => by
    simp only [noLs, Bool.and_eq_true] at h
    rcases List.mem_cons.mp hq with e | e
    · subst e; exact h.1
    · exact noLs_get h.2 e
theorem f2_law_pick (T : Tx K mg) : FnR P w K mg base CX0 2 (ga K "_law_pick") (spX K rxPick) :=
  fnR_X T.f_law_pick sc_law_pick bn_law_pick (fun m ds T ⟨_, _, _, _, _, _, h, _⟩ => by rw [h]; rfl) fun cdv A outer s H E hr m ds R ⟨b, ps, h0, hl, hn, hb, h2, h3⟩ => by
    subst h2 h3
    refine s_one (s_ret (x_ix (d1 := .l ps) (T1 := fun d m' => ∃ v : Nat, v < ps.length ∧ d = .i v ∧ Bg b m') ix_list (x_var 1 rfl)
      (x_call (f1_law_take T) hr rfl T.g_law_take T.f_law_take.kp (x_pureA (a_cons (d_var 0 rfl) (a_cons (d_lenL rfl T.b_len (a_cons (d_var 1 rfl) a_nil)) a_nil))) fun ds m1 ⟨h1, h2⟩ => ?_) fun d2 m' ⟨v, hv, h1, h2⟩ => ?_))
    · subst h1 h2
      exact Rf.self ⟨b, ps.length, h0, by omega, hb, rfl, rfl⟩ fun d m' h => h
    · subst h1
      exact ⟨ps[v], r2_ixL (atI_nat hv), noLs_get hn (List.getElem_mem hv), ps[v], List.getElem_mem hv, rfl, h2⟩
end Pr
set_option maxHeartbeats 4000000
/-! Wv: the frame around an expression over a memory; comprehensions whose element changes the memory. -/
namespace Pr
open PySem PySem.Spec PyProof.Rows L2
theorem Mem.tups {K : PySem.W.Frag} {H H' : Hp} {m m' : Ms} (h : Mem K H m) (c : Chg H (dm m) H' (dm m')) : Tk H H' := ⟨fun a y e => by
  have ha : a ∉ dm m := fun z => by obtain ⟨d, hd⟩ := mem_dm.mp z; exact (h.all _ hd).plain.2.2.1 y e
  exact mn_same _ _ _ _ (c a _ (by rw [mn_out ha]; exact e))⟩
section
variable {X : Cx} {δ δw δ' : De} {m m' m1 mb : Ms} {T T1 : Rs} {e elt tg iter : Expr} {pos : Pos} {ps acc : List PyData} {D : Addr}
theorem xe_frame (h : PE X e (xE X.K δ m T)) : PE X e (xE X.K δ (m ++ mb) fun d m' => ∃ m1, T d m1 ∧ m' = m1 ++ mb) :=
  ⟨fun pins s σ H Q I ⟨M, E, q⟩ => by
    have fo : Fo H (dm mb) := M.foS fun a ha => by rw [dm_append]; exact List.mem_append_right _ ha
    refine thn (h.run (pins ++ pinsAt (dm mb) s.heap) s σ (mn H (dm mb)) (fun v H1 => ∃ d m1, T d m1 ∧ Mem X.K H1 m1 ∧ Chg (mn H (dm mb)) (dm m) H1 (dm m1) ∧ Rp X.K (mn H1 (dm m1)) v d) (forget I fo) ⟨M.left, by rw [← mn_app]; exact E, fun v d m' H1 t M1 c1 r1 => ⟨d, m', t, M1, c1, r1⟩⟩) fun u s1 ⟨v, H1, I1, r, d, m1, t, M1, c1, r1⟩ => ?_
    have non := jn_get I1 fun f hf => let ⟨ob, e, _⟩ := fg_obj I (fo.all f hf); ⟨ob, e⟩
    obtain ⟨j1, j2⟩ := M.join M1 non c1
    refine ⟨v, _, rememberT I fo I1 (M.left.tups c1), r, q v d (m1 ++ mb) _ ⟨m1, t, rfl⟩ j1 ?_ (by rw [j2]; exact r1)⟩
    show Same (mn H (dm (m ++ mb))) (mn _ (dm (m1 ++ mb)))
    rw [j2, mn_app]
    exact c1⟩
/-- a range whose end may change the memory -/
def xI (K : PySem.W.Frag) (δ : De) (m : Ms) (U : Nat → Ms → Prop) : TI := fun σ H R => Mem K H m ∧ EnvD K σ (mn H (dm m)) δ ∧ ∀ n m' H', U n m' → Mem K H' m' → Chg H (dm m) H' (dm m') → R (Itr 0 n) H'
theorem xi_range {p : Pos} {U : Nat → Ms → Prop} (hg : Gl X "range") (hm : X.mg "range" = none) (ha : PE X e (xE X.K δ m T)) (hU : ∀ d m', T d m' → ∃ n : Nat, d = .i n ∧ n < 2 ^ 62 ∧ U n m') (hs : starEach [e] X.env = [(false, eval e X.env)] := by rfl) : PI X tg (.Call (.Name "range" p) [e] [] pos) (xI X.K δ m U) :=
  PI_imp (pi_range1 hg hm (xa_1 ha hs) hs) fun σ H R ⟨M, E, q⟩ => ⟨M, E, fun vs ds m' H' ⟨d, t, e⟩ M' c' r => by
    subst e
    obtain ⟨n, e1, hn, u⟩ := hU _ _ t
    subst e1
    obtain ⟨v, rfl, rv⟩ := rpAll_1 r
    have e := rv.i_inv
    subst e
    exact ⟨n, rfl, by omega, by omega, by rw [Int.toNat_natCast]; exact q n m' H' u M' c'⟩⟩
variable {scope : Scope} {own : List (Str × Nat)} {is : List Nat}
def lcG (X : Cx) (tg : Expr) (δw : De) (is : List Nat) (δ' : Nat → De) (n : Nat) : TG := fun v σ H Q => ∃ i, i < n ∧ fG (gD X.K δw (.i (i : Nat)) is (δ' i)) v σ H Q
def lcE (K : PySem.W.Frag) (δ' : Nat → De) (J : Nat → Nat → List PyData → Ms → Prop) : TE := fun σ H Q => ∃ k, ∃ z : Nat × List PyData × Ms × Addr, ((z.1 < k ∧ k ≤ 1000) ∧ J k z.1 z.2.1 z.2.2.1) ∧
  xE K (δ' z.1) (z.2.2.1 ++ [(z.2.2.2, .l z.2.1)]) (fun d m' => ∃ m2, (∃ q, d = .p q ∧ noL q = true ∧ J k (z.1 + 1) (z.2.1 ++ [q]) m2) ∧ m' = m2 ++ [(z.2.2.2, .l z.2.1)]) σ H Q
theorem x_lcR {U : Nat → Ms → Prop} (J : Nat → Nat → List PyData → Ms → Prop) (δ' : Nat → De) (hc : X.calm = true) (hN : X.N.Nodup) (hi : PI X tg iter (xI X.K δ m U)) (hU : ∀ k m1, U k m1 → k ≤ 1000 ∧ J k 0 [] m1) (ok : BlkOk X.N X.env.scope scope own) (hδ : δw = wipeD δ (own.map (·.2))) (hio : ∀ i ∈ is, i ∈ own.map (·.2))
    (hg : ∀ i, i < 1000 → Blk X scope fun X' => PG X' tg (gD X'.K δw (.i (i : Nat)) is (δ' i)))
    (he : ∀ k i acc m1, i < k → k ≤ 1000 → J k i acc m1 → Blk X scope fun X' => PE X' elt (xE X'.K (δ' i) m1 fun d m' => ∃ q, d = .p q ∧ noL q = true ∧ J k (i + 1) (acc ++ [q]) m'))
    (hT : ∀ k acc m1, acc.length = k → noLs acc = true → J k k acc m1 → T (.l acc) m1)
    (hs : ∀ x, foldedSetIterable iter X.env x = pure x := by intro _; rfl) : PE X (.ListComp elt [⟨tg, iter, [], 0⟩] scope pos) (xE X.K δ m T) := by
  refine PE_imp (pe_lc (g := lcG X tg δw is δ' 1000) (tt := fun σ H Q => Q true H) (te := lcE X.K δ' J) hc hN hi ok (fun s H C cl fp => pg_ex fun i hi => PG_frame (hg i hi s H C cl fp)) (fun s H C cl fp => pts_nil)
    (fun s H C cl fp => ⟨fun pins s' σ H' Q I ⟨k, z, hz, q⟩ => (xe_frame (he k z.1 z.2.1 z.2.2.1 hz.1.1 hz.1.2 hz.2 s H C cl fp)).run pins s' σ _ Q I q⟩) hs) fun σ H Q ⟨M, E, q⟩ => ⟨M, E, fun k m1 H1 u M1 c1 D hD => ?_⟩
  obtain ⟨hk, hJ⟩ := hU k m1 u
  have w : DW X.K (Itr 0 k) (rngD k) (mn H1 (dm m1)) := dw_range
  have hl : (rngD k).length = k := by unfold rngD; rw [List.length_map, List.length_range]
  have E1 : EnvD X.K (wipe σ (own.map (·.2))) (mn H1 (dm m1)) δw := by rw [hδ]; exact (E.mono c1).wipe _
  have c0 : Mem X.K (upd H1 D (.lst [])) (m1 ++ [(D, .l [])]) ∧ Chg H1 (dm m1) (upd H1 D (.lst [])) (dm (m1 ++ [(D, .l [])])) := by
    obtain ⟨a, b⟩ := mem_cons (p := D) (d := .l []) M1 hD (fun a ha => upd_ne fun e => by obtain ⟨o, h⟩ := M1.has ha; rw [e, hD] at h; cases h) (same_mn (same_new hD)) ⟨[], upd_same, .nil⟩
    have pp : ((D, Dt.l []) :: m1).Perm (m1 ++ [(D, .l [])]) := List.perm_append_singleton _ _ |>.symm
    exact ⟨a.perm pp, by show Same _ _; rw [← mn_perm (perm_dm pp)]; exact b⟩
  refine lc_it (g := lcG X tg δw is δ' 1000) (tt := fun σ H Q => Q true H) (te := lcE X.K δ' J) (Qd := fun H => Q (.ref D) H) w (fun i H' => ∃ acc m2, J k i acc m2 ∧ acc.length = i ∧ noLs acc = true ∧ Mem X.K H' (m2 ++ [(D, .l acc)]) ∧ Chg H1 (dm m1) H' (dm (m2 ++ [(D, .l acc)]))) ⟨[], m1, hJ, rfl, rfl, c0.1, c0.2⟩
    (fun i H' _ ⟨acc, m2, _, _, _, _, c⟩ => Same.trans c (mn_same _ _)) (fun i x H' H2 hlt ⟨acc, m2, j, la, na, M2, c2⟩ ⟨s3, hx⟩ => ?_) fun H' ⟨acc, m2, j, la, na, M2, c2⟩ => ?_
  · rw [hl] at hlt
    have M3 := M2.same s3
    have c3 : Chg H1 (dm m1) H2 (dm (m2 ++ [(D, .l acc)])) := c2.trans (.of s3)
    have hxi := hx (.int (i : Nat)) (by unfold rngD; rw [List.getElem?_map, List.getElem?_range hlt]; rfl)
    refine ⟨i, by omega, _, M3.fo, E1.mono c3, .p (dp_tl (tl_mn M3.fo.all) rfl hxi), fun σ2 E3 ag => ⟨Same.refl _, fun H4 b4 => ⟨wipe_agr hio ag, ?_⟩⟩⟩
    dsimp only
    rw [if_pos rfl]
    have M4 := M3.keep (fun a ha => b4.at ha) b4.chg
    refine ⟨k, (i, acc, m2, D), ⟨⟨hlt, hk⟩, j⟩, M4, by rw [b4.mn]; exact E3, fun y d m5 H5 ⟨m6, ⟨qq, e1, nq, j6⟩, e2⟩ M5 c5 r5 => ?_⟩
    subst e1 e2
    have hD5 : (m6 ++ [(D, Dt.l acc)])[m6.length]? = some (D, .l acc) := by simp
    obtain ⟨xs, g1, g2⟩ := M5.at hD5
    have el := dpAll_length g2
    obtain ⟨M7, c7⟩ := mem_set (d := .l (acc ++ [qq])) M5 hD5 (u := .lst (xs ++ [y])) ⟨_, upd_same, dpAll_append g2 (.cons r5.toDp .nil)⟩
    have es : (m6 ++ [(D, Dt.l acc)]).set m6.length (D, .l (acc ++ [qq])) = m6 ++ [(D, .l (acc ++ [qq]))] := by simp
    rw [es] at M7 c7
    refine ⟨xs, g1, Evl.sz_lt (by omega), acc ++ [qq], m6, j6, by simp [la], noLs_append na (by simp [noLs, nq]), M7, ((c3.trans b4.chg).trans c5).trans c7⟩
  · rw [hl] at j la
    have hDm : (m2 ++ [(D, Dt.l acc)])[m2.length]? = some (D, .l acc) := by simp
    obtain ⟨xs, g1, g2⟩ := M2.at hDm
    obtain ⟨M5, s5⟩ := M2.drop
    have nD : D ∉ dm m2 := fun z => by
      have nd := M2.nd
      rw [dm_append, List.nodup_append] at nd
      exact nd.2.2 D z D (by simp) rfl
    refine q (.ref D) (.l acc) m2 H' (hT k acc m2 la na j) M5 ((c1.trans c2).trans s5) (.p (.lst (SqL.of (by rw [mn_out nD]; exact g1)) (dpAll_mono s5 g2)))
end
end Pr
set_option maxHeartbeats 4000000
/-! Y8: drawn parts of rules. -/
namespace Pr
open PySem PySem.Spec PyProof.Rows L2
abbrev sg (b : Bool) : Str := ⟨#[sgn b]⟩
theorem glue_bits : ∀ l : List Bool, TL.joinL [] (l.map fun b => [sgn b]) = l.map sgn
  | [] => rfl
  | [a] => rfl
  | a :: b :: l => by
    have ih := glue_bits (b :: l)
    simp only [List.map_cons] at ih ⊢
    rw [TL.joinL, ih]
    rfl
theorem join_bits (l : List Bool) : Txt.join "" (l.map sg) = bitS l := by
  have h := SX.join_S [] (l.map fun b => [sgn b])
  rw [glue_bits, List.map_map] at h
  exact h
section
variable {X : Cx} {δ : De} {m : Ms} {T T1 : Rs} {e o : Expr} {pos apos : Pos}
theorem g_lst {es : List Expr} {δ2 : De} {ps : List PyData} {is : List Nat} {kk n : Nat} (hc : X.calm = true) (h : PGs X es (gsD X.K δ (ps.map Dt.p) is δ2)) (hl : ps.length = n) (hn : (assignEach es X.env).length = n := by rfl) (hst : (assignEach es X.env).findIdx? (·.1) = none := by rfl) :
    PG X (.Tuple es kk pos) (gD X.K δ (.l ps) is δ2) :=
  PG_imp (pg_unl hc h hn hst) fun v σ H Q ⟨E, r, q⟩ => by
    obtain ⟨a, xs, rfl, s, rr⟩ := dp_lst r.toDp
    exact ⟨a, xs, rfl, s, (dpAll_length rr).trans hl, E, rpAll_ofP rr, q⟩
theorem xt_cmp {op : CmpOp} {r : R2} {a b : Expr} {d2 : Dt} {C : Bool → Ms → Prop} (ho : OpR X (compareOp op) r) (ha : PE X a (xE X.K δ m T1)) (hb : PE X b (tD X.K δ d2)) (h2 : ∀ d1 m', T1 d1 m' → ∃ k, R2D X.K r d1 d2 (.b k) ∧ C k m') (hm : behindInMarks op b = false := by exact nomark _) : PT X (.Compare a [op] [b] pos) (xT X.K δ m C) :=
  PT_imp (pt_cmpR ho ha (pe_ex (W := fun i : Dt × Ms => T1 i.1 i.2) fun i w => x_pure (m := i.2) hb) hm) fun σ H Q ⟨M, E, z⟩ => ⟨M, E, fun v d m1 H1 t M1 c1 r1 => ⟨(d, m1), t, M1, E.mono c1, fun w dd m2 H2 ⟨e1, e2⟩ M2 c2 r2 => by
    subst e1 e2
    obtain ⟨k, rr, cc⟩ := h2 d _ t
    exact rr v w H2 _ ((r1.mono c2).mono (mn_same _ _)) (r2.mono (mn_same _ _)) fun y H3 s3 r3 => ⟨k, r3.b_inv, z k _ H3 cc (M2.same s3) ((c1.trans c2).trans (.of s3))⟩⟩⟩
theorem x_cmp {op : CmpOp} {r : R2} {a b : Expr} {d2 : Dt} {C : Bool → Ms → Prop} (ho : OpR X (compareOp op) r) (ha : PE X a (xE X.K δ m T1)) (hb : PE X b (tD X.K δ d2)) (h2 : ∀ d1 m', T1 d1 m' → ∃ k, R2D X.K r d1 d2 (.b k) ∧ C k m') (hm : behindInMarks op b = false := by exact nomark _) : PE X (.Compare a [op] [b] pos) (xE X.K δ m fun d m' => ∃ k, d = .b k ∧ C k m') :=
  PE_imp (pe_cmpR ho ha (pe_ex (W := fun i : Dt × Ms => T1 i.1 i.2) fun i w => x_pure (m := i.2) hb) hm) fun σ H Q ⟨M, E, z⟩ => ⟨M, E, fun v d m1 H1 t M1 c1 r1 => ⟨(d, m1), t, M1, E.mono c1, fun w dd m2 H2 ⟨e1, e2⟩ M2 c2 r2 => by
    subst e1 e2
    obtain ⟨k, rr, cc⟩ := h2 d _ t
    exact rr v w H2 _ ((r1.mono c2).mono (mn_same _ _)) (r2.mono (mn_same _ _)) fun y H3 s3 r3 => z y _ _ H3 ⟨k, rfl, cc⟩ (M2.same s3) ((c1.trans c2).trans (.of s3)) (by have e := r3.b_inv; subst e; exact .p (.bl _))⟩⟩
theorem dp_strs {K : PySem.W.Frag} {H : Hp} : ∀ {ys : List Str} {xs : List V}, DpAll K H xs (ys.map .str) → xs = ys.map V.str
  | [], _, h => by cases h; rfl
  | y :: ys, _, h => by
    rw [List.map_cons] at h
    cases h with
    | cons r t => rw [dp_str r, dp_strs t]; rfl
theorem x_join (ho : PE X o (xE X.K δ m fun d' m' => d' = .s "" ∧ m' = m)) (he : PE X e (xE X.K δ m T1)) (hT : ∀ d m1, T1 d m1 → ∃ l : List Bool, l.length ≤ 1000 ∧ d = .l ((l.map sg).map .str) ∧ T (.s (bitS l)) m1)
    (hs : starEach [e] X.env = [(false, eval e X.env)] := by rfl) (hbase : attributeBase o "join" X.env (eval o X.env) = eval o X.env := by rfl) (hline : (apos.endLine == pos.line) = true := by rfl) : PE X (.Call (.Attribute o "join" apos) [e] [] pos) (xE X.K δ m T) :=
  PE_imp (pe_join ho he hs hbase hline) fun σ H Q ⟨M, E, z⟩ => ⟨M, E, fun v d m' H1 ⟨e1, e2⟩ M1 c1 r1 => by
    subst e1 e2
    have e := r1.s_inv
    subst e
    refine ⟨⟨_, rfl⟩, M1, E.mono c1, fun w d2 m2 H2 t M2 c2 r2 => ?_⟩
    obtain ⟨l, hl, e, tt⟩ := hT _ _ t
    subst e
    obtain ⟨a, xs, rfl, sl, rr⟩ := dp_lst r2.toDp
    have ex := dp_strs rr
    subst ex
    refine ⟨"", a, l.map sg, rfl, rfl, .inl (sqL_mono (mn_same _ _) sl), ?_, ?_⟩
    · have h1 : ((l.map sg).map (·.length)).sum = l.length := by
        rw [List.map_map]
        clear hl tt sl rr r2 t
        induction l with
        | nil => rfl
        | cons b l ih => rw [List.map_cons, List.sum_cons, ih]; show 1 + l.length = l.length + 1; omega
      rw [h1]
      show l.length + (l.map sg).length * 0 ≤ _
      omega
    · rw [join_bits]
      exact z _ _ m2 H2 tt M2 (c1.trans c2) (.p (.str _))⟩
end
variable {P : Program} {w : World} {K : PySem.W.Frag} {mg : Str → Option Value} {base : Heap}
def rxParts (n : Nat) : Ms → List Dt → Rs → Prop := fun m ds T => ∃ (b : Addr) (dp lead : Nat) (pers : List Nat), dp < n ∧ lead ≤ 10 ∧ 0 < pers.length ∧ pers.length ≤ 10 ∧ (∀ x ∈ pers, 1 ≤ x ∧ x ≤ 10) ∧ Bg b m ∧ ds = [.r b, .i dp, .i lead, .l (pers.map fun x => .int (x : Nat))] ∧ T = fun d m' => ∃ p : Pt, p.ok ∧ p.deep ≤ dp ∧ d = .p p.data ∧ Bg b m'
theorem opN_at {v : Nat} (h1 : v ≠ 0) (h4 : v < 4) : ∃ o : Fin 3, atI ([.str "and", .str "or", .str "unlike"] : List PyData) ((v : Int) - 1) = some (.str (opN o)) := by
  match v, h1, h4 with
  | 1, _, _ => exact ⟨0, rfl⟩
  | 2, _, _ => exact ⟨1, rfl⟩
  | 3, _, _ => exact ⟨2, rfl⟩
theorem fn_law_parts (T : Tx K mg) : ∀ n, FnR P w K mg base CX0 (3 + n) (ga K "_law_parts") (spX K (rxParts n))
  | 0 => fun A outer s H us vs Q E hr e0 r ⟨m, ds, T, ⟨b, dp, _, _, h, _⟩, _⟩ => absurd h (Nat.not_lt_zero _)
  | n + 1 => fnR_X T.f_law_parts sc_law_parts bn_law_parts (fun m ds T ⟨_, _, _, _, _, _, _, _, _, _, h, _⟩ => by rw [h]; rfl) fun cdv A outer s H E hr m ds R ⟨b, dp, lead, pers, hdp, hld, hp0, hp1, hpx, hb, h2, h3⟩ => by
    subst h2 h3
    have hu := room_u hr
    have nd := sc_law_parts.nd
    have ih := fn_law_parts T n
    let δ0 : Option Dt → De := fun x => [some (.r b), some (.i dp), some (.i lead), some (.l (pers.map fun x => .int (x : Nat))), x, none, none, none, none, none]
    refine s_seq (N1 := fun δ' m' => ∃ v : Nat, v < 6 ∧ (dp = 0 → v = 5) ∧ δ' = δ0 (some (.i v)) ∧ Bg b m') (s_shift (s_set (T := fun d m' => ∃ v : Nat, v < 6 ∧ (dp = 0 → v = 5) ∧ d = .i v ∧ Bg b m') 4 nd rfl (.inl rfl)
      (x_if (x_pureC (c_gt (d_var 1 rfl) d_int)) (fun m1 ⟨h, h1⟩ => ?_) (fun m1 ⟨h, h1⟩ => ?_))) fun δ' m' h => ?_) fun δ1 m1 ⟨v, hv, hv0, h1, hb1⟩ => ?_
    · subst h1
      have hd : (0 : Int) < dp := of_decide_eq_true h.symm
      refine x_call ((f1_law_take T).mono (show 1 ≤ 3 + n by omega)) hr rfl T.g_law_take T.f_law_take.kp (x_pureA (a_cons (d_var 0 rfl) (a_cons d_int a_nil))) fun ds m1 ⟨h1, h2⟩ => ?_
      subst h1 h2
      exact Rf.self ⟨b, 6, by decide, by decide, hb, rfl, rfl⟩ fun d m' ⟨v, h1, h2, h3⟩ => ⟨v, h1, fun z => by omega, h2, h3⟩
    · subst h1
      exact x_imp (x_pure (d_int (i := 5))) fun d m' ⟨h1, h2⟩ => ⟨5, by decide, fun _ => rfl, h1, by rw [h2]; exact hb⟩
    · obtain ⟨d, ⟨v, h1, h2, h3, h4⟩, h5⟩ := h
      subst h3 h5
      exact ⟨_, _, [], ap0, ⟨v, h1, h2, rfl, h4⟩, fun _ _ h => h⟩
    subst h1
    have call : ∀ (m1 : Ms), Bg b m1 → dp ≠ 0 → Rf (rxParts n) m1 [.r b, .i ((dp : Int) - 1), .i lead, .l (pers.map fun x => .int (x : Nat))] (fun d m' => ∃ p : Pt, p.ok ∧ p.deep + 1 ≤ dp ∧ d = .p p.data ∧ Bg b m') := fun m1 hb1 h0 =>
      Rf.self ⟨b, dp - 1, lead, pers, by omega, hld, hp0, hp1, hpx, hb1, by rw [show ((dp : Int) - 1) = ((dp - 1 : Nat) : Int) by omega], rfl⟩ fun d m' ⟨p, h1, h2, h3, h4⟩ => ⟨p, h1, by omega, h3, h4⟩
    refine s_seq (N1 := fun δ' m' => v ≠ 0 ∧ δ' = δ0 (some (.i v)) ∧ m' = m1) (s_if (x_pureC (c_eq hu sh_int sh_int (d_var 4 rfl) d_int)) (fun m2 ⟨h, h1⟩ => ?_) (fun m2 ⟨h, h1⟩ => s_nil ⟨fun z => by subst z; exact absurd h (by decide), rfl, h1⟩)) fun δ1 m2 ⟨hv1, h1, h2⟩ => ?_
    · subst h1
      have hv2 : v = 0 := by
        rw [eqv_int] at h
        have := beq_iff_eq.mp h.symm
        omega
      refine s_one (s_ret (x_tup (A := fun ds m' => ∃ p : Pt, p.ok ∧ p.deep + 1 ≤ dp ∧ ds = [.s "not", .p p.data] ∧ Bg b m') ?_ fun ds m3 h => ?_))
      · refine xa_imp (xa_dc (x_pure d_str) (xa_1 (T := fun d m' => ∃ p : Pt, p.ok ∧ p.deep + 1 ≤ dp ∧ d = .p p.data ∧ Bg b m') ?_)) fun ds m' h => ?_
        · refine x_call ih hr rfl T.g_law_parts T.f_law_parts.kp (x_pureA (a_cons (d_var 0 rfl) (a_cons (d_sub (d_var 1 rfl) d_int) (a_cons (d_var 2 rfl) (a_cons (d_var 3 rfl) a_nil))))) fun ds m3 ⟨h1, h2⟩ => ?_
          subst h1 h2
          exact call _ hb1 (fun z => by have := hv0 z; omega)
        · obtain ⟨r, ⟨d, ⟨p, h1, h2, h3, h4⟩, h5⟩, h6⟩ := h
          subst h5 h6 h3
          exact ⟨p, h1, h2, rfl, h4⟩
      · obtain ⟨p, h1, h2, h3, h4⟩ := h
        subst h3
        exact ⟨[.str "not", p.data], rfl, by simp, .no p, h1, by simp only [Pt.deep]; omega, rfl, h4⟩
    subst h1 h2
    refine s_seq (N1 := fun δ' m' => δ' = δ0 (some (.i v)) ∧ m' = m2) (s_if (x_pureC (c_lt (d_var 4 rfl) d_int)) (fun m3 ⟨h, h1⟩ => ?_) (fun m3 ⟨h, h1⟩ => s_nil ⟨rfl, h1⟩)) fun δ1 m3 ⟨h1, h2⟩ => ?_
    · subst h1
      have hv4 : v < 4 := by have := of_decide_eq_true h.symm; omega
      have hd0 : dp ≠ 0 := fun z => by have := hv0 z; omega
      refine s_seq (N1 := fun δ' m' => ∃ p q : Pt, p.ok ∧ q.ok ∧ p.deep + 1 ≤ dp ∧ q.deep + 1 ≤ dp ∧ δ' = [some (.r b), some (.i dp), some (.i lead), some (.l (pers.map fun x => .int (x : Nat))), some (.i v), some (.p p.data), some (.p q.data), none, none, none] ∧ Bg b m')
        (s_asg (T := fun d m' => ∃ p q : Pt, p.ok ∧ q.ok ∧ p.deep + 1 ≤ dp ∧ q.deep + 1 ≤ dp ∧ d = .l [p.data, q.data] ∧ Bg b m') ?_ fun d m4 h => ?_) fun δ1 m4 h => ?_
      · refine x_lcR (U := fun k m' => k = 2 ∧ m' = m3) (J := fun k i acc m' => k = 2 ∧ Bg b m' ∧ ∃ ps : List Pt, ps.length = i ∧ acc = ps.map Pt.data ∧ ∀ p ∈ ps, p.ok ∧ p.deep + 1 ≤ dp) (δ' := fun i => (δ0 (some (.i v))).set 7 (some (.i (i : Nat)))) (is := [7]) (own := [("_law_k", 7)]) rfl nd
          (xi_range (T := fun d m' => d = .i 2 ∧ m' = m3) rfl T.b_range (x_pure d_int) fun d m' ⟨h1, h2⟩ => ⟨2, h1, by decide, rfl, h2⟩) (fun k m1 ⟨h1, h2⟩ => ⟨by omega, h1, by rw [h2]; exact hb1, [], rfl, rfl, fun _ z => nomatch z⟩) (blkOk_by (by kernel_rfl)) rfl (by decide)
          (fun i hi s H C cl fp => g_name 7 nd rfl (.inl rfl)) (fun k i acc m1 hi hk ⟨hk2, hbm, ps, hl, ha, hps⟩ s H C cl fp => ?_) (fun k acc m1 hl hn ⟨hk, hbm, ps, hl2, ha, hps⟩ => ?_)
        · refine x_imp (x_call ih hr rfl T.g_law_parts T.f_law_parts.kp (x_pureA (a_cons (d_var 0 rfl) (a_cons (d_sub (d_var 1 rfl) d_int) (a_cons (d_var 2 rfl) (a_cons (d_var 3 rfl) a_nil))))) (T := fun d m' => ∃ p : Pt, p.ok ∧ p.deep + 1 ≤ dp ∧ d = .p p.data ∧ Bg b m') fun ds m3 ⟨h1, h2⟩ => ?_) fun d m' ⟨p, h1, h2, h3, h4⟩ => ?_
          · subst h1 h2
            exact call _ hbm hd0
          · refine ⟨p.data, h3, noL_pt p, hk2, h4, ps ++ [p], by simp [hl], by rw [ha, List.map_append]; rfl, fun x hx => ?_⟩
            rcases List.mem_append.mp hx with hx | hx
            · exact hps x hx
            · rw [List.mem_singleton.mp hx]; exact ⟨h1, h2⟩
        · subst hk ha
          match ps, hl2, hps with
          | [p, q], _, hps => exact ⟨p, q, (hps p (by simp)).1, (hps q (by simp)).1, (hps p (by simp)).2, (hps q (by simp)).2, rfl, hbm⟩
      · obtain ⟨p, q, h1, h2, h3, h4, h5, h6⟩ := h
        subst h5
        exact xg_imp (xg_of (g_lst (ps := [p.data, q.data]) rfl (gs_cons (g_name 5 nd rfl (.inl rfl)) (gs_cons (g_name 6 nd rfl (.inl rfl)) gs_nil)) rfl)) fun δ' m' ⟨e1, e2⟩ => ⟨p, q, h1, h2, h3, h4, e1, by rw [e2]; exact h6⟩
      · obtain ⟨p, q, h1, h2, h3, h4, h5, h6⟩ := h
        subst h5
        obtain ⟨o, ho⟩ := opN_at hv1 hv4
        exact s_one (s_ret (x_imp (x_pure (d_tup3 (a_cons (d_ixL ho (d_new (d_lstP (ps := [.str "and", .str "or", .str "unlike"]) (a_cons d_str (a_cons d_str (a_cons d_str a_nil))) (by simp))) (d_sub (d_var 4 rfl) d_int)) (a_cons (d_var 5 rfl) (a_cons (d_var 6 rfl) a_nil))))) fun d m' ⟨e1, e2⟩ =>
          ⟨.two o p q, ⟨h1, h2⟩, by simp only [Pt.deep]; omega, e1, by rw [e2]; exact h6⟩))
    subst h1 h2
    refine s_seq (N1 := fun δ' m' => δ' = δ0 (some (.i v)) ∧ Bg b m') (s_if (C := fun k m' => Bg b m') (xt_cmp (T1 := fun d m' => ∃ v : Nat, d = .i v ∧ Bg b m') (op_eqD (Nat.lt_of_succ_lt hu)) ?_ (d_int (i := 0)) fun d1 m' ⟨v, h1, h2⟩ => ⟨PyData.eqv (.int v) (.int 0), by rw [h1]; exact r2_eqD sh_int sh_int, h2⟩) (fun m4 h => ?_) (fun m4 h => s_nil ⟨rfl, h⟩)) fun δ1 m4 ⟨h1, hb4⟩ => ?_
    · refine x_call ((f1_law_take T).mono (show 1 ≤ 3 + n by omega)) hr rfl T.g_law_take T.f_law_take.kp (x_pureA (a_cons (d_var 0 rfl) (a_cons d_int a_nil))) fun ds m3 ⟨h1, h2⟩ => ?_
      subst h1 h2
      exact Rf.self ⟨b, 8, by decide, by decide, hb1, rfl, rfl⟩ fun d m' ⟨v, h1, h2, h3⟩ => ⟨v, h2, h3⟩
    · refine s_one (s_ret (x_tup (A := fun ds m' => ∃ k : Bool, ds = [.s "always", .b k] ∧ Bg b m') ?_ fun ds m5 ⟨k, h1, h2⟩ => ?_))
      · refine xa_imp (xa_dc (x_pure d_str) (xa_1 (T := fun d m' => ∃ k : Bool, d = .b k ∧ Bg b m') ?_)) fun ds m' ⟨r, ⟨d, ⟨k, h1, h2⟩, h3⟩, h4⟩ => ⟨k, by rw [h4, h3, h1], h2⟩
        refine x_cmp (T1 := fun d m' => ∃ v : Nat, d = .i v ∧ Bg b m') (C := fun k m' => Bg b m') (op_eqD (Nat.lt_of_succ_lt hu)) ?_ (d_int (i := 0)) fun d1 m' ⟨v, h1, h2⟩ => ⟨PyData.eqv (.int v) (.int 0), by rw [h1]; exact r2_eqD sh_int sh_int, h2⟩
        refine x_call ((f1_law_take T).mono (show 1 ≤ 3 + n by omega)) hr rfl T.g_law_take T.f_law_take.kp (x_pureA (a_cons (d_var 0 rfl) (a_cons d_int a_nil))) fun ds m3 ⟨h1, h2⟩ => ?_
        subst h1 h2
        exact Rf.self ⟨b, 2, by decide, by decide, h, rfl, rfl⟩ fun d m' ⟨v, h1, h2, h3⟩ => ⟨v, h2, h3⟩
      · subst h1
        exact ⟨[.str "always", .bool k], rfl, by simp, .always k, trivial, Nat.zero_le _, rfl, h2⟩
    subst h1
    let DD : De := δ0 (some (.i v))
    refine s_seq (N1 := fun δ' m' => ∃ ea : List Bool, ea.length ≤ 11 ∧ δ' = (δ0 (some (.i v))).set 8 (some (.s (bitS ea))) ∧ Bg b m') (s_shift (s_set (T := fun d m' => ∃ ea : List Bool, ea.length ≤ 11 ∧ d = .s (bitS ea) ∧ Bg b m') 8 nd rfl (.inl rfl) (x_join (T1 := fun d m' => ∃ l : List Bool, l.length ≤ 11 ∧ d = .l ((l.map sg).map .str) ∧ Bg b m') (x_pure d_str) ?_ fun d m' ⟨l, hl, h1, h2⟩ => ⟨l, by omega, h1, l, hl, rfl, h2⟩)) fun δ' m' ⟨d, ⟨ea, h1, h2, h3⟩, h4⟩ => ⟨_, _, [], ap0, ⟨ea, h1, by rw [h4, h2], h3⟩, fun _ _ h => h⟩) fun δ1 m5 ⟨ea, hea, h1, hb5⟩ => ?_
    · refine x_lcR (U := fun k m' => k ≤ 11 ∧ Bg b m') (J := fun k i acc m' => k ≤ 11 ∧ Bg b m' ∧ ∃ l : List Bool, l.length = i ∧ acc = (l.map sg).map .str) (δ' := fun i => DD.set 7 (some (.i (i : Nat)))) (is := [7]) (own := [("_law_k", 7)]) rfl nd
          ?_ (fun k m1 ⟨h1, h2⟩ => ⟨by omega, h1, h2, [], rfl, rfl⟩) (blkOk_by (by kernel_rfl)) rfl (by decide)
          (fun i hi s H C cl fp => g_name 7 nd rfl (.inl rfl)) (fun k i acc m1 hi hk ⟨hk2, hbm, l, hl, ha⟩ s H C cl fp => ?_) (fun k acc m1 hl hn ⟨hk, hbm, l, hl2, ha⟩ => ⟨l, by omega, by rw [ha], hbm⟩)
      · refine xi_range (T := fun d m' => ∃ v : Nat, v < lead + 1 ∧ d = .i v ∧ Bg b m') rfl T.b_range ?_ fun d m' ⟨v, h1, h2, h3⟩ => ⟨v, h2, by omega, by omega, h3⟩
        refine x_call ((f1_law_take T).mono (show 1 ≤ 3 + n by omega)) hr rfl T.g_law_take T.f_law_take.kp (x_pureA (a_cons (d_var 0 rfl) (a_cons (d_add (d_var 2 rfl) d_int) a_nil))) fun ds m3 ⟨h1, h2⟩ => ?_
        subst h1 h2
        exact Rf.self ⟨b, lead + 1, by omega, by omega, hb4, by push_cast; rfl, rfl⟩ fun d m' h => h
      · refine x_ix (d1 := .s "01") (T1 := fun d m' => ∃ v : Nat, v < 2 ∧ d = .i v ∧ Bg b m') ix_str (x_pure d_str) ?_ fun d2 m' ⟨v, hv, h1, h2⟩ => ?_
        · refine x_call ((f1_law_take T).mono (show 1 ≤ 3 + n by omega)) hr rfl T.g_law_take T.f_law_take.kp (x_pureA (a_cons (d_var 0 rfl) (a_cons d_int a_nil))) fun ds m3 ⟨h1, h2⟩ => ?_
          subst h1 h2
          exact Rf.self ⟨b, 2, by decide, by decide, hbm, rfl, rfl⟩ fun d m' h => h
        · subst h1
          obtain ⟨bb, hbb⟩ : ∃ bb : Bool, atI ("01" : Str).cps.toList (v : Int) = some (sgn bb) := by
            match v, hv with
            | 0, _ => exact ⟨false, by decide +kernel⟩
            | 1, _ => exact ⟨true, by decide +kernel⟩
          exact ⟨_, r2_ixS (by decide +kernel) hbb, rfl, _, rfl, rfl, hk2, h2, l ++ [bb], by simp [hl], by rw [ha, List.map_append, List.map_append]; rfl⟩
    subst h1
    let D2 : De := (δ0 (some (.i v))).set 8 (some (.s (bitS ea)))
    refine s_seq (N1 := fun δ' m' => ∃ ag : List Bool, (1 ≤ ag.length ∧ ag.length ≤ 10) ∧ δ' = ((δ0 (some (.i v))).set 8 (some (.s (bitS ea)))).set 9 (some (.s (bitS ag))) ∧ Bg b m') (s_shift (s_set (T := fun d m' => ∃ ag : List Bool, (1 ≤ ag.length ∧ ag.length ≤ 10) ∧ d = .s (bitS ag) ∧ Bg b m') 9 nd rfl (.inl rfl) (x_join (T1 := fun d m' => ∃ l : List Bool, (1 ≤ l.length ∧ l.length ≤ 10) ∧ d = .l ((l.map sg).map .str) ∧ Bg b m') (x_pure d_str) ?_ fun d m' ⟨l, hl, h1, h2⟩ => ⟨l, by omega, h1, l, hl, rfl, h2⟩)) fun δ' m' ⟨d, ⟨ag, h1, h2, h3⟩, h4⟩ => ⟨_, _, [], ap0, ⟨ag, h1, by rw [h4, h2], h3⟩, fun _ _ h => h⟩) fun δ1 m6 ⟨ag, hag, h1, hb6⟩ => ?_
    · refine x_lcR (U := fun k m' => (1 ≤ k ∧ k ≤ 10) ∧ Bg b m') (J := fun k i acc m' => (1 ≤ k ∧ k ≤ 10) ∧ Bg b m' ∧ ∃ l : List Bool, l.length = i ∧ acc = (l.map sg).map .str) (δ' := fun i => D2.set 7 (some (.i (i : Nat)))) (is := [7]) (own := [("_law_k", 7)]) rfl nd
          ?_ (fun k m1 ⟨h1, h2⟩ => ⟨by omega, h1, h2, [], rfl, rfl⟩) (blkOk_by (by kernel_rfl)) rfl (by decide)
          (fun i hi s H C cl fp => g_name 7 nd rfl (.inl rfl)) (fun k i acc m1 hi hk ⟨hk2, hbm, l, hl, ha⟩ s H C cl fp => ?_) (fun k acc m1 hl hn ⟨hk, hbm, l, hl2, ha⟩ => ⟨l, by omega, by rw [ha], hbm⟩)
      · refine xi_range (T := fun d m' => ∃ x : Nat, x ∈ pers ∧ d = .i x ∧ Bg b m') rfl T.b_range ?_ fun d m' ⟨v, h1, h2, h3⟩ => ⟨v, h2, by have := hpx v h1; omega, hpx v h1, h3⟩
        refine x_call ((f2_law_pick T).mono (show 2 ≤ 3 + n by omega)) hr rfl T.g_law_pick T.f_law_pick.kp (x_pureA (a_cons (d_var 0 rfl) (a_cons (d_var 3 rfl) a_nil))) fun ds m3 ⟨h1, h2⟩ => ?_
        subst h1 h2
        refine Rf.self ⟨b, pers.map fun x => .int (x : Nat), by rw [List.length_map]; exact hp0, by rw [List.length_map]; omega, noLs_mem fun a ha => by obtain ⟨x, _, rfl⟩ := List.mem_map.mp ha; rfl, hb5, rfl, rfl⟩ fun d m' ⟨q, h1, h2, h3⟩ => ?_
        obtain ⟨x, hx, e⟩ := List.mem_map.mp h1
        exact ⟨x, hx, by rw [h2, ← e], h3⟩
      · refine x_ix (d1 := .s "01") (T1 := fun d m' => ∃ v : Nat, v < 2 ∧ d = .i v ∧ Bg b m') ix_str (x_pure d_str) ?_ fun d2 m' ⟨v, hv, h1, h2⟩ => ?_
        · refine x_call ((f1_law_take T).mono (show 1 ≤ 3 + n by omega)) hr rfl T.g_law_take T.f_law_take.kp (x_pureA (a_cons (d_var 0 rfl) (a_cons d_int a_nil))) fun ds m3 ⟨h1, h2⟩ => ?_
          subst h1 h2
          exact Rf.self ⟨b, 2, by decide, by decide, hbm, rfl, rfl⟩ fun d m' h => h
        · subst h1
          obtain ⟨bb, hbb⟩ : ∃ bb : Bool, atI ("01" : Str).cps.toList (v : Int) = some (sgn bb) := by
            match v, hv with
            | 0, _ => exact ⟨false, by decide +kernel⟩
            | 1, _ => exact ⟨true, by decide +kernel⟩
          exact ⟨_, r2_ixS (by decide +kernel) hbb, rfl, _, rfl, rfl, hk2, h2, l ++ [bb], by simp [hl], by rw [ha, List.map_append, List.map_append]; rfl⟩
    subst h1
    refine s_one (s_ret (x_tup (A := fun ds m' => ∃ r : Fin 5, ds = [.s (rdN r), .s (bitS ea), .s (bitS ag)] ∧ Bg b m') ?_ fun ds m5 ⟨r, h1, h2⟩ => ?_))
    · refine xa_imp (xa_cons (T := fun d m' => ∃ r : Fin 5, d = .s (rdN r) ∧ Bg b m') (B := fun _ m1 ds m' => ds = [.s (bitS ea), .s (bitS ag)] ∧ m' = m1) ?_ fun d1 m1 _ => x_pureA (a_cons (d_var 8 rfl) (a_cons (d_var 9 rfl) a_nil))) fun ds m' ⟨d, m1, r, ⟨rr, h1, h2⟩, ⟨h3, h4⟩, h5⟩ => ⟨rr, by rw [h5, h1, h3], by rw [h4]; exact h2⟩
      refine x_call ((f2_law_pick T).mono (show 2 ≤ 3 + n by omega)) hr rfl T.g_law_pick T.f_law_pick.kp (x_pureA (a_cons (d_var 0 rfl) (a_cons (d_new (d_lstP (ps := [.str "turns", .str "others", .str "rounds", .str "suns", .str "moons"]) (a_cons d_str (a_cons d_str (a_cons d_str (a_cons d_str (a_cons d_str a_nil))))) (by simp))) a_nil))) fun ds m3 ⟨h1, h2⟩ => ?_
      subst h1 h2
      refine Rf.self ⟨b, [.str "turns", .str "others", .str "rounds", .str "suns", .str "moons"], by simp, by simp, rfl, hb6, rfl, rfl⟩ fun d m' ⟨q, h1, h2, h3⟩ => ?_
      simp only [List.mem_cons, List.not_mem_nil, or_false] at h1
      rcases h1 with e | e | e | e | e
      · exact ⟨0, by rw [h2, e]; rfl, h3⟩
      · exact ⟨1, by rw [h2, e]; rfl, h3⟩
      · exact ⟨2, by rw [h2, e]; rfl, h3⟩
      · exact ⟨3, by rw [h2, e]; rfl, h3⟩
      · exact ⟨4, by rw [h2, e]; rfl, h3⟩
    · subst h1
      exact ⟨[.str (rdN r), .str (bitS ea), .str (bitS ag)], rfl, by simp, .word r ea ag, ⟨by omega, by omega, fun z => by rw [z] at hag; simp at hag⟩, Nat.zero_le _, rfl, h2⟩
end Pr
set_option maxHeartbeats 4000000
/-! Y9: what an evening begins with. -/
namespace Pr
open PySem PySem.Spec PyProof.Rows L2
section
variable {X : Cx} {δ : De} {m : Ms} {A : List Dt → Ms → Prop} {N : De → Ms → Prop} {R : Rs} {a b : Expr} {pos : Pos}
/-- x, y = e1, e2, both names -/
theorem s_par {i j : Nat} {x y : Str} {px py pt : Pos} {kt k2 pt2} (hc : X.calm = true) (hN : X.N.Nodup) (hi : X.N[i]? = some x) (hj : X.N[j]? = some y) (hij : i ≠ j)
    (hx : X.env.scope.names.lookup x = some .local) (hy : X.env.scope.names.lookup y = some .local) (ha : PA X [a, b] (xA X.K δ m A)) (hA : ∀ ds m1, A ds m1 → ∃ d1 d2, ds = [d1, d2] ∧ N ((δ.set i (some d1)).set j (some d2)) m1)
    (hw : swappedStores [.Tuple [.Name x px, .Name y py] kt pt] (.Tuple [a, b] k2 pt2) X.env = pure (some [x, y]))
    (hs : swapsWithSole [.Tuple [.Name x px, .Name y py] kt pt] (.Tuple [a, b] k2 pt2) pos.line X.env = pure false := by rfl) :
    PS X (.Assign [.Tuple [.Name x px, .Name y py] kt pt] (.Tuple [a, b] k2 pt2) pos) (xS X.K δ m N R) :=
  PS_imp (ps_par hc hN hi hj hij hx hy ha hw hs) fun D σ H ⟨M, E, q, _⟩ => ⟨M, E, fun vs ds m1 H1 aa M1 c1 r1 => by
    obtain ⟨d1, d2, e, n⟩ := hA ds m1 aa
    subst e
    obtain ⟨v, w, rfl, r1, r2⟩ := rpAll_2 r1
    exact ⟨v, w, rfl, q _ _ m1 H1 n M1 c1 (((E.mono c1).set i r1).set j r2)⟩⟩
end
variable {P : Program} {w : World} {K : PySem.W.Frag} {mg : Str → Option Value} {base : Heap}
def okN (n m : Nat) : Prop := 1 ≤ n ∧ 1 ≤ m ∧ n ≤ 8 ∧ m ≤ 8 ∧ n * m ≤ 15
def rxBegun : Ms → List Dt → Rs → Prop := fun m ds T => ∃ b : Addr, Bg b m ∧ ds = [.r b] ∧ T = fun d m' => ∃ (n k : Nat) (p : Pt), okN n k ∧ p.ok ∧ p.deep ≤ 2 ∧ d = .l [.int n, .int k, p.data] ∧ Bg b m'
theorem f6_law_begun (T : Tx K mg) : FnR P w K mg base CX0 7 (ga K "_law_begun") (spX K rxBegun) :=
  fnR_X T.f_law_begun sc_law_begun bn_law_begun (fun m ds T ⟨_, _, h, _⟩ => by rw [h]; rfl) fun cdv A outer s H E hr m ds R ⟨b, hb, h2, h3⟩ => by
    subst h2 h3
    have hu := room_u hr
    have nd := sc_law_begun.nd
    refine s_seq (N1 := fun δ' m' => ∃ n k : Nat, okN n k ∧ δ' = [some (.r b), some (.i n), some (.i k)] ∧ Bg b m') (s_par (i := 1) (j := 2) (A := fun ds m' => ∃ n k : Nat, okN n k ∧ ds = [.i n, .i k] ∧ Bg b m') rfl nd rfl rfl (by decide) rfl rfl ?_ (fun ds m1 ⟨n, k, h1, h2, h3⟩ => ⟨_, _, h2, n, k, h1, rfl, h3⟩) rfl) fun δ1 m1 ⟨n, k, ho, h1, hb1⟩ => ?_
    · have tk : ∀ m1 : Ms, Bg b m1 → Rf rxTake m1 [.r b, .i 3] (fun d m' => ∃ v : Nat, v < 3 ∧ d = .i v ∧ Bg b m') := fun m1 hb1 => Rf.self ⟨b, 3, by decide, by decide, hb1, rfl, rfl⟩ fun d m' h => h
      refine xa_imp (xa_cons (T := fun d m' => ∃ v : Nat, v < 3 ∧ d = .i (v + 1 : Nat) ∧ Bg b m') (B := fun _ _ ds m' => ∃ d, (∃ v : Nat, v < 3 ∧ d = .i (v + 1 : Nat) ∧ Bg b m') ∧ ds = [d]) ?_ fun d m1 h => xa_1 ?_) fun ds m' ⟨d1, m1, r, ⟨v1, h1, h2, h3⟩, ⟨d2, ⟨v2, h4, h5, h6⟩, h7⟩, h8⟩ => ?_
      · refine x_op (q1 := .int 1) (q2 := .none) (U := fun q m' => ∃ v : Nat, v < 3 ∧ q = .int v ∧ Bg b m') op_add (x_pure d_int) ?_ fun q2 m' ⟨v, h1, h2, h3⟩ => ?_
        · exact x_imp (x_call ((f1_law_take T).mono (by decide)) hr rfl T.g_law_take T.f_law_take.kp (x_pureA (a_cons (d_var 0 rfl) (a_cons d_int a_nil))) (T := fun d m' => ∃ v : Nat, v < 3 ∧ d = .i v ∧ Bg b m') fun ds m3 ⟨h1, h2⟩ => by rw [h1, h2]; exact tk _ hb) fun d m' ⟨v, h1, h2, h3⟩ => ⟨.int v, h2, v, h1, rfl, h3⟩
        · exact ⟨.int (1 + (v : Int)), by rw [h2]; exact r2_I0 fun _ => .p (.int _), rfl, v, h1, by rw [show (1 : Int) + v = ((v + 1 : Nat) : Int) by push_cast; omega], h3⟩
      · obtain ⟨v, _, _, hbm⟩ := h
        refine x_op (q1 := .int 1) (q2 := .none) (U := fun q m' => ∃ v : Nat, v < 3 ∧ q = .int v ∧ Bg b m') op_add (x_pure d_int) ?_ fun q2 m' ⟨v, h1, h2, h3⟩ => ?_
        · exact x_imp (x_call ((f1_law_take T).mono (by decide)) hr rfl T.g_law_take T.f_law_take.kp (x_pureA (a_cons (d_var 0 rfl) (a_cons d_int a_nil))) (T := fun d m' => ∃ v : Nat, v < 3 ∧ d = .i v ∧ Bg b m') fun ds m3 ⟨h1, h2⟩ => by rw [h1, h2]; exact tk _ hbm) fun d m' ⟨v, h1, h2, h3⟩ => ⟨.int v, h2, v, h1, rfl, h3⟩
        · exact ⟨.int (1 + (v : Int)), by rw [h2]; exact r2_I0 fun _ => .p (.int _), rfl, v, h1, by rw [show (1 : Int) + v = ((v + 1 : Nat) : Int) by push_cast; omega], h3⟩
      · refine ⟨v1 + 1, v2 + 1, ⟨by omega, by omega, by omega, by omega, ?_⟩, by rw [h8, h7, h2, h5], h6⟩
        have : (v1 + 1) * (v2 + 1) ≤ 3 * 3 := Nat.mul_le_mul (by omega) (by omega)
        omega
    subst h1
    refine s_seq (N1 := fun δ' m' => ∃ n k : Nat, okN n k ∧ δ' = [some (.r b), some (.i n), some (.i k)] ∧ Bg b m') (s_if (C := fun _ m' => Bg b m') (xt_cmp (T1 := fun d m' => ∃ v : Nat, d = .i v ∧ Bg b m') (op_eqD (Nat.lt_of_succ_lt hu)) ?_ (d_int (i := 0)) fun d1 m' ⟨v, h1, h2⟩ => ⟨PyData.eqv (.int v) (.int 0), by rw [h1]; exact r2_eqD sh_int sh_int, h2⟩) (fun m2 h => ?_) (fun m2 h => s_nil ⟨n, k, ho, rfl, h⟩)) fun δ1 m2 ⟨n2, k2, ho2, h1, hb2⟩ => ?_
    · refine x_call ((f1_law_take T).mono (show 1 ≤ 6 by decide)) hr rfl T.g_law_take T.f_law_take.kp (x_pureA (a_cons (d_var 0 rfl) (a_cons d_int a_nil))) fun ds m3 ⟨h1, h2⟩ => ?_
      subst h1 h2
      exact Rf.self ⟨b, 8, by decide, by decide, hb1, rfl, rfl⟩ fun d m' ⟨v, h1, h2, h3⟩ => ⟨v, h2, h3⟩
    · refine s_one (s_asg (T := fun d m' => ∃ n k : Nat, okN n k ∧ d = .t [.int n, .int k] ∧ Bg b m') ?_ fun d m3 ⟨n3, k3, h1, h2, h3⟩ => ?_)
      · refine x_ix (d1 := .l [.tuple [.int 8, .int 1], .tuple [.int 1, .int 8], .tuple [.int 5, .int 3], .tuple [.int 2, .int 7]]) (T1 := fun d m' => ∃ v : Nat, v < 4 ∧ d = .i v ∧ Bg b m') ix_list
          (x_pure (d_new (d_lstP (ps := [.tuple [.int 8, .int 1], .tuple [.int 1, .int 8], .tuple [.int 5, .int 3], .tuple [.int 2, .int 7]]) (a_cons (d_tup2 (a_cons d_int (a_cons d_int a_nil))) (a_cons (d_tup2 (a_cons d_int (a_cons d_int a_nil))) (a_cons (d_tup2 (a_cons d_int (a_cons d_int a_nil))) (a_cons (d_tup2 (a_cons d_int (a_cons d_int a_nil))) a_nil)))) (by simp)))) ?_ fun d2 m' ⟨v, hv, h1, h2⟩ => ?_
        · refine x_call ((f1_law_take T).mono (show 1 ≤ 6 by decide)) hr rfl T.g_law_take T.f_law_take.kp (x_pureA (a_cons (d_var 0 rfl) (a_cons d_int a_nil))) fun ds m3 ⟨h1, h2⟩ => ?_
          subst h1 h2
          exact Rf.self ⟨b, 4, by decide, by decide, h, rfl, rfl⟩ fun d m' h => h
        · subst h1
          match v, hv with
          | 0, _ => exact ⟨_, r2_ixL rfl, rfl, 8, 1, by unfold okN; decide, rfl, h2⟩
          | 1, _ => exact ⟨_, r2_ixL rfl, rfl, 1, 8, by unfold okN; decide, rfl, h2⟩
          | 2, _ => exact ⟨_, r2_ixL rfl, rfl, 5, 3, by unfold okN; decide, rfl, h2⟩
          | 3, _ => exact ⟨_, r2_ixL rfl, rfl, 2, 7, by unfold okN; decide, rfl, h2⟩
      · subst h2
        exact xg_imp (xg_of (g_tup (ps := [.int n3, .int k3]) rfl (gs_cons (g_name 1 nd rfl (.inl rfl)) (gs_cons (g_name 2 nd rfl (.inl rfl)) gs_nil)) rfl)) fun δ' m' ⟨e1, e2⟩ => ⟨n3, k3, h1, e1, by rw [e2]; exact h3⟩
    subst h1
    refine s_one (s_ret (x_lstD (A := fun ds m' => ∃ p : Pt, p.ok ∧ p.deep ≤ 2 ∧ ds = [.i n2, .i k2, .p p.data] ∧ Bg b m') ?_ fun ds m3 ⟨p, h1, h2, h3, h4⟩ => ?_))
    · refine xa_imp (xa_dc (x_var 1 rfl) (xa_dc (x_var 2 rfl) (xa_1 (T := fun d m' => ∃ p : Pt, p.ok ∧ p.deep ≤ 2 ∧ d = .p p.data ∧ Bg b m') ?_))) fun ds m' ⟨r, ⟨r2, ⟨d, ⟨p, h1, h2, h3, h4⟩, h5⟩, h6⟩, h7⟩ => ⟨p, h1, h2, by rw [h7, h6, h5, h3], h4⟩
      refine x_call (fn_law_parts T 3) hr rfl T.g_law_parts T.f_law_parts.kp (x_pureA (a_cons (d_var 0 rfl) (a_cons d_int (a_cons d_int (a_cons (d_new (d_lstP (ps := [.int 1, .int 2, .int 3, .int 4]) (a_cons d_int (a_cons d_int (a_cons d_int (a_cons d_int a_nil)))) (by simp))) a_nil))))) fun ds m3 ⟨h1, h2⟩ => ?_
      subst h1 h2
      exact Rf.self ⟨b, 2, 2, [1, 2, 3, 4], by decide, by decide, by decide, by decide, by decide, hb2, rfl, rfl⟩ fun d m' h => h
    · subst h3
      exact ⟨[.int n2, .int k2, p.data], rfl, by simp, n2, k2, p, ho2, h1, h2, rfl, h4⟩
end Pr
set_option maxHeartbeats 4000000
/-! Za: short forms of the rules over a memory; tuples and lists of any data; an object of the memory becomes data. -/
namespace Pr
open PySem PySem.Spec PyProof.Rows L2
section
variable {X : Cx} {δ δ1 δ2 δ' : De} {m m' m1 m2 : Ms} {T T1 T2 : Rs} {C : Bool → Ms → Prop} {A A1 : List Dt → Ms → Prop} {N N1 N2 : De → Ms → Prop} {R R1 : Rs} {st : Stmt} {body rest els : List Stmt} {a b c e o tg iter : Expr} {es : List Expr} {d d1 d2 : Dt} {ds : List Dt} {q : PyData} {ps : List PyData} {k : Bool} {pos p apos : Pos}
/-- x = e; .. -/
theorem ss_set (i : Nat) {x : Str} {pos' : Pos} (hN : X.N.Nodup) (hi : X.N[i]? = some x) (hx : Loc X.env.scope x) (he : PE X e (xE X.K δ m T)) (hr : ∀ d m1, T d m1 → PSs X rest (xS X.K (δ.set i (some d)) m1 N R)) (hs : swapsWith e (some (.Name x pos')) pos.line X.env = pure false := by rfl)
    (hf : X.fn x = true ∨ X.env.scope.names.lookup x = some .local := by first | exact .inl rfl | exact .inr rfl | assumption) : PSs X (.Assign [.Name x pos'] e pos :: rest) (xS X.K δ m N R) :=
  s_seq (s_set i hN hi hx he hs hf) fun δ1 m1 ⟨d, t, h⟩ => h ▸ hr d m1 t
/-- if c: body (it ends the def); .. -/
theorem ss_if (hc : PT X c (xT X.K δ m C)) (ht : ∀ m1, C true m1 → PSs X body (xS X.K δ m1 (fun _ _ => False) R)) (hf : ∀ m1, C false m1 → PSs X rest (xS X.K δ m1 N R)) : PSs X (.If c body [] pos :: rest) (xS X.K δ m N R) :=
  s_seq (N1 := fun δ' m' => δ' = δ ∧ C false m') (s_if hc (fun m1 h => xs_imp (ht m1 h) (fun _ _ z => z.elim) fun _ _ z => z) fun m1 h => s_nil ⟨rfl, h⟩) fun δ1 m1 ⟨h1, h2⟩ => by subst h1; exact hf m1 h2
theorem ss_ifK (hc : PT X c (xT X.K δ m fun b m' => b = k ∧ m' = m)) (ht : k = true → PSs X body (xS X.K δ m (fun _ _ => False) R)) (hf : k = false → PSs X rest (xS X.K δ m N R)) : PSs X (.If c body [] pos :: rest) (xS X.K δ m N R) :=
  ss_if hc (fun m1 ⟨h1, h2⟩ => by subst h2; exact ht h1.symm) fun m1 ⟨h1, h2⟩ => by subst h2; exact hf h1.symm
theorem ss_ifP (hc : PT X c (cD X.K δ k)) (ht : k = true → PSs X body (xS X.K δ m (fun _ _ => False) R)) (hf : k = false → PSs X rest (xS X.K δ m N R)) : PSs X (.If c body [] pos :: rest) (xS X.K δ m N R) :=
  ss_ifK (x_pureC hc) ht hf
/-- if c: body else: els, as the last statement -/
theorem ss_if2 (hc : PT X c (xT X.K δ m C)) (ht : ∀ m1, C true m1 → PSs X body (xS X.K δ m1 N R)) (hf : ∀ m1, C false m1 → PSs X els (xS X.K δ m1 N R)) : PSs X [.If c body els pos] (xS X.K δ m N R) := s_one (s_if hc ht hf)
theorem ss_ret (h : PE X e (xE X.K δ m R)) : PSs X [.Return (some e) pos] (xS X.K δ m N R) := s_one (s_ret h)
/-- e; .. -/
theorem ss_expr (h : PE X e (xE X.K δ m T)) (hr : ∀ d m1, T d m1 → PSs X rest (xS X.K δ m1 N R)) (hs : swapsWith e none pos.line X.env = pure false := by rfl) : PSs X (.Expr e pos :: rest) (xS X.K δ m N R) :=
  s_seq (N1 := fun δ' m' => δ' = δ ∧ ∃ d, T d m') (s_expr (x_imp h fun d m' t => ⟨rfl, d, t⟩) hs) fun δ1 m1 ⟨h1, d, t⟩ => by subst h1; exact hr d m1 t
/-- target = e; .. -/
theorem ss_asg (he : PE X e (xE X.K δ m T)) (hg : ∀ d m1, T d m1 → PG X tg (xG X.K δ m1 d (N1))) (hr : ∀ δ1 m1, N1 δ1 m1 → PSs X rest (xS X.K δ1 m1 N R)) (hs : swapsWithSole [tg] e pos.line X.env = pure false := by rfl) (hw : swappedStores [tg] e X.env = pure none := by rfl)
    (h1 : (assignEach [tg] X.env).map (·.2) = [assign tg X.env] := by rfl) : PSs X (.Assign [tg] e pos :: rest) (xS X.K δ m N R) := s_seq (s_asg he hg hs hw h1) hr
/-- behind: env and memory weakened -/
theorem ss_weak (h : PSs X rest (xS X.K δ' m N R)) (w : ∀ σ H, EnvD X.K σ H δ → EnvD X.K σ H δ') : PSs X rest (xS X.K δ m N R) := PSs_imp h fun D σ H ⟨M, E, q, r⟩ => ⟨M, w _ _ E, q, r⟩
theorem ss_perm (h : PSs X rest (xS X.K δ m' N R)) (i : m.Perm (m' ++ m2)) : PSs X rest (xS X.K δ m N R) := PSs_imp h fun D σ H ⟨M, E, q, r⟩ => by
  obtain ⟨M2, s2⟩ := M.sub i
  exact ⟨M2, E.mono s2, fun σ' d m' H' t M' c => q σ' d m' H' t M' (Same.trans s2 c), fun v d m' H' t M' c => r v d m' H' t M' (Same.trans s2 c)⟩
theorem se_perm (h : PE X e (xE X.K δ m' T)) (i : m.Perm (m' ++ m2)) : PE X e (xE X.K δ m T) := PE_imp h fun σ H Q ⟨M, E, q⟩ => by
  obtain ⟨M2, s2⟩ := M.sub i
  exact ⟨M2, E.mono s2, fun v d m' H' t M' c => q v d m' H' t M' (Same.trans s2 c)⟩
theorem ss_all (h : PSs X body (xS X.K δ m N R)) : PSs X body (xS X.K δ m N R) := h
theorem xg_tupP {es : List Expr} {is : List Nat} {kk : Nat} (h : PG X (.Tuple es kk pos) (gD X.K δ (.t ps) is δ')) : PG X (.Tuple es kk pos) (xG X.K δ m (.t ps) fun δ1 m1 => δ1 = δ' ∧ m1 = m) := xg_of h

/-! ### tuples and lists of any data -/
theorem x_tu (h : PA X es (xA X.K δ m A)) (hA : ∀ ds m1, A ds m1 → ds.length ≤ 1000 ∧ T (.tu ds) m1) {x1} : PE X (.Tuple es x1 pos) (xE X.K δ m T) :=
  PE_imp (pe_tup h) fun σ H Q ⟨M, E, z⟩ => ⟨M, E, fun vs ds m1 H1 aa M1 c1 r1 => by
    obtain ⟨hl, t⟩ := hA ds m1 aa
    have el := r1.length
    refine ⟨Evl.sz_of (by omega), fun p hp => ?_⟩
    have np : p ∉ dm m1 := fun z => by obtain ⟨o, h⟩ := M1.has z; rw [hp] at h; cases h
    have s1 : Same H1 (upd H1 p (.tup vs)) := same_new hp
    have hm : mn (upd H1 p (.tup vs)) (dm m1) p = some (.tup vs) := by rw [mn_out np, upd_same]
    exact z _ _ m1 _ t (M1.same s1) (c1.trans (.of s1)) (.tu (SqT.of hm) (r1.mono (same_mn s1)))⟩
theorem x_li (h : PA X es (xA X.K δ m A)) (hA : ∀ ds m1, A ds m1 → ds.length ≤ 1000 ∧ T (.li ds) m1) : PE X (.List es pos) (xE X.K δ m T) :=
  PE_imp (pe_lst h) fun σ H Q ⟨M, E, z⟩ => ⟨M, E, fun vs ds m1 H1 aa M1 c1 r1 => by
    obtain ⟨hl, t⟩ := hA ds m1 aa
    have el := r1.length
    refine ⟨Evl.sz_of (by omega), fun p hp => ?_⟩
    have np : p ∉ dm m1 := fun z => by obtain ⟨o, h⟩ := M1.has z; rw [hp] at h; cases h
    have s1 : Same H1 (upd H1 p (.lst vs)) := same_new hp
    have hm : mn (upd H1 p (.lst vs)) (dm m1) p = some (.lst vs) := by rw [mn_out np, upd_same]
    exact z _ _ m1 _ t (M1.same s1) (c1.trans (.of s1)) (.li (SqL.of hm) (r1.mono (same_mn s1)))⟩
theorem Rp.tu_inv {K : PySem.W.Frag} {H : Hp} {v : V} {ds : List Dt} (h : Rp K H v (.tu ds)) : ∃ a vs, v = .ref a ∧ SqT K H a vs ∧ RpAll K H vs ds := by cases h with | tu s r => exact ⟨_, _, rfl, s, r⟩
theorem Rp.li_inv {K : PySem.W.Frag} {H : Hp} {v : V} {ds : List Dt} (h : Rp K H v (.li ds)) : ∃ a vs, v = .ref a ∧ SqL K H a vs ∧ RpAll K H vs ds := by cases h with | li s r => exact ⟨_, _, rfl, s, r⟩
theorem atI_rp {K : PySem.W.Frag} {H : Hp} {xs : List V} {ds : List Dt} {n : Nat} {d : Dt} (r : RpAll K H xs ds) (h : ds[n]? = some d) : ∃ v, atI xs (n : Int) = some v ∧ Rp K H v d := by
  obtain ⟨v, e, rv⟩ := r.get h
  obtain ⟨hl, e2⟩ := List.getElem?_eq_some_iff.mp e
  exact ⟨v, by rw [atI_nat hl, e2], rv⟩
theorem d_tuI {n : Nat} (h : ds[n]? = some d) (ha : PE X a (tD X.K δ (.tu ds))) (hb : PE X b (tD X.K δ (.i (n : Int)))) (hs : PlainIx b := by intro _ _; rfl) : PE X (.Subscript a b pos) (tD X.K δ d) :=
  d_subs ix_tup (fun x y H Q r1 r2 q => by
    obtain ⟨a, xs, rfl, s, rr⟩ := r1.tu_inv
    obtain ⟨v, e, r⟩ := atI_rp rr h
    exact ⟨a, xs, n, v, rfl, r2.i_inv, s, e, q v H (Same.refl H) r⟩) ha hb hs
theorem d_liI {n : Nat} (h : ds[n]? = some d) (ha : PE X a (tD X.K δ (.li ds))) (hb : PE X b (tD X.K δ (.i (n : Int)))) (hs : PlainIx b := by intro _ _; rfl) : PE X (.Subscript a b pos) (tD X.K δ d) :=
  d_subs ix_list (fun x y H Q r1 r2 q => by
    obtain ⟨a, xs, rfl, s, rr⟩ := r1.li_inv
    obtain ⟨v, e, r⟩ := atI_rp rr h
    exact ⟨a, xs, n, v, rfl, r2.i_inv, s, e, q v H (Same.refl H) r⟩) ha hb hs
/-- (..)[n], the tuple anew: the memory may change as it is made -/
theorem x_tuI {n : Nat} (ha : PE X a (xE X.K δ m T1)) (hb : PE X b (tD X.K δ (.i (n : Int)))) (h : ∀ d' m', T1 d' m' → ∃ ds d, d' = .tu ds ∧ ds[n]? = some d ∧ T d m') (hs : PlainIx b := by intro _ _; rfl) : PE X (.Subscript a b pos) (xE X.K δ m T) :=
  PE_imp (pe_ix ix_tup ha (pe_ex (W := fun i : Dt × Ms => T1 i.1 i.2) fun i w => x_pure (m := i.2) hb) hs) fun σ H Q ⟨M, E, z⟩ => ⟨M, E, fun v d1 m1 H1 t M1 c1 r1 => ⟨(d1, m1), t, M1, E.mono c1, fun w d2 m2 H2 ⟨e1, e2⟩ M2 c2 r2 => by
    subst e1 e2
    obtain ⟨ds, d, e, hd, t2⟩ := h d1 _ t
    subst e
    obtain ⟨a, xs, e, s, rr⟩ := (r1.mono c2).tu_inv
    subst e
    obtain ⟨u, eu, ru⟩ := atI_rp rr hd
    exact ⟨a, xs, n, u, rfl, r2.i_inv, sqT_mono (mn_same _ _) s, eu, z u d _ H2 t2 M2 (c1.trans c2) ru⟩⟩⟩
theorem g_tu {es : List Expr} {is : List Nat} {kk n : Nat} (hc : X.calm = true) (h : PGs X es (gsD X.K δ ds is δ2)) (hl : ds.length = n) (hn : (assignEach es X.env).length = n := by rfl) (hst : (assignEach es X.env).findIdx? (·.1) = none := by rfl) :
    PG X (.Tuple es kk pos) (gD X.K δ (.tu ds) is δ2) :=
  PG_imp (pg_tup hc h hn hst) fun v σ H Q ⟨E, r, q⟩ => by
    obtain ⟨a, xs, rfl, s, rr⟩ := r.tu_inv
    exact ⟨a, xs, rfl, s, rr.length.trans hl, E, rr, q⟩

/-! ### an object of the memory becomes data -/
theorem rp_dT {K : PySem.W.Frag} {H : Hp} {f : Addr} {kvs : List (List Key × PyData)} (M : Mem K H ((f, .dT kvs) :: m)) : Mem K H m ∧ Same (mn H (dm ((f, Dt.dT kvs) :: m))) (mn H (dm m)) ∧ Rp K (mn H (dm m)) (.ref f) (.dT kvs) := by
  have pp : ((f, Dt.dT kvs) :: m).Perm (m ++ [(f, .dT kvs)]) := (List.perm_append_singleton _ _).symm
  obtain ⟨M2, s2⟩ := M.sub pp
  obtain ⟨kv, h1, h2⟩ := M.at (i := 0) rfl
  have nf : f ∉ dm m := (List.nodup_cons.mp M.nd).1
  exact ⟨M2, s2, .dT (.inl (by rw [mn_out nf]; exact h1)) (kvP_mono s2 h2)⟩
theorem x_finT (h : PE X e (xE X.K δ m T)) (i : ∀ d m', T d m' → ∃ f kvs m2, d = .r f ∧ m'.Perm ((f, .dT kvs) :: m2) ∧ T1 (.dT kvs) m2) : PE X e (xE X.K δ m T1) := PE_imp h fun σ H Q ⟨M, E, q⟩ => ⟨M, E, fun v d m' H' t M' c r => by
  obtain ⟨f, kvs, m2, e, pp, t1⟩ := i d m' t
  subst e
  cases r
  obtain ⟨M2, s2, r2⟩ := rp_dT (M'.perm pp)
  refine q _ _ m2 H' t1 M2 (Same.trans c ?_) r2
  rw [mn_perm (perm_dm pp)]
  exact s2⟩
/-- the env's slot i, a dict of the memory, is data from now on -/
theorem ss_finT {i : Nat} {f : Addr} {kvs : List (List Key × PyData)} (hd : δ[i]? = some (some (.r f))) (h : PSs X rest (xS X.K (δ.set i (some (.dT kvs))) m N R)) : PSs X rest (xS X.K δ ((f, .dT kvs) :: m) N R) := PSs_imp h fun D σ H ⟨M, E, q, r⟩ => by
  obtain ⟨M2, s2, r2⟩ := rp_dT M
  obtain ⟨v, hv, rv⟩ := E.at_ i _ hd
  cases rv
  exact ⟨M2, (E.mono s2).put hv r2, fun σ' d m' H' t M' c => q σ' d m' H' t M' (Same.trans s2 c), fun v d m' H' t M' c => r v d m' H' t M' (Same.trans s2 c)⟩
theorem rp_l {K : PySem.W.Frag} {H : Hp} {f : Addr} (M : Mem K H ((f, .l ps) :: m)) : Mem K H m ∧ Same (mn H (dm ((f, Dt.l ps) :: m))) (mn H (dm m)) ∧ Rp K (mn H (dm m)) (.ref f) (.l ps) := by
  have pp : ((f, Dt.l ps) :: m).Perm (m ++ [(f, .l ps)]) := (List.perm_append_singleton _ _).symm
  obtain ⟨M2, s2⟩ := M.sub pp
  obtain ⟨kv, h1, h2⟩ := M.at (i := 0) rfl
  have nf : f ∉ dm m := (List.nodup_cons.mp M.nd).1
  exact ⟨M2, s2, .p (.lst (SqL.of (by rw [mn_out nf]; exact h1)) (dpAll_mono s2 h2))⟩
theorem ss_finL {i : Nat} {f : Addr} (hd : δ[i]? = some (some (.r f))) (h : PSs X rest (xS X.K (δ.set i (some (.l ps))) m N R)) : PSs X rest (xS X.K δ ((f, .l ps) :: m) N R) := PSs_imp h fun D σ H ⟨M, E, q, r⟩ => by
  obtain ⟨M2, s2, r2⟩ := rp_l M
  obtain ⟨v, hv, rv⟩ := E.at_ i _ hd
  cases rv
  exact ⟨M2, (E.mono s2).put hv r2, fun σ' d m' H' t M' c => q σ' d m' H' t M' (Same.trans s2 c), fun v d m' H' t M' c => r v d m' H' t M' (Same.trans s2 c)⟩

/-! ### own operators on what a call gives -/
theorem memT {K : PySem.W.Frag} {H H1 H' : Hp} (M : Mem K H m) (s : Same (mn H (dm m)) H1) (b : BhT H (dm m) H1 H') : Mem K H' m ∧ mn H' (dm m) = H1 := by
  have e : mn H' (dm m) = H1 := funext fun a => by
    by_cases x : a ∈ dm m
    · rw [mn_in x, b.non a x]
    · rw [mn_out x, b.is, jn_out x]
  exact ⟨M.keep (fun a ha => by rw [b.is, jn_in ha]) (by rw [e]; exact s), e⟩
theorem x_inv {c : Str} {g : Addr} {kk : Nat} {RR : RD} (O : OwnF X.K c "__invert__" g) (F : FnR X.prog X.w X.K X.mg X.base CX0 kk g (spD X.K RR)) (hr : Room kk X.A) (ha : PE X a (xE X.K δ m T1)) (h : ∀ d m', T1 d m' → ∃ fs d2, d = .ob c fs ∧ RR [.ob c fs] d2 ∧ T d2 m') : PE X (.UnaryOp .Invert a pos) (xE X.K δ m T) :=
  PE_imp (pe_un (un_inv (E := E0) O.at_ O.fn (fnR_frame F) hr pass0) ha) fun σ H Q ⟨M, E, z⟩ => ⟨M, E, fun v d m1 H1 t M1 c1 r1 => by
    obtain ⟨fs, d2, e, hR, t2⟩ := h d m1 t
    subst e
    obtain ⟨x, dx, vs, rfl, sl, rr⟩ := id r1.ob_inv
    refine ⟨x, dx, _, rfl, slt_mono (mn_same _ _) sl, dm m1, M1.fo, _, d2, .cons r1 .nil, hR, fun u H2 s2 r2 H3 b => ?_⟩
    obtain ⟨M3, e3⟩ := memT M1 s2 b
    exact z u d2 m1 H3 t2 M3 (c1.trans (by show Same _ _; rw [e3]; exact s2)) (by rw [e3]; exact r2)⟩
end
end Pr
set_option maxHeartbeats 4000000
/-! Zb: the law's rule of some parts; its state behind some deeds; drawn deeds. -/
namespace Pr
open PySem PySem.Spec PyProof.Rows L2
variable {P : Program} {w : World} {K : PySem.W.Frag} {mg : Str → Option Value} {base : Heap}
def rxRuleOf (n : Nat) : Ms → List Dt → Rs → Prop := fun m ds T => ∃ (b : Addr) (p : Pt), p.ok ∧ p.deep < n ∧ p.deep < DP ∧ Bg b m ∧ ds = [.r b, .p p.data] ∧ T = fun d m' => d = ruleD p ∧ Bg b m'
theorem take_eq0 {X : Cx} {δ : De} {m : Ms} {k n : Nat} {f b : Addr} {x : Str} {p pos cpos : Pos} {e1 e2 : Expr} {j : Int} {z : Nat} {zp : Pos} (hF : FnR X.prog X.w X.K X.mg X.base CX0 k f (spX X.K rxTake)) (hr : Room k X.A) (hg : Gl X x) (hm : X.mg x = some (.ref f)) (hk : PySem.W.keepIn X.K (.ref f) = true) (hu : X.A.units + 65 < cLine)
    (ha : PA X [e1, e2] (aD X.K δ [.r b, .i n])) (h0 : 0 < n) (h1 : n ≤ 1000000) (hb : Bg b m) (hdb : (x == ("__debug__" : Str)) = false := by decide) (he : starEach [e1, e2] X.env = (false, eval e1 X.env) :: starEach [e2] X.env := by rfl) (hpl : (backTo pos (starEach [e2] X.env)).any (·.1) = false := by rfl) :
    PT X (.Compare (.Call (.Name x p) [e1, e2] [] pos) [.Eq] [.Constant (.int j) z zp] cpos) (xT X.K δ m fun _ m' => Bg b m') :=
  xt_cmp (T1 := fun d m' => ∃ v : Nat, v < n ∧ d = .i v ∧ Bg b m') (op_eqD (by omega)) (x_call hF hr hg hm hk (x_pureA ha) (fun ds m1 ⟨g1, g2⟩ => by subst g1 g2; exact Rf.self ⟨b, n, h0, h1, hb, rfl, rfl⟩ fun d m' h => h) hdb he hpl) d_int
    fun d1 m' ⟨v, _, g1, g2⟩ => ⟨PyData.eqv (.int v) (.int j), by rw [g1]; exact r2_eqD sh_int sh_int, g2⟩
theorem fn_law_rule_of (T : Tx K mg) : ∀ n, FnR P w K mg base CX0 (8 + n) (ga K "_law_rule_of") (spX K (rxRuleOf n))
  | 0 => fun A outer s H us vs Q E hr e0 r ⟨m, ds, T, ⟨b, p, _, h, _⟩, _⟩ => absurd h (Nat.not_lt_zero _)
  | n + 1 => fnR_X T.f_law_rule_of sc_law_rule_of bn_law_rule_of (fun m ds T ⟨_, _, _, _, _, _, h, _⟩ => by rw [h]; rfl) fun cdv A outer s H E hr m ds R ⟨b, p, ho, hn, hd, hb, h2, h3⟩ => by
    subst h2 h3
    have hu := room_u hr
    have nd := sc_law_rule_of.nd
    have ih := fn_law_rule_of T n
    have al : SeqAt.shaped (.str "always") = true := sh_str (by decide +kernel)
    have nt : SeqAt.shaped (.str "not") = true := sh_str (by decide +kernel)
    refine ss_if (C := fun _ m' => Bg b m') (take_eq0 (n := 2) ((f1_law_take T).mono (show 1 ≤ 8 + n by omega)) hr rfl T.g_law_take T.f_law_take.kp hu (a_cons (d_var 0 rfl) (a_cons d_int a_nil)) (by decide) (by decide) hb) (fun m1 hb1 => ?_) (fun m1 hb1 => ?_)
    · exact ss_ret (x_imp (x_pure (d_smeth rfl T.g_Rule T.a_Rule_of T.f_Rule_of.kp ((f7_Rule_of T).mono (show 7 ≤ 8 + n by omega)) hr ⟨p, ho, hd, rfl, rfl⟩ (a_cons (d_var 1 rfl) a_nil))) fun d m' ⟨h1, h2⟩ => ⟨h1, by rw [h2]; exact hb1⟩)
    match p with
    | .always bb =>
      refine ss_ifP (k := false) (c_eqv (c_eq hu al nt (d_ixT (p := .str "always") rfl (d_var 1 rfl) d_int) d_str) (by decide +kernel)) (fun z => nomatch z) fun _ => ?_
      refine ss_ifP (k := true) (c_eqv (c_eq hu al al (d_ixT (p := .str "always") rfl (d_var 1 rfl) d_int) d_str) (by decide +kernel)) (fun _ => ?_) (fun z => nomatch z)
      exact ss_ret (x_imp (x_pure (d_smeth rfl T.g_Rule T.a_Rule_always T.f_Rule_always.kp ((f4_Rule_always T).mono (show 4 ≤ 8 + n by omega)) hr ⟨bb, rfl, rfl⟩ (a_cons (d_ixT (p := .bool bb) rfl (d_var 1 rfl) d_int) a_nil))) fun d m' ⟨h1, h2⟩ => ⟨h1, by rw [h2]; exact hb1⟩)
    | .no p =>
      simp only [Pt.deep] at hn hd
      refine ss_ifP (k := true) (c_eqv (c_eq hu nt nt (d_ixT (p := .str "not") rfl (d_var 1 rfl) d_int) d_str) (by decide +kernel)) (fun _ => ?_) (fun z => nomatch z)
      refine ss_ret (x_inv (T1 := fun d m' => d = ruleD p ∧ Bg b m') T.o_invert ((f3_Rule_invert T).mono (show 3 ≤ 8 + n by omega)) hr (x_call ih hr rfl T.g_law_rule_of T.f_law_rule_of.kp (x_pureA (a_cons (d_var 0 rfl) (a_cons (d_ixT (p := p.data) rfl (d_var 1 rfl) d_int) a_nil))) fun ds m2 ⟨h1, h2⟩ => ?_) fun d m' ⟨h1, h2⟩ => ⟨_, _, h1, ⟨p, rfl, rfl⟩, rfl, h2⟩)
      subst h1 h2
      exact Rf.self ⟨b, p, ho, by omega, by omega, hb1, rfl, rfl⟩ fun d m' h => h
    | .word r e a =>
      obtain ⟨o1, o2, o3, o4, o5⟩ := rdN_ok r
      have so := sh_str o1
      refine ss_ifP (k := false) (c_eqv (c_eq hu so nt (d_ixT (p := .str (rdN r)) rfl (d_var 1 rfl) d_int) d_str) (eqv_str.trans o3)) (fun z => nomatch z) fun _ => ?_
      refine ss_ifP (k := false) (c_eqv (c_eq hu so al (d_ixT (p := .str (rdN r)) rfl (d_var 1 rfl) d_int) d_str) (eqv_str.trans o2)) (fun z => nomatch z) fun _ => ?_
      refine ss_ifP (k := true) (c_eqv (c_ninT (zs := opNames) (d_ixT (p := .str (rdN r)) rfl (d_var 1 rfl) d_int) (d_tup3 (a_cons d_str (a_cons d_str (a_cons d_str a_nil))))) (by rw [o4]; rfl)) (fun _ => ?_) (fun z => nomatch z)
      exact ss_ret (x_imp (x_pure (d_smeth rfl T.g_Rule T.a_Rule_by T.f_Rule_by.kp ((f4_Rule_by T).mono (show 4 ≤ 8 + n by omega)) hr ⟨r, e, a, rfl, rfl⟩ (a_cons (d_ixT (p := .str (rdN r)) rfl (d_var 1 rfl) d_int)
        (a_cons (d_make T.k_Word ((f2_Word_init T).mono (show 2 ≤ 7 + n by omega)) (by rw [show 7 + n + 1 = 8 + n by omega]; exact hr) rfl T.g_Word ⟨e, a, ho.1, ho.2.1, ho.2.2, rfl, rfl⟩ (a_cons (d_ixT (p := .str (bitS e)) rfl (d_var 1 rfl) d_int) (a_cons (d_ixT (p := .str (bitS a)) rfl (d_var 1 rfl) d_int) a_nil))) a_nil)))) fun d m' ⟨h1, h2⟩ => ⟨h1, by rw [h2]; exact hb1⟩)
    | .two o p q =>
      obtain ⟨o1, o2, o3, o4⟩ := opN_ok o
      have so := sh_str o1
      simp only [Pt.deep] at hn hd
      refine ss_ifP (k := false) (c_eqv (c_eq hu so nt (d_ixT (p := .str (opN o)) rfl (d_var 1 rfl) d_int) d_str) (eqv_str.trans o3)) (fun z => nomatch z) fun _ => ?_
      refine ss_ifP (k := false) (c_eqv (c_eq hu so al (d_ixT (p := .str (opN o)) rfl (d_var 1 rfl) d_int) d_str) (eqv_str.trans o2)) (fun z => nomatch z) fun _ => ?_
      refine ss_ifP (k := false) (c_eqv (c_ninT (zs := opNames) (d_ixT (p := .str (opN o)) rfl (d_var 1 rfl) d_int) (d_tup3 (a_cons d_str (a_cons d_str (a_cons d_str a_nil))))) (by rw [o4]; rfl)) (fun z => nomatch z) fun _ => ?_
      refine s_seq (N1 := fun δ' m' => δ' = [some (.r b), some (.p (Pt.two o p q).data), some (ruleD p), some (ruleD q)] ∧ Bg b m') (s_par (i := 2) (j := 3) (A := fun ds m' => ds = [ruleD p, ruleD q] ∧ Bg b m') rfl nd rfl rfl (by decide) rfl rfl ?_ (fun ds m1 ⟨h2, h3⟩ => ⟨_, _, h2, rfl, h3⟩) rfl) fun δ1 m2 ⟨h1, hb2⟩ => ?_
      · refine xa_imp (xa_cons (T := fun d m' => d = ruleD p ∧ Bg b m') (B := fun _ _ ds m' => ∃ d, (d = ruleD q ∧ Bg b m') ∧ ds = [d]) ?_ fun d m2 h => xa_1 ?_) fun ds m' ⟨d1, m2, r, ⟨h1, h2⟩, ⟨d2, ⟨h3, h4⟩, h5⟩, h6⟩ => ⟨by rw [h6, h5, h1, h3], h4⟩
        · refine x_call ih hr rfl T.g_law_rule_of T.f_law_rule_of.kp (x_pureA (a_cons (d_var 0 rfl) (a_cons (d_ixT (p := p.data) rfl (d_var 1 rfl) d_int) a_nil))) fun ds m2 ⟨h1, h2⟩ => ?_
          subst h1 h2
          exact Rf.self ⟨b, p, ho.1, by omega, by omega, hb1, rfl, rfl⟩ fun d m' h => h
        · refine x_call ih hr rfl T.g_law_rule_of T.f_law_rule_of.kp (x_pureA (a_cons (d_var 0 rfl) (a_cons (d_ixT (p := q.data) rfl (d_var 1 rfl) d_int) a_nil))) fun ds m3 ⟨h1, h2⟩ => ?_
          subst h1 h2
          exact Rf.self ⟨b, q, ho.2, by omega, by omega, h.2, rfl, rfl⟩ fun d m' h => h
      subst h1
      match o with
      | 0 =>
        refine ss_ifP (k := true) (c_eqv (c_eq hu so so (d_ixT (p := .str (opN 0)) rfl (d_var 1 rfl) d_int) d_str) (by decide +kernel)) (fun _ => ?_) (fun z => nomatch z)
        exact ss_ret (x_imp (x_pure (d_ownB T.o_and rfl ((f3_Rule_and T).mono (show 3 ≤ 8 + n by omega)) hr ⟨p, q, rfl, rfl⟩ (d_var 2 rfl) (d_var 3 rfl))) fun d m' ⟨h1, h2⟩ => ⟨h1, by rw [h2]; exact hb2⟩)
      | 1 =>
        refine ss_ifP (k := false) (c_eqv (c_eq hu so (sh_str (by decide +kernel)) (d_ixT (p := .str (opN 1)) rfl (d_var 1 rfl) d_int) d_str) (by decide +kernel)) (fun z => nomatch z) (fun _ => ?_)
        exact ss_ret (x_imp (x_pure (d_if (k := true) (c_eqv (c_eq hu so so (d_ixT (p := .str (opN 1)) rfl (d_var 1 rfl) d_int) d_str) (by decide +kernel)) (fun _ => d_ownB T.o_or rfl ((f3_Rule_or T).mono (show 3 ≤ 8 + n by omega)) hr ⟨p, q, rfl, rfl⟩ (d_var 2 rfl) (d_var 3 rfl)) (fun z => nomatch z))) fun d m' ⟨h1, h2⟩ => ⟨h1, by rw [h2]; exact hb2⟩)
      | 2 =>
        refine ss_ifP (k := false) (c_eqv (c_eq hu so (sh_str (by decide +kernel)) (d_ixT (p := .str (opN 2)) rfl (d_var 1 rfl) d_int) d_str) (by decide +kernel)) (fun z => nomatch z) (fun _ => ?_)
        exact ss_ret (x_imp (x_pure (d_if (k := false) (c_eqv (c_eq hu so (sh_str (by decide +kernel)) (d_ixT (p := .str (opN 2)) rfl (d_var 1 rfl) d_int) d_str) (by decide +kernel)) (fun z => nomatch z) (fun _ => d_ownB T.o_xor rfl ((f3_Rule_xor T).mono (show 3 ≤ 8 + n by omega)) hr ⟨p, q, rfl, rfl⟩ (d_var 2 rfl) (d_var 3 rfl)))) fun d m' ⟨h1, h2⟩ => ⟨h1, by rw [h2]; exact hb2⟩)
end Pr
set_option maxHeartbeats 4000000
/-! Zc: the law's state behind some deeds. -/
namespace Pr
open PySem PySem.Spec PyProof.Rows L2
variable {P : Program} {w : World} {K : PySem.W.Frag} {mg : Str → Option Value} {base : Heap}
/-- without a memory: by data -/
def xOf (R : RD) : Ms → List Dt → Rs → Prop := fun m ds T => ∃ d, R ds d ∧ m = [] ∧ T = fun d' m' => d' = d ∧ m' = []
theorem mem_nil {H : Hp} : Mem K H [] := ⟨List.nodup_nil, fun _ z => nomatch z⟩
theorem fnX_D {k : Nat} {f : Addr} {R : RD} (h : FnR P w K mg base CX0 k f (spX K (xOf R))) : FnR P w K mg base CX0 k f (spD K R) :=
  h.imp fun vs H Q E ⟨ds, d, r, hR, q⟩ => ⟨[], ds, _, ⟨d, hR, rfl, rfl⟩, mem_nil, by rw [show dm ([] : Ms) = [] from rfl, mn_nil]; exact r, fun v d' m' H' ⟨h1, h2⟩ _ c r' => by
    subst h1 h2
    rw [show dm ([] : Ms) = [] from rfl, mn_nil] at r'
    exact q v H' (by have := c; unfold Chg at this; rw [show dm ([] : Ms) = [] from rfl, mn_nil, mn_nil] at this; exact this) r'⟩
abbrev fl0 (n k : Nat) (p : Pt) : Fl := ⟨n, k, p, [], [], []⟩
def rdState : RD := fun ds d => ∃ (n k : Nat) (p0 : Pt) (log : List Deed), okL (fl0 n k p0) log ∧ ds = [.i n, .i k, .p p0.data, .l (log.map Deed.d)] ∧ d = .tu [.dT (dtM (runL (fl0 n k p0) log).laid), .p (runL (fl0 n k p0) log).p.data]
theorem f7_law_state (T : Tx K mg) : FnR P w K mg base CX0 7 (ga K "_law_state") (spD K rdState) :=
  fnX_D <| fnR_X T.f_law_state sc_law_state bn_law_state (fun m ds T ⟨_, ⟨_, _, _, _, _, h, _⟩, _⟩ => by rw [h]; rfl) fun cdv A outer s H E hr m ds R ⟨d, ⟨n, k, p0, log, hok, h, h2⟩, h3, h4⟩ => by
    subst h h2 h3 h4
    have hu := room_u hr
    have hu1 : (A.deeper (envOfC "_law_state" (defScope st_law_state) s.heap.objs.size (ga K "_law_state") cdv)).units + 1 < cLine := by omega
    have nd := sc_law_state.nd
    generalize hs0 : fl0 n k p0 = s0 at hok ⊢
    have hnm : ∀ i, (runL s0 (log.take i)).n = n ∧ (runL s0 (log.take i)).m = k := fun i => by
      have := runL_nm (log.take i) s0
      rw [← hs0] at this ⊢
      exact this
    let D0 : Addr → Fl → De := fun a s => [some (.i n), some (.i k), some (.p p0.data), some (.l (log.map Deed.d)), some (.r a), some (.p s.p.data), none, none]
    refine s_seq (N1 := fun δ' m' => ∃ a, δ' = D0 a s0 ∧ m' = [(a, .dT (dtM s0.laid))]) (s_par (i := 4) (j := 5) (A := fun ds m' => ∃ a, ds = [.r a, .p p0.data] ∧ m' = [(a, .dT [])]) rfl nd rfl rfl (by decide) rfl rfl ?_ (fun ds m1 ⟨a, h2, h3⟩ => ⟨_, _, h2, a, by rw [← hs0]; rfl, by rw [h3, ← hs0]; rfl⟩) rfl) fun δ1 m1 ⟨a, h1, h2⟩ => ?_
    · exact xa_imp (xa_cons (B := fun _ m1 ds m' => ds = [.p p0.data] ∧ m' = m1) x_dnewT fun d m1 _ => x_pureA (a_cons (d_var 2 rfl) a_nil)) fun ds m' ⟨d, m1, r, ⟨a, h1, h2⟩, ⟨h3, h4⟩, h5⟩ => ⟨a, by rw [h5, h1, h3], by rw [h4, h2]⟩
    subst h1 h2
    refine s_seq (s_for (l := log) (ι := Deed.d) (is := [6, 7]) (fun i δ' m' => δ' = D0 a (runL s0 (log.take i)) ∧ m' = [(a, .dT (dtM (runL s0 (log.take i)).laid))]) PassesOwn.never rfl (i_list (d_var 3 rfl)) (fun p _ => noL_deed p) ⟨rfl, rfl⟩ fun i p δ1 m1 hp h => ?_) fun δ1 m1 h => ?_
    · obtain ⟨h1, h2⟩ := h
      subst h1 h2
      obtain ⟨hz, hoD⟩ := okL_at hok hp
      obtain ⟨en, em⟩ := hnm i
      have es := runL_succ (s := s0) hp
      rw [es]
      generalize runL s0 (log.take i) = sc at hz hoD en em ⊢
      have e3 : (dtM sc.laid).length < 1000 := by unfold dtM; rw [List.length_map]; exact hz.laid
      match p with
      | .rule q =>
        refine ⟨[some (.i n), some (.i k), some (.p p0.data), some (.l (log.map Deed.d)), some (.r a), some (.p sc.p.data), some (.s "rule"), some (.p q.data)], g_tup (ps := [.str "rule", q.data]) rfl (gs_cons (g_name 6 nd rfl (.inl rfl)) (gs_cons (g_name 7 nd rfl (.inl rfl)) gs_nil)) rfl, ?_⟩
        refine s_one (s_if (x_pureC (k := true) (c_eqv (c_eq hu sh_rule sh_rule (d_var 6 rfl) d_str) (by decide +kernel))) (fun m1 ⟨_, h⟩ => ?_) (fun m1 ⟨h, _⟩ => nomatch h))
        subst h
        refine s_one (s_shift (x_pureS (n_set 5 nd rfl (.inl rfl) (d_var 7 rfl))) fun δ' m' h => ?_)
        obtain ⟨h1, h2⟩ := h
        subst h1 h2
        exact ⟨_, _, [], ap0, ⟨rfl, rfl⟩, fun _ _ E => (E.forget 6).forget 7⟩
      | .lay t =>
        refine ⟨[some (.i n), some (.i k), some (.p p0.data), some (.l (log.map Deed.d)), some (.r a), some (.p sc.p.data), some (.s "lay"), some (.p t.d)], g_tup (ps := [.str "lay", t.d]) rfl (gs_cons (g_name 6 nd rfl (.inl rfl)) (gs_cons (g_name 7 nd rfl (.inl rfl)) gs_nil)) rfl, ?_⟩
        refine s_one (s_if (x_pureC (k := false) (c_eqv (c_eq hu sh_lay sh_rule (d_var 6 rfl) d_str) (by decide +kernel))) (fun m1 ⟨h, _⟩ => nomatch h) (fun m1 ⟨_, h⟩ => ?_))
        subst h
        refine s_one (s_if (x_pureC (k := true) (c_eqv (c_eq hu sh_lay sh_lay (d_var 6 rfl) d_str) (by decide +kernel))) (fun m1 ⟨_, h⟩ => ?_) (fun m1 ⟨h, _⟩ => nomatch h))
        subst h
        refine s_one (s_shift (s_putT (N := fun δ' m' => δ' = [some (.i n), some (.i k), some (.p p0.data), some (.l (log.map Deed.d)), some (.r a), some (.p sc.p.data), some (.s "lay"), some (.p t.d)] ∧ m' = [(a, .dT (dtM (sc.doD (.lay t)).laid))]) (i := 0) (l := [(t.r : Int), t.i, t.j]) (q := .bool (sc.p.truth (nums n k t.r t.i t.j))) hu1
          (x_pure (d_call (fn_law_truth T 5) hr rfl T.g_law_truth T.f_law_truth.kp ⟨sc.p, t, n, k, hz.ok, hz.dp, hoD.1, by rw [← en]; exact hz.n, by rw [← em]; exact hz.m, rfl, rfl⟩ (a_cons (d_var 5 rfl) (a_cons (d_ixT (p := .int t.r) rfl (d_var 7 rfl) d_int) (a_cons (d_ixT (p := .int t.i) rfl (d_var 7 rfl) d_int) (a_cons (d_ixT (p := .int t.j) rfl (d_var 7 rfl) d_int) (a_cons (d_var 0 rfl) (a_cons (d_var 1 rfl) a_nil))))))))
          (x_var 4 rfl) (x_var 7 rfl) (by simp) rfl e3 ⟨rfl, by rw [show ([(t.r : Int), t.i, t.j].map Sum.inl : List Key) = t.k from rfl, dtM_put hoD.2]; show _ = [(a, Dt.dT (dtM (sc.laid ++ [(t, sc.p.truth (nums sc.n sc.m t.r t.i t.j))])))]; rw [en, em]; rfl⟩) fun δ' m' h => ?_)
        obtain ⟨h1, h2⟩ := h
        subst h1 h2
        exact ⟨_, _, [], ap0, ⟨rfl, rfl⟩, fun _ _ E => (E.forget 6).forget 7⟩
      | .take t =>
        refine ⟨[some (.i n), some (.i k), some (.p p0.data), some (.l (log.map Deed.d)), some (.r a), some (.p sc.p.data), some (.s "take"), some (.p t.d)], g_tup (ps := [.str "take", t.d]) rfl (gs_cons (g_name 6 nd rfl (.inl rfl)) (gs_cons (g_name 7 nd rfl (.inl rfl)) gs_nil)) rfl, ?_⟩
        refine s_one (s_if (x_pureC (k := false) (c_eqv (c_eq hu sh_take sh_rule (d_var 6 rfl) d_str) (by decide +kernel))) (fun m1 ⟨h, _⟩ => nomatch h) (fun m1 ⟨_, h⟩ => ?_))
        subst h
        refine s_one (s_if (x_pureC (k := false) (c_eqv (c_eq hu sh_take sh_lay (d_var 6 rfl) d_str) (by decide +kernel))) (fun m1 ⟨h, _⟩ => nomatch h) (fun m1 ⟨_, h⟩ => ?_))
        subst h
        obtain ⟨v, hv⟩ : ∃ v, sc.laid.lookup t = some v := Option.isSome_iff_exists.mp hoD.2.1
        refine s_one (s_shift (s_expr (N := fun δ' m' => δ' = [some (.i n), some (.i k), some (.p p0.data), some (.l (log.map Deed.d)), some (.r a), some (.p sc.p.data), some (.s "take"), some (.p t.d)] ∧ m' = [(a, .dT (dtM (sc.doD (.take t)).laid))]) (x_imp (x_dpop (i := 0) (l := [(t.r : Int), t.i, t.j]) (q := .bool v) hu1 (x_var 4 rfl) rfl (x_var 7 rfl) (by simp) (by rw [show ([(t.r : Int), t.i, t.j].map Sum.inl : List Key) = t.k from rfl, valD_dtM, hv]; rfl))
          fun d m' ⟨_, h⟩ => ⟨rfl, by rw [h, show ([(t.r : Int), t.i, t.j].map Sum.inl : List Key) = t.k from rfl, dtM_drop]; rfl⟩)) fun δ' m' h => ?_)
        obtain ⟨h1, h2⟩ := h
        subst h1 h2
        exact ⟨_, _, [], ap0, ⟨rfl, rfl⟩, fun _ _ E => (E.forget 6).forget 7⟩
    · obtain ⟨h1, h2⟩ := h
      subst h1 h2
      rw [List.take_length]
      refine ss_finT (i := 4) rfl (ss_ret (x_tu (x_pureA (a_cons (d_var 4 rfl) (a_cons (d_var 5 rfl) a_nil))) fun ds m1 ⟨h1, h2⟩ => ?_))
      exact ⟨by rw [h1]; simp, by rw [h1], h2⟩
end Pr
set_option maxHeartbeats 4000000
/-! Zd: drawn deeds; whether a deed can be done, as the law sees it. -/
namespace Pr
open PySem PySem.Spec PyProof.Rows L2
variable {P : Program} {w : World} {K : PySem.W.Frag} {mg : Str → Option Value} {base : Heap}
theorem sh_mts {l : List Mt} : SeqAt.shaped (.list (l.map Mt.d)) = true := by
  have h1 : ∀ l : List Mt, PyData.canLayAll0 (l.map Mt.d) = true := fun l => by
    induction l with
    | nil => rfl
    | cons a l ih => rw [List.map_cons]; unfold PyData.canLayAll0; rw [ih]; rfl
  have h2 : ∀ l : List Mt, PyData.depthAll (l.map Mt.d) ≤ 20 := fun l => by
    induction l with
    | nil => decide
    | cons a l ih => rw [List.map_cons]; unfold PyData.depthAll; exact Nat.max_le.mpr ⟨by simp [PyData.depth, PyData.depthAll], ih⟩
  unfold SeqAt.shaped
  have e1 : PyData.canLay0 (.list (l.map Mt.d)) = true := by unfold PyData.canLay0; exact h1 l
  have e2 : PyData.depth (.list (l.map Mt.d)) ≤ 64 := by unfold PyData.depth; have := h2 l; omega
  rw [e1, decide_eq_true e2]; rfl
theorem eqv_mts_nil {l : List Mt} : PyData.eqv (.list (l.map Mt.d)) (.list []) = l.isEmpty := by cases l <;> rfl
theorem any_mts {l : List Mt} {a : Mt} : ((l.map Mt.d).any fun z => PyData.eqv z a.d) = decide (a ∈ l) := by
  rw [List.any_map]
  induction l with
  | nil => rfl
  | cons b l ih =>
    rw [List.any_cons, ih]
    show (PyData.eqv b.d a.d || _) = _
    rw [eqv_mt]
    simp only [List.mem_cons, Bool.decide_or]
    congr 1
    exact decide_eq_decide.mpr eq_comm
theorem noLs_mts {l : List Mt} : noLs (l.map Mt.d) = true := noLs_mem fun a ha => by obtain ⟨d, _, rfl⟩ := List.mem_map.mp ha; rfl
/-- a drawn deed -/
def Deed.drawn (n k : Nat) : Deed → Prop
  | .rule p => p.ok ∧ p.deep ≤ 1
  | .lay a => a.i < n ∧ a.j < k ∧ a.r < 40
  | .take a => a.i < n ∧ a.j < k ∧ a.r < 40
structure lawL (l : List (Mt × Bool)) (n k : Nat) : Prop where
  nk : okN n k
  len : l.length < 64
  sm : ∀ a ∈ keysOf l, a.r + 2 ≤ 30 ∧ a.i < n ∧ a.j < k
theorem lawL.smk {l : List (Mt × Bool)} {n k : Nat} (h : lawL l n k) : ∀ a ∈ keysOf l, a.sm := fun a ha => by
  obtain ⟨h1, h2, h3⟩ := h.sm a ha
  obtain ⟨_, _, h4, h5, _⟩ := h.nk
  exact ⟨by omega, by omega, by omega⟩
theorem lcan_in {l : List (Mt × Bool)} {n k : Nat} (h : lawL l n k) : ∀ a ∈ lcan l n k, a.i < n ∧ a.j < k ∧ a.r < 30 := fun a ha => by
  unfold lcan openL at ha
  have h1 := (List.mem_filter.mp (List.mem_filter.mp ha).1).1
  obtain ⟨h2, h3, h4⟩ := mem_allM.mp h1
  have := lookR_le (b := 30) (by decide) fun a ha => (h.sm a ha).1
  exact ⟨h3, h4, by omega⟩
theorem lends_in {l : List (Mt × Bool)} {n k : Nat} (h : lawL l n k) : ∀ a ∈ lends l, a.i < n ∧ a.j < k ∧ a.r < 30 := fun a ha => by
  unfold lends at ha
  have h1 := (sortM_perm _).mem_iff.mp (List.mem_filter.mp ha).1
  obtain ⟨h2, h3, h4⟩ := h.sm a h1
  exact ⟨h3, h4, by omega⟩
theorem lawL.can {l : List (Mt × Bool)} {n k : Nat} (h : lawL l n k) : n ≤ 60 ∧ k ≤ 60 ∧ n * k ≤ 30 ∧ (∀ a ∈ keysOf l, a.r + 2 ≤ 30) ∧ l.length ≤ 900 := by
  obtain ⟨_, _, h4, h5, h6⟩ := h.nk
  have := h.len
  exact ⟨by omega, by omega, by omega, fun a ha => (h.sm a ha).1, by omega⟩
theorem lcan_len {l : List (Mt × Bool)} {n k : Nat} (h : lawL l n k) : (lcan l n k).length ≤ 900 := by
  have h1 : (lcan l n k).length ≤ (allM n k (lookR l)).length := Nat.le_trans (List.length_filter_le _ _) (List.length_filter_le _ _)
  rw [allM_len] at h1
  have h2 := lookR_le (b := 30) (by decide) fun a ha => (h.sm a ha).1
  have h3 : lookR l * (n * k) ≤ 30 * 30 := Nat.mul_le_mul h2 h.can.2.2.1
  omega
theorem lends_len {l : List (Mt × Bool)} {n k : Nat} (h : lawL l n k) : (lends l).length ≤ 64 := by
  have h1 : (lends l).length ≤ (sortM (keysOf l)).length := List.length_filter_le _ _
  rw [(sortM_perm _).length_eq] at h1
  have := h.len
  unfold keysOf at h1
  rw [List.length_map] at h1
  omega
def rxDeed : Ms → List Dt → Rs → Prop := fun m ds T => ∃ (b : Addr) (n k : Nat) (l : List (Mt × Bool)), lawL l n k ∧ lcan l n k ≠ [] ∧ Bg b m ∧ ds = [.r b, .i n, .i k, .dT (dtM l)] ∧ T = fun d m' => ∃ t : Deed, t.drawn n k ∧ d = .p t.d ∧ Bg b m'
theorem f6_law_deed (T : Tx K mg) : FnR P w K mg base CX0 6 (ga K "_law_deed") (spX K rxDeed) :=
  fnR_X T.f_law_deed sc_law_deed bn_law_deed (fun m ds T ⟨_, _, _, _, _, _, _, h, _⟩ => by rw [h]; rfl) fun cdv A outer s H E hr m ds R ⟨b, n, k, l, hl, hne, hb, h2, h3⟩ => by
    subst h2 h3
    have hu := room_u hr
    have nd := sc_law_deed.nd
    obtain ⟨n1, k1, n8, k8, _⟩ := id hl.nk
    have tk : ∀ (N : Nat) (m1 : Ms) (x : Nat), 0 < N → N ≤ 1000000 → Bg b m1 → Rf rxTake m1 [.r b, .i N] (fun d m' => ∃ v : Nat, v < N ∧ d = .i v ∧ Bg b m') := fun N m1 x h0 h1 hb1 => Rf.self ⟨b, N, h0, h1, hb1, rfl, rfl⟩ fun d m' h => h
    refine s_seq (N1 := fun δ' m' => ∃ v : Nat, v < 10 ∧ δ' = [some (.r b), some (.i n), some (.i k), some (.dT (dtM l)), some (.i v), some (.l ((lends l).map Mt.d)), none] ∧ Bg b m') (s_par (i := 4) (j := 5) (A := fun ds m' => ∃ v : Nat, v < 10 ∧ ds = [.i v, .l ((lends l).map Mt.d)] ∧ Bg b m') rfl nd rfl rfl (by decide) rfl rfl ?_ (fun ds m1 ⟨v, h1, h2, h3⟩ => ⟨_, _, h2, v, h1, rfl, h3⟩) rfl) fun δ1 m1 ⟨v, hv, h1, hb1⟩ => ?_
    · refine xa_imp (xa_cons (T := fun d m' => ∃ v : Nat, v < 10 ∧ d = .i v ∧ Bg b m') (B := fun _ m1 ds m' => ds = [.l ((lends l).map Mt.d)] ∧ m' = m1) ?_ fun d m2 h => x_pureA (a_cons (d_new (d_callN ((f2_law_ends T).mono (by decide)) hr rfl T.g_law_ends T.f_law_ends.kp ⟨l, hl.len, hl.smk, rfl, rfl⟩ (a_cons (d_var 3 rfl) a_nil))) a_nil)) fun ds m' ⟨d, m1, r, ⟨v, h1, h2, h3⟩, ⟨h4, h5⟩, h6⟩ => ⟨v, h1, by rw [h6, h4, h2], by rw [h5]; exact h3⟩
      refine x_call ((f1_law_take T).mono (by decide)) hr rfl T.g_law_take T.f_law_take.kp (x_pureA (a_cons (d_var 0 rfl) (a_cons d_int a_nil))) fun ds m3 ⟨h1, h2⟩ => ?_
      subst h1 h2
      exact tk 10 _ 0 (by decide) (by decide) hb
    subst h1
    refine ss_ifP (c_lt (d_var 4 rfl) d_int) (fun _ => ?_) fun _ => ?_
    · refine ss_ret (x_tup (A := fun ds m' => ∃ a : Mt, a ∈ lcan l n k ∧ ds = [.s "lay", .p a.d] ∧ Bg b m') ?_ fun ds m3 ⟨a, h1, h2, h3⟩ => ⟨[.str "lay", a.d], h2, by simp, .lay a, by obtain ⟨q1, q2, q3⟩ := lcan_in hl a h1; exact ⟨q1, q2, by omega⟩, rfl, h3⟩)
      refine xa_imp (xa_dc (x_pure d_str) (xa_1 (T := fun d m' => ∃ a : Mt, a ∈ lcan l n k ∧ d = .p a.d ∧ Bg b m') ?_)) fun ds m' ⟨r, ⟨d, ⟨a, h1, h2, h3⟩, h4⟩, h5⟩ => ⟨a, h1, by rw [h5, h4, h2], h3⟩
      refine x_call ((f2_law_pick T).mono (by decide)) hr rfl T.g_law_pick T.f_law_pick.kp (x_pureA (a_cons (d_var 0 rfl) (a_cons (d_new (d_callN ((f2_law_can T).mono (by decide)) hr rfl T.g_law_can T.f_law_can.kp ⟨l, n, k, hl.can.1, hl.can.2.1, hl.can.2.2.1, hl.can.2.2.2.1, hl.can.2.2.2.2, rfl, rfl⟩ (a_cons (d_var 3 rfl) (a_cons (d_var 1 rfl) (a_cons (d_var 2 rfl) a_nil))))) a_nil))) fun ds m3 ⟨h1, h2⟩ => ?_
      subst h1 h2
      refine Rf.self ⟨b, (lcan l n k).map Mt.d, by rw [List.length_map]; exact List.length_pos_iff.mpr hne, by rw [List.length_map]; have := lcan_len hl; omega, noLs_mts, hb1, rfl, rfl⟩ fun d m' ⟨q, h1, h2, h3⟩ => ?_
      obtain ⟨a, ha, e⟩ := List.mem_map.mp h1
      exact ⟨a, ha, by rw [h2, e], h3⟩
    refine ss_ifP (PW.pt (w_and (c_lt (d_var 4 rfl) d_int) fun _ => w_and1 (c_ne hu sh_mts sh_nil (d_var 5 rfl) (d_new (d_lstP (ps := []) a_nil (by simp)))))) (fun hne2 => ?_) fun _ => ?_
    · rw [eqv_mts_nil] at hne2
      have he : lends l ≠ [] := fun z => by rw [z] at hne2; simp at hne2
      refine ss_ret (x_tup (A := fun ds m' => ∃ a : Mt, a ∈ lends l ∧ ds = [.s "take", .p a.d] ∧ Bg b m') ?_ fun ds m3 ⟨a, h1, h2, h3⟩ => ⟨[.str "take", a.d], h2, by simp, .take a, by obtain ⟨q1, q2, q3⟩ := lends_in hl a h1; exact ⟨q1, q2, by omega⟩, rfl, h3⟩)
      refine xa_imp (xa_dc (x_pure d_str) (xa_1 (T := fun d m' => ∃ a : Mt, a ∈ lends l ∧ d = .p a.d ∧ Bg b m') ?_)) fun ds m' ⟨r, ⟨d, ⟨a, h1, h2, h3⟩, h4⟩, h5⟩ => ⟨a, h1, by rw [h5, h4, h2], h3⟩
      refine x_call ((f2_law_pick T).mono (by decide)) hr rfl T.g_law_pick T.f_law_pick.kp (x_pureA (a_cons (d_var 0 rfl) (a_cons (d_var 5 rfl) a_nil))) fun ds m3 ⟨h1, h2⟩ => ?_
      subst h1 h2
      refine Rf.self ⟨b, (lends l).map Mt.d, by rw [List.length_map]; exact List.length_pos_iff.mpr he, by rw [List.length_map]; have := lends_len hl; omega, noLs_mts, hb1, rfl, rfl⟩ fun d m' ⟨q, h1, h2, h3⟩ => ?_
      obtain ⟨a, ha, e⟩ := List.mem_map.mp h1
      exact ⟨a, ha, by rw [h2, e], h3⟩
    refine ss_ifP (c_eq hu sh_int sh_int (d_var 4 rfl) d_int) (fun _ => ?_) fun _ => ?_
    · refine ss_ret (x_tup (A := fun ds m' => ∃ p : Pt, p.ok ∧ p.deep ≤ 1 ∧ ds = [.s "rule", .p p.data] ∧ Bg b m') ?_ fun ds m3 ⟨p, h1, h2, h3, h4⟩ => ⟨[.str "rule", p.data], h3, by simp, .rule p, ⟨h1, h2⟩, rfl, h4⟩)
      refine xa_imp (xa_dc (x_pure d_str) (xa_1 (T := fun d m' => ∃ p : Pt, p.ok ∧ p.deep ≤ 1 ∧ d = .p p.data ∧ Bg b m') ?_)) fun ds m' ⟨r, ⟨d, ⟨p, h1, h2, h3, h4⟩, h5⟩, h6⟩ => ⟨p, h1, h2, by rw [h6, h5, h3], h4⟩
      refine x_call (fn_law_parts T 2) hr rfl T.g_law_parts T.f_law_parts.kp (x_pureA (a_cons (d_var 0 rfl) (a_cons d_int (a_cons d_int (a_cons (d_new (d_lstP (ps := [.int 1, .int 2, .int 3]) (a_cons d_int (a_cons d_int (a_cons d_int a_nil))) (by simp))) a_nil))))) fun ds m3 ⟨h1, h2⟩ => ?_
      subst h1 h2
      exact Rf.self ⟨b, 1, 2, [1, 2, 3], by decide, by decide, by decide, by decide, by decide, hb1, rfl, rfl⟩ fun d m' h => h
    refine ss_set (T := fun d m' => ∃ a : Mt, (a.i < n ∧ a.j < k ∧ a.r < 40) ∧ d = .p a.d ∧ Bg b m') 6 nd rfl (.inl rfl) (x_tup (A := fun ds m' => ∃ a : Mt, (a.i < n ∧ a.j < k ∧ a.r < 40) ∧ ds = [.i a.r, .i a.i, .i a.j] ∧ Bg b m') ?_ fun ds m3 ⟨a, h1, h2, h3⟩ => ⟨[.int a.r, .int a.i, .int a.j], h2, by simp, a, h1, rfl, h3⟩) fun d m2 ⟨a, ha, h1, hb2⟩ => ?_
    · refine xa_imp (xa_cons (T := fun d m' => ∃ v : Nat, v < 3 ∧ d = .i v ∧ Bg b m') (B := fun _ m1 ds m' => ∃ v1 v2 : Nat, v1 < n ∧ v2 < k ∧ ds = [.i v1, .i v2] ∧ Bg b m') ?_ fun d m2 ⟨_, _, _, hb2⟩ => ?_) fun ds m' ⟨d, m1, r, ⟨v, h1, h2, h3⟩, ⟨v1, v2, h4, h5, h6, h7⟩, h8⟩ => ⟨⟨v, v1, v2⟩, ⟨h4, h5, by show v < 40; omega⟩, by rw [h8, h6, h2], h7⟩
      · refine x_call ((f1_law_take T).mono (by decide)) hr rfl T.g_law_take T.f_law_take.kp (x_pureA (a_cons (d_var 0 rfl) (a_cons d_int a_nil))) fun ds m3 ⟨h1, h2⟩ => ?_
        subst h1 h2
        exact tk 3 _ 0 (by decide) (by decide) hb1
      · refine xa_imp (xa_cons (T := fun d m' => ∃ v : Nat, v < n ∧ d = .i v ∧ Bg b m') (B := fun _ m1 ds m' => ∃ d, (∃ v : Nat, v < k ∧ d = .i v ∧ Bg b m') ∧ ds = [d]) ?_ fun d m2 ⟨_, _, _, hb2⟩ => xa_1 ?_) fun ds m' ⟨d, m1, r, ⟨v, h1, h2, h3⟩, ⟨d2, ⟨v2, h5, h6, h7⟩, h8⟩, h9⟩ => ⟨v, v2, h1, h5, by rw [h9, h8, h6, h2], h7⟩
        · refine x_call ((f1_law_take T).mono (by decide)) hr rfl T.g_law_take T.f_law_take.kp (x_pureA (a_cons (d_var 0 rfl) (a_cons (d_var 1 rfl) a_nil))) fun ds m3 ⟨h1, h2⟩ => ?_
          subst h1 h2
          exact tk n _ 0 (by omega) (by omega) hb2
        · refine x_call ((f1_law_take T).mono (by decide)) hr rfl T.g_law_take T.f_law_take.kp (x_pureA (a_cons (d_var 0 rfl) (a_cons (d_var 2 rfl) a_nil))) fun ds m3 ⟨h1, h2⟩ => ?_
          subst h1 h2
          exact tk k _ 0 (by omega) (by omega) hb2
    subst h1
    refine ss_ret (x_tup (A := fun ds m' => ∃ c : Str, (c = "lay" ∨ c = "take") ∧ ds = [.s c, .p a.d] ∧ Bg b m') ?_ fun ds m3 ⟨c, h1, h2, h3⟩ => ?_)
    · refine xa_imp (xa_cons (T := fun d m' => ∃ c : Str, (c = "lay" ∨ c = "take") ∧ d = .s c ∧ Bg b m') (B := fun _ m1 ds m' => ds = [.p a.d] ∧ m' = m1) ?_ fun d m3 _ => x_pureA (a_cons (d_var 6 rfl) a_nil)) fun ds m' ⟨d, m1, r, ⟨c, h1, h2, h3⟩, ⟨h4, h5⟩, h6⟩ => ⟨c, h1, by rw [h6, h4, h2], by rw [h5]; exact h3⟩
      refine x_ix (d1 := .l [.str "lay", .str "take"]) (T1 := fun d m' => ∃ v : Nat, v < 2 ∧ d = .i v ∧ Bg b m') ix_list (x_pure (d_new (d_lstP (ps := [.str "lay", .str "take"]) (a_cons d_str (a_cons d_str a_nil)) (by simp)))) ?_ fun d2 m' ⟨v, hv, h1, h2⟩ => ?_
      · refine x_call ((f1_law_take T).mono (by decide)) hr rfl T.g_law_take T.f_law_take.kp (x_pureA (a_cons (d_var 0 rfl) (a_cons d_int a_nil))) fun ds m3 ⟨h1, h2⟩ => ?_
        subst h1 h2
        exact tk 2 _ 0 (by decide) (by decide) hb2
      · subst h1
        match v, hv with
        | 0, _ => exact ⟨_, r2_ixL rfl, rfl, "lay", .inl rfl, rfl, h2⟩
        | 1, _ => exact ⟨_, r2_ixL rfl, rfl, "take", .inr rfl, rfl, h2⟩
    · rcases h1 with h1 | h1
      · subst h1; exact ⟨[.str "lay", a.d], h2, by simp, .lay a, ha, rfl, h3⟩
      · subst h1; exact ⟨[.str "take", a.d], h2, by simp, .take a, ha, rfl, h3⟩
def Deed.goes (l : List (Mt × Bool)) (n k : Nat) : Deed → Bool
  | .rule _ => true
  | .lay a => decide (a ∈ lcan l n k)
  | .take a => decide (a ∈ lends l)
def rdIsDone : RD := fun ds d => ∃ (n k : Nat) (l : List (Mt × Bool)) (t : Deed), lawL l n k ∧ ds = [.i n, .i k, .dT (dtM l), .p t.d] ∧ d = .b (t.goes l n k)
theorem f3_law_is_done (T : Tx K mg) : FnR P w K mg base CX0 3 (ga K "_law_is_done") (spD K rdIsDone) :=
  fnR_D T.f_law_is_done sc_law_is_done bn_law_is_done (fun ds d ⟨_, _, _, _, _, h, _⟩ => by rw [h]; rfl) fun cdv A outer s H E hr ds d ⟨n, k, l, t, hl, h, h2⟩ => by
    subst h h2
    have hu := room_u hr
    match t with
    | .rule p =>
      refine q_if (k := true) (c_eqv (c_eq hu sh_rule sh_rule (d_ixT (p := .str "rule") rfl (d_var 3 rfl) d_int) d_str) (by decide +kernel)) (fun _ => ?_) (fun z => nomatch z)
      exact q_retD d_bl
    | .lay a =>
      refine q_if (k := false) (c_eqv (c_eq hu sh_lay sh_rule (d_ixT (p := .str "lay") rfl (d_var 3 rfl) d_int) d_str) (by decide +kernel)) (fun z => nomatch z) fun _ => ?_
      refine q_retE (d_in hu sh_mt sh_mts (d_ixT (p := a.d) rfl (d_var 3 rfl) d_int) (d_if (k := true) (c_eqv (c_eq hu sh_lay sh_lay (d_ixT (p := .str "lay") rfl (d_var 3 rfl) d_int) d_str) (by decide +kernel)) (fun _ => d_new (d_callN (f2_law_can T) hr rfl T.g_law_can T.f_law_can.kp ⟨l, n, k, hl.can.1, hl.can.2.1, hl.can.2.2.1, hl.can.2.2.2.1, hl.can.2.2.2.2, rfl, rfl⟩ (a_cons (d_var 2 rfl) (a_cons (d_var 0 rfl) (a_cons (d_var 1 rfl) a_nil))))) (fun z => nomatch z))) ?_
      rw [any_mts]; rfl
    | .take a =>
      refine q_if (k := false) (c_eqv (c_eq hu sh_take sh_rule (d_ixT (p := .str "take") rfl (d_var 3 rfl) d_int) d_str) (by decide +kernel)) (fun z => nomatch z) fun _ => ?_
      refine q_retE (d_in hu sh_mt sh_mts (d_ixT (p := a.d) rfl (d_var 3 rfl) d_int) (d_if (k := false) (c_eqv (c_eq hu sh_take sh_lay (d_ixT (p := .str "take") rfl (d_var 3 rfl) d_int) d_str) (by decide +kernel)) (fun z => nomatch z) (fun _ => d_new (d_callN (f2_law_ends T) hr rfl T.g_law_ends T.f_law_ends.kp ⟨l, hl.len, hl.smk, rfl, rfl⟩ (a_cons (d_var 2 rfl) a_nil))))) ?_
      rw [any_mts]; rfl
end Pr
set_option maxHeartbeats 4000000
/-! Ze: d.update(e) and {k: v for ..}, the keys tuples. -/
namespace Pr
open PySem PySem.Spec PyProof.Rows L2
/-! ### d.update(e) -/
def putsK {κ α : Type} [DecidableEq κ] (put : List (κ × α) → κ → α → List (κ × α)) (kvs more : List (κ × α)) : List (κ × α) := more.foldl (fun acc p => put acc p.1 p.2) kvs
section
variable {H : Hp}
theorem kt_puts : ∀ {more : List (List Key × V)} {ys : List (List Key × Addr × Value)} {kvs : List (List Key × V)} {xs : List (List Key × Addr × Value)}, KT H kvs xs → KT H more ys → KT H (putsK putK kvs more) (storedAllH xs ys)
  | _, _, _, _, r, .nil => r
  | p :: more, q :: ys, _, _, r, .cons h t => kt_puts (more := more) (ys := ys) (by have z := KT.put r q.1 (b := q.2.1) (y := p.2) (u := q.2.2) (by rw [← h.1]; exact h.2.1) h.2.2; rw [← h.1] at z; show KT H (putK _ p.1 p.2) (storedH _ q.1 q.2.1 q.2.2); rw [← h.1]; exact z) t
theorem puts_len : ∀ {more kvs : List (List Key × V)}, (putsK putK kvs more).length ≤ kvs.length + more.length
  | [], kvs => Nat.le_refl _
  | p :: more, kvs => by
    have h1 := puts_len (more := more) (kvs := putK kvs p.1 p.2)
    have h2 := length_putK kvs p.1 p.2
    show (putsK putK (putK kvs p.1 p.2) more).length ≤ _
    rw [List.length_cons]; omega
end
def rUpdT : V → List V → Hp → VK → Prop := fun x xs H Q => ∃ (a b : Addr) (kvs more : List (List Key × V)), x = .ref a ∧ xs = [.ref b] ∧ H a = some (.dT kvs) ∧ Rd H b (.dT more) ∧ a ≠ b ∧ kvs ≠ [] ∧ kvs.length + more.length ≤ sizeLine ∧ Q .non (upd H a (.dT (putsK putK kvs more)))
theorem mt_updT {X : Cx} (hu : X.A.units + 1 < cLine) : MtR X "dict.update" rUpdT := by
  intro pins s σ H x xs v us Q I rx rxs h
  obtain ⟨a, b, kvs, more, rfl, rfl, ha, hb, ne, h0, hz, q⟩ := h
  cases rx
  obtain ⟨u1, rfl, r1⟩ := rxs.one
  cases r1
  obtain ⟨_, hd, ls, rel, dd⟩ := dt_of I.hok ha
  obtain ⟨_, hd2, ls2, rel2, dd2⟩ := dt_rd I.hok hb
  have e1 := Paired.length rel
  have e2 := Paired.length rel2
  refine call_update_dictH (tupleKind_room_in1 hu) ne hd2 dd dd2 (.inl fun z => h0 (List.eq_nil_of_length_eq_zero (by rw [e1, z]; rfl))) (by omega) fun h' dn _ hs => ?_
  obtain ⟨o, es, ep, hq, g2, g3, g4, _, g5⟩ := dn
  refine ⟨.non, _, ?_, rfl, q⟩
  have hl := puts_len (more := more) (kvs := kvs)
  exact d_write (t' := s.toks) I (by rw [ha]; trivial) hs ⟨o, hq⟩ ⟨by omega, hd, _, (kt_puts rel rel2).keeps fun c ys ec => (by rw [upd_ne (ne_of ec ha (fun z => nomatch z))]; exact ec), o, es, ep, hq, g2, g3, g4, g5⟩
section
variable {κ : Type} [DecidableEq κ] {K : PySem.W.Frag} {H : Hp}
theorem kvP_puts : ∀ {more : List (κ × V)} {ds : List (κ × PyData)} {kvs : List (κ × V)} {es : List (κ × PyData)}, KvP K H kvs es → KvP K H more ds → KvP K H (putsK putK kvs more) (putsK putD es ds)
  | _, _, _, _, r, .nil => r
  | p :: more, q :: ds, _, _, r, .cons h t => by
    show KvP K H (putsK putK (putK _ p.1 p.2) more) (putsK putD (putD _ q.1 q.2) ds)
    rw [h.1]
    exact kvP_puts (kvP_put r h.2) t
end
section
variable {X : Cx} {δ : De} {m : Ms} {o e : Expr} {apos cpos : Pos} {ad : Addr} {kvs more : List (List Key × PyData)} {i : Nat}
theorem x_upd (hu : X.A.units + 1 < cLine) (ho : PE X o (xE X.K δ m fun d' m' => d' = .r ad ∧ m' = m)) (hi : m[i]? = some (ad, .dT kvs)) (he : PE X e (xE X.K δ m fun d' m' => d' = .dT more ∧ m' = m)) (h0 : kvs ≠ []) (hl : kvs.length + more.length ≤ 1000)
    (hbase : attributeBase o "update" X.env (eval o X.env) = eval o X.env := by rfl)
    (hfew : ((backTo cpos (starEach [e] X.env)).all (fun x => !x.1) && (backToKw cpos (keywordEach [] X.env)).all (fun x => x.1.isSome)
      && decide (([e] : List Expr).length + ([] : List Keyword).length + (if ([] : List Keyword).isEmpty then 0 else 1) < 30)) = true := by rfl)
    (hline : (apos.endLine == cpos.line) = true := by rfl) (hst : starEach [e] X.env = (false, eval e X.env) :: starEach [] X.env := by rfl) :
    PE X (.Call (.Attribute o "update" apos) [e] [] cpos) (xE X.K δ m fun d' m' => d' = .n ∧ m' = m.set i (ad, .dT (putsK putD kvs more))) :=
  PE_imp (pe_bm PySem.F.plainAttrs_dict PySem.F.slot_dict_update PySem.F.type_dict_update (mt_updT hu) ho (xa_1 he hst) hbase hfew hline hst rfl) fun σ H Q ⟨M, E, z⟩ => ⟨M, E, fun v d' m' H1 ⟨e1, e2⟩ M1 c1 r1 => by
    subst e1 e2
    cases r1
    obtain ⟨xs0, x1, _⟩ := M1.at hi
    refine ⟨.inr (.inr (.inl ⟨rfl, .inr ⟨_, x1⟩⟩)), M1, E.mono c1, fun vs ds m2 H2 ⟨d, ⟨e1, e2⟩, e⟩ M2 c2 r2 => ?_⟩
    subst e1 e2 e
    obtain ⟨y, rfl, ry⟩ := rpAll_1 r2
    obtain ⟨kv, g1, g2⟩ := M2.at hi
    obtain ⟨b, mv, rfl, hb, rb⟩ := ry.dT_inv
    have nb : ad ≠ b := fun z => by
      rcases hb with hb | ⟨ob, hb⟩ <;> rw [← z, mn_in (dm_of hi)] at hb <;> cases hb
    have el1 := kvP_len g2
    have el2 := kvP_len rb
    obtain ⟨M4, c4⟩ := mem_set (d := .dT (putsK putD kvs more)) M2 hi (u := .dT (putsK putK kv mv)) ⟨_, upd_same, kvP_puts g2 rb⟩
    exact ⟨ad, b, kv, mv, rfl, rfl, g1, rd_mono (mn_same _ _) hb, nb, fun z => h0 (List.eq_nil_of_length_eq_zero (by rw [← el1, z]; rfl)), Evl.sz_of (by omega), z _ _ _ _ ⟨rfl, rfl⟩ M4 ((c1.trans c2).trans c4) (.p .non)⟩⟩
end
/-! ### {k: v for target in iter if ..}, k a tuple -/
def tDcT (wi : TI) (g : TG) (tt : TT) (tk tv : TE) (vs : List Nat) : TE := fun σ H Q => wi σ H fun J H1 => ∀ D, H1 D = none → ∃ W : Nat → Nat → Hp → Prop, (∃ m, W 0 m (upd H1 D (.dT []))) ∧ ∀ i m H, W i m H →
  (J.stop i H ∧ Q (.ref D) H) ∨ (J.go i H ∧ ∃ Nx : Hp → Prop, (∀ H', Nx H' → ∃ m', m' < m ∧ W (i + 1) m' H') ∧ ∀ x H', J.yld i H x H' → g x (wipe σ vs) H' fun σ2 H2 => wipe σ2 vs = wipe σ vs ∧ tt σ2 H2 fun b H3 =>
    if b = true then tk σ2 H3 fun y H4 => tv σ2 H4 fun z H5 => ∃ (kvs : List (List Key × V)) (k : List Key) (t : Addr), y = .ref t ∧ H5 t = some (.tup (k.map kV)) ∧ H5 D = some (.dT kvs) ∧ kvs.length < sizeLine ∧ Nx (upd H5 D (.dT (putK kvs k z))) else Nx H3)
section
variable {X : Cx} {pins : List (Addr × Obj)} {σ : L2.St} {H : Hp} {s : Shared}
theorem setT_ok {D t : Addr} {kvs : List (List Key × V)} {k : List Key} {z : V} {r : Value} {E : Value → Shared → Prop} {Q : Unit → Shared → Prop} (I : Inv X pins σ H s) (hu : X.A.units + 1 < cLine) (hD : H D = some (.dT kvs)) (ht : H t = some (.tup (k.map kV))) (hz : kvs.length < sizeLine) (rz : RelV z r)
    (h : ∀ s', Inv X pins σ (upd H D (.dT (putK kvs k z))) s' → Q () s') : wpAny (model X.prog X.w) X.A (dictSet D (.ref t) r) Q E s := by
  obtain ⟨_, nd, ls, rel, dd⟩ := dt_of I.hok hD
  have el := Paired.length rel
  have hl := length_putK kvs k z
  have room : (tupleKind (mixKind X.prog X.w)).room X.A := Nat.lt_of_succ_lt hu
  refine wpAny_dictSet_heap (hsz := by omega) room (key_of I.hok ht) dd fun h' dn hs => h _ ?_
  obtain ⟨o, es, ep, hq, g2, g3, g4, _, g5⟩ := dn
  exact d_write I (by rw [hD]; trivial) hs ⟨o, hq⟩ ⟨by omega, nd, _, (KT.put rel k ht rz).keeps fun c ys ec => (by rw [upd_ne (ne_of ec hD (fun z => nomatch z))]; exact ec), o, es, ep, hq, g2, g3, g4, g5⟩
end
section
variable {X : Cx}
theorem pe_dcT {kx vx tg iter : Expr} {ifs : List Expr} {scope : Scope} {own : List (Str × Nat)} {pos : Pos} {wi : TI} {g : TG} {tt : TT} {tk tv : TE} (hu : X.A.units + 10 < cLine) (hc : X.calm = true) (hN : X.N.Nodup) (hi : PI X tg iter wi) (ok : BlkOk X.N X.env.scope scope own)
    (hg : Blk X scope fun X' => PG X' tg g) (ht : Blk X scope fun X' => PTs X' ifs tt) (hk : Blk X scope fun X' => PE X' kx tk) (he : Blk X scope fun X' => PE X' vx tv) (hs : ∀ x, foldedSetIterable iter X.env x = pure x := by intro _; rfl) :
    PE X (.DictComp kx vx [⟨tg, iter, ifs, 0⟩] scope pos) (tDcT wi g tt tk tv (own.map (·.2))) := by
  refine ⟨fun pins s σ H Q I h => ?_⟩
  rw [arm_eval_DictComp]
  have cap : ∀ y ∈ scope.names, y.2 = .free → ∃ c, X.env.cells.lookup y.1 = some c := fun y hy e => (ok.free y hy e).elim (fun k => I.ok.has _ (.inl k)) fun k => I.ok.has _ (.inr k)
  refine wpAny_comprehension_free (use := none) rfl hs (closure_ok cap) ok.kind (fun y hy e => by rw [ok.uniq y hy, e]) (thn (hi.run pins s σ H _ I h) fun xv s1 hx => thn hx fun itv s2 hit => ?_)
  obtain ⟨it, fp, tn, J, H2, rfl, I2, T, st2, f2, q⟩ := hit
  refine wpAny_newObj_type (newEnv_comp ?_)
  obtain ⟨D, hD⟩ : ∃ D, D = s2.heap.objs.size := ⟨_, rfl⟩
  rw [← hD]
  obtain ⟨W, ⟨m0, w0⟩, turn⟩ := q D (I2.hok.fresh (Nat.le_of_eq hD.symm))
  obtain ⟨so, hso⟩ : ∃ so : Obj, so = { cls := .type "dict", data := .dict #[] } := ⟨_, rfl⟩
  obtain ⟨s3, hs3⟩ : ∃ s3 : Shared, s3 = { s2 with heap := s2.heap.push so } := ⟨_, rfl⟩
  obtain ⟨H3, hH3⟩ : ∃ H3 : Hp, H3 = upd H2 D (.dT []) := ⟨_, rfl⟩
  rw [← hH3] at w0
  have h3 : s3.heap = s2.heap.push so := by rw [hs3]
  have I3 : Inv X pins σ H3 s3 := by
    rw [hs3, hH3]
    refine I2.laid (t' := s2.toks) (fun b o e => Heap.get?_push_of_some _ e) (Nat.le_of_eq hD.symm) ?_
    rw [hD, hso]; exact dt_empty s2.heap I2.big
  have f3 : ∀ b ∈ fp, FpOk X pins H3 b ∧ b < s3.heap.objs.size := fun b hb => by
    obtain ⟨o, e, _⟩ := T.obj _ _ st2 b hb
    have hlt := Heap.lt_size e
    refine ⟨⟨?_, (f2 b hb).2⟩, by rw [h3, Heap.size_push]; exact Nat.lt_succ_of_lt hlt⟩
    rw [hH3, upd_ne (by rw [hD]; exact Nat.ne_of_lt hlt)]
    exact (f2 b hb).1
  have st3 : tn 0 s3.heap := T.keep _ _ _ st2 fun b _ o e => by rw [h3]; exact Heap.get?_push_of_some _ e
  have I4 := block_start I3 ok hN f3
  have pg := hg s3 H3 s3.heap.objs.size (cellsFrom (s3.heap.objs.size + 1) scope.names (cloFrom X.env.cells scope.names [])) fp
  have pt := ht s3 H3 s3.heap.objs.size (cellsFrom (s3.heap.objs.size + 1) scope.names (cloFrom X.env.cells scope.names [])) fp
  have pk := hk s3 H3 s3.heap.objs.size (cellsFrom (s3.heap.objs.size + 1) scope.names (cloFrom X.env.cells scope.names [])) fp
  have pe := he s3 H3 s3.heap.objs.size (cellsFrom (s3.heap.objs.size + 1) scope.names (cloFrom X.env.cells scope.names [])) fp
  obtain ⟨ce, hce⟩ : ∃ ce, ce = compEnvC scope (cellsFrom (s3.heap.objs.size + 1) scope.names (cloFrom X.env.cells scope.names [])) s3.heap.objs.size X.env := ⟨_, rfl⟩
  obtain ⟨s4, hs4⟩ : ∃ s4 : Shared, s4 = { s3 with heap := pushCells (s3.heap.push { cls := .type "dict", data := .dict #[] }) scope.names } := ⟨_, rfl⟩
  have goal : codeAny (model X.prog X.w) X.A (.compStart (.DictComp kx vx [⟨tg, iter, ifs, 0⟩] scope pos) 0 (.ref it) (.ref D) ce) (compPost (model X.prog X.w) X.A X.xe none (EP X pins σ Q) (.ref D) s3.heap.objs.size) s4 := by
    rw [← hs4, ← hce] at I4
    rw [← hce] at pg pt pk pe
    have cL : ce.locals = s3.heap.objs.size := by rw [hce]; rfl
    have st4 : tn 0 s4.heap := T.keep _ _ _ st3 fun b _ o e => by rw [hs4]; exact pushCells_keeps _ _ _ _ (Heap.get?_push_of_some _ e)
    have stat : ∀ {σ' : L2.St} {H' : Hp} {s' : Shared}, Inv (X.blk s3 H3 scope ce fp) [] σ' H' s' → (∀ b ∈ fp, H' b = none) → ∀ b ∈ fp, FpOk (X.blk s3 H3 scope ce fp) [] H' b := fun I' hn b hb =>
      ⟨hn b hb, (I'.ok.exf b hb).1, I'.ok.exfs b hb, .inl hb, fun x c e => (I'.ok.exf b hb).2 x c e, fun p hp => absurd (show p ∈ ([] : List (Addr × Obj)) ++ [] from hp) (by simp)⟩
    have loop : codeAny (model X.prog X.w) X.A (.compLoop (.DictComp kx vx [⟨tg, iter, ifs, 0⟩] scope pos) 0 (.ref it) (.ref D) ce) (compPost (model X.prog X.w) X.A X.xe none (EP X pins σ Q) (.ref D) s3.heap.objs.size) s4 := by
      refine compLoop_anyD (fun n s' => ∃ i H', Inv (X.blk s3 H3 scope ce fp) [] (wipe σ (own.map (·.2))) H' s' ∧ tn i s'.heap ∧ (∀ b ∈ fp, H' b = none) ∧ W i n H') ?_ m0 ⟨0, H3, I4, st4, fun b hb => (f3 b hb).1.1, w0⟩
      rintro n s5 ⟨i, H5, I5, st5, n5, w5⟩
      rcases turn i n H5 w5 with ⟨stop, qq⟩ | ⟨go, Nx, hNx, step⟩
      · refine thnF (T.done (X.blk s3 H3 scope ce fp) rfl rfl rfl hc i [] s5 _ H5 (fun _ _ => False) I5 (stat I5 n5) st5 stop) fun r s6 ⟨hr, I6⟩ => ?_
        subst hr
        have I7 : Inv X pins σ H5 s6 := I3.call' (ch := fp) I6.os I6.base I6.hok I6.bare fun b hb => ⟨(f3 b hb).1.2.2.2.1, (f3 b hb).1.2.1, (f3 b hb).1.2.2.2.2.1, (f3 b hb).1.2.2.2.2.2⟩
        have nC : H5 s3.heap.objs.size = none := cL ▸ (show H5 ce.locals = none from I6.free)
        obtain ⟨m, hn, _⟩ := I6.loc
        have hn' : s6.heap.Ns s3.heap.objs.size m := cL ▸ (show s6.heap.Ns ce.locals m from hn)
        obtain ⟨g0, g1, _, g3, g4, g5⟩ := I3.fpOk (Nat.le_refl _) nC
        exact ⟨m, hn', fun h'' sb => ⟨.ref D, H5, I7.turned (t' := s6.toks) (fun b o hb e => (sb.2 b hb).trans e) g0 g1 g3 g4 g5, rfl, qq⟩⟩
      · refine thnF (T.item (X.blk s3 H3 scope ce fp) rfl rfl rfl hc i [] s5 _ H5 (fun _ _ => False) I5 (stat I5 n5) st5 go) fun r s6 ⟨u, hr, h6⟩ => ?_
        subst hr
        refine thnF h6 fun _ s7 ⟨x, H7, I7, r7, y7, st7, n7⟩ => ?_
        have I7' := I7.pinned (stat I7 n7) (T.obj _ _ st7)
        refine thnF (pg.run _ s7 _ H7 x u _ I7' r7 (step x H7 y7)) fun _ s8 ⟨σ8, H8, I8, hw8, q8⟩ => ?_
        refine thnF (pt.run _ s8 σ8 H8 _ I8 q8) fun b s9 ⟨H9, I9, q9⟩ => ?_
        have fin : ∀ {s' : Shared} {H' : Hp}, Inv (X.blk s3 H3 scope ce fp) ([] ++ pinsAt fp s7.heap) σ8 H' s' → Nx H' → ∃ m, m < n ∧ ∃ i H', Inv (X.blk s3 H3 scope ce fp) [] (wipe σ (own.map (·.2))) H' s' ∧ tn i s'.heap ∧ (∀ b ∈ fp, H' b = none) ∧ W i m H' := fun {s' H'} I' nx => by
          obtain ⟨m', hm, w'⟩ := hNx H' nx
          have pin' : ∀ b ∈ fp, ∃ o, s7.heap.get? b = some o ∧ s'.heap.get? b = some o ∧ H' b = none := fun b hb => by
            obtain ⟨o, e, _⟩ := T.obj _ _ st7 b hb
            obtain ⟨z1, z2, _⟩ := I'.pin (b, o) (List.mem_append_right _ (List.mem_append_right _ (mem_pinsAt hb e)))
            exact ⟨o, e, z1, z2⟩
          refine ⟨m', hm, i + 1, H', (I'.unpinned (pins := [])).weak (by rw [← hw8, wipe_length]) (fun j v e => by rw [← hw8] at e; exact (wipe_some e).1), T.keep _ _ _ st7 fun b hb o e => ?_, fun b hb => by obtain ⟨_, _, _, z⟩ := pin' b hb; exact z, w'⟩
          obtain ⟨o', e1, e2, _⟩ := pin' b hb
          rw [e1] at e; cases e; exact e2
        cases b with
        | false =>
          simp only [Bool.false_eq_true, if_false] at q9 ⊢
          exact fin I9 q9
        | true =>
          simp only [if_true] at q9 ⊢
          refine thnF (pk.run _ s9 σ8 H9 _ I9 q9) fun y s10 ⟨yv, H10, I10, r10, q10⟩ => ?_
          refine thnF (pe.run _ s10 σ8 H10 _ I10 q10) fun z s11 ⟨zv, H11, I11, r11, kvs, k, t, ey, ht11, hD11, hf, nx⟩ => ?_
          subst ey
          obtain rfl : y = Value.ref t := r10
          exact setT_ok (X := X.blk s3 H3 scope ce fp) I11 (Nat.lt_of_le_of_lt (Nat.add_le_add_left (by decide : 1 ≤ 10) _) hu) hD11 ht11 hf r11 fun s12 I12 => fin I12 nx
    exact codeAny_compStart_dict loop (T.self X.A 0 _ _ _ st4 loop)
  subst hce hs4 hs3 hso
  exact goal
end
end Pr
set_option maxHeartbeats 4000000
/-! Zf: {a: True for a in ..}; to_undo; undo_many. -/
namespace Pr
open PySem PySem.Spec PyProof.Rows L2
/-- the keys of a dict of meetings, each with True -/
def dtS (S : List Mt) : List (List Key × PyData) := S.map fun a => (a.k, .bool true)
def addL (S : List Mt) (a : Mt) : List Mt := if a ∈ S then S else S ++ [a]
theorem dtS_any {S : List Mt} {a : Mt} : ((dtS S).any fun kv => decide (kv.1 = a.k)) = decide (a ∈ S) := by
  unfold dtS
  rw [List.any_map]
  induction S with
  | nil => rfl
  | cons b S ih =>
    rw [List.any_cons, ih]
    show (decide (b.k = a.k) || _) = _
    rw [show decide (b.k = a.k) = decide (a = b) from decide_eq_decide.mpr ⟨fun h => (Mt.k_inj h).symm, fun h => by rw [h]⟩]
    simp only [List.mem_cons, Bool.decide_or]
theorem dtS_put {S : List Mt} {a : Mt} : putD (dtS S) a.k (.bool true) = dtS (addL S a) := by
  unfold putD addL
  rw [dtS_any]
  by_cases h : a ∈ S
  · rw [if_pos (decide_eq_true h), if_pos h]
    unfold dtS
    rw [List.map_map]
    apply List.map_congr_left
    intro b _
    show (if b.k = a.k then (b.k, PyData.bool true) else (b.k, .bool true)) = _
    split <;> rfl
  · rw [if_neg (by rw [decide_eq_false h]; decide), if_neg h]
    unfold dtS; rw [List.map_append]; rfl
theorem dtS_puts : ∀ {E S : List Mt}, putsK putD (dtS S) (dtS E) = dtS (E.foldl addL S)
  | [], S => rfl
  | a :: E, S => by
    show putsK putD (putD (dtS S) a.k (.bool true)) (dtS E) = dtS (E.foldl addL (addL S a))
    rw [dtS_put, dtS_puts]
theorem dtS_has {S : List Mt} {a : Mt} : (valD (dtS S) a.k).isSome = decide (a ∈ S) := by
  rw [← dtS_any]
  unfold valD
  rw [Option.isSome_map, Bool.eq_iff_iff, List.find?_isSome, List.any_eq_true]
theorem dtS_keys {S : List Mt} : (dtS S).map (·.1) = S.map Mt.k := by simp [dtS]
theorem addL_len {S : List Mt} {a : Mt} : (addL S a).length ≤ S.length + 1 := by unfold addL; split <;> simp
theorem addsL_len : ∀ {E S : List Mt}, (E.foldl addL S).length ≤ S.length + E.length
  | [], S => Nat.le_refl _
  | a :: E, S => by have h1 := addsL_len (E := E) (S := addL S a); have h2 := addL_len (S := S) (a := a); show (E.foldl addL (addL S a)).length ≤ _; rw [List.length_cons]; omega
section
variable {X : Cx} {δ δw : De} {l : List Mt} {δ' : Mt → De} {is : List Nat}
theorem dcD {J : It} {H1 : Hp} {D : Addr} {σ : L2.St} {vs : List Nat} {Qd : Hp → Prop} (w : DW X.K J (l.map Mt.d) H1) (E : EnvD X.K (wipe σ vs) H1 δw) (hD : H1 D = none) (hn : l.length ≤ 1000) (hi : ∀ i ∈ is, i ∈ vs)
    (q : ∀ kvs H', Same H1 H' → H' D = some (.dT kvs) → KvP X.K H' kvs (dtS (l.foldl addL [])) → Qd H') :
    ∃ W : Nat → Nat → Hp → Prop, (∃ m, W 0 m (upd H1 D (.dT []))) ∧ ∀ i m H, W i m H →
      (J.stop i H ∧ Qd H) ∨ (J.go i H ∧ ∃ Nx : Hp → Prop, (∀ H', Nx H' → ∃ m', m' < m ∧ W (i + 1) m' H') ∧ ∀ x H', J.yld i H x H' → gX X.K l Mt.d δw is δ' x (wipe σ vs) H' fun σ2 H2 => wipe σ2 vs = wipe σ vs ∧ cX X.K l δ' (fun _ => true) σ2 H2 fun b H3 =>
        if b = true then tX X.K l δ' Mt.d σ2 H3 fun y H4 => tX X.K l δ' (fun _ => .bool true) σ2 H4 fun z H5 => ∃ (kvs : List (List Key × V)) (k : List Key) (t : Addr), y = .ref t ∧ H5 t = some (.tup (k.map kV)) ∧ H5 D = some (.dT kvs) ∧ kvs.length < sizeLine ∧ Nx (upd H5 D (.dT (putK kvs k z))) else Nx H3) := by
  refine ⟨fun i m H => m = l.length - i ∧ i ≤ l.length ∧ Same H1 H ∧ ∃ kvs, H D = some (.dT kvs) ∧ KvP X.K H kvs (dtS ((l.take i).foldl addL [])), ⟨_, rfl, Nat.zero_le _, same_new hD, [], upd_same, by rw [List.take_zero]; exact .nil⟩, ?_⟩
  rintro i m H ⟨rfl, hle, s, kvs, hK, hr⟩
  by_cases hlt : i < l.length
  · have hp : l[i]? = some l[i] := List.getElem?_eq_getElem hlt
    have hmem : l[i] ∈ l := List.getElem_mem hlt
    have htk : l.take (i + 1) = l.take i ++ [l[i]] := by rw [List.take_succ, hp]; rfl
    refine .inr ⟨w.goes i H (by rw [List.length_map]; exact hlt) s, fun H' => i + 1 ≤ l.length ∧ Same H1 H' ∧ ∃ kvs, H' D = some (.dT kvs) ∧ KvP X.K H' kvs (dtS ((l.take (i + 1)).foldl addL [])), fun H' h => ⟨l.length - (i + 1), by omega, rfl, h⟩, fun x H' y => ?_⟩
    obtain ⟨s2, hx⟩ := w.yields i H x H' (by rw [List.length_map]; exact hlt) s y
    have hx' := hx (Mt.d l[i]) (by rw [List.getElem?_map, hp]; rfl)
    rw [htk, List.foldl_append]
    generalize l[i] = a at hp hmem hx'
    refine ⟨a, hmem, E.mono (s.trans s2), .p hx', fun σ2 E2 ag => ⟨wipe_agr hi ag, a, hmem, E2, fun H3 s3 => ?_⟩⟩
    dsimp only
    rw [if_pos rfl]
    refine ⟨a, hmem, E2.mono s3, fun y H4 s4 r4 => ⟨a, hmem, E2.mono (s3.trans s4), fun z H5 s5 r5 => ?_⟩⟩
    have s14 : Same H H5 := ((s2.trans s3).trans s4).trans s5
    obtain ⟨t, rfl, htt⟩ := dp_mt r4.toDp
    have hl := kvP_len hr
    have hl2 := addsL_len (E := l.take i) (S := [])
    have hsz : kvs.length ≤ 1000 := by
      rw [hl]; unfold dtS; rw [List.length_map]
      rw [List.length_take] at hl2
      simp at hl2; omega
    refine ⟨kvs, a.k, t, rfl, by rw [show a.k.map kV = a.ns.map V.int from rfl]; exact s5 _ _ htt, s14 _ _ hK, Evl.sz_lt (by omega), hlt, same_mut (s.trans s14) hD, _, upd_same, ?_⟩
    have tl : TL H5 (upd H5 D (.dT (putK kvs a.k z))) := tl_upd (s14 _ _ hK) (fun _ z => nomatch z) (fun _ _ z => nomatch z)
    have ez : z = .bl true := dp_bl r5.toDp
    subst ez
    show KvP X.K _ _ (dtS (addL ((l.take i).foldl addL []) a))
    rw [← dtS_put]
    exact kvP_put (kvP_tl tl (fun kv hkv => by unfold dtS at hkv; obtain ⟨b, _, rfl⟩ := List.mem_map.mp hkv; rfl) (kvP_mono s14 hr)) (.bl true)
  · have e : i = l.length := by omega
    subst e
    refine .inl ⟨by have := w.stops H s; rwa [List.length_map] at this, q kvs H s hK (by rw [List.take_length] at hr; exact hr)⟩
variable {kx vx iter : Expr} {x : Str} {px pos : Pos} {scope : Scope} {own : List (Str × Nat)}
/-- {k: True for x in iter} -/
theorem d_dcT (hu : X.A.units + 10 < cLine) (hc : X.calm = true) (hN : X.N.Nodup) (hi : PI X (.Name x px) iter (iD X.K δ (l.map Mt.d))) (ok : BlkOk X.N X.env.scope scope own) (hδ : δw = wipeD δ (own.map (·.2))) (hn : l.length ≤ 1000) (hio : ∀ i ∈ is, i ∈ own.map (·.2))
    (hg : ∀ a ∈ l, Blk X scope fun X' => PG X' (.Name x px) (gD X'.K δw (.p (Mt.d a)) is (δ' a))) (hk : ∀ a ∈ l, Blk X scope fun X' => PE X' kx (tD X'.K (δ' a) (.p (Mt.d a)))) (he : ∀ a ∈ l, Blk X scope fun X' => PE X' vx (tD X'.K (δ' a) (.b true)))
    (hs : ∀ y, foldedSetIterable iter X.env y = pure y := by intro _; rfl) : PE X (.DictComp kx vx [⟨.Name x px, iter, [], 0⟩] scope pos) (tD X.K δ (.dT (dtS (l.foldl addL [])))) :=
  PE_imp (pe_dcT (tt := cX X.K l δ' fun _ => true) (tk := tX X.K l δ' Mt.d) (tv := tX X.K l δ' fun _ => .bool true) hu hc hN hi ok (fun s H C cl fp => gX_of fun p hp => hg p hp s H C cl fp) (fun s H C cl fp => cX_of fun p hp => c_nil) (fun s H C cl fp => tX_of fun p hp => hk p hp s H C cl fp) (fun s H C cl fp => tX_of fun p hp => he p hp s H C cl fp) hs) fun σ H Q ⟨E, q⟩ => ⟨E, fun J H1 s1 w D hD =>
    dcD w (by rw [hδ]; exact (E.mono s1).wipe _) hD hn hio fun kvs H' s hK hr => q _ H' (s1.trans s) (.dT (.inl hK) hr)⟩
theorem d_isiLT {p q q1 q2 : Pos} {ps : List PyData} {e : Expr} {z : Nat} (hg : Gl X "isinstance") (hm : X.mg "isinstance" = none) (g1 : Gl X "list") (m1 : X.mg "list" = none) (g2 : Gl X "tuple") (m2 : X.mg "tuple" = none) (ha : PE X e (tD X.K δ (.l ps)))
    (b1 : bootBuiltins "list" = some (.type "list") := by decide +kernel) (b2 : bootBuiltins "tuple" = some (.type "tuple") := by decide +kernel) (hv : bootBuiltins "isinstance" = some (.builtin "isinstance") := by decide +kernel)
    (hs : starEach [e, .Tuple [.Name "list" q1, .Name "tuple" q2] z q] X.env = (false, eval e X.env) :: starEach [.Tuple [.Name "list" q1, .Name "tuple" q2] z q] X.env := by rfl) : PE X (.Call (.Name "isinstance" p) [e, .Tuple [.Name "list" q1, .Name "tuple" q2] z q] [] pos) (tD X.K δ (.b true)) := by
  refine PE_imp (pe_callB call_isiT hg hm hv (pa_cons ha (pa_cons (pe_tup (pa_cons (pe_bltn (v := .ty "list") g1 m1 b1 rfl) (pa_cons (pe_bltn (v := .ty "tuple") g2 m2 b2 rfl) pa_nil))) pa_nil) hs) (by decide) (by decide) hs) fun σ H Q ⟨E, w⟩ => ⟨E, fun v H1 s1 r1 => ⟨by decide, fun tp hp => ?_⟩⟩
  have s2 : Same H1 (upd H1 tp (.tup [.ty "list", .ty "tuple"])) := same_new hp
  exact ⟨v, tp, [.ty "list", .ty "tuple"], _, [.type "list", .type "tuple"], true, rfl, upd_same, .cons (.ty _) (.cons (.ty _) .nil), tyX_of (dp_mono s2 r1.toDp), kitAny_cons (b := true) (kit_ty (a := "list") (b := "list") (by decide +kernel)) (fun z => nomatch z) (fun _ => rfl), w _ _ (s1.trans s2) (.p (.bl _))⟩
end
theorem dd_len : ∀ l : List Mt, (dd l).length ≤ l.length
  | [] => Nat.le_refl _
  | a :: l => by unfold dd; have := dd_len l; split <;> simp <;> omega
variable {P : Program} {w : World} {K : PySem.W.Frag} {mg : Str → Option Value} {base : Heap}
def stepU (n m R : Nat) (S : List Mt) (a : Mt) : List Mt := if a ∈ S then ((bh n m R a).foldl addL []).foldl addL S else S
def undoS (n m R : Nat) (a : Mt) (l : List Mt) : List Mt := l.foldl (stepU n m R) [a]
def rdToUndo : RD := fun ds d => ∃ (n m R : Nat) (p : Pt) (a : Mt), n ≤ 60 ∧ m ≤ 60 ∧ n * m ≤ 60 ∧ R ≤ 16 ∧ (a.r < R ∧ a.i < n ∧ a.j < m) ∧ (∀ l l', allM n m R = l ++ l' → (undoS n m R a l).length < 64 ∧ ∀ b ∈ undoS n m R a l, b.sm) ∧ ds = [dnD n m R p, .l [a.d]] ∧ d = .l ((sortM (undoS n m R a (allM n m R))).map Mt.d)
theorem f7_to_undo (T : Tx K mg) : FnR P w K mg base CX0 7 (ga K "to_undo") (spD K rdToUndo) :=
  fnX_D <| fnR_X T.f_to_undo sc_to_undo bn_to_undo (fun m ds T ⟨_, ⟨_, _, _, _, _, _, _, _, _, _, _, h, _⟩, _⟩ => by rw [h]; rfl) fun cdv A outer s H E hr m ds R ⟨d, ⟨n, k, rd, p, a, hn, hk, hnk, hR, ha, hS, h, h2⟩, h3, h4⟩ => by
    subst h h2 h3 h4
    have hu := room_u hr
    have hu1 : (A.deeper (envOfC "to_undo" (defScope st_to_undo) s.heap.objs.size (ga K "to_undo") cdv)).units + 1 < cLine := by omega
    have hu10 : (A.deeper (envOfC "to_undo" (defScope st_to_undo) s.heap.objs.size (ga K "to_undo") cdv)).units + 10 < cLine := by omega
    have nd := sc_to_undo.nd
    have hlen : (allM n k rd).length ≤ 960 := by rw [allM_len]; exact Nat.mul_le_mul (show rd ≤ 16 by omega) hnk
    refine ss_ifP (k := false) (c_eqv (c_not (c_val (d_isiLT rfl T.b_isinstance rfl T.b_list rfl T.b_tuple (d_var 1 rfl)))) rfl) (fun z => nomatch z) fun _ => ?_
    refine ss_set 2 nd rfl (.inl rfl) x_dnewT fun d m1 ⟨f, h1, h2⟩ => ?_
    subst h1 h2
    let D0 : Addr → De := fun f => [some (dnD n k rd p), some (.l [a.d]), some (.r f), none, none]
    refine s_seq (s_for (l := [a]) (ι := Mt.d) (is := [3]) (fun i δ' m' => δ' = D0 f ∧ m' = [(f, .dT (dtS (if i = 0 then [] else [a])))]) PassesOwn.never rfl (i_list (d_var 1 rfl)) (fun p _ => rfl) ⟨rfl, rfl⟩ fun i q δ1 m1 hq h => ?_) fun δ1 m1 h => ?_
    · obtain ⟨h1, h2⟩ := h
      subst h1 h2
      have hi0 : i = 0 ∧ q = a := by
        match i with
        | 0 => exact ⟨rfl, (Option.some.inj hq).symm⟩
        | i + 1 => simp at hq
      obtain ⟨h1, h2⟩ := hi0
      subst h1 h2
      refine ⟨_, g_name 3 nd rfl (.inl rfl), ?_⟩
      refine ss_expr (x_pure (d_meth T.c_Dance T.m_Dance_need_meeting ((f4_need_meeting T).mono (by decide)) hr ⟨n, k, rd, p, q, ha.1, ha.2.1, ha.2.2, rfl, rfl⟩ (d_var 0 rfl) (a_cons (d_var 3 rfl) a_nil))) fun d m1 ⟨_, h⟩ => ?_
      subst h
      refine s_one (s_shift (s_putT (N := fun δ' m' => δ' = [some (dnD n k rd p), some (.l [q.d]), some (.r f), some (.p q.d), none] ∧ m' = [(f, .dT (dtS [q]))]) (i := 0) (l := [(q.r : Int), q.i, q.j]) (q := .bool true) hu1 (x_pure d_bl) (x_var 2 rfl) (x_var 3 rfl) (by simp) rfl (by simp [dtS]) ⟨rfl, rfl⟩) fun δ' m' h => ?_)
      obtain ⟨h1, h2⟩ := h
      subst h1 h2
      exact ⟨_, _, [], ap0, ⟨rfl, rfl⟩, fun _ _ E => E.forget 3⟩
    obtain ⟨h1, h2⟩ := h
    subst h1 h2
    refine s_seq (s_for (l := allM n k rd) (ι := Mt.d) (is := [3]) (fun i δ' m' => δ' = D0 f ∧ m' = [(f, .dT (dtS (undoS n k rd a ((allM n k rd).take i))))]) PassesOwn.never rfl (i_list (d_new (d_methN0 T.c_Dance T.m_Dance_meetings ((f1_meetings T).mono (by decide)) hr ⟨n, k, rd, p, hn, hk, hnk, by omega, rfl, rfl⟩ (d_var 0 rfl)))) (fun p _ => rfl) ⟨rfl, by rw [List.take_zero]; rfl⟩ fun i q δ1 m1 hq h => ?_) fun δ1 m1 h => ?_
    · obtain ⟨h1, h2⟩ := h
      subst h1 h2
      have hm : q ∈ allM n k rd := List.mem_of_getElem? hq
      obtain ⟨q1, q2, q3⟩ := mem_allM.mp hm
      have es : undoS n k rd a ((allM n k rd).take (i + 1)) = stepU n k rd (undoS n k rd a ((allM n k rd).take i)) q := by
        rw [List.take_succ, hq]
        unfold undoS
        rw [List.foldl_append]; rfl
      obtain ⟨hSl, hSs⟩ := hS ((allM n k rd).take i) ((allM n k rd).drop i) (List.take_append_drop _ _).symm
      rw [es]
      generalize undoS n k rd a ((allM n k rd).take i) = S at hSl hSs ⊢
      refine ⟨_, g_name 3 nd rfl (.inl rfl), ?_⟩
      refine s_one (s_shift (s_if (N := fun δ' m' => δ' = [some (dnD n k rd p), some (.l [a.d]), some (.r f), some (.p q.d), none] ∧ m' = [(f, .dT (dtS (stepU n k rd S q)))]) (x_lookC (Rsv.one 2 rfl (.dT 0 rfl) .refl) (c_tin (k := q.k) hu1 rfl (d_var 3 rfl) (d_var 2 rfl))) (fun m1 ⟨h, h1⟩ => ?_) (fun m1 ⟨h, h1⟩ => ?_)) fun δ' m' h => ?_)
      · subst h1
        rw [dtS_has] at h
        have hqS : q ∈ S := of_decide_eq_true h.symm
        have hbl : (bh n k rd q).length ≤ 2 := by
          unfold bh
          rw [(sortM_perm _).length_eq]
          refine Nat.le_trans (dd_len _) ?_
          exact Nat.le_trans (List.length_filter_le _ _) (by simp)
        have hel := addsL_len (E := bh n k rd q) (S := [])
        refine s_one (s_expr (x_imp (x_upd (i := 0) (more := dtS ((bh n k rd q).foldl addL [])) hu1 (x_var 2 rfl) rfl (x_pure (d_dcT (l := bh n k rd q) (own := [("later", 4)]) (is := [4]) hu10 rfl nd (i_list (d_new (d_methN T.c_Dance T.m_Dance_behind ((f5_behind T).mono (by decide)) hr ⟨n, k, rd, p, q, ⟨q1, q2, q3⟩, hn, hk, by omega, rfl, rfl⟩ (d_var 0 rfl) (a_cons (d_var 3 rfl) a_nil))))
          (blkOk_by (by kernel_rfl)) rfl (by omega) (by decide) (fun a ha s H C cl fp => g_name 4 nd rfl (.inl rfl)) (fun a ha s H C cl fp => d_var 4 rfl) (fun a ha s H C cl fp => d_bl))) (fun z => by unfold dtS at z; rw [List.map_eq_nil_iff] at z; rw [z] at hqS; cases hqS) (by unfold dtS; rw [List.length_map, List.length_map]; simp at hel; omega)) fun d m' ⟨_, h⟩ => ⟨rfl, ?_⟩))
        rw [h, dtS_puts]
        show [(f, Dt.dT (dtS _))] = _
        unfold stepU
        rw [if_pos hqS]
      · subst h1
        rw [dtS_has] at h
        have hqS : q ∉ S := of_decide_eq_false h.symm
        exact s_nil ⟨rfl, by unfold stepU; rw [if_neg hqS]⟩
      · obtain ⟨h1, h2⟩ := h
        subst h1 h2
        exact ⟨_, _, [], ap0, ⟨rfl, rfl⟩, fun _ _ E => E.forget 3⟩
    obtain ⟨h1, h2⟩ := h
    subst h1 h2
    rw [List.take_length]
    obtain ⟨hSl, hSs⟩ := hS (allM n k rd) [] (List.append_nil _).symm
    exact ss_finT (i := 2) rfl (ss_ret (x_pure (d_new (d_sortD (l := undoS n k rd a (allM n k rd)) rfl dtS_keys hSl hSs rfl T.b_sorted (d_var 2 rfl)))))
end Pr
set_option maxHeartbeats 4000000
/-! Zg: undo_many; Evening.finish. -/
namespace Pr
open PySem PySem.Spec PyProof.Rows L2
section
variable {X : Cx} {δ : De} {m : Ms} {R : Rs} {e : Expr} {i : Nat} {x y : Int} {xn : Str} {p' pos : Pos}
theorem s_augN (hN : X.N.Nodup) (hi : X.N[i]? = some xn) (hx : Loc X.env.scope xn) (hd : δ[i]? = some (some (.i x))) (he : PE X e (xE X.K δ m fun d' m' => d' = .i y ∧ m' = m)) (hf : X.fn xn = true ∨ X.env.scope.names.lookup xn = some .local := by first | exact .inl rfl | exact .inr rfl | assumption) : PS X (.AugAssign (.Name xn p') .Add e pos) (xS X.K δ m (fun δ' m' => δ' = δ.set i (some (.i (x + y))) ∧ m' = m) R) :=
  PS_imp (ps_aug hN hi hx he ip_add hf) fun D σ H ⟨M, E, z, _⟩ => by
    obtain ⟨v, a, r⟩ := E.at_ i _ hd
    have ev := r.i_inv
    subst ev
    refine ⟨.int x, a, M, E, fun w d m1 H1 ⟨e1, e2⟩ M1 c1 r1 => ?_⟩
    subst e1 e2
    have e3 := r1.i_inv
    subst e3
    exact ⟨x, y, rfl, rfl, z _ _ _ H1 ⟨rfl, rfl⟩ M1 c1 ((E.mono c1).set i (.p (.int _)))⟩
end
variable {P : Program} {w : World} {K : PySem.W.Frag} {mg : Str → Option Value} {base : Heap}
def undoN (n m R : Nat) (a : Mt) : Int := (((n : Int) - a.i) * ((m : Int) - a.j) + if a.r + 1 < R then (n : Int) * m - (a.i : Int) * a.j else 0) + max 0 ((R : Int) - a.r - 2) * n * m
def rdUndoMany : RD := fun ds d => ∃ (n m R : Nat) (a : Mt), n ≤ 60 ∧ m ≤ 60 ∧ R ≤ 60 ∧ (a.r < R ∧ a.i < n ∧ a.j < m) ∧ ds = [.i n, .i m, .i R, .p a.d] ∧ d = .i (undoN n m R a)
theorem cmul_le {x y : Int} (h1 : -100000 ≤ x) (h2 : x ≤ 100000) : CMul x y := .inl ⟨by omega, by omega⟩
theorem f3_undo_many (T : Tx K mg) : FnR P w K mg base CX0 3 (ga K "undo_many") (spD K rdUndoMany) :=
  fnX_D <| fnR_X T.f_undo_many sc_undo_many bn_undo_many (fun m ds T ⟨_, ⟨_, _, _, _, _, _, _, _, h, _⟩, _⟩ => by rw [h]; rfl) fun cdv A outer s H E hr m ds R ⟨d, ⟨n, k, rd, a, hn, hk, hR, ha, h, h2⟩, h3, h4⟩ => by
    subst h h2 h3 h4
    have hu := room_u hr
    have nd := sc_undo_many.nd
    refine ss_ifP (k := false) (c_eqv (PW.pt (w_or (c_not (c_val (d_isi (k := true) rfl T.b_isinstance rfl T.b_tuple boot_tuple kt_tt (d_var 3 rfl)))) fun _ => w_or (c_ne hu sh_int sh_int (d_lenT rfl T.b_len (a_cons (d_var 3 rfl) a_nil)) d_int) fun _ => w_or1 (c_not (c_val (d_all (bs := [true, true, true]) rfl rfl T.b_all (d_new
      (d_lc0 (l := [a.r, a.i, a.j]) (ι := fun n => .int n) (f := fun _ => .bool true) (own := [("part", 4)]) rfl nd (i_tup (d_var 3 rfl)) (blkOk_by (by kernel_rfl)) rfl (by simp) (by decide) (fun _ _ => rfl)
        (fun p hp s H C cl fp => g_name 4 nd rfl (.inl rfl)) (fun p hp s H C cl fp => d_call (f2_is_count T) hr rfl T.g_is_count T.f_is_count.kp ⟨p, by omega, rfl, rfl⟩ (a_cons (d_var 4 rfl) a_nil))))))))) rfl) (fun z => nomatch z) fun _ => ?_
    refine s_seq (x_pureS (n_asg (d_var 3 rfl) (g_tup (ps := [.int a.r, .int a.i, .int a.j]) rfl (gs_cons (g_name 5 nd rfl (.inl rfl)) (gs_cons (g_name 6 nd rfl (.inl rfl)) (gs_cons (g_name 7 nd rfl (.inl rfl)) gs_nil))) rfl))) fun δ1 m1 ⟨h1, h2⟩ => ?_
    subst h1 h2
    refine ss_ifP (k := false) (c_eqv (PW.pt (w_or (c_ge (d_var 5 rfl) (d_var 2 rfl)) fun _ => w_or (c_ge (d_var 6 rfl) (d_var 0 rfl)) fun _ => w_or1 (c_ge (d_var 7 rfl) (d_var 1 rfl)))) (by
      rw [decide_eq_false (show ¬ (rd : Int) ≤ a.r by omega), decide_eq_false (show ¬ (n : Int) ≤ a.i by omega), decide_eq_false (show ¬ (k : Int) ≤ a.j by omega)]; rfl)) (fun z => nomatch z) fun _ => ?_
    refine ss_set 8 nd rfl (.inl rfl) (x_pure (d_mul (cmul_le (by omega) (by omega)) (d_sub (d_var 0 rfl) (d_var 6 rfl)) (d_sub (d_var 1 rfl) (d_var 7 rfl)))) fun d m1 ⟨h1, h2⟩ => ?_
    subst h1 h2
    refine s_seq (N1 := fun δ' m' => δ' = [some (.i n), some (.i k), some (.i rd), some (.p a.d), none, some (.i a.r), some (.i a.i), some (.i a.j), some (.i (((n : Int) - a.i) * ((k : Int) - a.j) + if a.r + 1 < rd then (n : Int) * k - (a.i : Int) * a.j else 0))] ∧ m' = []) (s_if (x_pureC (c_lt (d_add (d_var 5 rfl) d_int) (d_var 2 rfl))) (fun m1 ⟨h, h1⟩ => ?_) (fun m1 ⟨h, h1⟩ => ?_)) fun δ1 m1 ⟨h1, h2⟩ => ?_
    · subst h1
      have hlt : a.r + 1 < rd := by have := of_decide_eq_true h.symm; omega
      refine s_one (s_shift (s_augN (i := 8) (x := ((n : Int) - a.i) * ((k : Int) - a.j)) nd rfl (.inl rfl) rfl (x_pure (d_sub (d_mul (cmul_le (by omega) (by omega)) (d_var 0 rfl) (d_var 1 rfl)) (d_mul (cmul_le (by omega) (by omega)) (d_var 6 rfl) (d_var 7 rfl))))) fun δ' m' ⟨h1, h2⟩ => ?_)
      subst h1 h2
      exact ⟨_, _, [], ap0, ⟨by rw [if_pos hlt]; rfl, rfl⟩, fun _ _ h => h⟩
    · subst h1
      have hlt : ¬ a.r + 1 < rd := by have := of_decide_eq_false h.symm; omega
      exact s_nil ⟨by rw [if_neg hlt, Int.add_zero]; rfl, rfl⟩
    subst h1 h2
    exact ss_ret (x_imp (x_pure (d_add (d_var 8 rfl) (d_mul (cmul_le (by
      have h1 : (0 : Int) ≤ max 0 ((rd : Int) - a.r - 2) := by omega
      have h2 := Int.mul_nonneg h1 (show (0 : Int) ≤ n by omega)
      omega) (by
      have h1 : max 0 ((rd : Int) - a.r - 2) ≤ 60 := by omega
      have h0 : (0 : Int) ≤ max 0 ((rd : Int) - a.r - 2) := by omega
      have h2 : max 0 ((rd : Int) - a.r - 2) * n ≤ 60 * 60 := Int.mul_le_mul h1 (by omega) (by omega) (by decide)
      omega)) (d_mul (cmul_le (by omega) (by omega)) (d_max2 rfl rfl T.b_max boot_max (a_cons d_int (a_cons (d_sub (d_sub (d_var 2 rfl) (d_var 5 rfl)) d_int) a_nil))) (d_var 0 rfl)) (d_var 1 rfl)))) fun d m' h => h)
/-! ### finish -/
theorem dictAt_fl2 {δ : De} {i : Nat} {p0 : Pt} {s : Fl} {lg und : List Deed} (S1 : SlF K "Evening" "its_floor" 1) (S2 : SlF K "Floor" "truths" 5) (hd : δ[i]? = some (some (evD p0 s lg und))) : dictAt K δ s.keys (SlX.tSl K (SlX.tSl K (tVar i) "its_floor") "truths") := fun σ H E => by
  obtain ⟨v, a, r⟩ := E.at_ i _ hd
  obtain ⟨e, dx, vs, rfl, sl, rr⟩ := r.ob_inv
  obtain ⟨v1, e1, r1⟩ := rr.get (i := 1) (d := flD s) rfl
  obtain ⟨f, dy, ws, rfl, sl2, rr2⟩ := r1.ob_inv
  obtain ⟨v2, e2, r2⟩ := rr2.get (i := 5) (d := .dT (dtM s.laid)) rfl
  obtain ⟨d, kvs, rfl, h1, h2⟩ := r2.dT_inv
  obtain ⟨p1, q1⟩ := S1.sl
  obtain ⟨p2, q2⟩ := S2.sl
  refine ⟨d, kvs, h1, (kvP_keys h2).trans dtM_keys, fun H' W Q q => ?_⟩
  exact ⟨_, a, _, _, dx, p1, _, _, _, rfl, W.slt _ _ _ _ sl, S1.cl, q1, map_some_get e1, _, _, dy, p2, _, _, _, rfl, W.slt _ _ _ _ sl2, S2.cl, q2, map_some_get e2, q⟩
section
variable {X : Cx} {δ δw δ' : De} {m : Ms} {R : Rs} {st : Stmt} {i : Nat} {q : PyData} {ifs : List Expr} {elt tg iter : Expr} {is : List Nat} {pos : Pos}
/-- y = a new list -/
def nS (K : PySem.W.Frag) (δ : De) (i : Nat) (ps : List PyData) : TS := fun D σ H => EnvD K σ H δ ∧ ∀ p vs H', H p = none → Same H H' → H' p = some (.lst vs) → DpAll K H' vs ps → D.nx (σ.set i (some (.ref p))) H'
/-- y = [.. for .. in d if ..], d a dict whose keys are meetings -/
theorem a_setLcK {l : List Mt} {scope : Scope} {own : List (Str × Nat)} {δ2 : Mt → De} {kk : Mt → Bool} {f : Mt → PyData} {y : Str} {py spos : Pos} {td : TE} (hc : X.calm = true) (hN : X.N.Nodup) (hy : X.N[i]? = some y) (hyl : X.env.scope.names.lookup y = some .local)
    (hsw : swapsWith (.ListComp elt [⟨tg, iter, ifs, 0⟩] scope pos) (some (.Name y py)) spos.line X.env = pure true) (hi : PE X iter td) (hd : dictAt X.K δ l td) (ok : BlkOk X.N X.env.scope scope own) (hδ : δw = wipeD δ (own.map (·.2))) (hn : l.length ≤ 1000) (hio : ∀ i ∈ is, i ∈ own.map (·.2)) (hf : ∀ p ∈ l, kk p = true → noL (f p) = true)
    (hg : ∀ p ∈ l, Blk X scope fun X' => PG X' tg (gD X'.K δw (.p (Mt.d p)) is (δ2 p))) (ht : ∀ p ∈ l, Blk X scope fun X' => PTs X' ifs (cD X'.K (δ2 p) (kk p))) (he : ∀ p ∈ l, kk p = true → Blk X scope fun X' => PE X' elt (tD X'.K (δ2 p) (.p (f p))))
    (hs : ∀ x, foldedSetIterable iter X.env x = pure x := by intro _; rfl) : PS X (.Assign [.Name y py] (.ListComp elt [⟨tg, iter, ifs, 0⟩] scope pos) spos) (nS X.K δ i ((l.filter kk).map f)) := by
  have h := ps_setLc (te := tX X.K (l.filter kk) δ2 f) (g := gX X.K l Mt.d δw is δ2) (tt := cX X.K l δ2 kk) hc hN hy hyl hsw (pi_keys (tg := tg) hi) ok (fun s H C cl fp => gX_of fun p hp => hg p hp s H C cl fp) (fun s H C cl fp => cX_of fun p hp => ht p hp s H C cl fp) (fun s H C cl fp => tX_of (l := l.filter kk) fun p hp => he p (List.mem_filter.mp hp).1 (List.mem_filter.mp hp).2 s H C cl fp) hs
  refine PS_imp (PS_or (ps_lock h) h) fun D σ H ⟨E, q⟩ => lcK_N hd hn hδ hio hf σ H (fun v H' => D.nx (σ.set i (some v)) H') ⟨E, fun p vs H' hp s hl hd => q p vs H' hp s hl hd⟩
/-- what looks at the memory as at data, and names a new list -/
theorem xs_lookN {ps : List PyData} (hr : Rsv X.K m δ δ') (hn : noLs ps = true) (h : PS X st (nS X.K δ' i ps)) : PS X st (xS X.K δ m (fun d' m' => d' = δ.set i (some (.l ps)) ∧ m' = m) R) :=
  PS_imp h fun D σ H ⟨M, E, z, _⟩ => ⟨hr σ H M E, fun p vs H' hp s hl r => by
    have M' := M.same s
    have np : p ∉ dm m := fun z => by obtain ⟨o, e⟩ := M.has z; rw [hp] at e; cases e
    exact z _ _ m H' ⟨rfl, rfl⟩ M' (.of s) ((E.mono (same_mn s)).set i (.p (.lst (SqL.of (by rw [mn_out np]; exact hl)) (dpAll_tl (tl_mn M'.fo.all) hn r))))⟩
end
structure okDo (V : Ev) (t : Deed) : Prop where
  e : t.okE V.s.n V.s.m
  lg : V.log.length < 200
  z : V.s.szd
  d : t.okD V.s
  f : t.okF V.s
  can : V.s.can t = true
def Ev.dn (V : Ev) (t : Deed) : Ev := ⟨V.p0, V.s.doD t, V.log ++ [t], []⟩
def okDos : Ev → List Deed → Prop
  | _, [] => True
  | V, t :: l => okDo V t ∧ okDos (V.dn t) l
def Ev.dos (V : Ev) (l : List Deed) : Ev := l.foldl Ev.dn V
theorem okDos_at : ∀ {V : Ev} {l : List Deed} {i : Nat} {t : Deed}, okDos V l → l[i]? = some t → okDo (V.dos (l.take i)) t
  | V, x :: l, 0, t, h, e => by simp at e; subst e; exact h.1
  | V, x :: l, i + 1, t, h, e => okDos_at (i := i) (t := t) h.2 (by simpa using e)
theorem dos_succ {V : Ev} {l : List Deed} {i : Nat} {t : Deed} (e : l[i]? = some t) : V.dos (l.take (i + 1)) = (V.dos (l.take i)).dn t := by
  unfold Ev.dos
  rw [List.take_succ, e, Option.toList_some, List.foldl_append]; rfl
def lvN (n m : Nat) (l : List Mt) : List (Int × Mt) := l.map fun a => ((lvl n m a : Nat), a)
def finL (s : Fl) (R : Nat) : List (Int × Mt) := sortN (lvN s.n s.m (s.lack R))
def rxFinish : Ms → List Dt → Rs → Prop := fun m ds T => ∃ (e : Addr) (A : Ad) (V : Ev) (R : Nat), V.s.small ∧ R ≤ 10 ∧ V.s.laid = [] ∧ V.log = [] ∧ R * (V.s.n * V.s.m) ≤ 100 ∧ okDos V ((finL V.s R).map fun q => .lay q.2) ∧ m = evM e A V ∧ ds = [.r e, .i R] ∧ T = fun d m' => m' = evM e A (V.dos ((finL V.s R).map fun q => .lay q.2))
theorem f10_finish (T : Tx K mg) : FnR P w K mg base CX0 10 (ma K "Evening" "finish") (spX K rxFinish) :=
  fnR_X T.f_Evening_finish sc_Evening_finish bn_Evening_finish (fun m ds T ⟨_, _, _, _, _, _, _, _, _, _, _, h, _⟩ => by rw [h]; rfl) fun cdv A outer s H E hr m ds R ⟨e, Ad, V, rd, hsm, hR, hl0, hg0, hnm, hok, h, h2, h3⟩ => by
    subst h h2 h3
    have hu := room_u hr
    have nd := sc_Evening_finish.nd
    obtain ⟨tk, htk⟩ := T.t_MOST
    have hk0 : V.s.keys = [] := by unfold Fl.keys; rw [hl0]; rfl
    obtain ⟨hn, hm, hnm2, h64, hsk⟩ := id hsm
    refine s_seq (xs_lookN (ps := []) (i := 2) (Rsv.one 0 rfl (rs_ev 0 rfl rfl rfl rfl rfl rfl rfl) .refl) rfl (PS_imp (a_setLcK (l := V.s.keys) (f := Mt.d) (kk := fun a => decide ((a.r : Int) < rd)) (own := [("meeting", 3)]) (is := [3]) rfl nd rfl rfl (sw_true rfl rfl rfl rfl) (SlX.pe_sl (SlX.pe_sl (pe_var (i := 0) rfl (.inl rfl) (by decide) (by decide)))) (dictAt_fl2 T.s_Evening_its_floor T.s_Floor_truths rfl) (blkOk_by (by kernel_rfl)) rfl (by rw [hk0]; simp) (by decide) (fun _ _ _ => rfl)
      (fun a ha s H C cl fp => g_name 3 nd rfl (.inl rfl)) (fun a ha s H C cl fp => c_one (c_lt (d_ixT (p := .int a.r) rfl (d_var 3 rfl) d_int) (d_var 1 rfl))) (fun a ha _ s H C cl fp => d_var 3 rfl)) fun D σ H h => by rw [hk0]; exact h)) fun δ1 m1 ⟨h1, h2⟩ => ?_
    subst h1 h2
    refine ss_ifK (k := false) (x_lookC (Rsv.one 0 rfl (rs_ev 0 rfl rfl rfl rfl rfl rfl rfl) .refl) (c_eqv (c_gt (d_sub (d_add (d_lenL rfl T.b_len (a_cons (d_fld T.s_Evening_its_log rfl (d_var 0 rfl)) a_nil)) (d_mul (cmul_le (by
        have := Int.mul_nonneg (show (0 : Int) ≤ rd by omega) (show (0 : Int) ≤ V.s.n by omega); omega) (by
        have h2 : (rd : Int) * V.s.n ≤ 10 * 60 := Int.mul_le_mul (by omega) (by omega) (by omega) (by decide); omega)) (d_mul (cmul_le (by omega) (by omega)) (d_var 1 rfl) (d_fld T.s_Evening_its_suns rfl (d_var 0 rfl))) (d_fld T.s_Evening_its_moons rfl (d_var 0 rfl)))) (d_lenL rfl T.b_len (a_cons (d_var 2 rfl) a_nil)))
      (d_glob (v := .int 200) rfl htk ⟨tk, rfl⟩ (fun H => .p (.int 200)))) (by
        rw [List.length_map, hg0]
        refine decide_eq_false ?_
        have : (rd : Int) * V.s.n * V.s.m ≤ 100 := by rw [Int.mul_assoc]; exact_mod_cast hnm
        simp only [List.length_nil]
        omega))) (fun z => nomatch z) fun _ => ?_
    refine ss_set 4 nd rfl (.inr rfl) (x_look (q := .int (max V.s.n V.s.m : Nat)) (Rsv.one 0 rfl (rs_ev 0 rfl rfl rfl rfl rfl rfl rfl) .refl) rfl (d_eqv (d_max2 rfl rfl T.b_max boot_max (a_cons (d_fld T.s_Evening_its_suns rfl (d_var 0 rfl)) (a_cons (d_fld T.s_Evening_its_moons rfl (d_var 0 rfl)) a_nil))) (by congr 2; omega))) fun d m1 ⟨h1, h2⟩ => ?_
    subst h1 h2
    have hll : (V.s.lack rd).length ≤ 600 := by
      have h1 : (V.s.lack rd).length ≤ (allM V.s.n V.s.m rd).length := List.length_filter_le _ _
      rw [allM_len] at h1
      omega
    have hlin : ∀ a ∈ V.s.lack rd, a.r < rd ∧ a.i < V.s.n ∧ a.j < V.s.m := fun a ha => mem_allM.mp (List.mem_filter.mp ha).1
    refine ss_set 5 nd rfl (.inl rfl) (x_lookN (Rsv.one 0 rfl (rs_ev 0 rfl rfl rfl rfl rfl rfl rfl) .refl) (ps := (finL V.s rd).map nst) (noLs_mem fun a ha => by obtain ⟨q, _, rfl⟩ := List.mem_map.mp ha; rfl)
      (d_sortN hu (fun q hq => by unfold lvN at hq; obtain ⟨a, ha, rfl⟩ := List.mem_map.mp hq; obtain ⟨q1, q2, q3⟩ := hlin a ha; exact ⟨by show a.r < 64; omega, by show a.i < 64; omega, by show a.j < 64; omega⟩) rfl T.b_sorted (d_new (n_eqv (d_lc0 (l := V.s.lack rd) (ι := Mt.d) (f := fun a => nst ((lvl V.s.n V.s.m a : Nat), a)) (own := [("r", 6), ("i", 7), ("j", 8)]) (is := [6, 7, 8]) rfl nd
        (i_list (d_new (d_methN T.c_Evening T.m_Evening_lacking ((f1_lacking T).mono (by decide)) hr ⟨V.p0, V.s, V.log, V.und, rd, hsm, hR, rfl, rfl⟩ (d_var 0 rfl) (a_cons (d_var 1 rfl) a_nil)))) (blkOk_by (by kernel_rfl)) rfl (by omega) (by decide) (fun _ _ => rfl)
        (fun a ha s H C cl fp => g_tup (ps := [.int a.r, .int a.i, .int a.j]) rfl (gs_cons (g_name 6 nd rfl (.inl rfl)) (gs_cons (g_name 7 nd rfl (.inl rfl)) (gs_cons (g_name 8 nd rfl (.inl rfl)) gs_nil))) rfl)
        (fun a ha s H C cl fp => d_eqv (d_tup2 (a_cons (d_add (d_add (d_mul (cmul_le (by omega) (by have := (hlin a ha).1; omega)) (d_var 6 rfl) (d_var 4 rfl)) (d_var 7 rfl)) (d_var 8 rfl)) (a_cons (d_tup3 (a_cons (d_var 6 rfl) (a_cons (d_var 7 rfl) (a_cons (d_var 8 rfl) a_nil)))) a_nil))) (by simp [nst, lvl]))) (by unfold lvN; rw [List.map_map]; rfl))))) fun d m1 ⟨h1, h2⟩ => ?_
    subst h1 h2
    let D0 : De := [some (.r e), some (.i rd), some (.l []), none, some (.i (max V.s.n V.s.m : Nat)), some (.l ((finL V.s rd).map nst)), none, none, none, none]
    have hfl : (finL V.s rd).length ≤ 600 := by unfold finL; rw [(sortN_perm _).length_eq]; unfold lvN; rw [List.length_map]; exact hll
    refine s_seq (s_for (l := finL V.s rd) (ι := nst) (is := [9, 3]) (fun i δ' m' => δ' = D0 ∧ m' = evM e Ad (V.dos (((finL V.s rd).map fun q => Deed.lay q.2).take i))) PassesOwn.never rfl (i_list (d_var 5 rfl)) (fun p _ => rfl) ⟨rfl, rfl⟩ fun i q δ1 m1 hq h => ?_) fun δ1 m1 h => ?_
    · obtain ⟨h1, h2⟩ := h
      subst h1 h2
      have hd : ((finL V.s rd).map fun q => Deed.lay q.2)[i]? = some (.lay q.2) := by rw [List.getElem?_map, hq]; rfl
      have ho := okDos_at hok hd
      rw [dos_succ hd]
      generalize V.dos (((finL V.s rd).map fun q => Deed.lay q.2).take i) = V' at ho ⊢
      refine ⟨_, g_tup (ps := [.int q.1, q.2.d]) rfl (gs_cons (g_name 9 nd rfl (.inl rfl)) (gs_cons (g_name 3 nd rfl (.inl rfl)) gs_nil)) rfl, ?_⟩
      refine ss_expr (T := fun d m' => m' = evM e Ad (V'.dn (.lay q.2))) (x_meth T.c_Evening T.m_Evening_do (f9_Evening_do T) hr (x_var 0 rfl) (i := 0) rfl (x_pureA (a_cons (d_tup2 (a_cons d_str (a_cons (d_var 3 rfl) a_nil))) a_nil)) fun ds m1 ⟨h1, h2⟩ => ?_) fun d m1 h => ?_
      · subst h1 h2
        exact Rf.self ⟨e, Ad, V', .lay q.2, ho.e, ho.lg, ho.z, ho.d, ho.f, ho.can, rfl, rfl, rfl⟩ fun d m' ⟨_, h⟩ => h
      · subst h
        exact ss_weak (δ' := D0) (s_nil ⟨rfl, rfl⟩) fun _ _ E => (E.forget 9).forget 3
    · obtain ⟨h1, h2⟩ := h
      subst h1 h2
      have ht : ((finL V.s rd).map fun q => Deed.lay q.2).take (finL V.s rd).length = (finL V.s rd).map fun q => Deed.lay q.2 := List.take_of_length_le (by rw [List.length_map]; exact Nat.le_refl _)
      rw [ht]
      exact ss_ret (x_imp (x_pure (d_new (d_lc0 (l := finL V.s rd) (ι := nst) (f := fun q => q.2.d) (own := [("level", 9), ("meeting", 3)]) (is := [9, 3]) rfl nd (i_list (d_var 5 rfl)) (blkOk_by (by kernel_rfl)) rfl (by omega) (by decide) (fun _ _ => rfl)
        (fun q hq s H C cl fp => g_tup (ps := [.int q.1, q.2.d]) rfl (gs_cons (g_name 9 nd rfl (.inl rfl)) (gs_cons (g_name 3 nd rfl (.inl rfl)) gs_nil)) rfl) (fun q hq s H C cl fp => d_var 3 rfl)))) fun d m' ⟨_, h⟩ => h)
end Pr
set_option maxHeartbeats 4000000
/-! Zh: an own error's __init__ that begins with super().__init__(text). -/
namespace Pr
open PySem PySem.W PySem.Calls PyProof.Rows
section
variable {prog : Program} {w : World} {A : Around} {E : Value → Shared → Prop} {h : Heap} {g : Array GenState} {d : Drawn} {t : Nat} {os : OsState}
variable {nm qn : Str} {C N : Addr} {bs bm : List Value} {hdct : Bool} {sn : List Str} {sub : List Value} {ab : Bool} {col : Option Bool} {dd : Option Addr} {k0 k1 k2 k3 k5 : Option Value}
/-- the bound ValueError.__init__, called -/
theorem call_vw {u e t0 : Addr} {rest : List Value} {Q : Value → Shared → Prop} (hC : h.get? C = some (excClassObj nm qn C N bs bm hdct sn sub ab col dd k0 k1 k2 k3 k5 "ValueError.__new__")) (he : h.get? e = some (HandSPX.excO C t0)) (hu : h.get? u = some (kxs_mw "ValueError.__init__" e)) (hz : rest.length ≤ sizeLine)
    (hT : ∀ X : String, bm.contains (.type X) = true → True) (q : ∀ h' t1, (∀ b o, b ≠ e → h.get? b = some o → h'.get? b = some o) → h'.get? e = some (HandSPX.excO C t1) → Q .none ⟨h', g, d, t, os⟩) : wpAny (model prog w) A (call (.ref u) rest) Q E ⟨h, g, d, t, os⟩ := by
  refine wpAny_call (codeAny_of_tree ?_)
  show wpAny _ A.in1 (callAny (.ref u) { pos := rest }) _ _ _
  unfold callAny
  refine wpAny_bind (wpAny_load hu ?_)
  have eq1 : (Value.type "method-wrapper" == Value.type "method" || Value.type "method-wrapper" == Value.type "builtin_function_or_method" || Value.type "method-wrapper" == Value.type "method-wrapper") = true := by decide
  simp only [kxs_mw, eq1, if_true]
  refine KFB.if_so (by decide) ?_
  refine wpAny_bind (ESX.check_bound F.excBase_ValueError hC he rfl ?_)
  refine wpAny_bind (wpAny_pure (wpAny_pure ⟨Code.quiet_builtin _ (by decide +kernel), codeAny_builtin F.excBase_ValueError.initEntry ?_⟩))
  rw [Around.under_plainId F.excBase_ValueError.init.plain _]
  wp_walk
  refine q _ h.objs.size (fun b o hb ho => ?_) ?_
  · rw [Heap.get?_update_other _ _ (Ne.symm hb)]; exact Heap.get?_push_of_some _ ho
  · rw [Heap.get?_update_self _ (Heap.get?_push_of_some _ he) rfl]; rfl
end
/-- what the text says of such an __init__: C its class, f the def -/
structure SupF (prog : Program) (K : Frag) (C f : Addr) (qual : Str) (st : Stmt) : Prop where
  ex : ∃ (name : Str) (oc : Value) (od : Option Addr) (kV doc pm : Value) (an : Option Addr) (ct : Value) (osl : Array (Option Value)) (cda cc : Addr) (ccl : Value) (cdd : Option Addr) (vs : Array Value) (ccs : Array (Option Value)) (file : Str) (tf : Tok) (cl : Value) (cld : Option Addr) (csl : Array (Option Value)),
    K.lookup f = some ⟨oc, od, .func (ksFn name qual (L2.defArgs st) (L2.defBody st) (L2.defScope st) .none kV doc pm an (.ref cda) ct cc), osl⟩ ∧ codeIn K (.ref cda) qual = true ∧ K.lookup cda = some ⟨ccl, cdd, .fields vs, ccs⟩ ∧ vs[2]? = some (.str file tf) ∧ ((prog.main.file : Str) == file) = true ∧
      K.lookup cc = some ⟨cl, cld, .cell (some (.ref C)), csl⟩
  sup : ks_superIn K C C "__init__" = some (some (.builtin "ValueError.__init__"))
  sv : subIn K (.ref C) (.type "ValueError") = some true
  mro : mroIn K C (.ref C) = some true
  opq : nsIn K cStatics "thirdparty.any" = some none
  top : (prog.main.scope.names.lookup ("super" : Str)).isSome = false
section
variable {prog : Program} {w : World} {A : Around} {E : Value → Shared → Prop} {s : Shared} {K : Frag}
variable {nm qn : Str} {C N : Addr} {bs bm : List Value} {hdct : Bool} {sn : List Str} {sub : List Value} {ab : Bool} {col : Option Bool} {dd : Option Addr} {k0 k1 k2 k3 k5 : Option Value}
theorem sup_stmt {body : List Stmt} {qual : Str} {scope : Scope} {p0 p1 ap pos ep cp : Pos} {z : Str} {j : Nat} {L f cda cc a t0 : Addr} {fd : FuncData} {ar : Arg} {vs : Array Value} {file : Str} {tf : Tok} {oc ccl cl : Value} {od cdd cld : Option Addr} {osl ccs csl : Array (Option Value)} {mg mb m : Str → Option Value} {Q : Flow → Shared → Prop}
    (X : K.In s.heap) (hf : K.lookup f = some ⟨oc, od, .func fd, osl⟩) (hp : (fd.params.posonlyargs ++ fd.params.args).head? = some ar) (hcode : K.lookup cda = some ⟨ccl, cdd, .fields vs, ccs⟩) (hvs : vs[2]? = some (.str file tf)) (hfile : ((prog.main.file : Str) == file) = true)
    (hcell : K.lookup cc = some ⟨cl, cld, .cell (some (.ref C)), csl⟩) (hC : K.lookup C = some (excClassObj nm qn C N bs bm hdct sn sub ab col dd k0 k1 k2 k3 k5 "ValueError.__new__")) (hsup : ks_superIn K C C "__init__" = some (some (.builtin "ValueError.__init__"))) (hsv : subIn K (.ref C) (.type "ValueError") = some true)
    (hmro : mroIn K C (.ref C) = some true) (ho : nsIn K cStatics "thirdparty.any" = some none) (htop : (prog.main.scope.names.lookup ("super" : Str)).isSome = false)
    (hks : scope.names.lookup ("super" : Str) = some .globalImplicit) (hkc : scope.names.lookup ("__class__" : Str) = some .free) (hka : scope.names.lookup ar.arg = some .local) (hk : scope.kind = .function)
    (hns : s.heap.Ns L m) (hself : m ar.arg = some (.ref a)) (hex : s.heap.get? a = some (HandSPX.excO C t0)) (gl : s.heap.Ns mainGlobals mg) (hmg : mg "super" = none) (bl : s.heap.Ns builtinsNs mb) (hmb : mb "super" = some (.type "super"))
    (hi : interactive (ksEnv qual scope L f (.ref cda) cc) = false) (hsw : swapsWith (.Call (.Attribute (.Call (.Name "super" p0) [] [] p1) "__init__" ap) [.Constant (.str z) j cp] [] pos) none ep.line (ksEnv qual scope L f (.ref cda) cc) = pure false)
    {pl : Sem Bool} (hev : eval (.Call (.Attribute (.Call (.Name "super" p0) [] [] p1) "__init__" ap) [.Constant (.str z) j cp] [] pos) (ksEnv qual scope L f (.ref cda) cc) = (do
      let ov ← attributeBase (.Call (.Name "super" p0) [] [] p1) "__init__" (ksEnv qual scope L f (.ref cda) cc) (eval (.Call (.Name "super" p0) [] [] p1) (ksEnv qual scope L f (.ref cda) cc))
      standAt ap.atName
      let (f2, first) ← holding [ov] (getMethod ov "__init__" pl)
      callWith pos f2 first (backTo pos (starEach [.Constant (.str z) j cp] (ksEnv qual scope L f (.ref cda) cc))) []))
    (q : ∀ h' tk t1, (∀ b o, b ≠ a → s.heap.get? b = some o → h'.get? b = some o) → h'.get? a = some (HandSPX.excO C t1) → Q .next { s with heap := h', toks := tk }) :
    _root_.PySem.wpAt (model prog w) A (.func body (ksEnv qual scope L f (.ref cda) cc)) (exec (.Expr (.Call (.Attribute (.Call (.Name "super" p0) [] [] p1) "__init__" ap) [.Constant (.str z) j cp] [] pos) ep) (ksEnv qual scope L f (.ref cda) cc)) Q E s := by
  obtain ⟨hh, g, d, t, os⟩ := s
  have hcl : clsIn K C = some { name := nm, bases := bs, mro := .ref C :: bm, ns := N, qualname := qn, hasDict := hdct, slotNames := sn, subclasses := sub, abstract := ab, collection := col, hasDel := false } := by unfold clsIn; rw [hC] <;> rfl
  have gC : hh.get? C = some (excClassObj nm qn C N bs bm hdct sn sub ab col dd k0 k1 k2 k3 k5 "ValueError.__new__") := X _ _ hC
  refine ks_wpAt_Expr_any ?_ hi hsw
  refine ks_wpAt_MethodCall ?_ hev
  refine ks_wpAt_super_base hks hkc (by decide) rfl (X _ _ hf) rfl hp rfl (X _ _ hcode) rfl hvs hfile htop ?_
  refine ks_loadName_global hk hks (loadGlobal_builtin gl hmg bl hmb ⟨rfl, ?_⟩)
  refine wpAny_loadName_free hk hkc rfl ⟨_, X _ _ hcell, rfl⟩ ?_
  refine wpAny_loadName_local hk hka hns hself ?_
  refine ks_wpAny_isType_cls gC rfl ⟨rfl, ?_⟩
  refine ks_wpAny_call_super gC rfl hex rfl (fun c e => nomatch e) (looks_mroIn X hmro) fun h1 e1 k1 => ?_
  have X1 : K.In h1 := X.keeps k1
  have ex1 := k1 _ _ hex
  have I1 : InstAt h1 a (HandSPX.excO C t0) C none := ⟨ex1, rfl, rfl, trivial⟩
  unfold ks_superIn at hsup
  rw [hcl] at hsup
  refine kxs_getMethod kxs_ValueError (l₀ := .ref C :: bm) e1 (looks_opaque X1 ho) (fun A' Q' E' s' k' q' => wpAny_bind ((looks_clsIn X1 hcl) A' _ E' s' k' (wpAny_pure q'))) rfl X1 hsup ((InstAt.type I1).andThen (looks_subIn X1 hsv)) (ks_ne X1 I1 hcl) (by decide) ?_
  have kp : ∀ b o, h1.get? b = some o → (h1.push (kxs_mw "ValueError.__init__" a)).get? b = some o := fun b o e => Heap.get?_push_of_some _ e
  have hu : (h1.push (kxs_mw "ValueError.__init__" a)).get? h1.objs.size = some (kxs_mw "ValueError.__init__" a) := Heap.get?_push_size _ rfl
  refine kxs_callWith (i := "ValueError.__init__") (x := a) rfl (evalArgs_plain (spliced_cons (Calls.Constant_str (k := j) (pos := cp) (spliced_nil ⟨hu, ?_⟩))))
  exact call_vw (kp _ _ (k1 _ _ gC)) (kp _ _ ex1) hu (by show 1 ≤ sizeLine; decide) (fun _ _ => trivial) fun h' t1 k2 e2 => q h' _ t1 (fun b o hb e => k2 b o hb (kp _ _ (k1 _ _ e))) e2
end
end Pr
set_option maxHeartbeats 4000000
/-! Zi: Refused(deed) and Nothing(), made. -/
namespace Pr
open PySem PySem.W PySem.Calls PyProof.Rows
section
variable {P : Program} {w : World} {A : Around} {s : Shared} {K : Frag} {C f a t0 : Addr} {R : Result → Shared → Prop} {mg : Str → Option Value} {base : Heap}
theorem nothing_raw (SF : SupF P K C f "Nothing.__init__" st_Nothing_init) (T : L2.OexC K C) (md : L2.Mod K mg base) (kb : ∀ b o, base.get? b = some o → s.heap.get? b = some o) (na : base.get? a = none) (hroom : A.depth < recursionLimit) (hmg : mg "super" = none)
    (hex : s.heap.get? a = some (HandSPX.excO C t0)) (q : ∀ h' tk t1, (∀ b o, b ≠ a → s.heap.get? b = some o → h'.get? b = some o) → h'.get? a = some (HandSPX.excO C t1) → R (.ok (.ret .none)) { s with heap := h', toks := tk }) :
    codeAny (model P w) A (.call (.ref f) ⟨[.ref a], []⟩) R s := by
  obtain ⟨name, oc, od, kV, doc, pm, an, ct, osl, cda, cc, ccl, cdd, vs, ccs, file, tf, cl, cld, csl, lk, hcd, hcode, hvs, hfile, hcell⟩ := SF.ex
  obtain ⟨nm, qn, N, bs, bm, sn, sub, ab, col, dd, k0, k1, k2, k3, k5, hC, hbm⟩ := T.cls
  obtain ⟨mb, hb1, hb2⟩ := md.blt
  have X : K.In s.heap := md.kin.keeps kb
  have lim := md.nolimit.keeps kb
  have gl := md.glob.keeps kb
  have hb1 := hb1.keeps kb
  refine ks_codeAny_call_defAt (fd := ksFn name "Nothing.__init__" (L2.defArgs st_Nothing_init) (L2.defBody st_Nothing_init) (L2.defScope st_Nothing_init) .none kV doc pm an (.ref cda) ct cc) (body := L2.defBody st_Nothing_init) (binds := [("self", .ref a)]) hroom (X _ _ lk) rfl lim (codeRec_of X hcd) rfl (BindsTo.of_eq rfl) (show ∀ x ∈ (L2.defScope st_Nothing_init).names, x.2 ≠ .cell from by decide +kernel) (fun y hy => by rw [List.mem_singleton] at hy; subst hy; show (L2.defScope st_Nothing_init).names.lookup ("self" : Str) = some NameKind.local; decide +kernel) (fun h0 hns k => ?_) rfl rfl rfl
  refine ks_wpAt_execs_cons (sup_stmt (qual := "Nothing.__init__") (scope := L2.defScope st_Nothing_init) (ar := ⟨"self", none, _⟩) (X.keeps k) lk rfl hcode hvs hfile hcell hC SF.sup SF.sv SF.mro SF.opq SF.top (by decide +kernel) (by decide +kernel) (by decide +kernel) rfl hns rfl (k _ _ hex) (gl.keeps k) hmg (hb1.keeps k) ((hb2 "super" (by decide)).trans PyProof.Rows.Boot.«super») rfl rfl (by rfl) fun h' tk t1 k2 e2 => ?_)
  exact wpAt_of_wpAny (wpAny_execs_nil (q h' tk t1 (fun b o hb e => k2 b o hb (k _ _ e)) e2))
theorem refused_raw {u : Value} (SF : SupF P K C f "Refused.__init__" st_Refused_init) (T : L2.OexC K C) (hno : findIn K (.ref C) "deed" = some none) (md : L2.Mod K mg base) (kb : ∀ b o, base.get? b = some o → s.heap.get? b = some o) (na : base.get? a = none) (hroom : A.depth < recursionLimit) (hmg : mg "super" = none)
    (hex : s.heap.get? a = some (HandSPX.excO C t0)) (q : ∀ h' tk t1 dx, (∀ b o, b ≠ a → s.heap.get? b = some o → h'.get? b = some o) → s.heap.objs.size ≤ dx → dx ≠ a → h'.get? a = some { cls := .ref C, dict := some dx, data := .fields #[.ref t1, .none, .none, .none, .bool false, .none] } → h'.Ns1 dx (fun y => if y = "deed" then some u else none) → R (.ok (.ret .none)) { s with heap := h', toks := tk }) :
    codeAny (model P w) A (.call (.ref f) ⟨[.ref a, u], []⟩) R s := by
  obtain ⟨name, oc, od, kV, doc, pm, an, ct, osl, cda, cc, ccl, cdd, vs, ccs, file, tf, cl, cld, csl, lk, hcd, hcode, hvs, hfile, hcell⟩ := SF.ex
  obtain ⟨nm, qn, N, bs, bm, sn, sub, ab, col, dd, k0, k1, k2, k3, k5, hC, hbm⟩ := T.cls
  obtain ⟨mb, hb1, hb2⟩ := md.blt
  have X : K.In s.heap := md.kin.keeps kb
  have lim := md.nolimit.keeps kb
  have gl := md.glob.keeps kb
  have hb1 := hb1.keeps kb
  have hcl : clsIn K C = some { name := nm, bases := bs, mro := .ref C :: bm, ns := N, qualname := qn, hasDict := true, slotNames := sn, subclasses := sub, abstract := ab, collection := col, hasDel := false } := by unfold clsIn; rw [hC] <;> rfl
  refine ks_codeAny_call_defAt (fd := ksFn name "Refused.__init__" (L2.defArgs st_Refused_init) (L2.defBody st_Refused_init) (L2.defScope st_Refused_init) .none kV doc pm an (.ref cda) ct cc) (body := L2.defBody st_Refused_init) (binds := [("self", .ref a), ("deed", u)]) hroom (X _ _ lk) rfl lim (codeRec_of X hcd) rfl (BindsTo.of_eq rfl) (show ∀ x ∈ (L2.defScope st_Refused_init).names, x.2 ≠ .cell from by decide +kernel) (fun y hy => by
    simp only [List.mem_cons, List.not_mem_nil, or_false] at hy
    rcases hy with hy | hy
    · subst hy; show (L2.defScope st_Refused_init).names.lookup ("self" : Str) = some NameKind.local; decide +kernel
    · subst hy; show (L2.defScope st_Refused_init).names.lookup ("deed" : Str) = some NameKind.local; decide +kernel) (fun h0 hns k => ?_) rfl rfl rfl
  refine ks_wpAt_execs_cons (sup_stmt (qual := "Refused.__init__") (scope := L2.defScope st_Refused_init) (ar := ⟨"self", none, _⟩) (X.keeps k) lk rfl hcode hvs hfile hcell hC SF.sup SF.sv SF.mro SF.opq SF.top (by decide +kernel) (by decide +kernel) (by decide +kernel) rfl hns rfl (k _ _ hex) (gl.keeps k) hmg (hb1.keeps k) ((hb2 "super" (by decide)).trans PyProof.Rows.Boot.«super») rfl rfl (by rfl) fun h1 tk t1 kk e1 => ?_)
  have k3 : ∀ b o, b ≠ a → s.heap.get? b = some o → h1.get? b = some o := fun b o hb e => kk b o hb (k _ _ e)
  have ha : a < s.heap.objs.size := Heap.lt_size hex
  have hns1 := hns.at (h' := h1) fun o e => kk _ o (Nat.ne_of_gt ha) e
  have X1 : K.In h1 := md.kin.keeps fun b o e => k3 b o (fun z => by rw [z, na] at e; cases e) (kb b o e)
  refine ks_wpAt_execs_cons (wpAt_of_wpAny (plainObj_wpAny_Assign_Attribute (ESX.ldL hns1 rfl (ESX.ldL hns1 rfl ?_)) (by rfl)))
  refine set_plain X1 (ox := HandSPX.excO C t1) (od := none) ⟨e1, rfl, rfl, trivial⟩ T.sa ?_
  refine HandSPX.exc_osa X1 e1 hcl (show HandSPX.refsVE (.ref C :: bm) = true from hbm) rfl hno fun h2 tk2 dx k4 dn dne hx hn => ?_
  exact wpAt_of_wpAny (wpAny_execs_nil (q h2 tk2 t1 dx (fun b o hb e => k4 b o hb (k3 b o hb e)) (Nat.le_trans (Nat.le_of_lt hns1.lt) dn) dne hx hn))
end
end Pr
set_option maxHeartbeats 4000000
/-! Zj: what raises, by data. -/
namespace Pr
open PySem PySem.Spec PyProof.Rows L2
/-- what the exception is, and what its dict holds -/
abbrev Zs := Value → Option Addr → Hp → Prop
def zF (K : PySem.W.Frag) (C : Addr) (f : Str) (q : PyData) : Zs := fun cls d H => cls = .ref C ∧ ∃ dd v, d = some dd ∧ H dd = some (.xd [(f, v)]) ∧ Dp K H v q
def zN (C : Addr) : Zs := fun cls d _ => cls = .ref C ∧ d = none
/-- what the text says of an own error -/
structure ErrF (P : Program) (K : PySem.W.Frag) (mg : Str → Option Value) (c : Str) (st : Stmt) (qual : Str) : Prop where
  g : mg c = some (.ref (ga K c))
  sf : SupF P K (ga K c) (ma K c "__init__") qual st
  ox : OexC K (ga K c)
  ini : PySem.W.findIn K (.ref (ga K c)) "__init__" = some (some (.ref (ma K c "__init__")))
  ti : PySem.W.typeIn K (.ref (ma K c "__init__")) = some (.type "function")
section
variable {X : Cx} {δ : De} {e : Expr} {q : PyData} {p pos : Pos} {W : WX} {Z : Zs} {st : Stmt} {c : Expr} {body rest els : List Stmt}
theorem base_out {pins : List (Addr × Obj)} {σ : L2.St} {H : Hp} {s : Shared} {a : Addr} (I : Inv X pins σ H s) (h : s.heap.objs.size ≤ a) : X.base.get? a = none := by
  cases z : X.base.get? a with
  | none => rfl
  | some o => exact absurd (Heap.lt_size z) (Nat.not_lt.mpr (Nat.le_trans (Nat.le_trans I.ok.bsz I.sz) h))
/-- Refused(e) -/
theorem pmk_refused (F : ErrF X.prog X.K X.mg "Refused" st_Refused_init "Refused.__init__") (hno : PySem.W.findIn X.K (.ref (ga X.K "Refused")) "deed" = some none) (hsu : X.mg "super" = none) (hr : Room 1 X.A) (hg : Gl X "Refused") (ha : PE X e (tD X.K δ (.p q)))
    (he : starEach [e] X.env = (false, eval e X.env) :: starEach [] X.env := by rfl) : PMk X (.Call (.Name "Refused" p) [e] [] pos) (fun σ H Q => EnvD X.K σ H δ ∧ ∀ cls d H', Same H H' → zF X.K (ga X.K "Refused") "deed" q cls d H' → Q cls d H') := by
  intro pins s σ H Q I ⟨En, h⟩
  obtain ⟨nm, qn, N, bs, bm, sn, sub, ab, col, dd, k0, k1, k2, k3, k5, hC, hbm⟩ := F.ox.cls
  refine wpAny_Call_Name_kw (ld_glob I hg F.g ?_ (by decide))
  refine PySem.W.callWith_K (h₀ := X.base) I.ok.mod.kin F.ox.kC (thn ((pa_cons ha pa_nil he).run pos pins s σ H (fun vs H1 => Same H H1 ∧ ∃ y, vs = [y] ∧ Dp X.K H1 y q) I ⟨En, fun v H1 s1 r1 => ⟨s1, v, rfl, r1.toDp⟩⟩) fun us s1 ⟨vs, H1, I1, r1, sm, y, ev, ry⟩ => ⟨I1.kIn, ?_⟩) he rfl
  subst ev
  obtain ⟨u, rfl, ru⟩ := r1.one
  show wpAny _ _ (call (.ref (ga X.K "Refused")) [u]) _ _ _
  obtain ⟨hp, g, dr, tk, os⟩ := s1
  have kk : ∀ b o, hp.get? b = some o → ((hp.push (PySem.W.kdv_tup [u])).push (PySem.HandSPX.excO (ga X.K "Refused") hp.objs.size)).get? b = some o := fun b o e => Heap.get?_push_of_some _ (Heap.get?_push_of_some _ e)
  have hget : ((hp.push (PySem.W.kdv_tup [u])).push (PySem.HandSPX.excO (ga X.K "Refused") hp.objs.size)).get? (hp.objs.size + 1) = some (PySem.HandSPX.excO (ga X.K "Refused") hp.objs.size) := by heap_get
  have hsz : hp.objs.size ≤ ((hp.push (PySem.W.kdv_tup [u])).push (PySem.HandSPX.excO (ga X.K "Refused") hp.objs.size)).objs.size := by rw [Heap.size_push, Heap.size_push]; omega
  refine wpAny_call (PySem.HandSPX.call_own PySem.F.excBase_ValueError (fun Y => PySem.HandSPX.refsVE_contains Y bm hbm) (I1.kIn _ _ hC) (PySem.W.looks_findIn I1.kIn F.ini) (fun self => PySem.W.bind_fn I1.kIn self F.ti) (by show 1 ≤ sizeLine; decide)
    (refused_raw (a := hp.objs.size + 1) (t0 := hp.objs.size) F.sf F.ox hno I1.ok.mod (fun b o e => kk b o (I1.bk b o e)) (base_out I1 (Nat.le_succ _)) (hr.make (ga X.K "Refused") [u] []).depth hsu hget fun h2 tk2 t1 dx k2 dn dne hx hn => ?_))
  have lo : hp.objs.size ≤ dx := Nat.le_trans hsz dn
  obtain ⟨G, g1, g2⟩ := restrict h2 fun b => decide (b ≠ hp.objs.size + 1)
  have gk : ∀ b, b ≠ hp.objs.size + 1 → G.get? b = h2.get? b := fun b hb => g1 b (decide_eq_true hb)
  have kG : ∀ b o, hp.get? b = some o → G.get? b = some o := fun b o e => by
    have hb : b ≠ hp.objs.size + 1 := Nat.ne_of_lt (Nat.lt_succ_of_lt (Heap.lt_size e))
    rw [gk b hb]; exact k2 b o hb (kk b o e)
  have J : Inv X pins σ (upd H1 dx (.xd [("deed", y)])) ⟨G, g, dr, tk2, os⟩ := I1.laid (t' := tk2) kG lo ⟨_, hn.at fun o e => (gk dx dne).trans e, fun f => relO_put (fs := []) (mA := fun _ => none) ru (fun _ => trivial) f⟩
  have nH : H1 dx = none := I1.hok.fresh lo
  refine ⟨rfl, hp.objs.size + 1, _, _, ⟨G, g, dr, tk2, os⟩, _, .ref (ga X.K "Refused"), some dx, rfl, J, fun b o e => ?_, g2 _ (by simp), hx, ⟨rfl, rfl⟩, rfl, rfl, ?_, rfl, I1.bare, raises_own F.ox.exC F.ox.tyC, h _ _ _ (sm.trans (same_new nH)) ⟨rfl, dx, y, rfl, upd_same, dp_mono (same_new nH) ry⟩⟩
  · by_cases hb : b = hp.objs.size + 1
    · subst hb; rw [g2 _ (by simp)] at e; cases e
    · rw [gk b hb] at e; exact e
  · rw [upd_ne (Ne.symm dne)]; exact I1.hok.fresh (Nat.le_succ _)
/-- Nothing() -/
theorem pmk_nothing (F : ErrF X.prog X.K X.mg "Nothing" st_Nothing_init "Nothing.__init__") (hsu : X.mg "super" = none) (hr : Room 1 X.A) (hg : Gl X "Nothing") : PMk X (.Call (.Name "Nothing" p) [] [] pos) (fun σ H Q => EnvD X.K σ H δ ∧ ∀ cls d H', Same H H' → zN (ga X.K "Nothing") cls d H' → Q cls d H') := by
  intro pins s σ H Q I ⟨En, h⟩
  obtain ⟨nm, qn, N, bs, bm, sn, sub, ab, col, dd, k0, k1, k2, k3, k5, hC, hbm⟩ := F.ox.cls
  refine wpAny_Call_Name_kw (ld_glob I hg F.g ?_ (by decide))
  refine PySem.W.callWith_K0 I.kIn F.ox.kC ?_
  show wpAny _ _ (call (.ref (ga X.K "Nothing")) []) _ _ _
  obtain ⟨hp, g, dr, tk, os⟩ := s
  have kk : ∀ b o, hp.get? b = some o → ((hp.push (PySem.W.kdv_tup [])).push (PySem.HandSPX.excO (ga X.K "Nothing") hp.objs.size)).get? b = some o := fun b o e => Heap.get?_push_of_some _ (Heap.get?_push_of_some _ e)
  have hget : ((hp.push (PySem.W.kdv_tup [])).push (PySem.HandSPX.excO (ga X.K "Nothing") hp.objs.size)).get? (hp.objs.size + 1) = some (PySem.HandSPX.excO (ga X.K "Nothing") hp.objs.size) := by heap_get
  have nn : hp.get? (hp.objs.size + 1) = none := by
    cases z : hp.get? (hp.objs.size + 1) with
    | none => rfl
    | some o => exact absurd (Heap.lt_size z) (Nat.not_lt.mpr (Nat.le_succ _))
  refine wpAny_call (PySem.HandSPX.call_own PySem.F.excBase_ValueError (fun Y => PySem.HandSPX.refsVE_contains Y bm hbm) (I.kIn _ _ hC) (PySem.W.looks_findIn I.kIn F.ini) (fun self => PySem.W.bind_fn I.kIn self F.ti) (by show 0 ≤ sizeLine; decide)
    (nothing_raw (a := hp.objs.size + 1) (t0 := hp.objs.size) F.sf F.ox I.ok.mod (fun b o e => kk b o (I.bk b o e)) (base_out I (Nat.le_succ _)) (hr.make (ga X.K "Nothing") [] []).depth hsu hget fun h2 tk2 t1 k2 hx => ?_))
  exact ⟨rfl, hp.objs.size + 1, _, _, ⟨hp, g, dr, tk, os⟩, H, .ref (ga X.K "Nothing"), none, rfl, I, fun b o e => k2 b o (fun z => by rw [z, nn] at e; cases e) (kk b o e), nn, hx, ⟨rfl, rfl⟩, rfl, rfl, I.hok.fresh (Nat.le_succ _), rfl, I.bare, raises_own F.ox.exC F.ox.tyC, h _ _ _ (Same.refl H) ⟨rfl, rfl⟩⟩
end
end Pr
set_option maxHeartbeats 4000000
/-! Zk: statements and defs that raise; do, undo, redo, as they are refused. -/
namespace Pr
open PySem PySem.Spec PyProof.Rows L2
def zS (K : PySem.W.Frag) (δ : De) (W : WX) (Z : Zs) : TS := fun D σ H => EnvD K σ H δ ∧ ∀ cls d H', Same H H' → Z cls d H' → W cls d σ H'
def zE (K : PySem.W.Frag) (δ : De) (W : WX) (Z : Zs) : TE := fun σ H Q => EnvD K σ H δ ∧ ∀ cls d H', Same H H' → Z cls d H' → W cls d σ H'
section
variable {X : Cx} {δ : De} {W : WX} {Z : Zs} {st : Stmt} {c e o a b : Expr} {es : List Expr} {body rest els : List Stmt} {pos : Pos}
theorem z_raise (hc : X.calm = true) (tk : Takes X W) (h : PMk X e (fun σ H Q => EnvD X.K σ H δ ∧ ∀ cls d H', Same H H' → Z cls d H' → Q cls d H')) : PSs X [.Raise (some e) none pos] (zS X.K δ W Z) :=
  PSs_imp (pss_one (ps_raise hc tk h)) fun D σ H ⟨E, q⟩ => ⟨E, q⟩
theorem z_ifF (hc : PT X c (cD X.K δ false)) (hr : PSs X rest (zS X.K δ W Z)) : PSs X (.If c body [] pos :: rest) (zS X.K δ W Z) :=
  PSs_imp (pss_cons (ps_if hc pss_never pss_nil) hr) fun D σ H ⟨E, q⟩ => ⟨E, fun H' s => ⟨E.mono s, fun cls d H2 s2 z => q cls d H2 (s.trans s2) z⟩⟩
theorem z_ifT (hc : PT X c (cD X.K δ true)) (hb : PSs X body (zS X.K δ W Z)) : PSs X (.If c body els pos :: rest) (zS X.K δ W Z) :=
  PSs_imp (pss_cons (ps_if hc hb pss_never) pss_never) fun D σ H ⟨E, q⟩ => ⟨E, fun H' s => ⟨E.mono s, fun cls d H2 s2 z => q cls d H2 (s.trans s2) z⟩⟩
end
/-- a def that raises -/
def spZ (K : PySem.W.Frag) (R : List Dt → Zs → Prop) : Sp := fun vs H _ E => ∃ ds Z, RpAll K H vs ds ∧ R ds Z ∧ ∀ cls d H', Same H H' → Z cls d H' → E cls d H'
section
variable {P : Program} {w : World} {K : PySem.W.Frag} {mg : Str → Option Value} {base : Heap} {k : Nat} {f : Addr} {qual : Str} {st : Stmt} {N ps : List Str}
theorem fnR_Z {R : List Dt → Zs → Prop} (F : FnAt K qual st f) (S : FnScope N ps (defScope st)) (B : BindAt st ps) (hl : ∀ ds Z, R ds Z → ds.length = ps.length)
    (hbody : ∀ (cdv : Value) (A : Around) (outer : List Env) (s : Shared) (H : Hp) (E : XK), Room k (A.deeper (envOfC qual (defScope st) s.heap.objs.size f cdv)) → ∀ (W : WX), Takes (cxOf (L2.CX P w) P w K mg base N qual (defScope st) f cdv A outer s H E) W → ∀ ds Z, R ds Z →
      PSs (cxOf (L2.CX P w) P w K mg base N qual (defScope st) f cdv A outer s H E) (defBody st) (zS K (ds.map some ++ List.replicate (N.length - ds.length) none) W Z)) : FnR P w K mg base (L2.CX P w) (k + 1) f (spZ K R) := by
  refine fnR_of F S B (fun vs H Q E ⟨ds, Z, r, h, _⟩ => r.length.trans (hl ds Z h)) fun cdv A outer s H vs Q E hr ⟨ds, Z, r, h, q⟩ => ⟨_, hbody cdv A outer s H E hr (fun cls d _ H' => E cls d H') (takes_of rfl rfl rfl rfl) ds Z h, ?_⟩
  have hpl : ps.length ≤ N.length := by have := congrArg List.length S.pre; rw [List.length_take] at this; omega
  exact ⟨envD_start r (by rw [r.length, hl ds Z h]; exact hpl), q⟩
end
section
variable {X : Cx} {W : WX} {pins : List (Addr × Obj)} {σ : L2.St} {H : Hp} {s : Shared}
/-- the callee raises: what is wished may tell of the slots -/
theorem run_fnZ {k : Nat} {f : Addr} {sp : Sp} {Q : VK} {us : List Value} {vs : List V} (F : FnR X.prog X.w X.K X.mg X.base (L2.CX X.prog X.w) k f sp) (hr : Room k X.A) (tk : Takes X W) (I : Inv X pins σ H s) (r : Vals vs us) (h : sp vs H Q (fun cls d H' => W cls d σ H')) :
    codeAny (model X.prog X.w) X.A (.call (.ref f) ⟨us, []⟩) (fun r s' => match r with | .ok (.ret v) => EP X pins σ Q v s' | .ok _ => False | .error e => X.xe e s') s := by
  refine codeAny_mono (F X.A X.stack s H us vs Q _ hr I.env0 r h) fun r s' hq => ?_
  cases r with
  | error e => exact tk e s' (XE.of_call I (fun cls d H' h => h) hq)
  | ok fl =>
    cases fl with
    | ret u => exact I.after hq
    | next => exact False.elim hq
    | brk => exact False.elim hq
    | cont => exact False.elim hq
end
section
variable {X : Cx} {δ : De} {W : WX} {Z : Zs} {o e : Expr} {es : List Expr} {k : Nat} {g : Addr} {m c : Str} {pos apos : Pos} {fs ds : List Dt} {R : List Dt → Zs → Prop}
theorem z_meth {pl : Sem Bool} (hc : SlX.SCls X.K (ga X.K c)) (hm : Meth X.K (ga X.K c) m g) (F : FnR X.prog X.w X.K X.mg X.base (L2.CX X.prog X.w) k g (spZ X.K R)) (hr : Room k X.A) (tk : Takes X W) (hR : R (.ob c fs :: ds) Z) (ho : PE X o (tD X.K δ (.ob c fs))) (ha : PA X (e :: es) (aD X.K δ ds))
    (hst : starEach (e :: es) X.env = (false, eval e X.env) :: starEach es X.env := by rfl) (hpl : (backTo pos (starEach es X.env)).any (·.1) = false := by rfl)
    (ht : eval (.Call (.Attribute o m apos) (e :: es) [] pos) X.env = (do
      let ov ← eval o X.env
      standAt apos.atName
      let (f, first) ← holding [ov] (getMethod ov m pl)
      callWith pos f first (backTo pos (starEach (e :: es) X.env)) (backToKw pos (keywordEach [] X.env))) := by rfl) : PE X (.Call (.Attribute o m apos) (e :: es) [] pos) (zE X.K δ W Z) := by
  refine ⟨fun pins s σ H Q I ⟨En, q⟩ => ?_⟩
  refine PySem.W.methodCall_KW (pl := pl) (thn (ho.run pins s σ H (fun v H1 => Same H H1 ∧ Rp X.K H1 v (.ob c fs)) I ⟨En, fun v H1 s1 r1 => ⟨s1, r1⟩⟩) fun u s1 ⟨x, H1, I1, rx, s1', r1⟩ => ?_) ht
  obtain ⟨a, dx, vs, ex, sl, rr⟩ := id r1.ob_inv
  subst ex
  obtain rfl : u = Value.ref a := rx
  refine SlX.getmethsl_ok I1 sl hc hm ?_
  refine PySem.W.callWith_K (first := [.ref a]) (h₀ := X.base) I.ok.mod.kin hm.kp (thn (ha.run pos pins s1 σ H1 (fun ws H2 => Same H1 H2 ∧ RpAll X.K H2 ws ds) I1 ⟨En.mono s1', fun ws H2 s2 r2 => ⟨s2, r2⟩⟩) fun us s2 ⟨ws, H2, I2, r, s2', r2⟩ => ⟨I2.kIn, ?_⟩) hst hpl
  exact wpAny_call (run_fnZ (us := .ref a :: us) (vs := .ref a :: ws) F hr tk I2 (.cons rfl r) ⟨_, Z, .cons (r1.mono s2') r2, hR, fun cls d H' s3 z => q cls d H' ((s1'.trans s2').trans s3) z⟩)
theorem z_meth0 {pl : Sem Bool} (hc : SlX.SCls X.K (ga X.K c)) (hm : Meth X.K (ga X.K c) m g) (F : FnR X.prog X.w X.K X.mg X.base (L2.CX X.prog X.w) k g (spZ X.K R)) (hr : Room k X.A) (tk : Takes X W) (hR : R [.ob c fs] Z) (ho : PE X o (tD X.K δ (.ob c fs)))
    (ht : eval (.Call (.Attribute o m apos) [] [] pos) X.env = (do
      let ov ← eval o X.env
      standAt apos.atName
      let (f, first) ← holding [ov] (getMethod ov m pl)
      callWith pos f first (backTo pos (starEach [] X.env)) (backToKw pos (keywordEach [] X.env))) := by rfl) : PE X (.Call (.Attribute o m apos) [] [] pos) (zE X.K δ W Z) := by
  refine ⟨fun pins s σ H Q I ⟨En, q⟩ => ?_⟩
  refine PySem.W.methodCall_KW (pl := pl) (thn (ho.run pins s σ H (fun v H1 => Same H H1 ∧ Rp X.K H1 v (.ob c fs)) I ⟨En, fun v H1 s1 r1 => ⟨s1, r1⟩⟩) fun u s1 ⟨x, H1, I1, rx, s1', r1⟩ => ?_) ht
  obtain ⟨a, dx, vs, ex, sl, rr⟩ := id r1.ob_inv
  subst ex
  obtain rfl : u = Value.ref a := rx
  refine SlX.getmethsl_ok I1 sl hc hm ?_
  exact PySem.W.callWith_K0 (first := [.ref a]) I1.kIn hm.kp (wpAny_call (run_fnZ (us := [.ref a]) (vs := [.ref a]) F hr tk I1 (.cons rfl .nil) ⟨_, Z, .cons r1 .nil, hR, fun cls d H' s3 z => q cls d H' (s1'.trans s3) z⟩))
end
/-- what isinstance asks of an own error's class -/
structure XcC (K : PySem.W.Frag) (D : Addr) : Prop where
  cl : (PySem.W.clsIn K D).isSome = true
  hg : PySem.W.findIn K (.ref D) "__getattribute__" = some (some (.builtin "BaseException.__getattribute__"))
  hk : PySem.W.findIn K (.ref D) "__getattr__" = some none
  hs : PySem.W.subIn K (.ref D) (.type "BaseException") = some true
  ha : PySem.W.findIn K (.ref D) "__class__" = some (some (.builtin "object.__class__"))
  hn : PySem.W.specialIn K (.builtin "object.__class__") "__get__" = some (some (.builtin "getset_descriptor.__get__"))
  ht : PySem.W.takesIn K (.builtin "object.__class__") = some true
  hm : PySem.W.mroIn K D (.type "object") = some true
/-- what the text says of the errors -/
structure Tz (P : Program) (K : PySem.W.Frag) (mg : Str → Option Value) : Prop where
  r : ErrF P K mg "Refused" st_Refused_init "Refused.__init__"
  n : ErrF P K mg "Nothing" st_Nothing_init "Nothing.__init__"
  deed : PySem.W.findIn K (.ref (ga K "Refused")) "deed" = some none
  xf : XfC K (ga K "Refused")
  er : XcC K (ga K "Refused")
  en : XcC K (ga K "Nothing")
  g_RibbonError : mg "RibbonError" = some (.ref (ga K "RibbonError"))
  xr : PySem.W.exmOne K (.ref (ga K "Refused")) (.ref (ga K "RibbonError")) = some true
  xn : PySem.W.exmOne K (.ref (ga K "Nothing")) (.ref (ga K "RibbonError")) = some true
  g_NoDeed : mg "NoDeed" = some (.ref (ga K "NoDeed"))
  g_Full : mg "Full" = some (.ref (ga K "Full"))
  g_NoEntry : mg "NoEntry" = some (.ref (ga K "NoEntry"))
  r1 : PySem.W.kitOne K (.ref (ga K "Refused")) (.ref (ga K "NoDeed")) = some false
  r2 : PySem.W.kitOne K (.ref (ga K "Refused")) (.ref (ga K "Refused")) = some true
  r3 : PySem.W.kitOne K (.ref (ga K "Refused")) (.ref (ga K "Full")) = some false
  n1 : PySem.W.kitOne K (.ref (ga K "Nothing")) (.ref (ga K "Nothing")) = some true
  n2 : PySem.W.kitOne K (.ref (ga K "Nothing")) (.ref (ga K "NoEntry")) = some false
variable {P : Program} {w : World} {K : PySem.W.Frag} {mg : Str → Option Value} {base : Heap}
def rzDoK (K : PySem.W.Frag) : List Dt → Zs → Prop := fun ds Z => ∃ (p0 : Pt) (s : Fl) (log und : List Deed) (t : Deed), t.okE s.n s.m ∧ log.length < 200 ∧ s.n ≤ 100 ∧ s.m ≤ 100 ∧ t.okF s ∧ s.can t = false ∧ ds = [evD p0 s log und, .p t.d] ∧ Z = zF K (ga K "Refused") "deed" t.d
theorem f9_do_Z (T : Tx K mg) (E : Tz P K mg) : FnR P w K mg base (L2.CX P w) 9 (ma K "Evening" "do") (spZ K (rzDoK K)) :=
  fnR_Z T.f_Evening_do sc_Evening_do bn_Evening_do (fun ds Z ⟨_, _, _, _, _, _, _, _, _, _, _, h, _⟩ => by rw [h]; rfl) fun cdv A outer s H E0 hr W tk ds Z ⟨p0, fl, log, und, t, hE, hl, hn, hm, hF, hc, h, h2⟩ => by
    subst h h2
    have hu := room_u hr
    obtain ⟨tk2, htk⟩ := T.t_MOST
    refine z_ifF (c_eqv (c_not (c_val (d_meth T.c_Evening T.m_Evening_is_deed ((f7_is_deed T).mono (by decide)) hr ⟨p0, fl, log, und, t, hE, rfl, rfl⟩ (d_var 0 rfl) (a_cons (d_var 1 rfl) a_nil)))) rfl) ?_
    refine z_ifF (c_eqv (c_ge (d_lenL rfl T.b_len (a_cons (d_fld T.s_Evening_its_log rfl (d_var 0 rfl)) a_nil)) (d_glob (v := .int 200) rfl htk ⟨tk2, rfl⟩ (fun H => .p (.int 200)))) (by rw [List.length_map]; exact decide_eq_false (by omega))) ?_
    refine z_ifT (c_eqv (c_not (c_val (d_meth T.c_Floor T.m_Floor_can_do ((f2_can_do T).mono (by decide)) hr ⟨fl, t, hn, hm, hF, rfl, rfl⟩ (d_fld T.s_Evening_its_floor rfl (d_var 0 rfl)) (a_cons (d_var 1 rfl) a_nil)))) (by rw [hc]; rfl)) ?_
    exact z_raise rfl tk (pmk_refused E.r E.deed T.b_super (hr.mono (by decide)) rfl (d_var 1 rfl))
def rzUndo (K : PySem.W.Frag) : List Dt → Zs → Prop := fun ds Z => ∃ (p0 : Pt) (s : Fl) (und : List Deed), ds = [evD p0 s [] und] ∧ Z = zN (ga K "Nothing")
theorem f9_undo_Z (T : Tx K mg) (E : Tz P K mg) : FnR P w K mg base (L2.CX P w) 9 (ma K "Evening" "undo") (spZ K (rzUndo K)) :=
  fnR_Z T.f_Evening_undo sc_Evening_undo bn_Evening_undo (fun ds Z ⟨_, _, _, h, _⟩ => by rw [h]; rfl) fun cdv A outer s H E0 hr W tk ds Z ⟨p0, fl, und, h, h2⟩ => by
    subst h h2
    have hu := room_u hr
    refine z_ifT (c_eqv (c_eq hu (sh_deeds (l := []) (fun _ z => nomatch z)) sh_nil (d_fld T.s_Evening_its_log rfl (d_var 0 rfl)) (d_new (d_lstP (ps := []) a_nil (by simp)))) rfl) ?_
    exact z_raise rfl tk (pmk_nothing E.n T.b_super (hr.mono (by decide)) rfl)
def rzRedo (K : PySem.W.Frag) : List Dt → Zs → Prop := fun ds Z => ∃ (p0 : Pt) (s : Fl) (log : List Deed), ds = [evD p0 s log []] ∧ Z = zN (ga K "Nothing")
theorem f9_redo_Z (T : Tx K mg) (E : Tz P K mg) : FnR P w K mg base (L2.CX P w) 9 (ma K "Evening" "redo") (spZ K (rzRedo K)) :=
  fnR_Z T.f_Evening_redo sc_Evening_redo bn_Evening_redo (fun ds Z ⟨_, _, _, h, _⟩ => by rw [h]; rfl) fun cdv A outer s H E0 hr W tk ds Z ⟨p0, fl, log, h, h2⟩ => by
    subst h h2
    have hu := room_u hr
    refine z_ifT (c_eqv (c_eq hu (sh_deeds (l := []) (fun _ z => nomatch z)) sh_nil (d_fld T.s_Evening_its_undone rfl (d_var 0 rfl)) (d_new (d_lstP (ps := []) a_nil (by simp)))) rfl) ?_
    exact z_raise rfl tk (pmk_nothing E.n T.b_super (hr.mono (by decide)) rfl)
end Pr
set_option maxHeartbeats 4000000
/-! Zl: except suites; _law_did. -/
namespace Pr
open PySem PySem.Spec PyProof.Rows L2
/-! ### isinstance of the caught error -/
def rIsE2 (K : PySem.W.Frag) (C a : Addr) (d : Option Addr) : List V → Hp → VK → Prop := fun xs H Q => ∃ (c : V) (cv : Value) (b : Bool), xs = [.ref a, c] ∧ (∀ u, L2.RelV c u → u = cv) ∧ PySem.W.kitOne K (.ref C) cv = some b ∧ (∀ dd, d = some dd → ∃ fs, H dd = some (.xd fs)) ∧ Q (.bl b) H
theorem call_isE2 {X : Cx} {a C : Addr} {oe : Obj} {d : Option Addr} {pn : List (Addr × Obj)} (xc : XcC X.K C) (hz : Zc (.ref C) d oe) (hf : ∃ vs, oe.data = .fields vs) : CallR (X.suite a ((a, oe) :: pn)) (.builtin "isinstance") (rIsE2 X.K C a d) := by
  intro pins s σ H xs us Q I r h
  obtain ⟨c, cv, b, rfl, hcv, ek, hd, q⟩ := h
  obtain ⟨u1, u2, rfl, r1, r2⟩ := vals2 r
  cases r1
  have ec := hcv _ r2
  subst ec
  obtain ⟨hget, _⟩ := I.pin (a, oe) (List.mem_append_left _ List.mem_cons_self)
  obtain ⟨vs, hv⟩ := hf
  obtain ⟨oc, od, oda, osl⟩ := oe
  obtain ⟨h1, h2⟩ := hz
  dsimp only at h1 h2 hv
  subst h1 h2 hv
  have fin : ∀ odd : Option Obj, PySem.W.InstAt s.heap a { cls := .ref C, dict := od, data := .fields vs, slots := osl } C odd → wpAny (model X.prog X.w) (X.suite a ((a, { cls := .ref C, dict := od, data := .fields vs, slots := osl }) :: pn)).A (call (.builtin "isinstance") [.ref a, u2]) (EP (X.suite a ((a, { cls := .ref C, dict := od, data := .fields vs, slots := osl }) :: pn)) pins σ Q) (fun _ _ => False) s := fun odd J =>
    PySem.W.kia_one (PySem.W.kitx_exc xc.cl xc.hg xc.hk xc.hs xc.ha xc.hn xc.ht xc.hm) I.kIn J ek (fun z => nomatch z) fun tk => ⟨.bl b, H, I.kept (t' := tk) fun _ _ z => z, rfl, q⟩
  cases od with
  | none => exact fin none ⟨hget, rfl, rfl, trivial⟩
  | some dd =>
    obtain ⟨fs, ef⟩ := hd dd rfl
    obtain ⟨mA, ⟨o, es, ep, e1, _⟩, _⟩ := (show ObjOk X.prog X.w H s.heap dd (.xd fs) from I.hok dd _ ef)
    exact fin (some o) ⟨hget, rfl, rfl, e1⟩
/-! ### readings with a fact of the heap -/
abbrev Fx := Hp → Prop
structure Stb (F : Fx) : Prop where
  st : ∀ {H H' : Hp}, Same H H' → F H → F H'
def tF (K : PySem.W.Frag) (δ : De) (F : Fx) (d : Dt) : TE := fun σ H Q => EnvD K σ H δ ∧ F H ∧ ∀ v H', Same H H' → Rp K H' v d → Q v H'
def aF (K : PySem.W.Frag) (δ : De) (F : Fx) (ds : List Dt) : TA := fun σ H Q => EnvD K σ H δ ∧ F H ∧ ∀ vs H', Same H H' → RpAll K H' vs ds → Q vs H'
def sF (K : PySem.W.Frag) (δ : De) (F : Fx) (δ' : De) : TS := fun D σ H => EnvD K σ H δ ∧ F H ∧ ∀ σ' H', Same H H' → EnvD K σ' H' δ' → D.nx σ' H'
def oF (K : PySem.W.Frag) (δ : De) (F : Fx) (d : Dt) : TS := fun D σ H => EnvD K σ H δ ∧ F H ∧ ∀ v H', Same H H' → Rp K H' v d → D.rt v H'
section
variable {X : Cx} {δ δ1 : De} {F : Fx} {d d1 : Dt} {ds : List Dt} {ps : List PyData} {e a b c : Expr} {es : List Expr} {st : Stmt} {body rest : List Stmt} {k : Bool} {pos : Pos}
theorem f_D (h : PE X e (tD X.K δ d)) : PE X e (tF X.K δ F d) := PE_imp h fun σ H Q ⟨E, _, q⟩ => ⟨E, q⟩
theorem fa_nil : PA X [] (aF X.K δ F []) := PA_imp pa_nil fun σ H Q ⟨_, _, q⟩ => q [] H (Same.refl H) .nil
theorem fa_cons (S : Stb F) (h : PE X e (tF X.K δ F d)) (hr : PA X es (aF X.K δ F ds)) (hs : starEach (e :: es) X.env = (false, eval e X.env) :: starEach es X.env := by rfl) : PA X (e :: es) (aF X.K δ F (d :: ds)) :=
  PA_imp (pa_cons h hr hs) fun σ H Q ⟨E, f, q⟩ => ⟨E, f, fun v H1 s1 r1 => ⟨E.mono s1, S.st s1 f, fun vs H2 s2 r2 => q (v :: vs) H2 (s1.trans s2) (.cons (r1.mono s2) r2)⟩⟩
theorem f_lst (h : PA X es (aF X.K δ F (ps.map Dt.p))) (hl : ps.length ≤ 1000) : PE X (.List es pos) (tF X.K δ F (.l ps)) :=
  PE_imp (pe_lst h) fun σ H Q ⟨E, f, q⟩ => ⟨E, f, fun vs H' s r => by
    have e := dpAll_length (rpAll_p r)
    exact ⟨Evl.sz_of (by omega), fun p hp => q _ _ (s.trans (same_new hp)) (.p (.lst (SqL.of upd_same) (dpAll_mono (same_new hp) (rpAll_p r))))⟩⟩
theorem f_tup (h : PA X es (aF X.K δ F (ps.map Dt.p))) (hl : ps.length ≤ 1000) {x1} : PE X (.Tuple es x1 pos) (tF X.K δ F (.t ps)) :=
  PE_imp (pe_tup h) fun σ H Q ⟨E, f, q⟩ => ⟨E, f, fun vs H' s r => by
    have e := dpAll_length (rpAll_p r)
    exact ⟨Evl.sz_of (by omega), fun p hp => q _ _ (s.trans (same_new hp)) (.p (.tup (SqT.of upd_same) (fun _ => upd_same) (dpAll_mono (same_new hp) (rpAll_p r))))⟩⟩
theorem f_if (S : Stb F) (hc : PT X c (cD X.K δ k)) (ha : k = true → PE X a (tF X.K δ F d)) (hb : k = false → PE X b (tF X.K δ F d)) : PE X (.IfExp c a b pos) (tF X.K δ F d) := by
  cases k with
  | true => exact PE_imp (pe_ifExp hc (ha rfl) pe_never) fun σ H Q ⟨E, f, q⟩ => ⟨E, fun H' s => ⟨E.mono s, S.st s f, fun v2 H2 s2 r2 => q v2 H2 (s.trans s2) r2⟩⟩
  | false => exact PE_imp (pe_ifExp hc pe_never (hb rfl)) fun σ H Q ⟨E, f, q⟩ => ⟨E, fun H' s => ⟨E.mono s, S.st s f, fun v2 H2 s2 r2 => q v2 H2 (s.trans s2) r2⟩⟩
theorem sF_set (i : Nat) {x : Str} {pos' : Pos} (hN : X.N.Nodup) (hi : X.N[i]? = some x) (hx : Loc X.env.scope x) (he : PE X e (tF X.K δ F d)) (hs : swapsWith e (some (.Name x pos')) pos.line X.env = pure false := by rfl)
    (hf : X.fn x = true ∨ X.env.scope.names.lookup x = some .local := by first | exact .inl rfl | exact .inr rfl | assumption) : PS X (.Assign [.Name x pos'] e pos) (sF X.K δ F (δ.set i (some d))) :=
  PS_imp (ps_set hN hi hx he hs hf) fun D σ H ⟨E, f, q⟩ => ⟨E, f, fun v H' s r => q _ H' s ((E.mono s).set i r)⟩
theorem oF_seq (S : Stb F) (h : PS X st (sF X.K δ F δ1)) (hr : PSs X rest (oF X.K δ1 F d)) : PSs X (st :: rest) (oF X.K δ F d) :=
  PSs_imp (pss_cons h hr) fun D σ H ⟨E, f, q⟩ => ⟨E, f, fun σ' H' s E' => ⟨E', S.st s f, fun v H2 s2 r => q v H2 (s.trans s2) r⟩⟩
theorem oF_ifF (S : Stb F) (hc : PT X c (cD X.K δ false)) (hr : PSs X rest (oF X.K δ F d)) : PSs X (.If c body [] pos :: rest) (oF X.K δ F d) :=
  PSs_imp (pss_cons (ps_if hc pss_never pss_nil) hr) fun D σ H ⟨E, f, q⟩ => ⟨E, fun H' s => ⟨E.mono s, S.st s f, fun v H2 s2 r => q v H2 (s.trans s2) r⟩⟩
theorem oF_ret (h : PE X e (tF X.K δ F d)) : PSs X [.Return (some e) pos] (oF X.K δ F d) := PSs_imp (pss_one (ps_ret h)) fun D σ H h => h
theorem pss_pre {p : Prop} {t : TS} (h : p → PSs X body t) : PSs X body (fun D σ H => p ∧ t D σ H) := ⟨fun pins s σ H D I ⟨hp, q⟩ => (h hp).run pins s σ H D I q⟩
/-- isinstance(e, D) -/
theorem f_isE {Y : Cx} {aa C : Addr} {oe : Obj} {dd : Option Addr} {pn : List (Addr × Obj)} {D : Str} {p q : Pos} (hX : X = Y.suite aa ((aa, oe) :: pn)) (xc : XcC X.K C) (hz : Zc (.ref C) dd oe) (hf : ∃ vs, oe.data = .fields vs) (hF : ∀ H, F H → ∀ d, dd = some d → ∃ fs, H d = some (.xd fs)) (S : Stb F) (hg : Gl X "isinstance") (hm : X.mg "isinstance" = none) (hgD : Gl X D) (hmD : X.mg D = some (.ref (ga X.K D))) (hk : PySem.W.kitOne X.K (.ref C) (.ref (ga X.K D)) = some k)
    (ha : PE X e (tD X.K δ (.r aa))) (hv : bootBuiltins "isinstance" = some (.builtin "isinstance") := by decide +kernel) (hdb : (D == ("__debug__" : Str)) = false := by decide) (hs : starEach [e, .Name D q] X.env = (false, eval e X.env) :: starEach [.Name D q] X.env := by rfl) :
    PE X (.Call (.Name "isinstance" p) [e, .Name D q] [] pos) (tF X.K δ F (.b k)) := by
  subst hX
  exact PE_imp (pe_callB (call_isE2 xc hz hf) hg hm hv (pa_cons ha (pa_cons (pe_glob (v := .ref (ga Y.K D)) hgD hmD rfl hdb) pa_nil) hs) (by decide) (by decide) hs) fun σ H Q ⟨E, f, w⟩ => ⟨E, fun v H1 s1 r1 => by
    cases r1
    exact ⟨.ref (ga Y.K D), .ref (ga Y.K D), k, rfl, fun u h => h, hk, hF H1 (S.st s1 f), w _ _ s1 (.p (.bl _))⟩⟩
/-- e.f -/
theorem f_xf {Y : Cx} {aa C dd : Addr} {oe : Obj} {pn : List (Addr × Obj)} {n : Str} {q : PyData} (hX : X = Y.suite aa ((aa, oe) :: pn)) (xf : XfC X.K C) (hno : PySem.W.findIn X.K (.ref C) n = some none) (hz : Zc (.ref C) (some dd) oe) (hf : ∃ vs, oe.data = .fields vs) (hF : ∀ H, F H → ∃ v, H dd = some (.xd [(n, v)]) ∧ Dp X.K H v q) (S : Stb F) (ha : PE X e (tD X.K δ (.r aa)))
    (hb : attributeBase e n X.env (eval e X.env) = eval e X.env := by rfl) : PE X (.Attribute e n pos) (tF X.K δ F (.p q)) := by
  subst hX
  exact PE_imp (pe_xf xf hno hz hf ha hb) fun σ H Q ⟨E, f, w⟩ => ⟨E, fun v H1 s1 r1 => by
    cases r1
    obtain ⟨v, e1, r⟩ := hF H1 (S.st s1 f)
    exact ⟨rfl, rfl, dd, _, v, rfl, e1, by simp [List.lookup], w v H1 s1 (.p r)⟩⟩
/-- xs.index(y) -/
theorem d_index {o : Expr} {y z : PyData} {j : Nat} {apos : Pos} (hu : X.A.units + 65 < cLine) (sl : SeqAt.shaped (.list ps) = true) (sd : SeqAt.shaped y = true) (hz : ps[j]? = some z) (hzj : PyData.eqv z y = true) (hno : ∀ (m : Nat) (z' : PyData), m < j → ps[m]? = some z' → PyData.eqv z' y = false) (ho : PE X o (tD X.K δ (.l ps))) (he : PE X e (tD X.K δ (.p y)))
    (hbase : attributeBase o "index" X.env (eval o X.env) = eval o X.env := by rfl)
    (hfew : ((backTo pos (starEach [e] X.env)).all (fun x => !x.1) && (backToKw pos (keywordEach [] X.env)).all (fun x => x.1.isSome)
      && decide (([e] : List Expr).length + ([] : List Keyword).length + (if ([] : List Keyword).isEmpty then 0 else 1) < 30)) = true := by rfl)
    (hline : (apos.endLine == pos.line) = true := by rfl) (hst : starEach [e] X.env = (false, eval e X.env) :: starEach [] X.env := by rfl) : PE X (.Call (.Attribute o "index" apos) [e] [] pos) (tD X.K δ (.i (j : Nat))) :=
  PE_imp (pe_bm PySem.F.plainAttrs_list PySem.F.slot_list_index PySem.F.type_list_index (mt_indexD hu) ho (pa_cons he pa_nil hst) hbase hfew hline hst rfl) fun σ H Q ⟨E, w⟩ => ⟨E, fun v H1 s1 r1 => by
    obtain ⟨a, xs, rfl, sq, rr⟩ := dp_lst r1.toDp
    exact ⟨.inl ⟨rfl, _, sq⟩, E.mono s1, fun v2 H2 s2 r2 => ⟨a, v2, y, ps, j, z, rfl, rfl, (Dp.lst (sqL_mono s2 sq) (dpAll_mono s2 rr)).kit, r2.toDp.kit, sl, sd, hz, hzj, hno, w _ _ (s1.trans s2) (.p (.int _))⟩⟩⟩
end
end Pr
set_option maxHeartbeats 4000000
/-! Zm: _law_did. -/
namespace Pr
open PySem PySem.Spec PyProof.Rows L2
variable {P : Program} {w : World} {K : PySem.W.Frag} {mg : Str → Option Value} {base : Heap}
def rxDid : Ms → List Dt → Rs → Prop := fun m ds T => ∃ (e : Addr) (A : Ad) (V : Ev) (t : Deed), okDo V t ∧ m = evM e A V ∧ ds = [.r e, .p t.d] ∧ T = fun d m' => d = .t [.str "told", .none] ∧ m' = evM e A (V.dn t)
theorem f10_law_did (T : Tx K mg) : FnR P w K mg base CX0 10 (ga K "_law_did") (spX K rxDid) :=
  fnR_X T.f_law_did sc_law_did bn_law_did (fun m ds T ⟨_, _, _, _, _, _, h, _⟩ => by rw [h]; rfl) fun cdv A outer s H E hr m ds R ⟨e, Ad, V, t, ho, h, h2, h3⟩ => by
    subst h h2 h3
    refine s_one (ps_try_thru0 (ss_ret (x_tup (A := fun ds m' => ds = [.s "told", .n] ∧ m' = evM e Ad (V.dn t)) ?_ fun ds m1 ⟨h1, h2⟩ => ⟨[.str "told", .none], h1, by simp, rfl, h2⟩)))
    refine xa_imp (xa_dc (x_pure d_str) (xa_1 (T := fun d m' => d = .n ∧ m' = evM e Ad (V.dn t)) (x_meth T.c_Evening T.m_Evening_do (f9_Evening_do T) hr (x_var 0 rfl) (i := 0) rfl (x_pureA (a_cons (d_var 1 rfl) a_nil)) fun ds m1 ⟨h1, h2⟩ => ?_))) fun ds m' ⟨r, ⟨d, ⟨h1, h2⟩, h3⟩, h4⟩ => ⟨by rw [h4, h3, h1], h2⟩
    subst h1 h2
    exact Rf.self ⟨e, Ad, V, t, ho.e, ho.lg, ho.z, ho.d, ho.f, ho.can, rfl, rfl, rfl⟩ fun d m' h => h
theorem sh_bools {bs : List Bool} : SeqAt.shaped (.list (bs.map .bool)) = true := by
  have h2 : ∀ l : List Bool, PyData.depthAll (l.map .bool) ≤ 20 := fun l => by
    induction l with
    | nil => decide
    | cons a l ih => rw [List.map_cons]; unfold PyData.depthAll; exact Nat.max_le.mpr ⟨by simp [PyData.depth], ih⟩
  unfold SeqAt.shaped
  have e1 : PyData.canLay0 (.list (bs.map .bool)) = true := by unfold PyData.canLay0; exact cl_bools bs
  have e2 : PyData.depth (.list (bs.map .bool)) ≤ 64 := by unfold PyData.depth; have := h2 bs; omega
  rw [e1, decide_eq_true e2]; rfl
def rdDidR : RD := fun ds d => ∃ (p0 : Pt) (s : Fl) (log und : List Deed) (t : Deed), t.okE s.n s.m ∧ log.length < 200 ∧ s.n ≤ 100 ∧ s.m ≤ 100 ∧ t.okF s ∧ s.can t = false ∧ ds = [evD p0 s log und, .p t.d] ∧ d = .t [.str "refused", t.d]
theorem f10_law_did_R (T : Tx K mg) (Ez : Tz P K mg) : FnR P w K mg base CX0 10 (ga K "_law_did") (spD K rdDidR) :=
  fnR_D T.f_law_did sc_law_did bn_law_did (fun ds d ⟨_, _, _, _, _, _, _, _, _, _, _, h, _⟩ => by rw [h]; rfl) fun cdv A outer s H E hr ds d ⟨p0, fl, log, und, t, hE, hl, hn, hm, hF, hc, h, h2⟩ => by
    subst h h2
    have hu := room_u hr
    have nd := sc_law_did.nd
    let C := ga K "Refused"
    let δ : De := [some (evD p0 fl log und), some (.p t.d), none, none]
    let FX : Addr → Fx := fun dd H => ∃ v, H dd = some (.xd [("deed", v)]) ∧ Dp K H v t.d
    have FS : ∀ dd, Stb (FX dd) := fun dd => ⟨fun s ⟨v, h1, h2⟩ => ⟨v, s _ _ h1, dp_mono s h2⟩⟩
    refine PSs_imp (pss_one (ps_try_as (Wout := fun _ _ _ _ => False) (c := .ref (ga K "RibbonError")) (tb := fun W => zS K δ W (zF K C "deed" t.d))
      (ts := fun a cls d => fun D σ H => (cls = .ref C ∧ ∃ dd, d = some dd) ∧ ∃ dd, d = some dd ∧ oF K (δ.set 2 (some (.r a))) (FX dd) (.t [.str "refused", t.d]) D σ H)
      rfl rfl nd (i := 2) rfl rfl ⟨rfl, by decide, .inl Ez.g_RibbonError⟩ (fun u s' ⟨_, _, _, _, _, _, _, _, _, _, _, _, _, _, _, _, w⟩ => w.elim) (fun W pn xe tk po => ?_) (fun a oe cls d pn hz hf => ?_))) fun D σ H ⟨En, q⟩ => ⟨En, fun cls d H' s z => ?_⟩
    · refine PSs_imp (pss_one (ps_ret (pe_tup (pa_cons d_str (pa_cons (z_meth T.c_Evening T.m_Evening_do (f9_do_Z T Ez) hr tk ⟨p0, fl, log, und, t, hE, hl, hn, hm, hF, hc, rfl, rfl⟩ (d_var 0 rfl) (a_cons (d_var 1 rfl) a_nil)) pa_nil))))) fun D σ H ⟨En, q⟩ => ⟨En, fun v H1 s1 r1 => ⟨En.mono s1, fun cls d H' s2 z => q cls d H' (s1.trans s2) z⟩⟩
    · refine pss_pre fun ⟨ec, dd, ed⟩ => ?_
      subst ec ed
      refine PSs_imp (t := oF K (δ.set 2 (some (.r a))) (FX dd) (.t [.str "refused", t.d])) ?_ fun D σ H ⟨dd', e', h⟩ => by cases e'; exact h
      have hFx : ∀ H, FX dd H → ∀ d, some dd = some d → ∃ fs, H d = some (.xd fs) := fun H ⟨v, h1, _⟩ d e => by cases e; exact ⟨_, h1⟩
      refine oF_seq (FS dd) (sF_set 3 nd rfl (.inl rfl) (f_lst (ps := [.bool false, .bool true, .bool false]) (fa_cons (FS dd) (f_isE rfl Ez.er hz hf hFx (FS dd) rfl T.b_isinstance rfl Ez.g_NoDeed Ez.r1 (d_var 2 rfl))
        (fa_cons (FS dd) (f_isE rfl Ez.er hz hf hFx (FS dd) rfl T.b_isinstance rfl Ez.r.g Ez.r2 (d_var 2 rfl)) (fa_cons (FS dd) (f_isE rfl Ez.er hz hf hFx (FS dd) rfl T.b_isinstance rfl Ez.g_Full Ez.r3 (d_var 2 rfl)) fa_nil))) (by simp))) ?_
      refine oF_ifF (FS dd) (c_eqv (c_ne hu sh_int sh_int (d_count hu (cl_bools [false, true, false]) sh_bool (d_var 3 rfl) d_bl) d_int) (by decide +kernel)) ?_
      refine oF_ret (f_if (FS dd) (k := false) (c_val (d_ixL (p := .bool false) rfl (d_var 3 rfl) d_int)) (fun z => nomatch z) fun _ => f_tup (ps := [.str "refused", t.d]) (fa_cons (FS dd) (f_D (d_ixL (ps := [.str "none", .str "refused"]) (i := 1) (p := .str "refused") rfl (d_new (d_lstP (ps := [.str "none", .str "refused"]) (a_cons d_str (a_cons d_str a_nil)) (by simp)))
        (d_index (j := 1) (z := .bool true) hu (sh_bools (bs := [false, true, false])) sh_bool rfl (by decide +kernel) (fun m z' hm hz' => ?_) (d_var 3 rfl) d_bl))) (fa_cons (FS dd) (f_xf rfl Ez.xf Ez.deed hz hf (fun H h => h) (FS dd) (d_var 2 rfl)) fa_nil)) (by simp))
      have : m = 0 := by omega
      subst this
      cases hz'
      decide +kernel
    · obtain ⟨ec, dd, v, ed, h1, h2⟩ := z
      subst ec ed
      exact ⟨true, Ez.xr, fun _ a ha => ⟨⟨rfl, dd, rfl⟩, dd, rfl, (En.mono s).set 2 (.r a), ⟨v, h1, h2⟩, fun v2 H2 s2 r => q v2 H2 (s.trans s2) r⟩, fun z => nomatch z⟩
end Pr
set_option maxHeartbeats 4000000
/-! Zn: defs where no repr is under way (repr asks for it); repr; _law_alike. -/
namespace Pr
open PySem PySem.Spec PyProof.Rows L2
/-- a promise where no guard stands -/
def FnG (P : Program) (w : World) (K : PySem.W.Frag) (mg : Str → Option Value) (base : Heap) (k : Nat) (f : Addr) (sp : Sp) : Prop :=
  ∀ (A : Around) (outer : List Env) (s : Shared) (H : Hp) (us : List Value) (vs : List V) (Q : VK) (E : XK), A.guards = some [] → Room k A → Env0 P w K mg base A outer s H → Vals vs us → sp vs H Q E →
    codeAny (model P w) A (.call (.ref f) ⟨us, []⟩) (CR CX0 outer P w H s Q E) s
section
variable {P : Program} {w : World} {K : PySem.W.Frag} {mg : Str → Option Value} {base : Heap} {k j : Nat} {f : Addr} {qual : Str} {st : Stmt} {N ps : List Str} {sp sp' : Sp}
theorem FnG.mono (F : FnG P w K mg base j f sp) (h : j ≤ k) : FnG P w K mg base k f sp := fun A outer s H us vs Q E hg hr => F A outer s H us vs Q E hg (hr.mono h)
theorem FnG.imp (F : FnG P w K mg base k f sp) (h : ∀ vs H Q E, sp' vs H Q E → sp vs H Q E) : FnG P w K mg base k f sp' := fun A outer s H us vs Q E hg hr e0 r hs => F A outer s H us vs Q E hg hr e0 r (h _ _ _ _ hs)
theorem fnG_of (F : FnAt K qual st f) (S : FnScope N ps (defScope st)) (B : BindAt st ps) (len : ∀ vs H Q E, sp vs H Q E → vs.length = ps.length)
    (hbody : ∀ (cdv : Value) (A : Around) (outer : List Env) (s : Shared) (H : Hp) (vs : List V) (Q : VK) (E : XK), A.guards = some [] → Room k (A.deeper (envOfC qual (defScope st) s.heap.objs.size f cdv)) → sp vs H Q E →
      ∃ t, PSs (cxOf CX0 P w K mg base N qual (defScope st) f cdv A outer s H E) (defBody st) t ∧ t { nx := fun _ H' => Q .non H', rt := Q } (L2.start N vs) H) : FnG P w K mg base (k + 1) f sp := by
  obtain ⟨nm, oc, od, kV, doc, pm, an, cdv, ct, osl, lk, hcd⟩ := F.ex
  intro A out s0 H0 us vs Q0 E0 hg hr e0 rv hsp
  have nl := len _ _ _ _ hsp
  have inK : K.In s0.heap := e0.mod.kin.keeps fun b o z => (e0.bs b o z).1
  have nolim : s0.heap.NoLimit := e0.mod.nolimit.keeps fun b o z => (e0.bs b o z).1
  have kinds : ∀ y ∈ ps.zip us, (defScope st).names.lookup y.1 = some .local ∨ ((defScope st).names.lookup y.1 = some .cell ∧ ((cellsFrom (s0.heap.objs.size + 1) (defScope st).names []).lookup y.1).isSome = true) := fun ⟨a, v⟩ hy =>
    (S.par a (List.of_mem_zip hy).1).elim .inl fun q => .inr ⟨q, PySem.W.cellsFrom_some _ _ _ (.inl q)⟩
  refine codeAny_call_function hr.depth (inK _ _ lk) rfl S.co S.gen rfl (PySem.W.codeRec_of inK hcd) ((BindsTo.of_eq (s := s0) (B nm qual kV doc pm an cdv ct us (rv.length.symm.trans nl))) _ _ _ _ ?_)
  refine wpAny_newFunctionEnv_cells S.kind kinds fun env he s1 x => ?_
  subst he
  obtain ⟨t, bt, hq⟩ := hbody cdv A out s0 H0 vs Q0 E0 hg (hr.deeper _) hsp
  have J := inv_start (CX := CX0) (cd := cdv) (qual := qual) (f := f) (E := E0) S hr.hd e0 nl rv x
  refine ⟨nolim.keeps x.toInCall.keep, codeAny_func (wpAny_mono (bt.run [] s1 (L2.start N vs) H0 _ J hq) (fun fl s2 hs => ?_) fun e s2 hs => hs)⟩
  cases fl with
  | brk => exact hs.elim fun _ z => z.elim fun _ z => False.elim z.2
  | cont => exact hs.elim fun _ z => z.elim fun _ z => False.elim z.2
  | next => obtain ⟨σ2, H2, J2, q2⟩ := hs; exact ⟨V.non, H2, J2.os, J2.bare, J2.base, J2.hok, rfl, q2⟩
  | ret u => obtain ⟨v2, σ2, H2, J2, r2, q2⟩ := hs; exact ⟨v2, H2, J2.os, J2.bare, J2.base, J2.hok, r2, q2⟩
theorem fnG_frame (F : FnG P w K mg base k f sp) : FnG P w K mg base k f (frSp sp) := fun A outer s H us vs Q E hg hr e0 r ⟨G, o, h⟩ => by
  refine codeAny_mono (F A outer s (mn H G) us vs _ E hg hr ⟨e0.frames, e0.mod, fun b ob e => ⟨(e0.bs b ob e).1, ?_⟩, e0.bsz, e0.funs, fun b hb => ?_, hok_forget e0.hok o, e0.bare⟩ r h) fun r s' hq => ?_
  · by_cases z : b ∈ G
    · exact mn_in z
    · rw [mn_out z]; exact (e0.bs b ob e).2
  · by_cases z : b ∈ G
    · exact mn_in z
    · rw [mn_out z]; exact e0.frf b hb
  · cases r with
    | error e => exact hq
    | ok fl =>
      cases fl with
      | ret u => exact ce_frame e0.hok e0.frf o hq
      | next => exact hq
      | brk => exact hq
      | cont => exact hq
theorem fnXG_frame {F : Ms → List Dt → Rs → Prop} (h : FnG P w K mg base k f (spX K F)) : FnG P w K mg base k f (spX K (Rf F)) :=
  (fnG_frame h).imp fun vs H Q E ⟨m, ds, T, ⟨ma, mb, T', pm, hf, ht⟩, M, r, q⟩ => by
    have M' := M.perm pm
    have e := mn_perm (H := H) (perm_dm pm)
    rw [e] at r
    have fo : Fo H (dm mb) := M'.foS fun a ha => by rw [dm_append]; exact List.mem_append_right _ ha
    refine ⟨dm mb, fo, ma, ds, T', hf, M'.left, by rw [← mn_app]; exact r, fun v d m' H1 t M1 c1 r1 H2 b => ?_⟩
    obtain ⟨h1, h2⟩ := M'.join M1 b.non c1
    rw [← b.is] at h1 h2
    refine q v d (m' ++ mb) H2 (ht _ _ t) h1 ?_ (by rw [h2]; exact r1)
    show Same _ _
    rw [h2, e, mn_app]
    exact c1
theorem fnG_X {F : Ms → List Dt → Rs → Prop} (Fa : FnAt K qual st f) (S : FnScope N ps (defScope st)) (B : BindAt st ps) (hl : ∀ m ds T, F m ds T → ds.length = ps.length)
    (hbody : ∀ (cdv : Value) (A : Around) (outer : List Env) (s : Shared) (H : Hp) (E : XK), A.guards = some [] → Room k (A.deeper (envOfC qual (defScope st) s.heap.objs.size f cdv)) → ∀ m ds T, F m ds T →
      PSs (cxOf CX0 P w K mg base N qual (defScope st) f cdv A outer s H E).nox (defBody st) (xS K (ds.map some ++ List.replicate (N.length - ds.length) none) m (fun _ m' => T .n m') T)) : FnG P w K mg base (k + 1) f (spX K F) := by
  refine fnG_of Fa S B (fun vs H Q E ⟨m, ds, T, h, _, r, _⟩ => r.length.trans (hl m ds T h)) fun cdv A outer s H vs Q E hg hr ⟨m, ds, T, h, M, r, q⟩ => ⟨_, (hbody cdv A outer s H E hg hr m ds T h).nox, ?_⟩
  have hpl : ps.length ≤ N.length := by have := congrArg List.length S.pre; rw [List.length_take] at this; omega
  exact ⟨M, envD_start r (by rw [r.length, hl m ds T h]; exact hpl), fun σ' δ' m' H' n M' c E' => q .non .n m' H' n M' c (.p .non), q⟩
theorem fnG_D {R : RD} (F : FnAt K qual st f) (S : FnScope N ps (defScope st)) (B : BindAt st ps) (hl : ∀ ds d, R ds d → ds.length = ps.length)
    (hbody : ∀ (cdv : Value) (A : Around) (outer : List Env) (s : Shared) (H : Hp) (E : XK), A.guards = some [] → Room k (A.deeper (envOfC qual (defScope st) s.heap.objs.size f cdv)) → ∀ ds d, R ds d →
      PSs (cxOf CX0 P w K mg base N qual (defScope st) f cdv A outer s H E).nox (defBody st) (sO K (ds.map some ++ List.replicate (N.length - ds.length) none) (oD K d))) : FnG P w K mg base (k + 1) f (spD K R) := by
  refine fnG_of F S B (fun vs H Q E ⟨ds, d, r, h, _⟩ => r.length.trans (hl ds d h)) fun cdv A outer s H vs Q E hg hr ⟨ds, d, r, h, q⟩ => ⟨_, (hbody cdv A outer s H E hg hr ds d h).nox, ?_⟩
  have hpl : ps.length ≤ N.length := by have := congrArg List.length S.pre; rw [List.length_take] at this; omega
  exact ⟨envD_start r (by rw [r.length, hl ds d h]; exact hpl), q⟩
end
section
variable {X : Cx} {pins : List (Addr × Obj)} {σ : L2.St} {H : Hp} {s : Shared}
theorem run_fnG {k : Nat} {f : Addr} {sp : Sp} {E : XK} {Q : VK} {us : List Value} {vs : List V} (F : FnG X.prog X.w X.K X.mg X.base k f sp) (hg : X.A.guards = some []) (hr : Room k X.A) (I : Inv X pins σ H s) (r : Vals vs us) (h : sp vs H Q E) :
    codeAny (model X.prog X.w) X.A (.call (.ref f) ⟨us, []⟩) (fun r s' => match r with | .ok (.ret v) => EP X pins σ Q v s' | .ok _ => False | .error e => X.xe e s') s := by
  refine codeAny_mono (F X.A X.stack s H us vs Q E hg hr I.env0 r h) fun r s' hq => ?_
  cases r with
  | error e => exact pass0 pins σ H s e s' I hq
  | ok fl =>
    cases fl with
    | brk => exact hq.elim
    | cont => exact hq.elim
    | next => exact hq.elim
    | ret u => exact I.after hq
end
section
variable {X : Cx} {δ : De} {m : Ms} {A : List Dt → Ms → Prop} {T : Rs} {k : Nat} {f : Addr} {x : Str} {p pos : Pos} {e : Expr} {es : List Expr} {sp : Sp} {E : XK} {t : TA}
theorem pe_callG (F : FnG X.prog X.w X.K X.mg X.base k f sp) (hgu : X.A.guards = some []) (hr : Room k X.A) (hg : Gl X x) (hm : X.mg x = some (.ref f)) (hk : PySem.W.keepIn X.K (.ref f) = true) (ha : PA X (e :: es) t) (hdb : (x == ("__debug__" : Str)) = false := by decide)
    (he : starEach (e :: es) X.env = (false, eval e X.env) :: starEach es X.env := by rfl) (hpl : (backTo pos (starEach es X.env)).any (·.1) = false := by rfl) : PE X (.Call (.Name x p) (e :: es) [] pos) (fun σ H Q => t σ H fun vs H1 => sp vs H1 Q E) :=
  ⟨fun pins s σ H Q I h => wpAny_Call_Name_kw (ld_glob I hg hm (PySem.W.callWith_K (h₀ := X.base) I.ok.mod.kin hk (thn (ha.run pos pins s σ H _ I h) fun us s1 ⟨vs, H1, I1, r, q⟩ => ⟨I1.kIn, wpAny_call (run_fnG F hgu hr I1 r q)⟩) he hpl) hdb)⟩
theorem x_callG {F : Ms → List Dt → Rs → Prop} (hF : FnG X.prog X.w X.K X.mg X.base k f (spX X.K F)) (hgu : X.A.guards = some []) (hr : Room k X.A) (hg : Gl X x) (hm : X.mg x = some (.ref f)) (hk : PySem.W.keepIn X.K (.ref f) = true) (ha : PA X (e :: es) (xA X.K δ m A)) (hR : ∀ ds m1, A ds m1 → Rf F m1 ds T)
    (hdb : (x == ("__debug__" : Str)) = false := by decide) (he : starEach (e :: es) X.env = (false, eval e X.env) :: starEach es X.env := by rfl) (hpl : (backTo pos (starEach es X.env)).any (·.1) = false := by rfl) : PE X (.Call (.Name x p) (e :: es) [] pos) (xE X.K δ m T) :=
  PE_imp (pe_callG (E := fun _ _ _ => False) (fnXG_frame hF) hgu hr hg hm hk ha hdb he hpl) fun σ H Q ⟨M, E, q⟩ => ⟨M, E, fun vs ds m1 H1 t M1 c1 r1 => ⟨m1, ds, T, hR ds m1 t, M1, r1, fun v d m' H' t' M' c' r' => q v d m' H' t' M' (c1.trans c') r'⟩⟩
theorem d_callG {R : RD} {ds : List Dt} {d : Dt} (F : FnG X.prog X.w X.K X.mg X.base k f (spD X.K R)) (hgu : X.A.guards = some []) (hr : Room k X.A) (hg : Gl X x) (hm : X.mg x = some (.ref f)) (hk : PySem.W.keepIn X.K (.ref f) = true) (hR : R ds d) (ha : PA X (e :: es) (aD X.K δ ds)) (hdb : (x == ("__debug__" : Str)) = false := by decide)
    (he : starEach (e :: es) X.env = (false, eval e X.env) :: starEach es X.env := by rfl) (hpl : (backTo pos (starEach es X.env)).any (·.1) = false := by rfl) : PE X (.Call (.Name x p) (e :: es) [] pos) (tD X.K δ d) :=
  PE_imp (pe_callG (E := fun _ _ _ => False) F hgu hr hg hm hk ha hdb he hpl) fun σ H Q ⟨En, q⟩ => ⟨En, fun vs H1 s r => ⟨ds, d, r, hR, fun v H' s2 rv => q v H' (s.trans s2) rv⟩⟩
end
/-! ### repr -/
/-- a tuple or a list that repr can tell -/
structure Tell (p : PyData) : Prop where
  sh : SeqAt.shaped p = true
  ok : p.showable = true
  sz : p.shown.length ≤ 15728653
  seq : ∃ l, p = .tuple l ∨ p = .list l
section
variable {X : Cx} {δ : De} {p : PyData}
theorem call_repr (hg : X.A.guards = some []) (hu : X.A.units + 65 < cLine) (ht : Tell p) : CallR X (.builtin "repr") (fun xs H Q => ∃ v, xs = [v] ∧ Dp X.K H v p ∧ Q (.str p.shown) H) := by
  intro pins s σ H xs us Q I r h
  obtain ⟨v, rfl, dp, q⟩ := h
  obtain ⟨u, rfl, ru⟩ := vals1 r
  obtain ⟨as, rd⟩ := L2.Dp.reads I p v u dp.kit ru
  have c : ∃ a, u = Value.ref a := by
    obtain ⟨l, e | e⟩ := ht.seq <;> subst e
    · obtain ⟨a, xs, rfl, _⟩ := dp_tup dp
      exact ⟨a, ru⟩
    · obtain ⟨a, xs, rfl, _⟩ := dp_lst dp
      exact ⟨a, ru⟩
  obtain ⟨a, rfl⟩ := c
  have nd := PyData.hasDict_of_canLay p (SeqAt.canLay_of_shaped ht.sh)
  have dd := SeqAt.depth_of_shaped ht.sh
  exact repr_of_reads' rd ht.ok (PyData.noDict_hsm nd) hg (by omega) (fun b o z => z) (fun h' u' tk hk => ⟨.str p.shown, H, I.kept hk, ⟨_, rfl⟩, q⟩) (Nat.le_trans ht.sz (by rw [sizeLine_eq]; decide))
theorem d_repr {e : Expr} {p' pos : Pos} (hgu : X.A.guards = some []) (hu : X.A.units + 65 < cLine) (ht : Tell p) (hg : Gl X "repr") (hm : X.mg "repr" = none) (ha : PA X [e] (aD X.K δ [.p p]))
    (he : starEach [e] X.env = (false, eval e X.env) :: starEach [] X.env := by rfl) (hpl : (backTo pos (starEach [] X.env)).any (·.1) = false := by rfl) : PE X (.Call (.Name "repr" p') [e] [] pos) (tD X.K δ (.s p.shown)) :=
  d_callB (call_repr hgu hu ht) (fun vs H Q r q => by
    obtain ⟨v, rfl, rv⟩ := rpAll_1 r
    exact ⟨v, rfl, rv.toDp, q _ H (Same.refl H) (.p (.str _))⟩) hg hm boot_repr ha (by decide) (by decide) he hpl
end
variable {P : Program} {w : World} {K : PySem.W.Frag} {mg : Str → Option Value} {base : Heap}
def rdAlike : RD := fun ds d => ∃ p, Tell p ∧ ds = [.p p, .p p] ∧ d = .b true
theorem f1_law_alike (T : Tx K mg) : FnG P w K mg base 1 (ga K "_law_alike") (spD K rdAlike) :=
  fnG_D T.f_law_alike sc_law_alike bn_law_alike (fun ds d ⟨_, _, h, _⟩ => by rw [h]; rfl) fun cdv A outer s H E hg hr ds d ⟨p, ht, h, h2⟩ => by
    subst h h2
    have hu := room_u hr
    have e1 := SeqAt.eqv_refl p (SeqAt.canLay_of_shaped ht.sh)
    refine q_retE (d_and (k1 := true) (k2 := true) (d_eqv (d_eq hu ht.sh ht.sh (d_var 0 rfl) (d_var 1 rfl)) (by rw [e1])) fun _ => d_one (d_cmp op_eq (fun x y H Q r1 r2 q => ?_) (nomark _) (d_repr hg hu ht rfl T.b_repr (a_cons (d_var 0 rfl) a_nil)) (d_repr hg hu ht rfl T.b_repr (a_cons (d_var 1 rfl) a_nil)))) rfl
    rw [r1.s_inv, r2.s_inv]
    exact ⟨rfl, q _ H (Same.refl H) (by rw [decide_eq_true rfl]; exact .p (.bl _))⟩
end Pr
set_option maxHeartbeats 4000000
/-! Zo: slices with a step; lists of the memory under == and subscripts; _law_turned_back. -/
namespace Pr
open PySem PySem.Spec PyProof.Rows L2
section
variable {X : Cx} {δ δ' : De} {m : Ms} {T T1 : Rs} {a b e st : Expr} {es : List Expr} {ds : List Dt} {d1 d2 : Dt} {te ts : TE} {k : Int} {pos p3 : Pos} {i : Nat} {ad : Addr} {ps : List PyData} {q : PyData}
theorem d_li (h : PA X es (aD X.K δ ds)) (hl : ds.length ≤ 1000 := by decide) : PE X (.List es pos) (tD X.K δ (.li ds)) :=
  PE_imp (pe_lst h) fun σ H Q ⟨E, z⟩ => ⟨E, fun vs H1 s1 r1 => by
    have el := r1.length
    exact ⟨Evl.sz_of (by omega), fun p hp => z _ _ (s1.trans (same_new hp)) (.li (SqL.of upd_same) (r1.mono (same_new hp)))⟩⟩
def stepV (k : Int) (xs : List V) : List V := if k = 1 then xs else xs.reverse
theorem pick2 {its : List Value} (h : its.length = 2) {k : Int} (hk : k = 1 ∨ k = -1) : slicePick its.toArray none none (some k) = (if k = 1 then its else its.reverse).toArray := by
  match its, h with
  | [x, y], _ =>
    rcases hk with e | e
    · subst e
      have e1 : sliceBounds none none (some 1) 2 = (0, 2, 1) := by decide +kernel
      have e2 : sliceRange 0 2 1 = [0, 1] := by decide +kernel
      unfold slicePick
      show ((sliceRange (sliceBounds none none (some 1) 2).1 (sliceBounds none none (some 1) 2).2.1 (sliceBounds none none (some 1) 2).2.2).filterMap (#[x, y][·]?)).toArray = _
      rw [e1]
      show ((sliceRange 0 2 1).filterMap (#[x, y][·]?)).toArray = _
      rw [e2]; rfl
    · subst e
      rw [PySem.W.krv_pick]; rfl
/-- xs[::k], two items, k 1 or -1 -/
theorem pe_stepL (he : PE X e te) (hst : PE X st ts) : PE X (.Subscript e (.Slice none none (some st) p3) pos) (fun σ H Q => te σ H fun x H1 => tPart ts σ H1 fun o H2 => ∃ a xs k, o = some k ∧ x = .ref a ∧ SqL X.K H2 a xs ∧ xs.length = 2 ∧ (k = 1 ∨ k = -1) ∧ ∀ p, H2 p = none → Q (.ref p) (upd H2 p (.lst (stepV k xs)))) := by
  refine ⟨fun pins s σ H Q I h => ?_⟩
  refine Subscript_ (thn (he.run pins s σ H _ I h) fun v s1 ⟨x, H1, I1, r1, q1⟩ => ?_)
  refine wpAny_Slice (thn (po_none.run pins s1 σ H1 (fun o H2 => o = none ∧ H2 = H1) I1 ⟨rfl, rfl⟩) fun vl s2 ⟨l, H2, I2, pl, el, e2⟩ => ?_)
  subst el e2
  refine thn (po_none.run pins s2 σ H2 (fun o H3 => o = none ∧ H3 = H2) I2 ⟨rfl, rfl⟩) fun vu s3 ⟨u, H3, I3, pu, eu, e3⟩ => ?_
  subst eu e3
  refine thn ((po_some hst).run pins s3 σ H3 _ I3 q1) fun vs s4 ⟨o, H4, I4, pst, a, xs, k, eo, ex, hx, h2, hk, q⟩ => ?_
  subst eo ex
  cases r1
  have I5 : Inv X pins σ H4 { s4 with heap := s4.heap.push { cls := .type "slice", data := .fields #[vl, vu, vs] } } := I4.kept (t' := s4.toks) fun b ob q => Heap.get?_push_of_some _ q
  obtain ⟨its, r, ht, hz⟩ := I5.list hx
  have hlen := r.length
  show wpAny (model X.prog X.w) X.A (subscriptTail e (.Slice none none (some st) p3) (.ref a) (.ref s4.heap.objs.size)) (EP X pins σ Q) X.xe { s4 with heap := s4.heap.push { cls := .type "slice", data := .fields #[vl, vu, vs] } }
  refine tail_any (ops := [.ref a, .ref s4.heap.objs.size]) ht.isList.typeIs (PySem.slot_list_getitem.lookup) ?_ (by with_unfolding_all rfl)
  refine wpAny_getItem_list_slice ht.isList (Heap.IsSliceOf.new _ vl vu vs) pl pu pst (by rcases hk with e | e <;> subst e <;> decide) ?_ (by rw [List.size_toArray]; omega)
  rw [pick2 (by omega) hk]
  refine ⟨.ref _, _, I5.laid (t' := s4.toks) (o := .lst (stepV k xs)) (fun b ob q => Heap.get?_push_of_some _ q) (Nat.le_refl _) ?_, rfl, q _ (I5.hok.fresh (Nat.le_refl _))⟩
  refine ⟨?_, _, 0, ?_, Heap.get?_push_size _ rfl⟩
  · unfold stepV; split
    · exact hz
    · rw [List.length_reverse]; exact hz
  · unfold stepV; split
    · exact r
    · exact r.reverse
theorem d_step2 (hk : k = 1 ∨ k = -1) (ha : PE X a (tD X.K δ (.li [d1, d2]))) (hb : PE X b (tD X.K δ (.i k))) : PE X (.Subscript a (.Slice none none (some b) p3) pos) (tD X.K δ (.li (if k = 1 then [d1, d2] else [d2, d1]))) :=
  PE_imp (pe_stepL ha hb) fun σ H Q ⟨E, z⟩ => ⟨E, fun v H1 s1 r1 => ⟨E.mono s1, fun w H2 s2 r2 => by
    obtain ⟨l, xs, rfl, sl, rr⟩ := r1.li_inv
    have e := r2.i_inv
    subst e
    obtain ⟨x, y, rfl, ra, rb⟩ := rpAll_2 rr
    refine ⟨k, rfl, l, [x, y], k, rfl, rfl, sqL_mono s2 sl, rfl, hk, fun p hp => z _ _ ((s1.trans s2).trans (same_new hp)) (.li (SqL.of upd_same) ?_)⟩
    have ra' := (ra.mono s2).mono (same_new (o := .lst (stepV k [x, y])) hp)
    have rb' := (rb.mono s2).mono (same_new (o := .lst (stepV k [x, y])) hp)
    unfold stepV at ra' rb' ⊢
    rcases hk with e | e
    · subst e; exact .cons ra' (.cons rb' .nil)
    · subst e; exact .cons rb' (.cons ra' .nil)⟩⟩
/-- a list of the memory == a plain value -/
theorem xt_eqL (hu : X.A.units + 65 < cLine) (h1 : SeqAt.shaped (.list ps) = true) (h2 : SeqAt.shaped q = true) (hi : m[i]? = some (ad, .l ps)) (ha : PE X a (tD X.K δ (.r ad))) (hb : PE X b (tD X.K δ (.p q))) (hm : behindInMarks .Eq b = false := by exact nomark _) :
    PT X (.Compare a [.Eq] [b] pos) (xT X.K δ m fun k m' => k = PyData.eqv (.list ps) q ∧ m' = m) :=
  PT_imp (pt_cmpR (op_eqD (by omega)) (x_pure (m := m) ha) (x_pure (m := m) hb) hm) fun σ H Q ⟨M, E, z⟩ => ⟨M, E, fun v d m1 H1 ⟨e1, e2⟩ M1 c1 r1 => by
    subst e1 e2
    refine ⟨M1, E.mono c1, fun w dd m2 H2 ⟨e1, e2⟩ M2 c2 r2 => ?_⟩
    subst e1 e2
    cases r1
    obtain ⟨xs, x1, x2⟩ := M2.at hi
    exact ⟨.list ps, q, (Dp.lst (SqL.of x1) (dpAll_mono (mn_same _ _) x2)).kit, (r2.mono (mn_same _ _)).toDp.kit, h1, h2, _, rfl, z _ _ H2 ⟨rfl, rfl⟩ M2 (c1.trans c2)⟩⟩
/-- xs[n], xs a list of the memory -/
theorem x_ixM {n : Int} (hi : m[i]? = some (ad, .l ps)) (hq : atI ps n = some q) (hn : noL q = true) (ha : PE X a (tD X.K δ (.r ad))) (hb : PE X b (tD X.K δ (.i n))) (hs : PlainIx b := by intro _ _; rfl) :
    PE X (.Subscript a b pos) (xE X.K δ m fun d' m' => d' = .p q ∧ m' = m) :=
  PE_imp (pe_ix ix_list (x_pure (m := m) ha) (x_pure (m := m) hb) hs) fun σ H Q ⟨M, E, z⟩ => ⟨M, E, fun v d m1 H1 ⟨e1, e2⟩ M1 c1 r1 => by
    subst e1 e2
    refine ⟨M1, E.mono c1, fun w dd m2 H2 ⟨e1, e2⟩ M2 c2 r2 => ?_⟩
    subst e1 e2
    cases r1
    obtain ⟨xs, x1, x2⟩ := M2.at hi
    exact r2_ixL (K := X.K) hq (.ref ad) w H2 Q (.p (.lst (SqL.of x1) (dpAll_mono (mn_same _ _) x2))) (r2.mono (mn_same _ _)) fun y H3 s3 r3 => z y _ m2 H3 ⟨rfl, rfl⟩ (M2.same s3) ((c1.trans c2).trans (.of s3)) (.p (dp_tl (tl_mn (M2.same s3).fo.all) hn r3.toDp))⟩
end
end Pr
set_option maxHeartbeats 4000000
/-! Zp: what repr can tell: bounds. -/
namespace Pr
open PySem PySem.Spec PyProof.Rows L2
structure Te (k n : Nat) (p : PyData) : Prop where
  cl : PyData.canLay0 p = true
  ok : p.showable = true
  is : p.intsShort 13 = true
  dp : p.depth ≤ k
  wt : p.weight ≤ n
structure TeA (k n : Nat) (ps : List PyData) : Prop where
  cl : PyData.canLayAll0 ps = true
  ok : PyData.showableAll ps = true
  is : PyData.intsShortAll 13 ps = true
  dp : PyData.depthAll ps ≤ k
  wt : PyData.weightAll ps ≤ n
theorem Te.mono {k n k' n' : Nat} {p : PyData} (h : Te k n p) (h1 : k ≤ k') (h2 : n ≤ n') : Te k' n' p := ⟨h.cl, h.ok, h.is, Nat.le_trans h.dp h1, Nat.le_trans h.wt h2⟩
theorem TeA.nil {k : Nat} : TeA k 0 [] := ⟨rfl, rfl, rfl, by unfold PyData.depthAll; omega, Nat.le_refl _⟩
theorem TeA.cons {k n n' : Nat} {p : PyData} {ps : List PyData} (h : Te k n p) (t : TeA k n' ps) : TeA k (n + 1 + n') (p :: ps) := by
  refine ⟨?_, ?_, ?_, ?_, ?_⟩
  · unfold PyData.canLayAll0; rw [h.cl, t.cl]; rfl
  · unfold PyData.showableAll; rw [h.ok, t.ok]; rfl
  · unfold PyData.intsShortAll; rw [h.is, t.is]; rfl
  · unfold PyData.depthAll; exact Nat.max_le.mpr ⟨h.dp, t.dp⟩
  · unfold PyData.weightAll; have := h.wt; have := t.wt; omega
theorem TeA.map {α : Type} {k n : Nat} {f : α → PyData} : ∀ {l : List α}, (∀ a ∈ l, Te k n (f a)) → TeA k (l.length * (n + 1)) (l.map f)
  | [], _ => by rw [List.length_nil, Nat.zero_mul]; exact .nil
  | a :: l, h => by
    have t := (h a List.mem_cons_self)
    have r := TeA.map (l := l) fun x hx => h x (List.mem_cons_of_mem _ hx)
    have q := TeA.cons t r
    rw [List.map_cons, List.length_cons, Nat.add_mul, Nat.one_mul, Nat.add_comm]
    exact q
theorem TeA.list {k n : Nat} {ps : List PyData} (h : TeA k n ps) : Te (k + 1) n (.list ps) := by
  refine ⟨?_, ?_, ?_, ?_, ?_⟩
  · unfold PyData.canLay0; exact h.cl
  · unfold PyData.showable; exact h.ok
  · unfold PyData.intsShort; exact h.is
  · unfold PyData.depth; have := h.dp; omega
  · unfold PyData.weight; exact h.wt
theorem TeA.tuple {k n : Nat} {ps : List PyData} (h : TeA k n ps) : Te (k + 1) n (.tuple ps) := by
  refine ⟨?_, ?_, ?_, ?_, ?_⟩
  · unfold PyData.canLay0; exact h.cl
  · unfold PyData.showable; exact h.ok
  · unfold PyData.intsShort; exact h.is
  · unfold PyData.depth; have := h.dp; omega
  · unfold PyData.weight; exact h.wt
theorem te_str {x : Str} {n : Nat} (h : PyData.strOk x = true) (hn : x.cps.size ≤ n) : Te 0 n (.str x) := ⟨by unfold PyData.canLay0; exact h, rfl, rfl, Nat.le_refl _, hn⟩
theorem te_bool {b : Bool} : Te 0 0 (.bool b) := ⟨rfl, rfl, rfl, Nat.le_refl _, Nat.le_refl _⟩
theorem te_none : Te 0 0 .none := ⟨rfl, rfl, rfl, Nat.le_refl _, Nat.le_refl _⟩
theorem te_int64 : ∀ i : Fin 64, PyData.showable (.int (i.1 : Int)) = true ∧ PyData.intsShort 13 (.int (i.1 : Int)) = true ∧ PyData.weight (.int (i.1 : Int)) ≤ 6 := by decide +kernel
theorem te_int {i : Nat} (h : i < 64) : Te 0 6 (.int (i : Int)) := by
  obtain ⟨h1, h2, h3⟩ := te_int64 ⟨i, h⟩
  exact ⟨rfl, h1, h2, Nat.le_refl _, h3⟩
theorem te_mt {a : Mt} (h : a.sm) : Te 1 21 a.d := by
  obtain ⟨h1, h2, h3⟩ := h
  exact (TeA.tuple (.cons (te_int h1) (.cons (te_int h2) (.cons (te_int h3) .nil))))
theorem len_op (o : Fin 3) : (opN o).cps.size ≤ 6 := by
  match o with
  | 0 => decide +kernel
  | 1 => decide +kernel
  | 2 => decide +kernel
theorem len_rd (o : Fin 5) : (rdN o).cps.size ≤ 6 := by
  match o with
  | 0 => decide +kernel
  | 1 => decide +kernel
  | 2 => decide +kernel
  | 3 => decide +kernel
  | 4 => decide +kernel
def ptB : Nat → Nat
  | 0 => 230
  | k + 1 => 2 * ptB k + 20
theorem ptB_ge : ∀ k, 230 ≤ ptB k
  | 0 => Nat.le_refl _
  | k + 1 => by have := ptB_ge k; show 230 ≤ 2 * ptB k + 20; omega
theorem te_pt : ∀ (k : Nat) (p : Pt), p.ok → p.deep ≤ k → Te (k + 1) (ptB k) p.data
  | k, .always b, _, _ => (TeA.tuple (.cons (te_str strOk_w.1 (Nat.le_refl _)) (.cons te_bool .nil))).mono (by omega) (Nat.le_trans (by decide +kernel) (ptB_ge k))
  | k, .word r e a, h, _ => (TeA.tuple (.cons (te_str (strOk_rdN r) (len_rd r)) (.cons (te_str (n := 100) strOk_bitS (by have := bitS_len (l := e); have := h.1; unfold Str.length at *; omega)) (.cons (te_str (n := 100) strOk_bitS (by have := bitS_len (l := a); have := h.2.1; unfold Str.length at *; omega)) .nil)))).mono (by omega) (by have := ptB_ge k; omega)
  | k + 1, .no p, h, hd => (TeA.tuple (.cons ((te_str (n := 3) strOk_w.2.1 (by decide +kernel)).mono (Nat.zero_le _) (Nat.le_refl _)) (.cons (te_pt k p h (by have : p.deep + 1 ≤ k + 1 := hd; omega)) .nil))).mono (Nat.le_refl _) (by show _ ≤ 2 * ptB k + 20; omega)
  | k + 1, .two o p q, h, hd => (TeA.tuple (.cons ((te_str (strOk_opN o) (len_op o)).mono (Nat.zero_le _) (Nat.le_refl _)) (.cons (te_pt k p h.1 (by have : max p.deep q.deep + 1 ≤ k + 1 := hd; omega)) (.cons (te_pt k q h.2 (by have : max p.deep q.deep + 1 ≤ k + 1 := hd; omega)) .nil)))).mono (Nat.le_refl _) (by show _ ≤ 2 * ptB k + 20; omega)
  | 0, .no p, _, hd => absurd hd (Nat.not_succ_le_zero _)
  | 0, .two o p q, _, hd => absurd hd (Nat.not_succ_le_zero _)
/-- a deed that can be told -/
def Deed.tl : Deed → Prop
  | .rule p => p.ok ∧ p.deep ≤ 2
  | .lay a => a.sm
  | .take a => a.sm
theorem te_deed {t : Deed} (h : t.tl) : Te 4 1000 t.d := by
  match t, h with
  | .rule p, h => exact (TeA.tuple (.cons ((te_str (n := 4) strOk_w.2.2.1 (by decide +kernel)).mono (Nat.zero_le _) (Nat.le_refl _)) (.cons (te_pt 2 p h.1 h.2) .nil))).mono (by omega) (by decide)
  | .lay a, h => exact (TeA.tuple (.cons ((te_str (n := 4) strOk_w.2.2.2.1 (by decide +kernel)).mono (Nat.zero_le _) (Nat.le_refl _)) (.cons (te_mt h) .nil))).mono (by omega) (by omega)
  | .take a, h => exact (TeA.tuple (.cons ((te_str (n := 4) strOk_w.2.2.2.2 (by decide +kernel)).mono (Nat.zero_le _) (Nat.le_refl _)) (.cons (te_mt h) .nil))).mono (by omega) (by omega)
theorem Te.tell {k n : Nat} {p : PyData} (h : Te k n p) (h1 : k ≤ 64) (h2 : n ≤ 1048576) (hs : ∃ l, p = .tuple l ∨ p = .list l) : Tell p := by
  have d1 := decide_eq_true (Nat.le_trans h.dp h1)
  have d2 : decide (p.weight ≤ 2 ^ 20) = true := decide_eq_true (Nat.le_trans h.wt h2)
  refine ⟨?_, h.ok, shown_le13 ?_ h.is, hs⟩
  · unfold SeqAt.shaped; rw [h.cl, d1]; rfl
  · unfold PyData.layable0; rw [h.cl, d1, d2]; rfl
theorem tell_told {t : Deed} (h : t.tl) : Tell (.tuple [.str "told", t.d]) :=
  (TeA.tuple (.cons ((te_str (x := "told") (n := 4) (by decide +kernel) (by decide +kernel)).mono (Nat.zero_le _) (Nat.le_refl _)) (.cons (te_deed h) .nil))).tell (by decide) (by decide) ⟨_, .inl rfl⟩
theorem tell_refused {t : Deed} (h : t.tl) : Tell (.tuple [.str "refused", t.d]) :=
  (TeA.tuple (.cons ((te_str (x := "refused") (n := 7) (by decide +kernel) (by decide +kernel)).mono (Nat.zero_le _) (Nat.le_refl _)) (.cons (te_deed h) .nil))).tell (by decide) (by decide) ⟨_, .inl rfl⟩
theorem tell_none : Tell (.tuple [.str "told", .none]) :=
  (TeA.tuple (.cons ((te_str (x := "told") (n := 4) (by decide +kernel) (by decide +kernel)).mono (Nat.zero_le _) (Nat.le_refl _)) (.cons te_none .nil))).tell (by decide) (by decide) ⟨_, .inl rfl⟩
theorem tell_sum {a b c d : Nat} (h0 : a ≤ 200) (k1 : b ≤ 1000) (k2 : c ≤ 1000) (k3 : d ≤ 1000) : a * (1000 + 1) + 1 + (b * (21 + 1) + 1 + (c * (21 + 1) + 1 + (d * (21 + 1) + 1 + (ptB 2 + 1 + 0)))) ≤ 1048576 := by
  have h : ptB 2 = 980 := by decide
  omega
theorem tell_five {log : List Deed} {l1 l2 l3 : List Mt} {p : Pt} (h : ∀ t ∈ log, t.tl) (h0 : log.length ≤ 200) (h1 : ∀ a ∈ l1, a.sm) (k1 : l1.length ≤ 1000) (h2 : ∀ a ∈ l2, a.sm) (k2 : l2.length ≤ 1000) (h3 : ∀ a ∈ l3, a.sm) (k3 : l3.length ≤ 1000) (hp : p.ok) (hd : p.deep ≤ 2) :
    Tell (.list [.list (log.map Deed.d), .list (l1.map Mt.d), .list (l2.map Mt.d), .list (l3.map Mt.d), p.data]) :=
  (TeA.list (k := 5) (.cons ((TeA.map fun t ht => te_deed (h t ht)).list) (.cons ((TeA.map fun a ha => te_mt (h1 a ha)).list.mono (by decide) (Nat.le_refl _)) (.cons ((TeA.map fun a ha => te_mt (h2 a ha)).list.mono (by decide) (Nat.le_refl _)) (.cons ((TeA.map fun a ha => te_mt (h3 a ha)).list.mono (by decide) (Nat.le_refl _))
    (.cons ((te_pt 2 p hp hd).mono (by decide) (Nat.le_refl _)) .nil)))))).tell (by decide) (tell_sum h0 k1 k2 k3) ⟨_, .inr rfl⟩
end Pr
set_option maxHeartbeats 4000000
/-! Zq: _law_turned_back. -/
namespace Pr
open PySem PySem.Spec PyProof.Rows L2
variable {P : Program} {w : World} {K : PySem.W.Frag} {mg : Str → Option Value} {base : Heap}
theorem fnD_XG {k : Nat} {f : Addr} {R : RD} (h : FnG P w K mg base k f (spD K R)) : FnG P w K mg base k f (spX K (xOf R)) :=
  h.imp fun vs H Q E ⟨m, ds, T, ⟨d, hR, h1, h2⟩, M, r, q⟩ => by
    subst h1 h2
    rw [show dm ([] : Ms) = [] from rfl, mn_nil] at r
    exact ⟨ds, d, r, hR, fun v H' s r' => q v d [] H' ⟨rfl, rfl⟩ mem_nil (by unfold Chg; rw [show dm ([] : Ms) = [] from rfl, mn_nil, mn_nil]; exact s) (by rw [show dm ([] : Ms) = [] from rfl, mn_nil]; exact r')⟩
theorem Rf.xOf {R : RD} {m : Ms} {ds : List Dt} {d : Dt} {T : Rs} (h : R ds d) (t : T d m) : Rf (xOf R) m ds T := ⟨[], m, _, List.Perm.refl _, ⟨d, h, rfl, rfl⟩, fun d' m' ⟨h1, h2⟩ => by subst h1 h2; exact t⟩
/-- what turning back needs, and the evening behind it -/
inductive Tn (V : Ev) : Nat → List Deed → Deed → List Deed → Ev → Prop
  | back {x : List Deed} {t : Deed} : V.log = x ++ [t] → (∀ d ∈ V.log, d.sh) → okL V.s0 x → x.length ≤ 900 → V.und.length < 900 → Tn V 0 x t V.und ⟨V.p0, runL V.s0 x, x, V.und ++ [t]⟩
  | again {x : List Deed} {t : Deed} : V.und = x ++ [t] → (∀ d ∈ V.und, d.sh) → V.s.szd → t.okD V.s → V.log.length ≤ 900 → Tn V 1 x t V.log ⟨V.p0, V.s.doD t, V.log ++ [t], x⟩
def rxTurn : Ms → List Dt → Rs → Prop := fun m ds T => ∃ (e : Addr) (A : Ad) (V : Ev) (way : Nat) (a1 a2 : Addr) (x : List Deed) (t : Deed) (y : List Deed) (V' : Ev), Tn V way x t y V' ∧ t.tl ∧ (∀ d ∈ x, d.sh) ∧ t.sh ∧ y.length < 900 ∧ m = evM e A V ++ [(a1, .l ((x ++ [t]).map Deed.d)), (a2, .l (y.map Deed.d))] ∧ ds = [.r e, .li [.r a1, .r a2], .i way] ∧
  T = fun d m' => d = .b true ∧ ∃ A', m' = evM e A' V' ++ [(a1, .l (x.map Deed.d)), (a2, .l ((y ++ [t]).map Deed.d))]
theorem f12_turned (T : Tx K mg) : FnG P w K mg base 12 (ga K "_law_turned_back") (spX K rxTurn) :=
  fnG_X T.f_law_turned_back sc_law_turned_back bn_law_turned_back (fun m ds T ⟨_, _, _, _, _, _, _, _, _, _, _, _, _, _, _, _, h, _⟩ => by rw [h]; rfl) fun cdv A outer s H E hg hr m ds R ⟨e, Ad, V, way, a1, a2, x, t, y, V', hT, htl, hx, hsh, hy, h, h2, h3⟩ => by
    subst h h2 h3
    have hu := room_u hr
    have nd := sc_law_turned_back.nd
    refine s_seq (N1 := fun δ' m' => δ' = [some (.r e), some (.li [.r a1, .r a2]), some (.i way), some (.t [.str "told", t.d]), none] ∧ ∃ A', m' = evM e A' V' ++ [(a1, .l ((x ++ [t]).map Deed.d)), (a2, .l (y.map Deed.d))])
      (ps_try_thru0 (ss_set 3 nd rfl (.inl rfl) (x_tup (A := fun ds m' => ds = [.s "told", .p t.d] ∧ ∃ A', m' = evM e A' V' ++ [(a1, .l ((x ++ [t]).map Deed.d)), (a2, .l (y.map Deed.d))]) (xa_imp (xa_dc (x_pure d_str) (xa_1 (T := fun d m' => d = .p t.d ∧ ∃ A', m' = evM e A' V' ++ [(a1, .l ((x ++ [t]).map Deed.d)), (a2, .l (y.map Deed.d))]) ?_)) fun ds m' ⟨r, ⟨d, ⟨h1, h2⟩, h3⟩, h4⟩ => ⟨by rw [h4, h3, h1], h2⟩)
        (T := fun d m' => d = .t [.str "told", t.d] ∧ ∃ A', m' = evM e A' V' ++ [(a1, .l ((x ++ [t]).map Deed.d)), (a2, .l (y.map Deed.d))]) fun ds m1 ⟨h1, h2⟩ => ⟨[.str "told", t.d], h1, by simp, rfl, h2⟩) fun d m1 ⟨h1, h2⟩ => by subst h1; exact s_nil ⟨rfl, h2⟩)) fun δ1 m1 ⟨h1, A1, h2⟩ => ?_
    · cases hT with
      | back hl hs ho h9 h9' =>
        refine x_if (C := fun b m' => b = true ∧ m' = _) (xt_imp (x_pureC (c_eq hu sh_int sh_int (d_var 2 rfl) d_int)) fun b m' ⟨h1, h2⟩ => ⟨h1, h2⟩) (fun m1 ⟨_, h⟩ => ?_) (fun m1 ⟨h, _⟩ => nomatch h)
        subst h
        exact x_meth0 T.c_Evening T.m_Evening_undo (f11_undo T) hr (x_var 0 rfl) (i := 0) rfl ⟨_, _, _, List.Perm.refl _, ⟨e, Ad, V, x, t, hl, hs, ho, h9, h9', rfl, rfl, rfl⟩, fun d m' ⟨h1, A', h2⟩ => ⟨h1, A', by rw [h2]⟩⟩
      | again hl hs hz hd h9 =>
        refine x_if (C := fun b m' => b = false ∧ m' = _) (xt_imp (x_pureC (c_eq hu sh_int sh_int (d_var 2 rfl) d_int)) fun b m' ⟨h1, h2⟩ => ⟨h1, h2⟩) (fun m1 ⟨h, _⟩ => nomatch h) (fun m1 ⟨_, h⟩ => ?_)
        subst h
        exact x_meth0 T.c_Evening T.m_Evening_redo ((f9_redo T).mono (by decide)) hr (x_var 0 rfl) (i := 0) rfl ⟨_, _, _, List.Perm.refl _, ⟨e, Ad, V, x, t, hl, hs, hz, hd, h9, rfl, rfl, rfl⟩, fun d m' ⟨h1, h2⟩ => ⟨h1, Ad, by rw [h2]⟩⟩
    subst h1 h2
    refine ss_if (xt_eqL hu (sh_deeds fun d hd => ?_) sh_nil (i := 7) rfl (d_liI (n := 0) rfl (d_var 1 rfl) d_int) (d_new (d_lstP (ps := []) a_nil (by simp)))) (fun m2 ⟨h, _⟩ => ?_) (fun m2 ⟨_, h⟩ => ?_)
    · rcases List.mem_append.mp hd with h | h
      · exact hx d h
      · rw [List.mem_singleton.mp h]; exact hsh
    · rw [eqv_deeds] at h; simp at h
    subst h
    refine ss_expr (T := fun d m' => m' = evM e A1 V' ++ [(a1, .l (x.map Deed.d)), (a2, .l ((y ++ [t]).map Deed.d))]) (x_append (T := fun d m' => d = .p t.d ∧ m' = evM e A1 V' ++ [(a1, .l (x.map Deed.d)), (a2, .l (y.map Deed.d))]) (n := 8) (x_pure (d_liI (n := 1) rfl (d_var 1 rfl) d_int)) (i := 8) rfl ⟨_, rfl⟩
      (x_imp (x_pop (x_pure (d_liI (n := 0) rfl (d_var 1 rfl) d_int)) (i := 7) (ps := x.map Deed.d) (q := t.d) (by rw [List.map_append]; rfl)) fun d m' ⟨h1, h2⟩ => ⟨h1, by rw [h2]; rfl⟩) fun d m' ⟨h1, h2⟩ => ?_) fun d m' h => ?_
    · subst h1 h2
      exact ⟨t.d, y.map Deed.d, rfl, rfl, by rw [List.length_map]; omega, by rw [List.map_append]; rfl⟩
    subst h
    refine ss_ret (x_callG (fnD_XG ((f1_law_alike T).mono (show 1 ≤ 11 by decide))) hg hr rfl T.g_law_alike T.f_law_alike.kp (A := fun ds m' => ds = [.t [.str "told", t.d], .t [.str "told", t.d]] ∧ m' = evM e A1 V' ++ [(a1, .l (x.map Deed.d)), (a2, .l ((y ++ [t]).map Deed.d))]) (xa_imp (xa_dc (x_var 3 rfl) (xa_1 (x_tup (T := fun d m' => d = .t [.str "told", t.d] ∧ m' = evM e A1 V' ++ [(a1, .l (x.map Deed.d)), (a2, .l ((y ++ [t]).map Deed.d))]) (xa_dc (x_pure d_str) (xa_1 (x_ixM (i := 8) (ps := (y ++ [t]).map Deed.d) (q := t.d) (n := -1) rfl (by rw [List.map_append]; exact atI_last _ _) (noL_deed t)
      (d_liI (n := 1) rfl (d_var 1 rfl) d_int) (d_neg d_int)))) fun ds m1 ⟨r, ⟨d, ⟨h1, h2⟩, h3⟩, h4⟩ => ⟨[.str "told", t.d], by rw [h4, h3, h1]; rfl, by simp, rfl, h2⟩))) fun ds m' ⟨r, ⟨d, ⟨h1, h2⟩, h3⟩, h4⟩ => ⟨by rw [h4, h3, h1], h2⟩) fun ds m1 ⟨h1, h2⟩ => ?_)
    subst h1 h2
    exact Rf.xOf ⟨_, tell_told htl, rfl, rfl⟩ ⟨rfl, A1, rfl⟩
/-- nothing to turn back -/
def rdTurnN : RD := fun ds d => ∃ (p0 : Pt) (s : Fl) (log und : List Deed) (way : Nat) (ys : List PyData), (way = 0 ∧ log = [] ∨ way = 1 ∧ und = []) ∧ ds = [evD p0 s log und, .li [.l [], .l ys], .i way] ∧ d = .b true
section
variable {X : Cx} {δ : De} {W : WX} {Z : Zs} {e a b c o : Expr} {es : List Expr} {pos : Pos} {k : Bool} {x : Str} {i : Nat}
theorem z_if (hc : PT X c (cD X.K δ k)) (ha : k = true → PE X a (zE X.K δ W Z)) (hb : k = false → PE X b (zE X.K δ W Z)) : PE X (.IfExp c a b pos) (zE X.K δ W Z) := by
  cases k with
  | true => exact PE_imp (pe_ifExp hc (ha rfl) pe_never) fun σ H Q ⟨E, q⟩ => ⟨E, fun H' s => ⟨E.mono s, fun cls d H2 s2 z => q cls d H2 (s.trans s2) z⟩⟩
  | false => exact PE_imp (pe_ifExp hc pe_never (hb rfl)) fun σ H Q ⟨E, q⟩ => ⟨E, fun H' s => ⟨E.mono s, fun cls d H2 s2 z => q cls d H2 (s.trans s2) z⟩⟩
theorem f_and (S : Stb (fun _ => True)) (h : PE X e (tF X.K δ (fun _ => True) (.b k))) : PE X e (tD X.K δ (.b k)) := PE_imp h fun σ H Q ⟨E, q⟩ => ⟨E, trivial, q⟩
end
theorem stT : Stb (fun _ => True) := ⟨fun _ _ => trivial⟩
theorem f10_turned_N (T : Tx K mg) (Ez : Tz P K mg) : FnR P w K mg base CX0 10 (ga K "_law_turned_back") (spD K rdTurnN) :=
  fnR_D T.f_law_turned_back sc_law_turned_back bn_law_turned_back (fun ds d ⟨_, _, _, _, _, _, _, h, _⟩ => by rw [h]; rfl) fun cdv A outer s H E hr ds d ⟨p0, fl, log, und, way, ys, hw, h, h2⟩ => by
    subst h h2
    have hu := room_u hr
    have nd := sc_law_turned_back.nd
    let C := ga K "Nothing"
    let δ : De := [some (evD p0 fl log und), some (.li [.l [], .l ys]), some (.i way), none, none]
    have fv : ∀ dd : Addr, ∀ H : Hp, True → ∀ d, (none : Option Addr) = some d → ∃ fs, H d = some (.xd fs) := fun _ _ _ d z => nomatch z
    refine q_seq (δ1 := δ.set 3 (some (.t [.str "nothing", .none]))) (PS_imp (ps_try_as (Wout := fun _ _ _ _ => False) (c := .ref (ga K "RibbonError")) (tb := fun W => zS K δ W (zN C))
      (ts := fun a cls d => fun D σ H => (cls = .ref C ∧ d = none) ∧ sN K (δ.set 4 (some (.r a))) ((δ.set 4 (some (.r a))).set 3 (some (.t [.str "nothing", .none]))) D σ H)
      rfl rfl nd (i := 4) rfl rfl ⟨rfl, by decide, .inl Ez.g_RibbonError⟩ (fun u s' ⟨_, _, _, _, _, _, _, _, _, _, _, _, _, _, _, _, w⟩ => w.elim) (fun W pn xe tk po => ?_) (fun a oe cls d pn hz hf => ?_)) fun D σ H ⟨En, q⟩ => ⟨En, fun cls d H' s z => ?_⟩) ?_
    · refine PSs_imp (pss_one (ps_set (i := 3) nd rfl (.inl rfl) (pe_tup (pa_cons d_str (pa_cons (z_if (W := W) (Z := zN C) (c_eq hu sh_int sh_int (d_var 2 rfl) d_int) (fun hk => ?_) (fun hk => ?_)) pa_nil))))) fun D σ H ⟨En, q⟩ => ⟨En, fun v H1 s1 r1 => ⟨En.mono s1, fun cls d H' s2 z => q cls d H' (s1.trans s2) z⟩⟩
      · obtain ⟨h1, h2⟩ | ⟨h1, h2⟩ := hw
        · subst h2
          exact z_meth0 T.c_Evening T.m_Evening_undo (f9_undo_Z T Ez) hr tk ⟨p0, fl, und, rfl, rfl⟩ (d_var 0 rfl)
        · subst h1; exact nomatch hk
      · obtain ⟨h1, h2⟩ | ⟨h1, h2⟩ := hw
        · subst h1; exact nomatch hk
        · subst h2
          exact z_meth0 T.c_Evening T.m_Evening_redo (f9_redo_Z T Ez) hr tk ⟨p0, fl, log, rfl, rfl⟩ (d_var 0 rfl)
    · refine pss_pre fun ⟨ec, ed⟩ => ?_
      subst ec ed
      refine PSs_imp (pss_one (n_set 3 nd rfl (.inl rfl) (d_if (k := true) (PW.pt (w_and (k1 := true) (k2 := true) (c_val (f_and stT (f_isE rfl Ez.en hz hf (fv 0) stT rfl T.b_isinstance rfl Ez.n.g Ez.n1 (d_var 4 rfl)))) fun _ => w_and1 (c_not (k := false) (c_val (f_and stT (f_isE rfl Ez.en hz hf (fv 0) stT rfl T.b_isinstance rfl Ez.g_NoEntry Ez.n2 (d_var 4 rfl)))))))
        (fun _ => d_tup2 (a_cons d_str (a_cons d_non a_nil))) (fun z => nomatch z)))) fun D σ H h => h
    · obtain ⟨ec, ed⟩ := z
      subst ec ed
      refine ⟨true, Ez.xn, fun _ a ha => ⟨⟨rfl, rfl⟩, (En.mono s).set 4 (.r a), fun σ' H2 s2 E2 => ?_⟩, fun z => nomatch z⟩
      exact q _ H2 (s.trans s2) (E2.none none 4)
    · refine q_if (k := true) (c_eqv (c_eq hu sh_nil sh_nil (d_liI (n := 0) rfl (d_var 1 rfl) d_int) (d_new (d_lstP (ps := []) a_nil (by simp)))) rfl) (fun _ => ?_) (fun z => nomatch z)
      exact q_retE (d_eq hu (SeqAt.shaped_of_layable (by decide +kernel)) (SeqAt.shaped_of_layable (by decide +kernel)) (d_var 3 rfl) (d_tup2 (a_cons d_str (a_cons d_non a_nil)))) (by rw [show PyData.eqv (.tuple [.str "nothing", .none]) (.tuple [.str "nothing", .none]) = true by decide +kernel])
end Pr
set_option maxHeartbeats 4000000
/-! Ma: the plain law: what is laid, next, at the ends. -/
namespace Pr
open PySem PySem.Spec PyProof.Rows L2
/-! ### places along a ribbon -/
def oI (p : Prop) [Decidable p] : Nat := if p then 1 else 0
theorem pos_iff {m r j r' j' : Nat} (h : j < m) (h' : j' < m) : r' * m + j' ≤ r * m + j ↔ r' + oI (j < j') ≤ r := by
  unfold oI
  constructor
  · intro q
    split
    · rename_i z
      by_cases c : r' < r
      · omega
      · have : r * m ≤ r' * m := Nat.mul_le_mul_right m (by omega)
        omega
    · by_cases c : r' ≤ r
      · omega
      · have : (r + 1) * m ≤ r' * m := Nat.mul_le_mul_right m (by omega)
        rw [Nat.add_mul] at this
        omega
  · intro q
    split at q
    · have : (r' + 1) * m ≤ r * m := Nat.mul_le_mul_right m (by omega)
      rw [Nat.add_mul] at this
      omega
    · have : r' * m ≤ r * m := Nat.mul_le_mul_right m (by omega)
      omega
theorem pos_inj {m r j r' j' : Nat} (h : j < m) (h' : j' < m) (e : r * m + j = r' * m + j') : r = r' ∧ j = j' := by
  have h1 := (pos_iff (r := r) (r' := r') h h').mp (by omega)
  have h2 := (pos_iff (r := r') (r' := r) h' h).mp (by omega)
  unfold oI at h1 h2
  split at h1 <;> split at h2 <;> omega
theorem ahd_iff {a b : Mt} : ahd a b = true ↔ a.r + oI (b.i < a.i) + oI (b.j < a.j) ≤ b.r := by
  unfold ahd oI bI
  rw [decide_eq_true_iff]
  by_cases h1 : b.i < a.i <;> by_cases h2 : b.j < a.j <;> simp [h1, h2] <;> omega
theorem oI_tri {a b c : Nat} : oI (c < a) ≤ oI (c < b) + oI (b < a) := by
  unfold oI; split <;> split <;> split <;> omega
theorem oI_le {p : Prop} [Decidable p] : oI p ≤ 1 := by unfold oI; split <;> omega
theorem oI_self {a : Nat} : oI (a < a) = 0 := by unfold oI; rw [if_neg (Nat.lt_irrefl a)]
theorem ahd_trans {a b c : Mt} (h1 : ahd a b = true) (h2 : ahd b c = true) : ahd a c = true := by
  rw [ahd_iff] at *
  have := oI_tri (a := a.i) (b := b.i) (c := c.i)
  have := oI_tri (a := a.j) (b := b.j) (c := c.j)
  omega
theorem ahd_refl (a : Mt) : ahd a a = true := by rw [ahd_iff, oI_self, oI_self]; omega
theorem lvl_lt {n m : Nat} {a b : Mt} (ha : a.i < n ∧ a.j < m) (hb : b.i < n ∧ b.j < m) (h : ahd a b = true) (hn : a ≠ b) : lvl n m a < lvl n m b := by
  rw [ahd_iff] at h
  unfold lvl
  have e : ¬ (a.r = b.r ∧ a.i = b.i ∧ a.j = b.j) := fun ⟨h1, h2, h3⟩ => hn (by cases a; cases b; simp at h1 h2 h3; subst h1 h2 h3; rfl)
  have hM1 : n ≤ max n m := Nat.le_max_left _ _
  have hM2 : m ≤ max n m := Nat.le_max_right _ _
  generalize max n m = M at *
  unfold oI at h
  obtain ⟨d, hd⟩ : ∃ d, b.r = a.r + d := ⟨b.r - a.r, by split at h <;> split at h <;> omega⟩
  rw [hd, Nat.add_mul]
  match d, hd with
  | 0, hd => split at h <;> split at h <;> omega
  | 1, hd => rw [Nat.one_mul]; split at h <;> split at h <;> omega
  | d + 2, hd =>
    have : 2 * M ≤ (d + 2) * M := Nat.mul_le_mul_right M (by omega)
    omega
/-! ### counts -/
theorem lookup_put {l : List (Nat × Nat)} {k v x : Nat} : (putN l k v).lookup x = if x = k then some v else l.lookup x := by
  unfold putN
  split
  · rename_i h
    induction l with
    | nil => simp at h
    | cons p l ih =>
      rw [List.map_cons, List.lookup_cons, List.lookup_cons]
      by_cases hp : p.1 = k
      · simp only [hp, if_true]
        by_cases hx : x = k
        · subst hx; simp
        · simp only [if_neg hx]
          have : (x == k) = false := beq_eq_false_iff_ne.mpr hx
          rw [this]
          clear ih h
          induction l with
          | nil => rfl
          | cons q l ih =>
            rw [List.map_cons, List.lookup_cons, List.lookup_cons]
            by_cases hq : q.1 = k
            · simp only [hq, if_true, this]; exact ih
            · simp only [if_neg hq]
              cases (x == q.1) with
              | true => rfl
              | false => exact ih
      · simp only [if_neg hp]
        have h2 : (l.any fun kv => decide (kv.1 = k)) = true := by
          rw [List.any_cons, decide_eq_false hp, Bool.false_or] at h; exact h
        cases hb : (x == p.1) with
        | true =>
          have e : x = p.1 := eq_of_beq hb
          rw [if_neg (fun z => hp (by rw [← e]; exact z))]
        | false => exact ih h2
  · rename_i h
    rw [List.lookup_append]
    have hk : l.lookup k = none := by
      rw [List.lookup_eq_none_iff]
      intro p hp
      have := List.any_eq_false.mp (Bool.eq_false_iff.mpr h) p hp
      simp only [decide_eq_true_eq] at this
      exact bne_iff_ne.mpr fun z => this z.symm
    by_cases hx : x = k
    · subst hx; rw [hk]; simp
    · rw [if_neg hx]
      have : (x == k) = false := beq_eq_false_iff_ne.mpr hx
      simp [List.lookup_cons, this]
theorem cnt_bump {l : List (Nat × Nat)} {k x : Nat} {d : Int} : cnt (bump l k d) x = if x = k then ((cnt l k : Int) + d).toNat else cnt l x := by
  unfold cnt bump
  rw [lookup_put]
  split <;> rfl
theorem bump_len {l : List (Nat × Nat)} {k : Nat} {d : Int} : (bump l k d).length ≤ l.length + 1 := by
  unfold bump putN
  split
  · rw [List.length_map]; omega
  · rw [List.length_append]; exact Nat.le_refl _
/-! ### what is laid hangs together -/
theorem has_keys {s : Fl} {a : Mt} : has s.laid a = true ↔ a ∈ s.keys := by
  unfold has Fl.keys
  rw [Option.isSome_iff_ne_none, ne_eq, List.lookup_eq_none_iff]
  constructor
  · intro h
    apply Classical.byContradiction
    intro z
    exact h fun p hp => bne_iff_ne.mpr fun e => z (List.mem_map.mpr ⟨p, hp, e.symm⟩)
  · intro h z
    obtain ⟨p, hp, e⟩ := List.mem_map.mp h
    have := z p hp
    rw [← e] at this
    simp at this
structure Iv (s : Fl) : Prop where
  n1 : 1 ≤ s.n
  m1 : 1 ≤ s.m
  nd : s.keys.Nodup
  inr : ∀ a ∈ s.keys, a.i < s.n ∧ a.j < s.m
  sun : ∀ a : Mt, a.i < s.n → a.j < s.m → (a ∈ s.keys ↔ a.r * s.m + a.j < cnt s.sun a.i)
  moon : ∀ a : Mt, a.i < s.n → a.j < s.m → (a ∈ s.keys ↔ a.r * s.n + a.i < cnt s.moon a.j)
  out : ∀ i, s.n ≤ i → cnt s.sun i = 0
variable {s : Fl} {a b : Mt}
theorem Iv.down (I : Iv s) (ha : a ∈ s.keys) (hi : b.i < s.n) (hj : b.j < s.m) (h : ahd b a = true) : b ∈ s.keys := by
  obtain ⟨ai, aj⟩ := I.inr a ha
  rw [ahd_iff] at h
  have hr : oI (a.j < b.j) ≤ a.r := by omega
  let c : Mt := ⟨a.r - oI (a.j < b.j), a.i, b.j⟩
  have hc : c ∈ s.keys := by
    rw [I.sun c ai hj]
    have h1 := (I.sun a ai aj).mp ha
    have h2 : c.r * s.m + c.j ≤ a.r * s.m + a.j := (pos_iff aj hj).mpr (by show a.r - oI (a.j < b.j) + oI (a.j < b.j) ≤ a.r; omega)
    exact Nat.lt_of_le_of_lt h2 h1
  rw [I.moon b hi hj]
  have h1 := (I.moon c ai hj).mp hc
  have h2 : b.r * s.n + b.i ≤ c.r * s.n + c.i := (pos_iff ai hi).mpr (by show b.r + oI (a.i < b.i) ≤ a.r - oI (a.j < b.j); omega)
  exact Nat.lt_of_le_of_lt h2 h1
theorem nxt_iff : s.nxt a = true ↔ cnt s.sun a.i = a.r * s.m + a.j ∧ cnt s.moon a.j = a.r * s.n + a.i := by
  unfold Fl.nxt; rw [Bool.and_eq_true]; exact and_congr beq_iff_eq beq_iff_eq
theorem mt_eq {a b : Mt} (h1 : a.r = b.r) (h2 : a.i = b.i) (h3 : a.j = b.j) : a = b := by cases a; cases b; simp at h1 h2 h3; subst h1 h2 h3; rfl
theorem Iv.nxt (I : Iv s) (hi : a.i < s.n) (hj : a.j < s.m) : s.nxt a = true ↔ a ∉ s.keys ∧ ∀ b : Mt, b.i < s.n → b.j < s.m → b ≠ a → ahd b a = true → b ∈ s.keys := by
  rw [nxt_iff]
  constructor
  · intro ⟨h1, h2⟩
    refine ⟨fun z => by have := (I.sun a hi hj).mp z; omega, fun b bi bj hne h => ?_⟩
    rw [ahd_iff] at h
    by_cases e : b.j = a.j
    · rw [I.moon b bi bj, e, h2]
      have h3 : b.r * s.n + b.i ≤ a.r * s.n + a.i := (pos_iff hi bi).mpr (by omega)
      have h4 : b.r * s.n + b.i ≠ a.r * s.n + a.i := fun z => by
        obtain ⟨e1, e2⟩ := pos_inj bi hi z
        exact hne (mt_eq e1 e2 e)
      omega
    · let c : Mt := ⟨a.r - oI (a.j < b.j), a.i, b.j⟩
      have hc : c ∈ s.keys := by
        rw [I.sun c hi bj]
        have h2 : c.r * s.m + c.j ≤ a.r * s.m + a.j := (pos_iff hj bj).mpr (by show a.r - oI (a.j < b.j) + oI (a.j < b.j) ≤ a.r; omega)
        have h4 : c.r * s.m + c.j ≠ a.r * s.m + a.j := fun z => e (pos_inj bj hj z).2
        show _ < cnt s.sun a.i
        omega
      refine I.down hc bi bj ?_
      rw [ahd_iff]
      show b.r + oI (a.i < b.i) + oI (b.j < b.j) ≤ a.r - oI (a.j < b.j)
      rw [oI_self]
      omega
  · intro ⟨h1, h2⟩
    have g1 : cnt s.sun a.i ≤ a.r * s.m + a.j := Nat.not_lt.mp fun z => h1 ((I.sun a hi hj).mpr z)
    have g2 : cnt s.moon a.j ≤ a.r * s.n + a.i := Nat.not_lt.mp fun z => h1 ((I.moon a hi hj).mpr z)
    have m0 := I.m1
    have n0 := I.n1
    refine ⟨Nat.le_antisymm g1 (Nat.not_lt.mp fun z => ?_), Nat.le_antisymm g2 (Nat.not_lt.mp fun z => ?_)⟩
    · let k := a.r * s.m + a.j - 1
      let c : Mt := ⟨k / s.m, a.i, k % s.m⟩
      have hck : c.r * s.m + c.j = k := by show k / s.m * s.m + k % s.m = k; rw [Nat.mul_comm]; exact Nat.div_add_mod k s.m
      have cj : c.j < s.m := Nat.mod_lt _ m0
      have hk : k + 1 = a.r * s.m + a.j := by show a.r * s.m + a.j - 1 + 1 = _; omega
      have hne : c ≠ a := fun z => by rw [z] at hck; omega
      have hah : ahd c a = true := by
        rw [ahd_iff]
        have := (pos_iff hj cj (r := a.r) (r' := c.r)).mp (by omega)
        show c.r + oI (a.i < a.i) + oI (a.j < c.j) ≤ a.r
        rw [oI_self]; omega
      have := (I.sun c hi cj).mp (h2 c hi cj hne hah)
      have e : cnt s.sun c.i = cnt s.sun a.i := rfl
      omega
    · let k := a.r * s.n + a.i - 1
      let c : Mt := ⟨k / s.n, k % s.n, a.j⟩
      have hck : c.r * s.n + c.i = k := by show k / s.n * s.n + k % s.n = k; rw [Nat.mul_comm]; exact Nat.div_add_mod k s.n
      have ci : c.i < s.n := Nat.mod_lt _ n0
      have hk : k + 1 = a.r * s.n + a.i := by show a.r * s.n + a.i - 1 + 1 = _; omega
      have hne : c ≠ a := fun z => by rw [z] at hck; omega
      have hah : ahd c a = true := by
        rw [ahd_iff]
        have := (pos_iff hi ci (r := a.r) (r' := c.r)).mp (by omega)
        show c.r + oI (a.i < c.i) + oI (a.j < a.j) ≤ a.r
        rw [oI_self]; omega
      have := (I.moon c ci hj).mp (h2 c ci hj hne hah)
      have e : cnt s.moon c.j = cnt s.moon a.j := rfl
      omega
theorem isE_iff : s.isE a = true ↔ has s.laid a = true ∧ cnt s.sun a.i = a.r * s.m + a.j + 1 ∧ cnt s.moon a.j = a.r * s.n + a.i + 1 := by
  unfold Fl.isE; rw [Bool.and_eq_true, Bool.and_eq_true]; exact and_congr Iff.rfl (and_congr beq_iff_eq beq_iff_eq)
theorem Iv.isE (I : Iv s) (hi : a.i < s.n) (hj : a.j < s.m) : s.isE a = true ↔ a ∈ s.keys ∧ ∀ b ∈ s.keys, b ≠ a → ahd a b = false := by
  rw [isE_iff, has_keys]
  refine and_congr_right fun ha => ?_
  have p1 := (I.sun a hi hj).mp ha
  have p2 := (I.moon a hi hj).mp ha
  have m0 := I.m1
  have n0 := I.n1
  constructor
  · intro ⟨h1, h2⟩ b hb hne
    obtain ⟨bi, bj⟩ := I.inr b hb
    rw [Bool.eq_false_iff]
    intro h
    rw [ne_eq, ahd_iff] at *
    by_cases e : b.j = a.j
    · have q := (I.moon b bi bj).mp hb
      rw [e, h2] at q
      have h3 : a.r * s.n + a.i ≤ b.r * s.n + b.i := (pos_iff bi hi).mpr (by omega)
      obtain ⟨e1, e2⟩ := pos_inj bi hi (r := b.r) (r' := a.r) (by omega)
      exact hne (mt_eq e1 e2 e)
    · let c : Mt := ⟨b.r - oI (b.i < a.i), a.i, b.j⟩
      have hc : c ∈ s.keys := by
        rw [I.moon c hi bj]
        have h2 : c.r * s.n + c.i ≤ b.r * s.n + b.i := (pos_iff bi hi).mpr (by show b.r - oI (b.i < a.i) + oI (b.i < a.i) ≤ b.r; omega)
        have h3 := (I.moon b bi bj).mp hb
        show _ < cnt s.moon b.j
        omega
      have q := (I.sun c hi bj).mp hc
      have e2 : cnt s.sun c.i = cnt s.sun a.i := rfl
      have h3 : a.r * s.m + a.j ≤ c.r * s.m + c.j := (pos_iff bj hj).mpr (by show a.r + oI (b.j < a.j) ≤ b.r - oI (b.i < a.i); omega)
      have h4 : c.r * s.m + c.j ≠ a.r * s.m + a.j := fun z => e (pos_inj bj hj z).2
      omega
  · intro h
    refine ⟨Nat.le_antisymm (Nat.not_lt.mp fun z => ?_) p1, Nat.le_antisymm (Nat.not_lt.mp fun z => ?_) p2⟩
    · let k := a.r * s.m + a.j + 1
      let c : Mt := ⟨k / s.m, a.i, k % s.m⟩
      have hck : c.r * s.m + c.j = k := by show k / s.m * s.m + k % s.m = k; rw [Nat.mul_comm]; exact Nat.div_add_mod k s.m
      have cj : c.j < s.m := Nat.mod_lt _ m0
      have hk : k = a.r * s.m + a.j + 1 := rfl
      have hne : c ≠ a := fun z => by rw [z] at hck; omega
      have hc : c ∈ s.keys := (I.sun c hi cj).mpr (by rw [hck]; exact z)
      have hah : ahd a c = true := by
        rw [ahd_iff]
        have := (pos_iff cj hj (r := c.r) (r' := a.r)).mp (by omega)
        show a.r + oI (a.i < a.i) + oI (c.j < a.j) ≤ c.r
        rw [oI_self]; omega
      rw [h c hc hne] at hah
      cases hah
    · let k := a.r * s.n + a.i + 1
      let c : Mt := ⟨k / s.n, k % s.n, a.j⟩
      have hck : c.r * s.n + c.i = k := by show k / s.n * s.n + k % s.n = k; rw [Nat.mul_comm]; exact Nat.div_add_mod k s.n
      have ci : c.i < s.n := Nat.mod_lt _ n0
      have hk : k = a.r * s.n + a.i + 1 := rfl
      have hne : c ≠ a := fun z => by rw [z] at hck; omega
      have hc : c ∈ s.keys := (I.moon c ci hj).mpr (by rw [hck]; exact z)
      have hah : ahd a c = true := by
        rw [ahd_iff]
        have := (pos_iff ci hi (r := c.r) (r' := a.r)).mp (by omega)
        show a.r + oI (c.i < a.i) + oI (a.j < a.j) ≤ c.r
        rw [oI_self]; omega
      rw [h c hc hne] at hah
      cases hah
end Pr
set_option maxHeartbeats 4000000
/-! Mb: the plain law: deeds that can be done. -/
namespace Pr
open PySem PySem.Spec PyProof.Rows L2
def okT (n m : Nat) : Deed → Prop
  | .rule p => p.ok ∧ p.deep ≤ 2
  | .lay a => a.i < n ∧ a.j < m
  | .take a => a.i < n ∧ a.j < m
variable {s : Fl} {a b : Mt} {t : Deed} {c : Nat}
theorem keys_lay : (s.doD (.lay a)).keys = s.keys ++ [a] := by
  show ((s.laid ++ [(a, s.p.truth (nums s.n s.m a.r a.i a.j))]).map fun p => p.1) = _
  rw [List.map_append]; rfl
theorem keys_take : (s.doD (.take a)).keys = s.keys.filter fun b => decide (b ≠ a) := by
  show ((s.laid.filter fun kv => decide (kv.1 ≠ a)).map fun p => p.1) = (s.laid.map fun p => p.1).filter _
  rw [List.filter_map]; rfl
theorem Iv.doD (I : Iv s) (ht : okT s.n s.m t) (hc : s.can t = true) : Iv (s.doD t) := by
  match t, ht, hc with
  | .rule p, _, _ => exact ⟨I.n1, I.m1, I.nd, I.inr, I.sun, I.moon, I.out⟩
  | .lay a, ⟨hi, hj⟩, hc =>
    have hc : s.nxt a = true := hc
    obtain ⟨e1, e2⟩ := nxt_iff.mp hc
    have hn := ((I.nxt hi hj).mp hc).1
    have k1 : ∀ x, cnt (s.doD (.lay a)).sun x = if x = a.i then cnt s.sun a.i + 1 else cnt s.sun x := fun x => by
      show cnt (bump s.sun a.i 1) x = _
      rw [cnt_bump]; split
      · omega
      · rfl
    have k2 : ∀ x, cnt (s.doD (.lay a)).moon x = if x = a.j then cnt s.moon a.j + 1 else cnt s.moon x := fun x => by
      show cnt (bump s.moon a.j 1) x = _
      rw [cnt_bump]; split
      · omega
      · rfl
    refine ⟨I.n1, I.m1, ?_, ?_, fun b bi bj => ?_, fun b bi bj => ?_, fun i hi' => ?_⟩
    · rw [keys_lay, List.nodup_append]
      exact ⟨I.nd, List.nodup_cons.mpr ⟨by simp, List.nodup_nil⟩, fun x hx y hy e => hn (by rw [List.mem_singleton] at hy; subst hy; subst e; exact hx)⟩
    · intro b hb
      rw [keys_lay, List.mem_append, List.mem_singleton] at hb
      rcases hb with hb | hb
      · exact I.inr b hb
      · subst hb; exact ⟨hi, hj⟩
    · rw [keys_lay, List.mem_append, List.mem_singleton, k1]
      show _ ↔ b.r * s.m + b.j < _
      rw [I.sun b bi bj]
      by_cases e : b.i = a.i
      · rw [if_pos e, e, e1]
        constructor
        · rintro (h | h)
          · omega
          · subst h; omega
        · intro h
          by_cases z : b.r * s.m + b.j = a.r * s.m + a.j
          · obtain ⟨z1, z2⟩ := pos_inj bj hj z
            exact .inr (mt_eq z1 e z2)
          · exact .inl (by omega)
      · rw [if_neg e]
        exact ⟨fun h => h.elim id fun z => absurd (by rw [z]) e, .inl⟩
    · rw [keys_lay, List.mem_append, List.mem_singleton, k2]
      show _ ↔ b.r * s.n + b.i < _
      rw [I.moon b bi bj]
      by_cases e : b.j = a.j
      · rw [if_pos e, e, e2]
        constructor
        · rintro (h | h)
          · omega
          · subst h; omega
        · intro h
          by_cases z : b.r * s.n + b.i = a.r * s.n + a.i
          · obtain ⟨z1, z2⟩ := pos_inj bi hi z
            exact .inr (mt_eq z1 z2 e)
          · exact .inl (by omega)
      · rw [if_neg e]
        exact ⟨fun h => h.elim id fun z => absurd (by rw [z]) e, .inl⟩
    · have hi'' : s.n ≤ i := hi'
      rw [k1, if_neg (by omega)]; exact I.out i hi'
  | .take a, ⟨hi, hj⟩, hc =>
    have hc : s.isE a = true := hc
    obtain ⟨e0, e1, e2⟩ := isE_iff.mp hc
    have k1 : ∀ x, cnt (s.doD (.take a)).sun x = if x = a.i then cnt s.sun a.i - 1 else cnt s.sun x := fun x => by
      show cnt (bump s.sun a.i (-1)) x = _
      rw [cnt_bump]; split
      · omega
      · rfl
    have k2 : ∀ x, cnt (s.doD (.take a)).moon x = if x = a.j then cnt s.moon a.j - 1 else cnt s.moon x := fun x => by
      show cnt (bump s.moon a.j (-1)) x = _
      rw [cnt_bump]; split
      · omega
      · rfl
    have mem : ∀ b, b ∈ (s.doD (.take a)).keys ↔ b ∈ s.keys ∧ b ≠ a := fun b => by rw [keys_take, List.mem_filter, decide_eq_true_iff]
    refine ⟨I.n1, I.m1, ?_, fun b hb => I.inr b ((mem b).mp hb).1, fun b bi bj => ?_, fun b bi bj => ?_, fun i hi' => ?_⟩
    · rw [keys_take]; exact I.nd.sublist List.filter_sublist
    · rw [mem, k1]
      show _ ↔ b.r * s.m + b.j < _
      rw [I.sun b bi bj]
      by_cases e : b.i = a.i
      · rw [if_pos e, e, e1]
        constructor
        · intro ⟨h1, h2⟩
          have : b.r * s.m + b.j ≠ a.r * s.m + a.j := fun z => by
            obtain ⟨z1, z2⟩ := pos_inj bj hj z
            exact h2 (mt_eq z1 e z2)
          omega
        · intro h
          exact ⟨by omega, fun z => by rw [z] at h; omega⟩
      · rw [if_neg e]
        exact ⟨fun h => h.1, fun h => ⟨h, fun z => e (by rw [z])⟩⟩
    · rw [mem, k2]
      show _ ↔ b.r * s.n + b.i < _
      rw [I.moon b bi bj]
      by_cases e : b.j = a.j
      · rw [if_pos e, e, e2]
        constructor
        · intro ⟨h1, h2⟩
          have : b.r * s.n + b.i ≠ a.r * s.n + a.i := fun z => by
            obtain ⟨z1, z2⟩ := pos_inj bi hi z
            exact h2 (mt_eq z1 z2 e)
          omega
        · intro h
          exact ⟨by omega, fun z => by rw [z] at h; omega⟩
      · rw [if_neg e]
        exact ⟨fun h => h.1, fun h => ⟨h, fun z => e (by rw [z])⟩⟩
    · have hi'' : s.n ≤ i := hi'
      rw [k1, if_neg (by omega)]; exact I.out i hi'
/-- good, behind at most c deeds -/
structure Gd (s : Fl) (c : Nat) : Prop where
  iv : Iv s
  nm : okN s.n s.m
  pk : s.p.ok
  pd : s.p.deep ≤ 2
  ls : s.sun.length ≤ c
  lm : s.moon.length ≤ c
  ll : s.laid.length ≤ c
  hr : ∀ a ∈ s.keys, a.r < c
theorem Gd.nxt_r (G : Gd s c) (hi : a.i < s.n) (hj : a.j < s.m) (h : s.nxt a = true) : a.r ≤ c := by
  by_cases z : a.r = 0
  · omega
  · have hb : (⟨a.r - 1, a.i, a.j⟩ : Mt) ∈ s.keys := ((G.iv.nxt hi hj).mp h).2 _ hi hj (fun e => by have := congrArg Mt.r e; simp at this; omega) (by
      rw [ahd_iff]
      show a.r - 1 + oI (a.i < a.i) + oI (a.j < a.j) ≤ a.r
      rw [oI_self, oI_self]; omega)
    have := G.hr _ hb
    simp at this
    omega
theorem Gd.szd (G : Gd s c) (h : c < 1000) : s.szd := by
  obtain ⟨_, _, h3, h4, _⟩ := G.nm
  have h1 := G.ls; have h2 := G.lm; have h5 := G.ll; have h6 := G.pd
  exact ⟨G.pk, by show s.p.deep < 5; omega, by omega, by omega, by omega, by omega, by omega⟩
theorem cnt_some {l : List (Nat × Nat)} {k : Nat} (h : 0 < cnt l k) : (l.lookup k).isSome = true := by
  unfold cnt at h
  cases z : l.lookup k with
  | none => rw [z] at h; exact absurd h (Nat.lt_irrefl 0)
  | some v => rfl
theorem Iv.cok (I : Iv s) (hi : a.i < s.n) (hj : a.j < s.m) : s.cok a := fun h => by
  rw [has_keys] at h
  exact ⟨cnt_some (by have := (I.sun a hi hj).mp h; omega), cnt_some (by have := (I.moon a hi hj).mp h; omega)⟩
theorem Gd.okD (G : Gd s c) (hc : c ≤ 1000) (ht : okT s.n s.m t) (h : s.can t = true) : t.okD s := by
  match t, ht, h with
  | .rule p, ht, _ => exact ⟨ht.1, by have := ht.2; show p.deep < 5; omega⟩
  | .lay a, ⟨hi, hj⟩, h =>
    have := G.nxt_r hi hj h
    refine ⟨by omega, ?_⟩
    rw [Bool.eq_false_iff]; intro z
    exact ((G.iv.nxt hi hj).mp h).1 (has_keys.mp z)
  | .take a, ⟨hi, hj⟩, h =>
    obtain ⟨e0, e1, e2⟩ := isE_iff.mp h
    have := G.hr a (has_keys.mp e0)
    exact ⟨by omega, e0, by omega, by omega⟩
theorem Gd.okF (G : Gd s c) (ht : okT s.n s.m t) (hr : ∀ a, t = .lay a ∨ t = .take a → a.r ≤ 1000) : t.okF s := by
  match t, ht with
  | .rule p, ht => exact trivial
  | .lay a, ht => exact hr a (.inl rfl)
  | .take a, ⟨hi, hj⟩ => exact ⟨hr a (.inr rfl), G.iv.cok hi hj⟩
theorem Gd.can_r (G : Gd s c) (ht : okT s.n s.m t) (h : s.can t = true) : ∀ a, t = .lay a ∨ t = .take a → a.r ≤ c := fun a e => by
  rcases e with e | e
  · subst e; exact G.nxt_r ht.1 ht.2 h
  · subst e
    have := G.hr a (has_keys.mp (isE_iff.mp h).1)
    omega
theorem okT_okE {n m : Nat} (h : okT n m t) : t.okE n m := by
  match t, h with
  | .rule p, h => exact ⟨h.1, by have := h.2; show p.deep < 5; omega⟩
  | .lay a, h => exact h
  | .take a, h => exact h
theorem Gd.doD (G : Gd s c) (ht : okT s.n s.m t) (h : s.can t = true) : Gd (s.doD t) (c + 1) := by
  have I := G.iv.doD ht h
  match t, ht, h with
  | .rule p, ht, _ => exact ⟨I, G.nm, ht.1, ht.2, Nat.le_succ_of_le G.ls, Nat.le_succ_of_le G.lm, Nat.le_succ_of_le G.ll, fun a ha => Nat.lt_succ_of_lt (G.hr a ha)⟩
  | .lay a, ⟨hi, hj⟩, h =>
    refine ⟨I, G.nm, G.pk, G.pd, Nat.le_trans bump_len (Nat.succ_le_succ G.ls), Nat.le_trans bump_len (Nat.succ_le_succ G.lm), ?_, fun b hb => ?_⟩
    · show (s.laid ++ [(a, s.p.truth (nums s.n s.m a.r a.i a.j))]).length ≤ _
      rw [List.length_append]; exact Nat.succ_le_succ G.ll
    · rw [keys_lay, List.mem_append, List.mem_singleton] at hb
      rcases hb with hb | hb
      · exact Nat.lt_succ_of_lt (G.hr b hb)
      · subst hb; exact Nat.lt_succ_of_le (G.nxt_r hi hj h)
  | .take a, ⟨hi, hj⟩, h =>
    refine ⟨I, G.nm, G.pk, G.pd, Nat.le_trans bump_len (Nat.succ_le_succ G.ls), Nat.le_trans bump_len (Nat.succ_le_succ G.lm), ?_, fun b hb => ?_⟩
    · exact Nat.le_succ_of_le (Nat.le_trans (List.length_filter_le _ _) G.ll)
    · rw [keys_take, List.mem_filter] at hb
      exact Nat.lt_succ_of_lt (G.hr b hb.1)
def okC : Fl → List Deed → Prop
  | _, [] => True
  | s, t :: l => okT s.n s.m t ∧ s.can t = true ∧ okC (s.doD t) l
theorem okC_app : ∀ {s : Fl} {l l' : List Deed}, okC s (l ++ l') ↔ okC s l ∧ okC (runL s l) l'
  | s, [], l' => ⟨fun h => ⟨trivial, h⟩, fun h => h.2⟩
  | s, t :: l, l' => by
    show okT s.n s.m t ∧ s.can t = true ∧ okC (s.doD t) (l ++ l') ↔ (okT s.n s.m t ∧ s.can t = true ∧ okC (s.doD t) l) ∧ okC (runL (s.doD t) l) l'
    rw [okC_app]
    constructor
    · intro ⟨h1, h2, h3, h4⟩; exact ⟨⟨h1, h2, h3⟩, h4⟩
    · intro ⟨⟨h1, h2, h3⟩, h4⟩; exact ⟨h1, h2, h3, h4⟩
theorem Gd.run : ∀ {s : Fl} {c : Nat} {l : List Deed}, Gd s c → okC s l → Gd (runL s l) (c + l.length)
  | s, c, [], G, _ => G
  | s, c, t :: l, G, ⟨h1, h2, h3⟩ => by
    have := Gd.run (l := l) (G.doD h1 h2) h3
    rw [List.length_cons, show c + (l.length + 1) = c + 1 + l.length by omega]
    exact this
theorem Gd.okL : ∀ {s : Fl} {c : Nat} {l : List Deed}, Gd s c → c + l.length ≤ 900 → okC s l → okL s l
  | s, c, [], G, _, _ => trivial
  | s, c, t :: l, G, hc, ⟨h1, h2, h3⟩ => by
    rw [List.length_cons] at hc
    exact ⟨G.szd (by omega), G.okD (by omega) h1 h2, Gd.okL (l := l) (G.doD h1 h2) (by omega) h3⟩
theorem Gd.okDo {V : Ev} (G : Gd V.s c) (hc : c ≤ 900) (hl : V.log.length < 200) (ht : okT V.s.n V.s.m t) (h : V.s.can t = true) : okDo V t :=
  ⟨okT_okE ht, hl, G.szd (by omega), G.okD (by omega) ht h, G.okF ht fun a e => by have := G.can_r ht h a e; omega, h⟩
theorem gd0 {n m : Nat} {p : Pt} (h : okN n m) (hp : p.ok) (hd : p.deep ≤ 2) : Gd (fl0 n m p) 0 :=
  ⟨⟨h.1, h.2.1, List.nodup_nil, fun _ z => (nomatch z), fun a _ _ => ⟨fun z => (nomatch z), fun z => absurd z (Nat.not_lt_zero _)⟩, fun a _ _ => ⟨fun z => (nomatch z), fun z => absurd z (Nat.not_lt_zero _)⟩, fun _ _ => rfl⟩, h, hp, hd, Nat.le_refl _, Nat.le_refl _, Nat.le_refl _, fun _ z => (nomatch z)⟩
end Pr
set_option maxHeartbeats 4000000
/-! Mc: the plain law: the lists that the law compares. -/
namespace Pr
open PySem PySem.Spec PyProof.Rows L2
/-! ### all meetings, in order -/
theorem pw_flat {α β : Type} {R : β → β → Prop} {f : α → List β} : ∀ {l : List α}, (∀ a ∈ l, (f a).Pairwise R) → l.Pairwise (fun a b => ∀ x ∈ f a, ∀ y ∈ f b, R x y) → (l.flatMap f).Pairwise R
  | [], _, _ => by simp
  | a :: l, h1, h2 => by
    rw [List.flatMap_cons, List.pairwise_append]
    rw [List.pairwise_cons] at h2
    refine ⟨h1 a List.mem_cons_self, pw_flat (fun b hb => h1 b (List.mem_cons_of_mem _ hb)) h2.2, fun x hx y hy => ?_⟩
    obtain ⟨b, hb, hy⟩ := List.mem_flatMap.mp hy
    exact h2.1 b hb x hx y hy
theorem pairs_pw {n m : Nat} (hm : m ≤ 64) : (pairs n m).Pairwise fun p q => p.1 * 64 + p.2 < q.1 * 64 + q.2 := by
  unfold pairs
  refine pw_flat (fun i _ => ?_) ?_
  · rw [List.pairwise_map]
    exact List.pairwise_lt_range.imp fun h => by show _ * 64 + _ < _ * 64 + _; omega
  · refine List.pairwise_lt_range.imp fun {a b} h x hx y hy => ?_
    obtain ⟨j, hj, rfl⟩ := List.mem_map.mp hx
    obtain ⟨k, hk, rfl⟩ := List.mem_map.mp hy
    have := List.mem_range.mp hj
    show a * 64 + j < b * 64 + k
    omega
theorem allM_pw {n m R : Nat} (hn : n ≤ 64) (hm : m ≤ 64) : (allM n m R).Pairwise fun a b => a.code < b.code := by
  unfold allM
  refine pw_flat (fun r _ => ?_) ?_
  · rw [List.pairwise_map]
    exact (pairs_pw hm).imp fun {p q} h => by show (r * 64 + p.1) * 64 + p.2 < (r * 64 + q.1) * 64 + q.2; omega
  · refine List.pairwise_lt_range.imp fun {a b} h x hx y hy => ?_
    obtain ⟨p, hp, rfl⟩ := List.mem_map.mp hx
    obtain ⟨q, hq, rfl⟩ := List.mem_map.mp hy
    have h1 := mem_pairs.mp hp
    have h2 := mem_pairs.mp hq
    unfold Mt.code
    show (a * 64 + p.1) * 64 + p.2 < (b * 64 + q.1) * 64 + q.2
    omega
theorem allM_nd {n m R : Nat} (hn : n ≤ 64) (hm : m ≤ 64) : (allM n m R).Nodup := (allM_pw hn hm).imp fun h e => by rw [e] at h; exact Nat.lt_irrefl _ h
theorem perm_of {l l' : List Mt} (h1 : l.Nodup) (h2 : l'.Nodup) (h : ∀ a, a ∈ l ↔ a ∈ l') : l.Perm l' := (List.perm_ext_iff_of_nodup h1 h2).mpr h
variable {s : Fl} {a b : Mt} {c : Nat}
theorem can_in (I : Iv s) : a ∈ s.canL ↔ a.i < s.n ∧ a.j < s.m ∧ s.nxt a = true := by
  constructor
  · intro h
    obtain ⟨i, hi, e, q⟩ := canL_mem h
    refine ⟨by rw [e]; exact hi, by rw [e]; exact Nat.mod_lt _ I.m1, q⟩
  · intro ⟨hi, hj, q⟩
    obtain ⟨e1, e2⟩ := nxt_iff.mp q
    have e : s.cell a.i = a := by
      unfold Fl.cell
      rw [e1]
      refine mt_eq ?_ rfl ?_
      · show (a.r * s.m + a.j) / s.m = a.r
        rw [Nat.mul_comm, Nat.mul_add_div I.m1, Nat.div_eq_of_lt hj, Nat.add_zero]
      · show (a.r * s.m + a.j) % s.m = a.j
        rw [Nat.mul_comm, Nat.mul_add_mod, Nat.mod_eq_of_lt hj]
    unfold Fl.canL
    refine List.mem_flatMap.mpr ⟨a.i, List.mem_range.mpr hi, ?_⟩
    rw [e, if_pos q]
    exact List.mem_singleton.mpr rfl
theorem can_nd : s.canL.Nodup := by
  unfold Fl.canL
  refine pw_flat (R := (· ≠ ·)) (fun i _ => ?_) ?_
  · split
    · exact List.nodup_cons.mpr ⟨by simp, List.nodup_nil⟩
    · exact List.nodup_nil
  · refine List.pairwise_lt_range.imp fun {a b} h x hx y hy => ?_
    split at hx
    · split at hy
      · rw [List.mem_singleton] at hx hy
        rw [hx, hy]
        intro e
        have e2 := congrArg Mt.i e
        have e3 : a = b := e2
        omega
      · cases hy
    · cases hx
theorem has_false : has s.laid a = false ↔ a ∉ s.keys := by rw [← has_keys, Bool.not_eq_true]
theorem nxt_look (I : Iv s) (hi : a.i < s.n) (hj : a.j < s.m) (h : s.nxt a = true) : a.r < lookR s.laid := by
  by_cases z : a.r = 0
  · have : 1 ≤ lookR s.laid := by
      unfold lookR
      rcases upR_in (keysOf s.laid) with e | ⟨b, _, e⟩ <;> omega
    omega
  · have hb : (⟨a.r - 1, a.i, a.j⟩ : Mt) ∈ s.keys := ((I.nxt hi hj).mp h).2 _ hi hj (fun e => by have := congrArg Mt.r e; simp at this; omega) (by
      rw [ahd_iff]
      show a.r - 1 + oI (a.i < a.i) + oI (a.j < a.j) ≤ a.r
      rw [oI_self, oI_self]; omega)
    have := lookR_ge (l := s.laid) (show _ ∈ keysOf s.laid from hb)
    simp at this
    omega
theorem ahd_r {a b : Mt} (h : ahd a b = true) : a.r ≤ b.r := by rw [ahd_iff] at h; omega
theorem mem_openL {n m : Nat} : a ∈ openL s.laid n m ↔ (a.r < lookR s.laid ∧ a.i < n ∧ a.j < m) ∧ a ∉ s.keys := by
  unfold openL
  rw [List.mem_filter, mem_allM]
  refine and_congr_right fun _ => ?_
  rw [← has_false]
  cases has s.laid a <;> simp
theorem lcan_iff (I : Iv s) : a ∈ lcan s.laid s.n s.m ↔ a.i < s.n ∧ a.j < s.m ∧ s.nxt a = true := by
  unfold lcan
  rw [List.mem_filter, mem_openL, List.isEmpty_iff, List.filter_eq_nil_iff]
  constructor
  · intro ⟨⟨⟨h1, h2, h3⟩, h4⟩, h5⟩
    refine ⟨h2, h3, (I.nxt h2 h3).mpr ⟨h4, fun b bi bj hne hah => Classical.byContradiction fun z => ?_⟩⟩
    have := h5 b (mem_openL.mpr ⟨⟨by have := ahd_r hah; omega, bi, bj⟩, z⟩)
    rw [hah, decide_eq_false hne] at this
    exact this rfl
  · intro ⟨h2, h3, q⟩
    obtain ⟨h4, h5⟩ := (I.nxt h2 h3).mp q
    refine ⟨⟨⟨nxt_look I h2 h3 q, h2, h3⟩, h4⟩, fun b hb z => ?_⟩
    obtain ⟨⟨_, bi, bj⟩, hb4⟩ := mem_openL.mp hb
    rw [Bool.and_eq_true, Bool.not_eq_true', decide_eq_false_iff_not] at z
    exact hb4 (h5 b bi bj z.1 z.2)
theorem lcan_eq (G : Gd s c) (hc : c < 64) : lcan s.laid s.n s.m = sortM s.canL := by
  obtain ⟨_, _, h3, h4, _⟩ := G.nm
  refine sortM_uniq (fun a ha => ?_) (perm_of ?_ can_nd fun a => (lcan_iff G.iv).trans (can_in G.iv).symm) ?_
  · obtain ⟨hi, hj, q⟩ := (can_in G.iv).mp ha
    have := G.nxt_r hi hj q
    exact ⟨by omega, by omega, by omega⟩
  · exact ((allM_nd (by omega) (by omega)).sublist List.filter_sublist).sublist List.filter_sublist
  · exact (((allM_pw (by omega) (by omega)).sublist List.filter_sublist).sublist List.filter_sublist).imp fun h => Nat.le_of_lt h
theorem lends_iff (I : Iv s) (ha : a ∈ s.keys) : ((keysOf s.laid).filter fun b => (!decide (b = a)) && ahd a b).isEmpty = s.isE a := by
  obtain ⟨hi, hj⟩ := I.inr a ha
  rw [Bool.eq_iff_iff, List.isEmpty_iff, List.filter_eq_nil_iff, I.isE hi hj]
  constructor
  · intro h
    refine ⟨ha, fun b hb hne => ?_⟩
    have := h b hb
    rw [decide_eq_false hne] at this
    simpa using this
  · intro ⟨_, h⟩ b hb z
    rw [Bool.and_eq_true, Bool.not_eq_true', decide_eq_false_iff_not] at z
    rw [h b hb z.1] at z
    cases z.2
theorem lends_eq (I : Iv s) : lends s.laid = (sortM s.keys).filter s.isE := by
  unfold lends
  exact List.filter_congr fun a ha => lends_iff I ((sortM_perm _).mem_iff.mp ha)
theorem lends_mem (I : Iv s) : a ∈ lends s.laid ↔ s.isE a = true := by
  rw [lends_eq I, List.mem_filter, (sortM_perm _).mem_iff]
  exact ⟨fun h => h.2, fun h => ⟨has_keys.mp (isE_iff.mp h).1, h⟩⟩
theorem goes_can (I : Iv s) {t : Deed} (ht : okT s.n s.m t) : t.goes s.laid s.n s.m = s.can t := by
  match t, ht with
  | .rule p, _ => rfl
  | .lay a, ⟨hi, hj⟩ =>
    show decide _ = s.nxt a
    rw [Bool.eq_iff_iff, decide_eq_true_iff, lcan_iff I]
    exact ⟨fun h => h.2.2, fun h => ⟨hi, hj, h⟩⟩
  | .take a, ht =>
    show decide _ = s.isE a
    rw [Bool.eq_iff_iff, decide_eq_true_iff, lends_mem I]
theorem nxt_ex (I : Iv s) : ∀ (k : Nat) (a : Mt), lvl s.n s.m a ≤ k → a.i < s.n → a.j < s.m → a ∉ s.keys → ∃ b : Mt, b.i < s.n ∧ b.j < s.m ∧ s.nxt b = true
  | k, a, hk, hi, hj, ha => by
    by_cases z : s.nxt a = true
    · exact ⟨a, hi, hj, z⟩
    · rw [I.nxt hi hj] at z
      have z2 : ¬ ∀ b : Mt, b.i < s.n → b.j < s.m → b ≠ a → ahd b a = true → b ∈ s.keys := fun h => z ⟨ha, h⟩
      obtain ⟨b, z2⟩ := Classical.not_forall.mp z2
      obtain ⟨bi, z2⟩ := Classical.not_imp.mp z2
      obtain ⟨bj, z2⟩ := Classical.not_imp.mp z2
      obtain ⟨hne, z2⟩ := Classical.not_imp.mp z2
      obtain ⟨hah, hb⟩ := Classical.not_imp.mp z2
      have hl := lvl_lt (n := s.n) (m := s.m) ⟨bi, bj⟩ ⟨hi, hj⟩ hah hne
      match k, hk with
      | 0, hk => omega
      | k + 1, hk => exact nxt_ex I k b (by omega) bi bj hb
theorem lcan_ne (I : Iv s) : lcan s.laid s.n s.m ≠ [] := by
  have h0 : (⟨lookR s.laid, 0, 0⟩ : Mt) ∉ s.keys := fun z => by
    have := lookR_ge (l := s.laid) (show _ ∈ keysOf s.laid from z)
    simp at this
    omega
  obtain ⟨b, bi, bj, q⟩ := nxt_ex I _ ⟨lookR s.laid, 0, 0⟩ (Nat.le_refl _) I.n1 I.m1 h0
  exact List.ne_nil_of_mem ((lcan_iff I).mpr ⟨bi, bj, q⟩)
theorem Gd.law (G : Gd s c) (hc : c ≤ 28) (hk : s.laid.length < 64) : lawL s.laid s.n s.m :=
  ⟨G.nm, hk, fun a ha => by
    have h1 := G.hr a ha
    obtain ⟨h2, h3⟩ := G.iv.inr a ha
    exact ⟨by omega, h2, h3⟩⟩
theorem Gd.small (G : Gd s c) (hc : ∀ a ∈ s.keys, a.r < 60) (hk : s.laid.length < 64) : s.small := by
  obtain ⟨_, _, h3, h4, h5⟩ := G.nm
  refine ⟨by omega, by omega, by omega, by unfold Fl.keys; rw [List.length_map]; exact hk, fun a ha => ?_⟩
  have h1 := hc a ha
  obtain ⟨h2, h3⟩ := G.iv.inr a ha
  exact ⟨by omega, by omega, by omega⟩
theorem Gd.cell (G : Gd s c) (hc : ∀ a ∈ s.keys, a.r < 60) (i : Nat) : cnt s.sun i / s.m < 64 := by
  by_cases hi : i < s.n
  · by_cases z : cnt s.sun i = 0
    · rw [z, Nat.zero_div]; decide
    · have m0 := G.iv.m1
      let k := cnt s.sun i - 1
      let a : Mt := ⟨k / s.m, i, k % s.m⟩
      have hck : a.r * s.m + a.j = k := by show k / s.m * s.m + k % s.m = k; rw [Nat.mul_comm]; exact Nat.div_add_mod k s.m
      have aj : a.j < s.m := Nat.mod_lt _ m0
      have ha : a ∈ s.keys := (G.iv.sun a hi aj).mpr (by
        have : a.i = i := rfl
        rw [hck, this]; show cnt s.sun i - 1 < cnt s.sun i; omega)
      have h1 := hc a ha
      have h2 : cnt s.sun i ≤ a.r * s.m + s.m := by show cnt s.sun i ≤ _; have : k = cnt s.sun i - 1 := rfl; omega
      have h3 : cnt s.sun i / s.m ≤ (a.r * s.m + s.m) / s.m := Nat.div_le_div_right h2
      have h4 : (a.r * s.m + s.m) / s.m = a.r + 1 := by
        rw [show a.r * s.m + s.m = (a.r + 1) * s.m by rw [Nat.add_mul, Nat.one_mul]]
        exact Nat.mul_div_cancel _ m0
      omega
  · rw [G.iv.out i (by omega), Nat.zero_div]; decide
/-! ### what is needed -/
theorem mem_need : a ∈ s.need b ↔ b ∉ s.keys ∧ (a.r ≤ b.r ∧ a.i < s.n ∧ a.j < s.m) ∧ a ∉ s.keys ∧ a ≠ b ∧ ahd a b = true := by
  unfold Fl.need
  split
  · rename_i h
    rw [has_keys] at h
    exact ⟨fun z => (nomatch z), fun z => absurd h z.1⟩
  · rename_i h
    rw [Bool.not_eq_true, has_false] at h
    unfold Fl.lack
    rw [List.mem_filter, List.mem_filter, mem_allM, Bool.and_eq_true, Bool.not_eq_true', Bool.not_eq_true', decide_eq_false_iff_not, has_false, Nat.lt_succ_iff]
    exact ⟨fun ⟨⟨h1, h2⟩, h3, h4⟩ => ⟨h, h1, h2, h3, h4⟩, fun ⟨_, h1, h2, h3, h4⟩ => ⟨⟨h1, h2⟩, h3, h4⟩⟩
theorem need_nd (hn : s.n ≤ 64) (hm : s.m ≤ 64) : (s.need b).Nodup := by
  unfold Fl.need Fl.lack
  split
  · exact List.nodup_nil
  · exact ((allM_nd hn hm).sublist List.filter_sublist).sublist List.filter_sublist
theorem need_nil (I : Iv s) (hi : b.i < s.n) (hj : b.j < s.m) (hb : b ∉ s.keys) : s.need b = [] ↔ s.nxt b = true := by
  rw [I.nxt hi hj, List.eq_nil_iff_forall_not_mem]
  constructor
  · intro h
    refine ⟨hb, fun a ai aj hne hah => Classical.byContradiction fun z => h a (mem_need.mpr ⟨hb, ⟨ahd_r hah, ai, aj⟩, z, hne, hah⟩)⟩
  · intro ⟨_, h⟩ a ha
    obtain ⟨_, ⟨_, ai, aj⟩, z, hne, hah⟩ := mem_need.mp ha
    exact z (h a ai aj hne hah)
end Pr
set_option maxHeartbeats 4000000
/-! Md: the plain law: laying and taking off in the order of levels. -/
namespace Pr
open PySem PySem.Spec PyProof.Rows L2
def LayOk (n m : Nat) : List Mt → List Mt → Prop
  | _, [] => True
  | K, a :: l => (a.i < n ∧ a.j < m) ∧ a ∉ K ∧ (∀ c : Mt, c.i < n → c.j < m → c ≠ a → ahd c a = true → c ∈ K) ∧ LayOk n m (K ++ [a]) l
def TakeOk : List Mt → List Mt → Prop
  | _, [] => True
  | K, a :: l => a ∈ K ∧ (∀ b ∈ K, b ≠ a → ahd a b = false) ∧ TakeOk (K.filter fun b => decide (b ≠ a)) l
variable {n m : Nat}
theorem layOk_of : ∀ {l K : List Mt}, l.Pairwise (fun a b => lvl n m a ≤ lvl n m b) → l.Nodup → (∀ a ∈ l, (a.i < n ∧ a.j < m) ∧ a ∉ K) → (∀ a ∈ l, ∀ c : Mt, c.i < n → c.j < m → c ≠ a → ahd c a = true → c ∈ K ∨ c ∈ l) → LayOk n m K l
  | [], _, _, _, _, _ => trivial
  | a :: l, K, hp, hn, h1, h2 => by
    rw [List.pairwise_cons] at hp
    rw [List.nodup_cons] at hn
    obtain ⟨ha, hk⟩ := h1 a List.mem_cons_self
    refine ⟨ha, hk, fun c ci cj hne hah => ?_, layOk_of hp.2 hn.2 (fun b hb => ?_) fun b hb c ci cj hne hah => ?_⟩
    · rcases h2 a List.mem_cons_self c ci cj hne hah with h | h
      · exact h
      · rcases List.mem_cons.mp h with e | h
        · exact absurd e hne
        · have := lvl_lt (n := n) (m := m) ⟨ci, cj⟩ ha hah hne
          have := hp.1 c h
          omega
    · obtain ⟨h3, h4⟩ := h1 b (List.mem_cons_of_mem _ hb)
      refine ⟨h3, fun z => ?_⟩
      rw [List.mem_append, List.mem_singleton] at z
      rcases z with z | z
      · exact h4 z
      · subst z; exact hn.1 hb
    · rcases h2 b (List.mem_cons_of_mem _ hb) c ci cj hne hah with h | h
      · exact .inl (List.mem_append_left _ h)
      · rcases List.mem_cons.mp h with e | h
        · exact .inl (List.mem_append_right _ (List.mem_singleton.mpr e))
        · exact .inr h
theorem takeOk_of : ∀ {l K : List Mt}, (∀ a ∈ K, a.i < n ∧ a.j < m) → l.Pairwise (fun a b => lvl n m b ≤ lvl n m a) → l.Nodup → (∀ a ∈ l, a ∈ K) → (∀ a ∈ l, ∀ b ∈ K, b ≠ a → ahd a b = true → b ∈ l) → TakeOk K l
  | [], _, _, _, _, _, _ => trivial
  | a :: l, K, hK, hp, hn, h1, h2 => by
    rw [List.pairwise_cons] at hp
    rw [List.nodup_cons] at hn
    have ha := h1 a List.mem_cons_self
    refine ⟨ha, fun b hb hne => ?_, takeOk_of (fun b hb => hK b (List.mem_filter.mp hb).1) hp.2 hn.2 (fun b hb => ?_) fun b hb c hc hne hah => ?_⟩
    · rw [Bool.eq_false_iff]
      intro z
      rcases List.mem_cons.mp (h2 a List.mem_cons_self b hb hne z) with e | h
      · exact hne e
      · have := lvl_lt (n := n) (m := m) (hK a ha) (hK b hb) z (Ne.symm hne)
        have := hp.1 b h
        omega
    · refine List.mem_filter.mpr ⟨h1 b (List.mem_cons_of_mem _ hb), decide_eq_true fun z => ?_⟩
      subst z; exact hn.1 hb
    · obtain ⟨h3, h4⟩ := List.mem_filter.mp hc
      rcases List.mem_cons.mp (h2 b (List.mem_cons_of_mem _ hb) c h3 hne hah) with e | h
      · exact absurd e (of_decide_eq_true h4)
      · exact h
/-- an evening behind laying -/
structure LayE (V : Ev) (c : Nat) (l : List Mt) (W : Ev) : Prop where
  ok : okDos V (l.map .lay)
  gd : Gd W.s (c + l.length)
  ks : W.s.keys = V.s.keys ++ l
  n : W.s.n = V.s.n
  m : W.s.m = V.s.m
  p0 : W.p0 = V.p0
  lg : W.log.length = V.log.length + l.length
theorem lay_dos : ∀ {l : List Mt} {V : Ev} {c : Nat}, Gd V.s c → LayOk V.s.n V.s.m V.s.keys l → c + l.length ≤ 900 → V.log.length + l.length ≤ 200 → LayE V c l (V.dos (l.map .lay))
  | [], V, c, G, _, _, _ => ⟨trivial, G, (List.append_nil _).symm, rfl, rfl, rfl, rfl⟩
  | a :: l, V, c, G, ⟨h1, h2, h3, h4⟩, hc, hl => by
    rw [List.length_cons] at hc hl
    have hx : V.s.can (.lay a) = true := (G.iv.nxt h1.1 h1.2).mpr ⟨h2, h3⟩
    have ht : okT V.s.n V.s.m (.lay a) := h1
    have hk : (V.dn (.lay a)).s.keys = V.s.keys ++ [a] := keys_lay
    have hlg : (V.dn (.lay a)).log.length = V.log.length + 1 := by show (V.log ++ [_]).length = _; rw [List.length_append]; rfl
    have R := lay_dos (l := l) (V := V.dn (.lay a)) (c := c + 1) (G.doD ht hx) (by rw [hk]; exact h4) (by omega) (by rw [hlg]; omega)
    refine ⟨⟨G.okDo (by omega) (by omega) ht hx, R.ok⟩, ?_, ?_, R.n, R.m, R.p0, ?_⟩
    · have := R.gd
      rw [List.length_cons, show c + (l.length + 1) = c + 1 + l.length by omega]
      exact this
    · have := R.ks
      rw [hk, List.append_assoc] at this
      exact this
    · have := R.lg
      rw [hlg] at this
      rw [List.length_cons]
      show ((V.dn (.lay a)).dos (l.map .lay)).log.length = _
      omega
structure TakeE (V : Ev) (c : Nat) (l : List Mt) (W : Ev) : Prop where
  ok : okDos V (l.map .take)
  gd : Gd W.s (c + l.length)
  ks : ∀ b, b ∈ W.s.keys ↔ b ∈ V.s.keys ∧ b ∉ l
  kl : W.s.keys.length + l.length = V.s.keys.length
  n : W.s.n = V.s.n
  m : W.s.m = V.s.m
theorem filter_ne_len {l : List Mt} {a : Mt} (hn : l.Nodup) (ha : a ∈ l) : (l.filter fun b => decide (b ≠ a)).length + 1 = l.length := by
  induction l with
  | nil => cases ha
  | cons x l ih =>
    rw [List.nodup_cons] at hn
    by_cases e : x = a
    · subst e
      have hf : (l.filter fun b => decide (b ≠ x)) = l := List.filter_eq_self.mpr fun b hb => decide_eq_true (fun z : b = x => hn.1 (by rw [← z]; exact hb))
      rw [List.filter_cons_of_neg (by simp), hf]
      rfl
    · rw [List.filter_cons_of_pos (by simp [e]), List.length_cons, List.length_cons]
      rcases List.mem_cons.mp ha with h | h
      · exact absurd h.symm e
      · rw [ih hn.2 h]
theorem take_dos : ∀ {l : List Mt} {V : Ev} {c : Nat}, Gd V.s c → TakeOk V.s.keys l → c + l.length ≤ 900 → V.log.length + l.length ≤ 200 → TakeE V c l (V.dos (l.map .take))
  | [], V, c, G, _, _, _ => ⟨trivial, G, fun b => ⟨fun h => ⟨h, List.not_mem_nil⟩, fun h => h.1⟩, rfl, rfl, rfl⟩
  | a :: l, V, c, G, ⟨h1, h2, h3⟩, hc, hl => by
    rw [List.length_cons] at hc hl
    obtain ⟨hi, hj⟩ := G.iv.inr a h1
    have hx : V.s.can (.take a) = true := (G.iv.isE hi hj).mpr ⟨h1, h2⟩
    have ht : okT V.s.n V.s.m (.take a) := ⟨hi, hj⟩
    have hk : (V.dn (.take a)).s.keys = V.s.keys.filter fun b => decide (b ≠ a) := keys_take
    have hlg : (V.dn (.take a)).log.length = V.log.length + 1 := by show (V.log ++ [_]).length = _; rw [List.length_append]; rfl
    have R := take_dos (l := l) (V := V.dn (.take a)) (c := c + 1) (G.doD ht hx) (by rw [hk]; exact h3) (by omega) (by rw [hlg]; omega)
    refine ⟨⟨G.okDo (by omega) (by omega) ht hx, R.ok⟩, ?_, fun b => ?_, ?_, R.n, R.m⟩
    · have := R.gd
      rw [List.length_cons, show c + (l.length + 1) = c + 1 + l.length by omega]
      exact this
    · have := R.ks b
      rw [hk, List.mem_filter, decide_eq_true_iff] at this
      rw [List.mem_cons, not_or]
      exact this.trans ⟨fun ⟨⟨h1, h2⟩, h3⟩ => ⟨h1, h2, h3⟩, fun ⟨h1, h2, h3⟩ => ⟨⟨h1, h2⟩, h3⟩⟩
    · have := R.kl
      rw [hk] at this
      have e := filter_ne_len G.iv.nd h1
      rw [List.length_cons]
      show ((V.dn (.take a)).dos (l.map .take)).s.keys.length + (l.length + 1) = _
      omega
theorem takeOk_pre : ∀ {l K : List Mt} (i : Nat), TakeOk K l → TakeOk K (l.take i)
  | [], _, i, _ => by rw [List.take_nil]; exact trivial
  | a :: l, K, 0, _ => trivial
  | a :: l, K, i + 1, ⟨h1, h2, h3⟩ => ⟨h1, h2, takeOk_pre i h3⟩
/-! ### sorted by levels -/
theorem rk_le {p q : Int × Mt} (h1 : p.2.sm) (h2 : q.2.sm) (h : rk p ≤ rk q) : p.1 ≤ q.1 := by
  have h' : ((p.1 * 64 + p.2.r) * 64 + p.2.i) * 64 + p.2.j ≤ ((q.1 * 64 + q.2.r) * 64 + q.2.i) * 64 + q.2.j := h
  unfold Mt.sm at h1 h2
  omega
def bys (f : Mt → Int) (l : List Mt) : List (Int × Mt) := l.map fun a => (f a, a)
theorem bys_perm {f : Mt → Int} {l : List Mt} : ((sortN (bys f l)).map (·.2)).Perm l := by
  have h := (sortN_perm (bys f l)).map (·.2)
  have e : (bys f l).map (·.2) = l := by unfold bys; rw [List.map_map]; exact List.map_id _
  rw [e] at h
  exact h
theorem bys_fst {f : Mt → Int} {l : List Mt} {q : Int × Mt} (h : q ∈ sortN (bys f l)) : q.1 = f q.2 ∧ q.2 ∈ l := by
  obtain ⟨a, ha, rfl⟩ := List.mem_map.mp ((sortN_perm _).mem_iff.mp h)
  exact ⟨rfl, ha⟩
theorem bys_pw {f : Mt → Int} {l : List Mt} (hs : ∀ a ∈ l, a.sm) : ((sortN (bys f l)).map (·.2)).Pairwise fun a b => f a ≤ f b := by
  rw [List.pairwise_map]
  have h := sortN_pw (bys f l)
  refine List.Pairwise.imp_of_mem (fun {p q} hp hq h => ?_) h
  obtain ⟨e1, m1⟩ := bys_fst hp
  obtain ⟨e2, m2⟩ := bys_fst hq
  rw [← e1, ← e2]
  exact rk_le (hs _ m1) (hs _ m2) h
/-- laid in the order of levels -/
theorem layOk_lv {K l : List Mt} (hs : ∀ a ∈ l, a.sm) (hn : l.Nodup) (h1 : ∀ a ∈ l, (a.i < n ∧ a.j < m) ∧ a ∉ K) (h2 : ∀ a ∈ l, ∀ c : Mt, c.i < n → c.j < m → c ≠ a → ahd c a = true → c ∈ K ∨ c ∈ l) : LayOk n m K ((sortN (lvN n m l)).map (·.2)) := by
  have p : ((sortN (lvN n m l)).map (·.2)).Perm l := bys_perm (f := fun a => (lvl n m a : Nat))
  refine layOk_of ((bys_pw (f := fun a => (lvl n m a : Nat)) hs).imp fun h => by omega) (p.nodup_iff.mpr hn) (fun a ha => h1 a (p.mem_iff.mp ha)) fun a ha c ci cj hne hah => ?_
  rcases h2 a (p.mem_iff.mp ha) c ci cj hne hah with h | h
  · exact .inl h
  · exact .inr (p.mem_iff.mpr h)
theorem takeOk_lv {K l : List Mt} (hK : ∀ a ∈ K, a.i < n ∧ a.j < m) (hs : ∀ a ∈ l, a.sm) (hn : l.Nodup) (h1 : ∀ a ∈ l, a ∈ K) (h2 : ∀ a ∈ l, ∀ b ∈ K, b ≠ a → ahd a b = true → b ∈ l) : TakeOk K ((sortN (bys (fun a => 0 - (lvl n m a : Nat)) l)).map (·.2)) := by
  have p : ((sortN (bys (fun a => 0 - (lvl n m a : Nat)) l)).map (·.2)).Perm l := bys_perm
  refine takeOk_of (n := n) (m := m) hK ((bys_pw hs).imp fun h => by omega) (p.nodup_iff.mpr hn) (fun a ha => h1 a (p.mem_iff.mp ha)) fun a ha b hb hne hah => p.mem_iff.mpr (h2 a (p.mem_iff.mp ha) b hb hne hah)
/-- a part of it, laid in the same order -/
theorem layOk_part {K l : List Mt} {g : Mt → Bool} (h : LayOk n m K l) (hn : l.Nodup) (hk : ∀ a ∈ l, a ∉ K) (hg : ∀ a ∈ l, g a = true → ∀ c : Mt, c ∈ l → ahd c a = true → g c = true) : LayOk n m K (l.filter g) := by
  have key : ∀ (l K K2 : List Mt), LayOk n m K l → l.Nodup → (∀ a ∈ l, a ∉ K) → (∀ a ∈ l, g a = true → ∀ c : Mt, c ∈ K ∨ c ∈ l → ahd c a = true → c ∈ K → c ∈ K2) → (∀ c ∈ K2, c ∈ K) → (∀ a ∈ l, g a = true → ∀ c ∈ l, ahd c a = true → g c = true) → LayOk n m K2 (l.filter g) := by
    intro l
    induction l with
    | nil => intro K K2 _ _ _ _ _ _; exact trivial
    | cons a l ih =>
      intro K K2 ⟨h1, h2, h3, h4⟩ hn hk hc hs hg
      rw [List.nodup_cons] at hn
      cases ga : g a with
      | true =>
        rw [List.filter_cons_of_pos ga]
        refine ⟨h1, fun z => h2 (hs a z), fun c ci cj hne hah => hc a List.mem_cons_self ga c (.inl (h3 c ci cj hne hah)) hah (h3 c ci cj hne hah), ih (K ++ [a]) (K2 ++ [a]) h4 hn.2 (fun b hb z => ?_) (fun b hb gb c _ hah hcK => ?_) (fun c hc => ?_) fun b hb gb c hc hah => hg b (List.mem_cons_of_mem _ hb) gb c (List.mem_cons_of_mem _ hc) hah⟩
        · rw [List.mem_append, List.mem_singleton] at z
          rcases z with z | z
          · exact hk b (List.mem_cons_of_mem _ hb) z
          · subst z; exact hn.1 hb
        · rw [List.mem_append, List.mem_singleton] at hcK ⊢
          rcases hcK with z | z
          · exact .inl (hc b (List.mem_cons_of_mem _ hb) gb c (.inl z) hah z)
          · exact .inr z
        · rw [List.mem_append, List.mem_singleton] at hc ⊢
          rcases hc with z | z
          · exact .inl (hs c z)
          · exact .inr z
      | false =>
        rw [List.filter_cons_of_neg (by rw [ga]; decide)]
        refine ih (K ++ [a]) K2 h4 hn.2 (fun b hb z => ?_) (fun b hb gb c _ hah hcK => ?_) (fun c hc => List.mem_append_left _ (hs c hc)) fun b hb gb c hc hah => hg b (List.mem_cons_of_mem _ hb) gb c (List.mem_cons_of_mem _ hc) hah
        · rw [List.mem_append, List.mem_singleton] at z
          rcases z with z | z
          · exact hk b (List.mem_cons_of_mem _ hb) z
          · subst z; exact hn.1 hb
        · rw [List.mem_append, List.mem_singleton] at hcK
          rcases hcK with z | z
          · exact hc b (List.mem_cons_of_mem _ hb) gb c (.inl z) hah z
          · subst z
            have := hg b (List.mem_cons_of_mem _ hb) gb c List.mem_cons_self hah
            rw [ga] at this; cases this
  exact key l K K h hn hk (fun a _ _ c _ _ hK => hK) (fun c hc => hc) fun a ha ga c hc hah => hg a ha ga c hc hah
end Pr
set_option maxHeartbeats 4000000
/-! Me: the plain law: what has to be undone. -/
namespace Pr
open PySem PySem.Spec PyProof.Rows L2
theorem mem_addL {S : List Mt} {x y : Mt} : y ∈ addL S x ↔ y ∈ S ∨ y = x := by
  unfold addL
  split
  · exact ⟨.inl, fun h => h.elim id fun e => by subst e; assumption⟩
  · rw [List.mem_append, List.mem_singleton]
theorem nd_addL {S : List Mt} {x : Mt} (h : S.Nodup) : (addL S x).Nodup := by
  unfold addL
  split
  · exact h
  · rename_i z
    exact List.nodup_append.mpr ⟨h, List.nodup_cons.mpr ⟨List.not_mem_nil, List.nodup_nil⟩, fun a ha b hb e => z (by rw [List.mem_singleton] at hb; subst hb; subst e; exact ha)⟩
theorem mem_addF {y : Mt} : ∀ {xs S : List Mt}, y ∈ xs.foldl addL S ↔ y ∈ S ∨ y ∈ xs
  | [], S => ⟨.inl, fun h => h.elim id fun z => nomatch z⟩
  | x :: xs, S => by
    rw [List.foldl_cons, mem_addF, mem_addL, List.mem_cons, or_assoc]
theorem nd_addF : ∀ {xs S : List Mt}, S.Nodup → (xs.foldl addL S).Nodup
  | [], S, h => h
  | x :: xs, S, h => nd_addF (xs := xs) (nd_addL h)
variable {n m R : Nat} {a : Mt}
theorem mem_bh {x y : Mt} : y ∈ bh n m R x ↔ (y = alS m x ∨ y = alM n x) ∧ y.r < R := by
  unfold bh
  rw [(sortM_perm _).mem_iff, mem_dd, List.mem_filter, decide_eq_true_iff, List.mem_cons, List.mem_singleton]
theorem alS_ok {x : Mt} (hi : x.i < n) (hj : x.j < m) : ((alS m x).i < n ∧ (alS m x).j < m) ∧ ahd x (alS m x) = true := by
  rw [ahd_iff]
  unfold alS oI
  split
  · refine ⟨⟨hi, by assumption⟩, ?_⟩
    show x.r + (if x.i < x.i then 1 else 0) + (if x.j + 1 < x.j then 1 else 0) ≤ x.r
    rw [if_neg (by omega), if_neg (by omega)]; exact Nat.le_refl _
  · refine ⟨⟨hi, by show 0 < m; omega⟩, ?_⟩
    show x.r + (if x.i < x.i then 1 else 0) + (if 0 < x.j then 1 else 0) ≤ x.r + 1
    rw [if_neg (by omega)]; split <;> omega
theorem alM_ok {x : Mt} (hi : x.i < n) (hj : x.j < m) : ((alM n x).i < n ∧ (alM n x).j < m) ∧ ahd x (alM n x) = true := by
  rw [ahd_iff]
  unfold alM oI
  split
  · refine ⟨⟨by assumption, hj⟩, ?_⟩
    show x.r + (if x.i + 1 < x.i then 1 else 0) + (if x.j < x.j then 1 else 0) ≤ x.r
    rw [if_neg (by omega), if_neg (by omega)]; exact Nat.le_refl _
  · refine ⟨⟨by show 0 < n; omega, hj⟩, ?_⟩
    show x.r + (if 0 < x.i then 1 else 0) + (if x.j < x.j then 1 else 0) ≤ x.r + 1
    rw [if_neg (show ¬ x.j < x.j by omega)]; split <;> omega
theorem sunP {x : Mt} (hn : n ≤ 64) (hm : m ≤ 64) (hi : x.i < n) (hj : x.j < m) (h : x.j = 0 → 1 ≤ x.r) : ∃ p : Mt, (p.i = x.i ∧ p.j < m) ∧ x = alS m p ∧ p.code < x.code ∧ ((x.j = 0 ∧ p.r + 1 = x.r ∧ p.j + 1 = m) ∨ (p.r = x.r ∧ p.j + 1 = x.j)) := by
  by_cases z : x.j = 0
  · have := h z
    refine ⟨⟨x.r - 1, x.i, m - 1⟩, ⟨rfl, by show m - 1 < m; omega⟩, ?_, ?_, .inl ⟨z, by show x.r - 1 + 1 = x.r; omega, by show m - 1 + 1 = m; omega⟩⟩
    · unfold alS
      rw [if_neg (by show ¬ m - 1 + 1 < m; omega)]
      exact mt_eq (by show x.r = x.r - 1 + 1; omega) rfl z
    · unfold Mt.code
      show ((x.r - 1) * 64 + x.i) * 64 + (m - 1) < _
      omega
  · refine ⟨⟨x.r, x.i, x.j - 1⟩, ⟨rfl, by show x.j - 1 < m; omega⟩, ?_, ?_, .inr ⟨rfl, by show x.j - 1 + 1 = x.j; omega⟩⟩
    · unfold alS
      rw [if_pos (by show x.j - 1 + 1 < m; omega)]
      exact mt_eq rfl rfl (by show x.j = x.j - 1 + 1; omega)
    · unfold Mt.code
      show (x.r * 64 + x.i) * 64 + (x.j - 1) < _
      omega
theorem moonP {x : Mt} (hn : n ≤ 64) (hm : m ≤ 64) (hi : x.i < n) (hj : x.j < m) (h : x.i = 0 → 1 ≤ x.r) : ∃ p : Mt, (p.i < n ∧ p.j = x.j) ∧ x = alM n p ∧ p.code < x.code ∧ ((x.i = 0 ∧ p.r + 1 = x.r ∧ p.i + 1 = n) ∨ (p.r = x.r ∧ p.i + 1 = x.i)) := by
  by_cases z : x.i = 0
  · have := h z
    refine ⟨⟨x.r - 1, n - 1, x.j⟩, ⟨by show n - 1 < n; omega, rfl⟩, ?_, ?_, .inl ⟨z, by show x.r - 1 + 1 = x.r; omega, by show n - 1 + 1 = n; omega⟩⟩
    · unfold alM
      rw [if_neg (by show ¬ n - 1 + 1 < n; omega)]
      exact mt_eq (by show x.r = x.r - 1 + 1; omega) z rfl
    · unfold Mt.code
      show ((x.r - 1) * 64 + (n - 1)) * 64 + x.j < _
      omega
  · refine ⟨⟨x.r, x.i - 1, x.j⟩, ⟨by show x.i - 1 < n; omega, rfl⟩, ?_, ?_, .inr ⟨rfl, by show x.i - 1 + 1 = x.i; omega⟩⟩
    · unfold alM
      rw [if_pos (by show x.i - 1 + 1 < n; omega)]
      exact mt_eq rfl (by show x.i = x.i - 1 + 1; omega) rfl
    · unfold Mt.code
      show (x.r * 64 + (x.i - 1)) * 64 + x.j < _
      omega
/-- behind a: one just ahead of it is a or behind a -/
theorem pred_ex {x : Mt} (hn : n ≤ 64) (hm : m ≤ 64) (ai : a.i < n) (aj : a.j < m) (hi : x.i < n) (hj : x.j < m) (h : ahd a x = true) (hne : x ≠ a) : ∃ p : Mt, (p.i < n ∧ p.j < m) ∧ ahd a p = true ∧ (x = alS m p ∨ x = alM n p) ∧ p.code < x.code ∧ p.r ≤ x.r := by
  rw [ahd_iff] at h
  unfold oI at h
  by_cases c : x.j = a.j ∧ x.i ≠ a.i
  · obtain ⟨p, ⟨h1, h2⟩, h3, h4, h5⟩ := moonP hn hm hi hj (by split at h <;> split at h <;> omega)
    refine ⟨p, ⟨h1, by omega⟩, ?_, .inr h3, h4, by omega⟩
    rw [ahd_iff]
    unfold oI
    split at h <;> split at h <;> split <;> split <;> omega
  · by_cases c2 : a.i < x.i
    · obtain ⟨p, ⟨h1, h2⟩, h3, h4, h5⟩ := moonP hn hm hi hj (by omega)
      refine ⟨p, ⟨h1, by omega⟩, ?_, .inr h3, h4, by omega⟩
      rw [ahd_iff]
      unfold oI
      split at h <;> split at h <;> split <;> split <;> omega
    · have hr : x.j = a.j → a.r < x.r := fun e => by
        have ei : x.i = a.i := Classical.byContradiction fun z => c ⟨e, z⟩
        have : x.r ≠ a.r := fun z => hne (mt_eq z ei e)
        split at h <;> split at h <;> omega
      obtain ⟨p, ⟨h1, h2⟩, h3, h4, h5⟩ := sunP hn hm hi hj (by split at h <;> split at h <;> omega)
      refine ⟨p, ⟨by omega, h2⟩, ?_, .inl h3, h4, by omega⟩
      rw [ahd_iff]
      unfold oI
      split at h <;> split at h <;> split <;> split <;> omega
structure UI (n m R : Nat) (a : Mt) (l S : List Mt) : Prop where
  nd : S.Nodup
  inn : ∀ b ∈ S, b ∈ allM n m R ∧ ahd a b = true
  me : a ∈ S
  bh : ∀ x ∈ l, ahd a x = true → ∀ y ∈ Pr.bh n m R x, y ∈ S
theorem ui_step {l l' S : List Mt} {x : Mt} (hn : n ≤ 64) (hm : m ≤ 64) (ha : a ∈ allM n m R) (e : allM n m R = l ++ x :: l') (U : UI n m R a l S) : (ahd a x = true → x ∈ S) ∧ UI n m R a (l ++ [x]) (stepU n m R S x) := by
  have pw := allM_pw (n := n) (m := m) (R := R) hn hm
  obtain ⟨ar, ai, aj⟩ := mem_allM.mp ha
  have hx : x ∈ allM n m R := by rw [e]; exact List.mem_append_right _ List.mem_cons_self
  obtain ⟨xr, xi, xj⟩ := mem_allM.mp hx
  have key : ahd a x = true → x ∈ S := fun h => by
    by_cases z : x = a
    · rw [z]; exact U.me
    · obtain ⟨p, ⟨pi, pj⟩, hap, hq, hc, hr⟩ := pred_ex hn hm ai aj xi xj h z
      have hp : p ∈ allM n m R := mem_allM.mpr ⟨by omega, pi, pj⟩
      have hpl : p ∈ l := by
        rw [e] at hp pw
        rw [List.pairwise_append, List.pairwise_cons] at pw
        rcases List.mem_append.mp hp with h | h
        · exact h
        · rcases List.mem_cons.mp h with h | h
          · rw [h] at hc; exact absurd hc (Nat.lt_irrefl _)
          · have := pw.2.1.1 p h
            omega
      exact U.bh p hpl hap x (mem_bh.mpr ⟨hq, xr⟩)
  refine ⟨key, ?_⟩
  unfold stepU
  by_cases h : x ∈ S
  · rw [if_pos h]
    have hax := (U.inn x h).2
    refine ⟨nd_addF U.nd, fun b hb => ?_, mem_addF.mpr (.inl U.me), fun z hz hah y hy => ?_⟩
    · rcases mem_addF.mp hb with hb | hb
      · exact U.inn b hb
      · rcases mem_addF.mp hb with hb | hb
        · cases hb
        · obtain ⟨q, hr⟩ := mem_bh.mp hb
          rcases q with q | q
          · obtain ⟨h1, h2⟩ := alS_ok xi xj
            subst q
            exact ⟨mem_allM.mpr ⟨hr, h1⟩, ahd_trans hax h2⟩
          · obtain ⟨h1, h2⟩ := alM_ok xi xj
            subst q
            exact ⟨mem_allM.mpr ⟨hr, h1⟩, ahd_trans hax h2⟩
    · rcases List.mem_append.mp hz with hz | hz
      · exact mem_addF.mpr (.inl (U.bh z hz hah y hy))
      · rw [List.mem_singleton] at hz
        subst hz
        exact mem_addF.mpr (.inr (mem_addF.mpr (.inr hy)))
  · rw [if_neg h]
    refine ⟨U.nd, U.inn, U.me, fun z hz hah y hy => ?_⟩
    rcases List.mem_append.mp hz with hz | hz
    · exact U.bh z hz hah y hy
    · rw [List.mem_singleton] at hz
      subst hz
      exact absurd (key hah) h
theorem ui_run (hn : n ≤ 64) (hm : m ≤ 64) (ha : a ∈ allM n m R) : ∀ {l2 l1 l3 S : List Mt}, allM n m R = l1 ++ (l2 ++ l3) → UI n m R a l1 S → UI n m R a (l1 ++ l2) (l2.foldl (stepU n m R) S)
  | [], l1, l3, S, e, U => by rw [List.append_nil]; exact U
  | x :: l2, l1, l3, S, e, U => by
    have := (ui_step hn hm ha e U).2
    have r := ui_run hn hm ha (l2 := l2) (l1 := l1 ++ [x]) (l3 := l3) (by rw [e]; simp) this
    rw [List.append_assoc] at r
    exact r
theorem ui_pre (hn : n ≤ 64) (hm : m ≤ 64) (ha : a ∈ allM n m R) {l l' : List Mt} (e : allM n m R = l ++ l') : UI n m R a l (undoS n m R a l) :=
  ui_run hn hm ha (l1 := []) (l2 := l) (l3 := l') e ⟨List.nodup_cons.mpr ⟨List.not_mem_nil, List.nodup_nil⟩, fun b hb => by rw [List.mem_singleton] at hb; subst hb; exact ⟨ha, ahd_refl _⟩, List.mem_singleton.mpr rfl, fun _ z => nomatch z⟩
/-- all that is behind a, and a -/
def upL (n m R : Nat) (a : Mt) : List Mt := (allM n m R).filter (ahd a)
theorem len_sub {S l : List Mt} (h1 : S.Nodup) (h2 : l.Nodup) (h : ∀ b ∈ S, b ∈ l) : S.length ≤ l.length := by
  have p : S.Perm (l.filter fun b => decide (b ∈ S)) := perm_of h1 (h2.sublist List.filter_sublist) fun b => by rw [List.mem_filter, decide_eq_true_iff]; exact ⟨fun z => ⟨h b z, z⟩, fun z => z.2⟩
  rw [p.length_eq]
  exact List.length_filter_le _ _
theorem undo_mem (hn : n ≤ 64) (hm : m ≤ 64) (ha : a ∈ allM n m R) {b : Mt} : b ∈ undoS n m R a (allM n m R) ↔ b ∈ upL n m R a := by
  have U := ui_pre hn hm ha (List.append_nil _).symm
  unfold upL
  rw [List.mem_filter]
  refine ⟨U.inn b, fun ⟨h1, h2⟩ => ?_⟩
  obtain ⟨br, bi, bj⟩ := mem_allM.mp h1
  obtain ⟨ar, ai, aj⟩ := mem_allM.mp ha
  by_cases z : b = a
  · rw [z]; exact U.me
  · obtain ⟨p, ⟨pi, pj⟩, hap, hq, hc, hr⟩ := pred_ex hn hm ai aj bi bj h2 z
    exact U.bh p (mem_allM.mpr ⟨by omega, pi, pj⟩) hap b (mem_bh.mpr ⟨hq, br⟩)
theorem upL_sm (hn : n ≤ 64) (hm : m ≤ 64) (hR : R ≤ 64) : ∀ b ∈ upL n m R a, b.sm := fun b hb => by
  obtain ⟨h1, h2, h3⟩ := mem_allM.mp (List.mem_filter.mp hb).1
  exact ⟨by omega, by omega, by omega⟩
theorem undo_eq (hn : n ≤ 64) (hm : m ≤ 64) (hR : R ≤ 64) (ha : a ∈ allM n m R) : sortM (undoS n m R a (allM n m R)) = upL n m R a := by
  have U := ui_pre hn hm ha (List.append_nil _).symm
  refine (sortM_uniq (fun b hb => upL_sm hn hm hR b ((undo_mem hn hm ha).mp hb)) (perm_of ((allM_nd hn hm).sublist List.filter_sublist) U.nd fun b => (undo_mem hn hm ha).symm) ?_).symm
  exact ((allM_pw hn hm).sublist List.filter_sublist).imp fun h => Nat.le_of_lt h
theorem undo_pre (hn : n ≤ 64) (hm : m ≤ 64) (hR : R ≤ 64) (hl : R * (n * m) < 64) (ha : a ∈ allM n m R) : ∀ l l', allM n m R = l ++ l' → (undoS n m R a l).length < 64 ∧ ∀ b ∈ undoS n m R a l, b.sm := fun l l' e => by
  have U := ui_pre hn hm ha e
  refine ⟨Nat.lt_of_le_of_lt (len_sub U.nd (allM_nd (R := R) hn hm) fun b hb => (U.inn b hb).1) (by rw [allM_len]; exact hl), fun b hb => ?_⟩
  obtain ⟨h1, h2, h3⟩ := mem_allM.mp (U.inn b hb).1
  exact ⟨by omega, by omega, by omega⟩
theorem undo_count : ∀ n < 9, ∀ m < 9, n * m ≤ 15 → ∀ R < 4, ∀ a ∈ allM n m R, ((upL n m R a).length : Int) = undoN n m R a := by decide +kernel
end Pr
set_option maxHeartbeats 4000000
/-! Zr: rules for _law_led: dicts out of what is looked at; tests by calls; the evening's properties. -/
namespace Pr
open PySem PySem.Spec PyProof.Rows L2
/-- no list in it, dicts without lists -/
def gdK : Dt → Prop
  | .p q => noL q = true
  | .dT kvs => ∀ kv ∈ kvs, noL kv.2 = true
  | _ => False
def gdD : Dt → Prop
  | .tu ds => ∀ d ∈ ds, gdK d
  | d => gdK d
section
variable {K : PySem.W.Frag} {H : Hp} {F : List Addr} {v : V} {d : Dt}
theorem rd_cut {a : Addr} {u : HO} (hF : ∀ f ∈ F, ∃ xs, H f = some (.lst xs)) (hu : (∀ xs, u ≠ .lst xs)) (h : Rd H a u) : Rd (mn H F) a u := by
  have n : a ∉ F := fun z => by
    obtain ⟨xs, e⟩ := hF a z
    rcases h with h | ⟨o, h⟩
    · rw [e] at h; cases h; exact hu _ rfl
    · rw [e] at h; cases h
  rcases h with h | ⟨o, h⟩
  · exact .inl (by rw [mn_out n]; exact h)
  · exact .inr ⟨o, by rw [mn_out n]; exact h⟩
theorem rp_cutK (hF : ∀ f ∈ F, ∃ xs, H f = some (.lst xs)) (g : gdK d) (r : Rp K H v d) : Rp K (mn H F) v d := by
  have e : TL H (mn H F) := tl_mn fun f hf => .inl (hF f hf)
  cases r with
  | p r => exact .p (dp_tl e g r)
  | dT s k => exact .dT (rd_cut hF (fun xs z => by cases z) s) (kvP_tl e g k)
  | ob _ _ => exact g.elim
  | dK _ _ => exact g.elim
  | r _ => exact g.elim
  | li _ _ => exact g.elim
  | tu _ _ => exact g.elim
theorem rpAll_cutK (hF : ∀ f ∈ F, ∃ xs, H f = some (.lst xs)) : ∀ {ds : List Dt} {vs : List V}, (∀ d ∈ ds, gdK d) → RpAll K H vs ds → RpAll K (mn H F) vs ds
  | [], _, _, r => by cases r; exact .nil
  | d :: ds, _, g, r => by
    cases r with
    | cons r t => exact .cons (rp_cutK hF (g d List.mem_cons_self) r) (rpAll_cutK hF (fun d hd => g d (List.mem_cons_of_mem _ hd)) t)
theorem rp_cut (hF : ∀ f ∈ F, ∃ xs, H f = some (.lst xs)) (g : gdD d) (r : Rp K H v d) : Rp K (mn H F) v d := by
  match d, g with
  | .tu ds, g =>
    obtain ⟨a, vs, rfl, s, rr⟩ := r.tu_inv
    refine .tu ?_ (rpAll_cutK hF g rr)
    rcases s with s | s
    · exact .inl (rd_cut hF (fun xs z => by cases z) s)
    · exact .inr s
  | .p q, g => exact rp_cutK hF g r
  | .dT k, g => exact rp_cutK hF g r
  | .ob _ _, g => exact g.elim
  | .dK _, g => exact g.elim
  | .r _, g => exact g.elim
  | .li _, g => exact g.elim
end
section
variable {X : Cx} {δ δ' : De} {m mL mB : Ms} {d : Dt} {e a : Expr} {T : Rs} {C : Bool → Ms → Prop} {pos : Pos}
/-- some lists of the memory are looked at, the rest is not seen -/
theorem x_lookL (pm : m.Perm (mL ++ mB)) (hl : ∀ p ∈ mL, ∃ ps, p.2 = .l ps) (hr : Rsv X.K mL δ δ') (g : gdD d) (h : PE X e (tD X.K δ' d)) : PE X e (xE X.K δ m fun d' m' => d' = d ∧ m' = m) :=
  PE_imp (PE_frame h) fun σ H Q ⟨M, E, q⟩ => by
    have M' := M.perm pm
    have e1 := mn_perm (H := H) (perm_dm pm)
    have fo : Fo H (dm mB) := M'.foS fun a ha => by rw [dm_append]; exact List.mem_append_right _ ha
    have ML := M'.left
    have E' : EnvD X.K σ (mn (mn H (dm mB)) (dm mL)) δ := by rw [← mn_app, ← e1]; exact E
    refine ⟨dm mB, fo, hr σ _ ML E', fun v H1 s r => ⟨s, fun H' b => ?_⟩⟩
    have M1 := ML.same s
    have c1 : Chg (mn H (dm mB)) (dm mL) H1 (dm mL) := .of s
    have hF : ∀ f ∈ dm mL, ∃ xs, H1 f = some (.lst xs) := fun f hf => by
      obtain ⟨p, hp, rfl⟩ := List.mem_map.mp hf
      obtain ⟨ps, e⟩ := hl p hp
      have o := M1.all p hp
      rw [e] at o
      obtain ⟨vs, o, _⟩ := o
      exact ⟨vs, o⟩
    have nn : ∀ f ∈ dm mB, H1 f = none := fun f hf => by rw [← b.mn, mn_in hf]
    obtain ⟨h1, h2⟩ := M'.join M1 nn c1
    have eb : jn H (dm mB) H1 = H' := b.is.symm
    rw [eb] at h1 h2
    have M2 := h1.perm pm.symm
    have e2 : mn H' (dm m) = mn H1 (dm mL) := by rw [mn_perm (H := H') (perm_dm pm)]; exact h2
    refine q v d m H' ⟨rfl, rfl⟩ M2 ?_ ?_
    · show Same _ _
      rw [e2, e1, mn_app]
      exact c1
    · rw [e2]; exact rp_cut hF g r
theorem xt_val (h : PE X e (xE X.K δ m T)) (ht : ∀ d m', T d m' → ∃ k, d = .b k ∧ C k m') (he : ∀ whole, isTrue e X.env whole = (do let v ← whole; standAt e.pos; holding [v] (truthy v)) := by intro _; rfl) : PT X e (xT X.K δ m C) :=
  PT_imp (pt_val h he) fun σ H Q ⟨M, E, q⟩ => ⟨M, E, fun v d m' H' t M' c r => by
    obtain ⟨k, e, cc⟩ := ht d m' t
    subst e
    exact ⟨k, r.b_inv, q k m' H' cc M' c⟩⟩
theorem xt_not (h : PT X a (xT X.K δ m fun k m' => C (!k) m')) : PT X (.UnaryOp .Not a pos) (xT X.K δ m C) := PT_imp (pt_not h) fun σ H Q ⟨M, E, q⟩ => ⟨M, E, fun k m' H' cc M' c => q (!k) m' H' cc M' c⟩
end
variable {P : Program} {w : World} {K : PySem.W.Frag} {mg : Str → Option Value} {base : Heap}
def rdSuns : RD := fun ds d => ∃ (p0 : Pt) (s : Fl) (log und : List Deed), ds = [evD p0 s log und] ∧ d = .i s.n
def rdMoons : RD := fun ds d => ∃ (p0 : Pt) (s : Fl) (log und : List Deed), ds = [evD p0 s log und] ∧ d = .i s.m
def rdFirst : RD := fun ds d => ∃ (p0 : Pt) (s : Fl) (log und : List Deed), ds = [evD p0 s log und] ∧ d = ruleD p0
def rdRule : RD := fun ds d => ∃ (p0 : Pt) (s : Fl) (log und : List Deed), ds = [evD p0 s log und] ∧ d = ruleD s.p
theorem f1_suns (T : Tx K mg) : FnR P w K mg base CX0 1 (recAd K "property" "Evening" "suns") (spD K rdSuns) :=
  fnR_D T.f_Evening_suns sc_Evening_suns bn_Evening_suns (fun ds d ⟨_, _, _, _, h, _⟩ => by rw [h]; rfl) fun cdv A outer s H E hr ds d ⟨p0, fl, log, und, h, h2⟩ => by
    subst h h2
    exact q_retD (d_fld T.s_Evening_its_suns rfl (d_var 0 rfl))
theorem f1_moons (T : Tx K mg) : FnR P w K mg base CX0 1 (recAd K "property" "Evening" "moons") (spD K rdMoons) :=
  fnR_D T.f_Evening_moons sc_Evening_moons bn_Evening_moons (fun ds d ⟨_, _, _, _, h, _⟩ => by rw [h]; rfl) fun cdv A outer s H E hr ds d ⟨p0, fl, log, und, h, h2⟩ => by
    subst h h2
    exact q_retD (d_fld T.s_Evening_its_moons rfl (d_var 0 rfl))
theorem f1_first (T : Tx K mg) : FnR P w K mg base CX0 1 (recAd K "property" "Evening" "first") (spD K rdFirst) :=
  fnR_D T.f_Evening_first sc_Evening_first bn_Evening_first (fun ds d ⟨_, _, _, _, h, _⟩ => by rw [h]; rfl) fun cdv A outer s H E hr ds d ⟨p0, fl, log, und, h, h2⟩ => by
    subst h h2
    exact q_retD (d_fld T.s_Evening_its_first rfl (d_var 0 rfl))
theorem f1_rule (T : Tx K mg) : FnR P w K mg base CX0 1 (recAd K "property" "Evening" "rule") (spD K rdRule) :=
  fnR_D T.f_Evening_rule sc_Evening_rule bn_Evening_rule (fun ds d ⟨_, _, _, _, h, _⟩ => by rw [h]; rfl) fun cdv A outer s H E hr ds d ⟨p0, fl, log, und, h, h2⟩ => by
    subst h h2
    exact q_retD (d_fld T.s_Floor_floor_rule rfl (d_fld T.s_Evening_its_floor rfl (d_var 0 rfl)))
end Pr
set_option maxHeartbeats 4000000
/-! Zs: _law_led. -/
namespace Pr
open PySem PySem.Spec PyProof.Rows L2
/-- the evening as it is led -/
structure SI (n k : Nat) (p0 : Pt) (V : Ev) (N : Nat) : Prop where
  nm : okN n k
  pk : p0.ok
  pd : p0.deep ≤ 2
  en : V.s.n = n
  em : V.s.m = k
  ep : V.p0 = p0
  run : V.s = runL (fl0 n k p0) V.log
  ok : okC (fl0 n k p0) (V.log ++ V.und.reverse)
  len : V.log.length + V.und.length ≤ N
variable {n k N : Nat} {p0 : Pt} {V : Ev} {t : Deed}
theorem SI.gd (S : SI n k p0 V N) : Gd V.s V.log.length := by
  have := (gd0 S.nm S.pk S.pd).run (okC_app.mp S.ok).1
  rw [← S.run, Nat.zero_add] at this
  exact this
theorem SI.s0 (S : SI n k p0 V N) : V.s0 = fl0 n k p0 := by
  unfold Ev.s0; rw [S.en, S.em, S.ep]
theorem okC_tl : ∀ {s : Fl} {c : Nat} {l : List Deed}, Gd s c → okC s l → c + l.length ≤ 60 → ∀ t ∈ l, t.tl
  | s, c, [], _, _, _ => fun _ z => (nomatch z)
  | s, c, t :: l, G, ⟨h1, h2, h3⟩, hc => fun x hx => by
    rw [List.length_cons] at hc
    rcases List.mem_cons.mp hx with e | h
    · subst e
      obtain ⟨_, _, n8, m8, _⟩ := G.nm
      match x, h1, h2 with
      | .rule p, h1, _ => exact h1
      | .lay a, ⟨hi, hj⟩, h2 =>
        have := G.nxt_r hi hj h2
        exact ⟨by omega, by omega, by omega⟩
      | .take a, ⟨hi, hj⟩, h2 =>
        have := G.can_r (t := .take a) ⟨hi, hj⟩ h2 a (.inr rfl)
        exact ⟨by omega, by omega, by omega⟩
    · exact okC_tl (G.doD h1 h2) h3 (by omega) x h
theorem SI.tl (S : SI n k p0 V N) (hN : N ≤ 60) : ∀ t, t ∈ V.log ∨ t ∈ V.und → t.tl := fun t ht =>
  okC_tl (gd0 S.nm S.pk S.pd) S.ok (by have := S.len; rw [Nat.zero_add, List.length_append, List.length_reverse]; omega) t (by
    rw [List.mem_append, List.mem_reverse]; exact ht)
theorem tl_sh (h : t.tl) : t.sh := by
  match t, h with
  | .rule p, h => show p.deep < 5; have := h.2; omega
  | .lay a, _ => exact trivial
  | .take a, _ => exact trivial
theorem runL_app {s : Fl} {l l' : List Deed} : runL s (l ++ l') = runL (runL s l) l' := List.foldl_append
theorem SI.okL (S : SI n k p0 V N) (hN : N ≤ 60) : okL (fl0 n k p0) V.log := (gd0 S.nm S.pk S.pd).okL (by have := S.len; omega) (okC_app.mp S.ok).1
theorem SI.dn (S : SI n k p0 V N) (ht : okT n k t) (hc : V.s.can t = true) : SI n k p0 (V.dn t) (N + 1) := by
  obtain ⟨h1, h2⟩ := doD_nm V.s t
  refine ⟨S.nm, S.pk, S.pd, h1.trans S.en, h2.trans S.em, S.ep, ?_, ?_, ?_⟩
  · show V.s.doD t = runL _ (V.log ++ [t])
    rw [runL_app, ← S.run]; rfl
  · show okC _ ((V.log ++ [t]) ++ ([] : List Deed).reverse)
    rw [List.reverse_nil, List.append_nil, okC_app]
    refine ⟨(okC_app.mp S.ok).1, ?_⟩
    rw [← S.run]
    exact ⟨by rw [S.en, S.em]; exact ht, hc, trivial⟩
  · show (V.log ++ [t]).length + 0 ≤ _
    have := S.len
    rw [List.length_append, List.length_singleton]; omega
theorem SI.back {x : List Deed} (S : SI n k p0 V N) (hN : N ≤ 60) (h : V.log = x ++ [t]) : Tn V 0 x t V.und ⟨V.p0, runL V.s0 x, x, V.und ++ [t]⟩ ∧ SI n k p0 ⟨V.p0, runL V.s0 x, x, V.und ++ [t]⟩ N := by
  have hl := S.len
  have hl2 : V.log.length = x.length + 1 := by rw [h, List.length_append]; rfl
  have o := S.okL hN
  have oc := (okC_app.mp S.ok).1
  rw [h] at oc
  obtain ⟨e1, e2⟩ := runL_nm x (fl0 n k p0)
  refine ⟨.back h (fun d hd => tl_sh (S.tl hN d (.inl hd))) ?_ (by omega) (by omega), S.nm, S.pk, S.pd, ?_, ?_, S.ep, ?_, ?_, ?_⟩
  · rw [S.s0]
    exact (gd0 S.nm S.pk S.pd).okL (by omega) (okC_app.mp oc).1
  · show (runL V.s0 x).n = n
    rw [S.s0, e1]
  · show (runL V.s0 x).m = k
    rw [S.s0, e2]
  · show runL V.s0 x = _
    rw [S.s0]
  · show okC _ (x ++ (V.und ++ [t]).reverse)
    have := S.ok
    rw [h] at this
    rw [List.reverse_append, List.reverse_singleton, ← List.append_assoc]
    exact this
  · show x.length + (V.und ++ [t]).length ≤ N
    rw [List.length_append, List.length_singleton]; omega
theorem SI.again {x : List Deed} (S : SI n k p0 V N) (hN : N ≤ 60) (h : V.und = x ++ [t]) : Tn V 1 x t V.log ⟨V.p0, V.s.doD t, V.log ++ [t], x⟩ ∧ SI n k p0 ⟨V.p0, V.s.doD t, V.log ++ [t], x⟩ N := by
  have hl := S.len
  have hl2 : V.und.length = x.length + 1 := by rw [h, List.length_append]; rfl
  have o := S.ok
  rw [h, List.reverse_append, List.reverse_singleton, ← List.append_assoc] at o
  have o1 := okC_app.mp (okC_app.mp o).1
  rw [← S.run] at o1
  obtain ⟨ht, hc, _⟩ := o1.2
  obtain ⟨e1, e2⟩ := doD_nm V.s t
  refine ⟨.again h (fun d hd => tl_sh (S.tl hN d (.inr hd))) (S.gd.szd (by omega)) (S.gd.okD (by omega) ht hc) (by omega), S.nm, S.pk, S.pd, e1.trans S.en, e2.trans S.em, S.ep, ?_, o, ?_⟩
  · show V.s.doD t = runL _ (V.log ++ [t])
    rw [runL_app, ← S.run]; rfl
  · show (V.log ++ [t]).length + x.length ≤ N
    rw [List.length_append, List.length_singleton]; omega
theorem SI.law (S : SI n k p0 V N) (hN : N ≤ 28) : lawL V.s.laid n k := by
  have h1 := S.gd.law (by have := S.len; omega) (by have := S.gd.ll; have := S.len; omega)
  rw [S.en, S.em] at h1
  exact h1
theorem drawn_okT (h : t.drawn n k) : okT n k t := by
  match t, h with
  | .rule p, h => exact ⟨h.1, by have := h.2; omega⟩
  | .lay a, h => exact ⟨h.1, h.2.1⟩
  | .take a, h => exact ⟨h.1, h.2.1⟩
theorem drawn_tl (hn : okN n k) (h : t.drawn n k) : t.tl := by
  obtain ⟨_, _, h3, h4, _⟩ := hn
  match t, h with
  | .rule p, h => exact ⟨h.1, by have := h.2; omega⟩
  | .lay a, h => exact ⟨by have := h.2.2; omega, by have := h.1; omega, by have := h.2.1; omega⟩
  | .take a, h => exact ⟨by have := h.2.2; omega, by have := h.1; omega, by have := h.2.1; omega⟩
theorem drawn_r (h : t.drawn n k) : ∀ a, t = .lay a ∨ t = .take a → a.r ≤ 1000 := fun a e => by
  rcases e with e | e <;> subst e <;> (have := h.2.2; omega)
variable {P : Program} {w : World} {K : PySem.W.Frag} {mg : Str → Option Value} {base : Heap}
/-- bag, evening, log, gone -/
abbrev ledM (b : Addr) (B : Bag) (e : Addr) (A : Ad) (V : Ev) (lg gn : Addr) : Ms := (b, .l (bgL B.c B.s B.p B.cs)) :: (evM e A V ++ [(lg, .l (V.log.map Deed.d)), (gn, .l (V.und.map Deed.d))])
def rxLed : Ms → List Dt → Rs → Prop := fun m ds T => ∃ (b e lg gn : Addr) (B : Bag) (A : Ad) (V : Ev) (n k : Nat) (p0 : Pt) (N many : Nat), SI n k p0 V N ∧ N + many ≤ 24 ∧ B.ok ∧ m = ledM b B e A V lg gn ∧ ds = [.r b, .r e, .r lg, .r gn, .p p0.data, .i many] ∧
  T = fun d m' => d = .b true ∧ ∃ A' V' B', SI n k p0 V' (N + many) ∧ B'.ok ∧ m' = ledM b B' e A' V' lg gn
theorem f13_led (T : Tx K mg) (Ez : Tz P K mg) : FnG P w K mg base 13 (ga K "_law_led") (spX K rxLed) :=
  fnG_X T.f_law_led sc_law_led bn_law_led (fun m ds T ⟨_, _, _, _, _, _, _, _, _, _, _, _, _, _, _, _, h, _⟩ => by rw [h]; rfl) fun cdv A outer s H E hg hr m ds R ⟨b, e, lg, gn, B, Ad, V, n, k, p0, N, many, S, hN, hB, h, h2, h3⟩ => by
    subst h h2 h3
    have hu := room_u hr
    have nd := sc_law_led.nd
    obtain ⟨hn1, hk1, hn8, hk8, hnk⟩ := id S.nm
    let D0 : De := [some (.r b), some (.r e), some (.r lg), some (.r gn), some (.p p0.data), some (.i many), some (.i n), some (.i k), none, none, none, none]
    refine s_seq (N1 := fun δ' m' => δ' = D0 ∧ m' = ledM b B e Ad V lg gn) (s_par (i := 6) (j := 7) (A := fun ds m' => ds = [.i n, .i k] ∧ m' = ledM b B e Ad V lg gn) rfl nd rfl rfl (by decide) rfl rfl ?_ (fun ds m1 ⟨h1, h2⟩ => ⟨_, _, h1, rfl, h2⟩) rfl) fun δ1 m1 ⟨h1, h2⟩ => ?_
    · refine xa_imp (xa_dc (x_look (q := .int n) (Rsv.one 1 rfl (rs_ev 1 rfl rfl rfl rfl rfl rfl rfl) .refl) rfl (d_eqv (d_prop T.p_Evening_suns (f1_suns T) (hr.mono (by decide)) ⟨V.p0, V.s, V.log, V.und, rfl, rfl⟩ (d_var 1 rfl)) (by rw [S.en])))
        (xa_1 (x_look (q := .int k) (Rsv.one 1 rfl (rs_ev 1 rfl rfl rfl rfl rfl rfl rfl) .refl) rfl (d_eqv (d_prop T.p_Evening_moons (f1_moons T) (hr.mono (by decide)) ⟨V.p0, V.s, V.log, V.und, rfl, rfl⟩ (d_var 1 rfl)) (by rw [S.em]))))) fun ds m' ⟨r, ⟨d, ⟨h1, h2⟩, h3⟩, h4⟩ => ⟨by rw [h4, h3, h1], h2⟩
    subst h1 h2
    refine s_seq (s_for (l := List.range many) (ι := fun i => .int (i : Nat)) (is := [8]) (fun i δ' m' => δ' = D0 ∧ ∃ A' V' B', SI n k p0 V' (N + i) ∧ B'.ok ∧ m' = ledM b B' e A' V' lg gn) PassesOwn.never rfl
      (i_eqv (i_range (n := many) (by omega) (by omega) rfl T.b_range (d_var 5 rfl)) rfl) (fun p _ => rfl) ⟨rfl, Ad, V, B, S, hB, rfl⟩ fun i q δ1 m1 hq h => ?_) fun δ1 m1 h => ?_
    · obtain ⟨h1, A1, V1, B1, S1, hB1, h2⟩ := h
      subst h1 h2
      have hi : i < many := by
        obtain ⟨hl, _⟩ := List.getElem?_eq_some_iff.mp hq
        rw [List.length_range] at hl; exact hl
      refine ⟨_, g_name 8 nd rfl (.inl rfl), ?_⟩
      have hSN : N + i ≤ 28 := by omega
      refine ss_set (T := fun d m' => ∃ v : Nat, v < 8 ∧ d = .i v ∧ ∃ B', B'.ok ∧ m' = ledM b B' e A1 V1 lg gn) 9 nd rfl (.inl rfl) (x_call ((f1_law_take T).mono (show 1 ≤ 12 by decide)) hr rfl T.g_law_take T.f_law_take.kp (x_pureA (a_cons (d_var 0 rfl) (a_cons d_int a_nil))) fun ds m3 ⟨h1, h2⟩ => ?_) fun d m2 ⟨way, hw, h1, B2, hB2, h2⟩ => ?_
      · subst h1 h2
        exact ⟨B1.m b, _, _, List.Perm.refl _, ⟨b, 8, by decide, by decide, ⟨B1, hB1, rfl⟩, rfl, rfl⟩, fun d m' ⟨v, h1, h2, B', h3, h4⟩ => ⟨v, h1, h2, B', h3, by rw [h4]; rfl⟩⟩
      subst h1 h2
      refine ss_if2 (x_pureC (c_gt (d_var 9 rfl) d_int)) (fun m3 ⟨hk, h⟩ => ?_) (fun m3 ⟨hk, h⟩ => ?_)
      · subst h
        have hst : [Dt.dT (dtM (runL (fl0 n k p0) V1.log).laid), .p (runL (fl0 n k p0) V1.log).p.data][0]? = some (.dT (dtM V1.s.laid)) := by rw [S1.run]; rfl
        have hne : lcan V1.s.laid n k ≠ [] := by have := lcan_ne S1.gd.iv; rw [S1.en, S1.em] at this; exact this
        refine ss_set (T := fun d m' => ∃ t : Deed, t.drawn n k ∧ d = .p t.d ∧ ∃ B', B'.ok ∧ m' = ledM b B' e A1 V1 lg gn) 10 nd rfl (.inl rfl) (x_call ((f6_law_deed T).mono (show 6 ≤ 12 by decide)) hr rfl T.g_law_deed T.f_law_deed.kp (A := fun ds m' => ds = [.r b, .i n, .i k, .dT (dtM V1.s.laid)] ∧ m' = ledM b B2 e A1 V1 lg gn)
          (xa_imp (xa_dc (x_var 0 rfl) (xa_dc (x_var 6 rfl) (xa_dc (x_var 7 rfl) (xa_1 (x_lookL (mL := [(lg, .l (V1.log.map Deed.d))]) (mB := (b, .l (bgL B2.c B2.s B2.p B2.cs)) :: (evM e A1 V1 ++ [(gn, .l (V1.und.map Deed.d))])) (d := .dT (dtM V1.s.laid)) (pm 10 [8, 0, 1, 2, 3, 4, 5, 6, 7, 9] rfl rfl) (fun p hp => by rw [List.mem_singleton] at hp; subst hp; exact ⟨_, rfl⟩) (Rsv.one 2 rfl (.l 0 rfl) .refl) (fun kv hkv => by obtain ⟨q, _, rfl⟩ := List.mem_map.mp hkv; rfl)
            (d_tuI (n := 0) hst (d_call ((f7_law_state T).mono (by decide)) hr rfl T.g_law_state T.f_law_state.kp ⟨n, k, p0, V1.log, S1.okL (by omega), rfl, rfl⟩ (a_cons (d_var 6 rfl) (a_cons (d_var 7 rfl) (a_cons (d_var 4 rfl) (a_cons (d_var 2 rfl) a_nil))))) d_int)))))) fun ds m' ⟨r, ⟨r2, ⟨r3, ⟨d, ⟨h1, h2⟩, h3⟩, h4⟩, h5⟩, h6⟩ => ⟨by rw [h6, h5, h4, h3, h1], h2⟩) fun ds m3 ⟨h1, h2⟩ => ?_) fun d m2 ⟨t, ht, h1, B3, hB3, h2⟩ => ?_
        · subst h1 h2
          exact ⟨B2.m b, _, _, List.Perm.refl _, ⟨b, n, k, V1.s.laid, S1.law hSN, hne, ⟨B2, hB2, rfl⟩, rfl, rfl⟩, fun d m' ⟨t, h1, h2, B', h3, h4⟩ => ⟨t, h1, h2, B', h3, by rw [h4]; rfl⟩⟩
        subst h1 h2
        have htT := drawn_okT ht
        have htT' : okT V1.s.n V1.s.m t := by rw [S1.en, S1.em]; exact htT
        have hgo : t.goes V1.s.laid n k = V1.s.can t := by have := goes_can S1.gd.iv htT'; rw [S1.en, S1.em] at this; exact this
        refine ss_set 11 nd rfl (.inl rfl) (x_look (q := .bool (V1.s.can t)) (Rsv.one 2 rfl (.l 8 rfl) .refl) rfl (d_eqv (d_call ((f3_law_is_done T).mono (by decide)) hr rfl T.g_law_is_done T.f_law_is_done.kp ⟨n, k, V1.s.laid, t, S1.law hSN, rfl, rfl⟩ (a_cons (d_var 6 rfl) (a_cons (d_var 7 rfl) (a_cons
          (d_tuI (n := 0) hst (d_call ((f7_law_state T).mono (by decide)) hr rfl T.g_law_state T.f_law_state.kp ⟨n, k, p0, V1.log, S1.okL (by omega), rfl, rfl⟩ (a_cons (d_var 6 rfl) (a_cons (d_var 7 rfl) (a_cons (d_var 4 rfl) (a_cons (d_var 2 rfl) a_nil))))) d_int) (a_cons (d_var 10 rfl) a_nil))))) (by rw [hgo]))) fun d m3 ⟨h1, h2⟩ => ?_
        subst h1 h2
        cases hc : V1.s.can t with
        | true =>
          have hdo : okDo V1 t := S1.gd.okDo (by have := S1.len; omega) (by have := S1.len; omega) htT' hc
          let M2 : Ms := evM e A1 (V1.dn t) ++ [(b, .l (bgL B3.c B3.s B3.p B3.cs)), (lg, .l (V1.log.map Deed.d)), (gn, .l (V1.und.map Deed.d))]
          refine ss_if (C := fun k' m' => k' = false ∧ m' = M2) (xt_not (xt_val (T := fun d m' => d = .b true ∧ m' = M2) (x_callG (fnD_XG ((f1_law_alike T).mono (show 1 ≤ 12 by decide))) hg hr rfl T.g_law_alike T.f_law_alike.kp (A := fun ds m' => ds = [.t [.str "told", .none], .t [.str "told", .none]] ∧ m' = M2)
            (xa_imp (xa_cons (T := fun d m' => d = .t [.str "told", .none] ∧ m' = M2) (B := fun _ _ ds m' => ds = [.t [.str "told", .none]] ∧ m' = M2) (x_call ((f10_law_did T).mono (by decide)) hr rfl T.g_law_did T.f_law_did.kp (x_pureA (a_cons (d_var 1 rfl) (a_cons (d_var 10 rfl) a_nil))) fun ds m3 ⟨h1, h2⟩ => ?_)
              fun d m3 ⟨h1, h2⟩ => ?_) fun ds m' ⟨d, m1, r, ⟨h1, h2⟩, ⟨h3, h4⟩, h5⟩ => ⟨by rw [h5, h3, h1], h4⟩) fun ds m3 ⟨h1, h2⟩ => ?_) fun d m' ⟨h1, h2⟩ => ⟨true, h1, rfl, h2⟩)) (fun m3 ⟨h, _⟩ => nomatch h) (fun m3 ⟨_, h⟩ => ?_)
          · subst h1 h2
            exact ⟨evM e A1 V1, _, _, pm 10 [1, 2, 3, 4, 5, 6, 7, 0, 8, 9] rfl rfl, ⟨e, A1, V1, t, hdo, rfl, rfl, rfl⟩, fun d m' ⟨h1, h2⟩ => ⟨h1, by rw [h2]; rfl⟩⟩
          · subst h1 h2
            exact x_pureA (a_cons (d_if (k := true) (c_val (d_var 11 rfl)) (fun _ => d_tup2 (a_cons d_str (a_cons d_non a_nil))) (fun z => nomatch z)) a_nil)
          · subst h1 h2
            exact Rf.xOf ⟨_, tell_none, rfl, rfl⟩ ⟨rfl, rfl⟩
          subst h
          refine ss_perm (m' := (b, .l (bgL B3.c B3.s B3.p B3.cs)) :: (evM e A1 (V1.dn t) ++ [(lg, .l (V1.log.map Deed.d)), (gn, .l (V1.und.map Deed.d))])) (m2 := []) ?_ (pm 10 [7, 0, 1, 2, 3, 4, 5, 6, 8, 9] rfl rfl)
          refine ss_if2 (x_pureC (k := true) (c_val (d_var 11 rfl))) (fun m3 ⟨_, h⟩ => ?_) (fun m3 ⟨h, _⟩ => nomatch h)
          subst h
          refine ss_expr (T := fun d m' => m' = (b, .l (bgL B3.c B3.s B3.p B3.cs)) :: (evM e A1 (V1.dn t) ++ [(lg, .l ((V1.log ++ [t]).map Deed.d)), (gn, .l (V1.und.map Deed.d))])) (x_append (T := fun d m' => d = .p t.d ∧ m' = (b, .l (bgL B3.c B3.s B3.p B3.cs)) :: (evM e A1 (V1.dn t) ++ [(lg, .l (V1.log.map Deed.d)), (gn, .l (V1.und.map Deed.d))])) (n := 8) (x_var 2 rfl) (i := 8) rfl ⟨_, rfl⟩ (x_var 10 rfl) fun d m' ⟨h1, h2⟩ => ?_) fun d m' h => ?_
          · subst h1 h2
            exact ⟨t.d, V1.log.map Deed.d, rfl, rfl, by rw [List.length_map]; have := S1.len; omega, by rw [List.map_append]; rfl⟩
          subst h
          refine ss_expr (T := fun d m' => m' = ledM b B3 e A1 (V1.dn t) lg gn) (x_imp (x_clear (x_var 3 rfl) (i := 9) rfl) fun d m' ⟨_, h⟩ => by rw [h]; rfl) fun d m' h => ?_
          subst h
          refine ss_weak (δ' := D0) (s_nil ⟨rfl, A1, V1.dn t, B3, ?_, hB3, rfl⟩) fun _ _ E => (((E.forget 8).forget 9).forget 10).forget 11
          have := S1.dn htT hc
          rw [Nat.add_assoc] at this
          exact this
        | false =>
          refine ss_ifK (k := false) (x_lookC (Rsv.one 1 rfl (rs_ev 1 rfl rfl rfl rfl rfl rfl rfl) .refl) (c_not (k := true) (c_val (d_callG ((f1_law_alike T).mono (by decide)) hg hr rfl T.g_law_alike T.f_law_alike.kp ⟨.tuple [.str "refused", t.d], tell_refused (drawn_tl S.nm ht), rfl, rfl⟩
            (a_cons (d_call ((f10_law_did_R T Ez).mono (by decide)) hr rfl T.g_law_did T.f_law_did.kp ⟨V1.p0, V1.s, V1.log, V1.und, t, okT_okE htT', by have := S1.len; omega, by rw [S1.en]; omega, by rw [S1.em]; omega, S1.gd.okF htT' (drawn_r ht), hc, rfl, rfl⟩ (a_cons (d_var 1 rfl) (a_cons (d_var 10 rfl) a_nil)))
              (a_cons (d_if (k := false) (c_val (d_var 11 rfl)) (fun z => nomatch z) (fun _ => d_tup2 (a_cons d_str (a_cons (d_var 10 rfl) a_nil)))) a_nil)))))) (fun z => nomatch z) fun _ => ?_
          refine ss_if2 (x_pureC (k := false) (c_val (d_var 11 rfl))) (fun m3 ⟨h, _⟩ => nomatch h) (fun m3 ⟨_, h⟩ => ?_)
          subst h
          refine ss_weak (δ' := D0) (s_nil ⟨rfl, A1, V1, B3, ?_, hB3, rfl⟩) fun _ _ E => (((E.forget 8).forget 9).forget 10).forget 11
          exact ⟨S1.nm, S1.pk, S1.pd, S1.en, S1.em, S1.ep, S1.run, S1.ok, Nat.le_succ_of_le S1.len⟩
      · subst h
        have hw1 : way = 0 ∨ way = 1 := by have := of_decide_eq_false hk.symm; omega
        have hN60 : N + i ≤ 60 := by omega
        have hlen := S1.len
        have up : ∀ {V2 : Ev}, SI n k p0 V2 (N + i) → SI n k p0 V2 (N + (i + 1)) := fun S2 => ⟨S2.nm, S2.pk, S2.pd, S2.en, S2.em, S2.ep, S2.run, S2.ok, Nat.le_succ_of_le S2.len⟩
        rcases hw1 with hw1 | hw1
        · subst hw1
          rcases List.eq_nil_or_concat V1.log with hz | ⟨x, t, ez⟩
          · refine ss_ifK (k := false) (x_lookC (Rsv.one 1 rfl (rs_ev 1 rfl rfl rfl rfl rfl rfl rfl) (Rsv.one 2 rfl (.l 8 rfl) (Rsv.one 3 rfl (.l 9 rfl) .refl))) (c_not (k := true) (c_val (d_call ((f10_turned_N T Ez).mono (by decide)) hr rfl T.g_law_turned_back T.f_law_turned_back.kp ⟨V1.p0, V1.s, V1.log, V1.und, 0, V1.und.map Deed.d, .inl ⟨rfl, hz⟩, rfl, rfl⟩
              (a_cons (d_var 1 rfl) (a_cons (d_eqv (d_step2 (k := 1 - 2 * ((0 : Nat) : Int)) (.inl (by decide)) (d_li (a_cons (d_var 2 rfl) (a_cons (d_var 3 rfl) a_nil)) (by simp)) (d_sub d_int (d_mul (cmul_le (by decide) (by decide)) d_int (d_var 9 rfl)))) (by simp [hz])) (a_cons (d_var 9 rfl) a_nil))))))) (fun z => nomatch z) fun _ => ?_
            exact ss_weak (δ' := D0) (s_nil ⟨rfl, A1, V1, B2, up S1, hB2, rfl⟩) fun _ _ E => (E.forget 8).forget 9
          · rw [List.concat_eq_append] at ez
            obtain ⟨hT, S2⟩ := S1.back hN60 ez
            have hx : ∀ d, d ∈ x ∨ d = t → d.tl := fun d hd => S1.tl hN60 d (.inl (by rw [ez, List.mem_append, List.mem_singleton]; exact hd))
            let V2 : Ev := ⟨V1.p0, runL V1.s0 x, x, V1.und ++ [t]⟩
            refine ss_if (C := fun k' m' => k' = false ∧ ∃ A', m' = evM e A' V2 ++ [(lg, .l (x.map Deed.d)), (gn, .l ((V1.und ++ [t]).map Deed.d)), (b, .l (bgL B2.c B2.s B2.p B2.cs))]) (xt_not (xt_val (T := fun d m' => d = .b true ∧ ∃ A', m' = evM e A' V2 ++ [(lg, .l (x.map Deed.d)), (gn, .l ((V1.und ++ [t]).map Deed.d)), (b, .l (bgL B2.c B2.s B2.p B2.cs))])
              (x_callG (f12_turned T) hg hr rfl T.g_law_turned_back T.f_law_turned_back.kp (x_pureA (ds := [.r e, .li [.r lg, .r gn], .i (0 : Nat)]) (a_cons (d_var 1 rfl) (a_cons (d_eqv (d_step2 (k := 1 - 2 * ((0 : Nat) : Int)) (.inl (by decide)) (d_li (a_cons (d_var 2 rfl) (a_cons (d_var 3 rfl) a_nil)) (by simp)) (d_sub d_int (d_mul (cmul_le (by decide) (by decide)) d_int (d_var 9 rfl)))) (by simp)) (a_cons (d_var 9 rfl) a_nil)))) fun ds m3 ⟨h1, h2⟩ => ?_) fun d m' ⟨h1, h2⟩ => ⟨true, h1, rfl, h2⟩)) (fun m3 ⟨h, _⟩ => nomatch h) (fun m3 ⟨_, A2, h⟩ => ?_)
            · subst h1 h2
              exact ⟨evM e A1 V1 ++ [(lg, .l (V1.log.map Deed.d)), (gn, .l (V1.und.map Deed.d))], [(b, .l (bgL B2.c B2.s B2.p B2.cs))], _, pm 10 [1, 2, 3, 4, 5, 6, 7, 8, 9, 0] rfl rfl, ⟨e, A1, V1, 0, lg, gn, x, t, V1.und, V2, hT, hx t (.inr rfl), fun d hd => tl_sh (hx d (.inl hd)), tl_sh (hx t (.inr rfl)), by omega, by rw [← ez], rfl, rfl⟩,
                fun d m' ⟨h1, A', h2⟩ => ⟨h1, A', by rw [h2, List.append_assoc]; rfl⟩⟩
            subst h
            refine ss_perm (m' := ledM b B2 e A2 V2 lg gn) (m2 := []) ?_ (pm 10 [9, 0, 1, 2, 3, 4, 5, 6, 7, 8] rfl rfl)
            exact ss_weak (δ' := D0) (s_nil ⟨rfl, A2, V2, B2, up S2, hB2, rfl⟩) fun _ _ E => (E.forget 8).forget 9
        · subst hw1
          rcases List.eq_nil_or_concat V1.und with hz | ⟨x, t, ez⟩
          · refine ss_ifK (k := false) (x_lookC (Rsv.one 1 rfl (rs_ev 1 rfl rfl rfl rfl rfl rfl rfl) (Rsv.one 2 rfl (.l 8 rfl) (Rsv.one 3 rfl (.l 9 rfl) .refl))) (c_not (k := true) (c_val (d_call ((f10_turned_N T Ez).mono (by decide)) hr rfl T.g_law_turned_back T.f_law_turned_back.kp ⟨V1.p0, V1.s, V1.log, V1.und, 1, V1.log.map Deed.d, .inr ⟨rfl, hz⟩, rfl, rfl⟩
              (a_cons (d_var 1 rfl) (a_cons (d_eqv (d_step2 (k := 1 - 2 * ((1 : Nat) : Int)) (.inr (by decide)) (d_li (a_cons (d_var 2 rfl) (a_cons (d_var 3 rfl) a_nil)) (by simp)) (d_sub d_int (d_mul (cmul_le (by decide) (by decide)) d_int (d_var 9 rfl)))) (by simp [hz])) (a_cons (d_var 9 rfl) a_nil))))))) (fun z => nomatch z) fun _ => ?_
            exact ss_weak (δ' := D0) (s_nil ⟨rfl, A1, V1, B2, up S1, hB2, rfl⟩) fun _ _ E => (E.forget 8).forget 9
          · rw [List.concat_eq_append] at ez
            obtain ⟨hT, S2⟩ := S1.again hN60 ez
            have hx : ∀ d, d ∈ x ∨ d = t → d.tl := fun d hd => S1.tl hN60 d (.inr (by rw [ez, List.mem_append, List.mem_singleton]; exact hd))
            let V2 : Ev := ⟨V1.p0, V1.s.doD t, V1.log ++ [t], x⟩
            refine ss_if (C := fun k' m' => k' = false ∧ ∃ A', m' = evM e A' V2 ++ [(gn, .l (x.map Deed.d)), (lg, .l ((V1.log ++ [t]).map Deed.d)), (b, .l (bgL B2.c B2.s B2.p B2.cs))]) (xt_not (xt_val (T := fun d m' => d = .b true ∧ ∃ A', m' = evM e A' V2 ++ [(gn, .l (x.map Deed.d)), (lg, .l ((V1.log ++ [t]).map Deed.d)), (b, .l (bgL B2.c B2.s B2.p B2.cs))])
              (x_callG (f12_turned T) hg hr rfl T.g_law_turned_back T.f_law_turned_back.kp (x_pureA (ds := [.r e, .li [.r gn, .r lg], .i (1 : Nat)]) (a_cons (d_var 1 rfl) (a_cons (d_eqv (d_step2 (k := 1 - 2 * ((1 : Nat) : Int)) (.inr (by decide)) (d_li (a_cons (d_var 2 rfl) (a_cons (d_var 3 rfl) a_nil)) (by simp)) (d_sub d_int (d_mul (cmul_le (by decide) (by decide)) d_int (d_var 9 rfl)))) (by simp)) (a_cons (d_var 9 rfl) a_nil)))) fun ds m3 ⟨h1, h2⟩ => ?_) fun d m' ⟨h1, h2⟩ => ⟨true, h1, rfl, h2⟩)) (fun m3 ⟨h, _⟩ => nomatch h) (fun m3 ⟨_, A2, h⟩ => ?_)
            · subst h1 h2
              exact ⟨evM e A1 V1 ++ [(gn, .l (V1.und.map Deed.d)), (lg, .l (V1.log.map Deed.d))], [(b, .l (bgL B2.c B2.s B2.p B2.cs))], _, pm 10 [1, 2, 3, 4, 5, 6, 7, 9, 8, 0] rfl rfl, ⟨e, A1, V1, 1, gn, lg, x, t, V1.log, V2, hT, hx t (.inr rfl), fun d hd => tl_sh (hx d (.inl hd)), tl_sh (hx t (.inr rfl)), by omega, by rw [← ez], rfl, rfl⟩,
                fun d m' ⟨h1, A', h2⟩ => ⟨h1, A', by rw [h2, List.append_assoc]; rfl⟩⟩
            subst h
            refine ss_perm (m' := ledM b B2 e A2 V2 lg gn) (m2 := []) ?_ (pm 10 [9, 0, 1, 2, 3, 4, 5, 6, 8, 7] rfl rfl)
            exact ss_weak (δ' := D0) (s_nil ⟨rfl, A2, V2, B2, up S2, hB2, rfl⟩) fun _ _ E => (E.forget 8).forget 9
    · obtain ⟨h1, A1, V1, B1, S1, hB1, h2⟩ := h
      subst h1 h2
      rw [List.length_range] at S1
      exact ss_ret (x_imp (x_pure d_bl) fun d m' ⟨h1, h2⟩ => ⟨h1, A1, V1, B1, S1, hB1, h2⟩)
end Pr
set_option maxHeartbeats 4000000
/-! Zt: _law_stands. -/
namespace Pr
open PySem PySem.Spec PyProof.Rows L2
variable {P : Program} {w : World} {K : PySem.W.Frag} {mg : Str → Option Value} {base : Heap}
def rdStands : RD := fun ds d => ∃ (n k : Nat) (p0 : Pt) (V : Ev) (N : Nat), SI n k p0 V N ∧ N ≤ 26 ∧ ds = [V.D, .p p0.data, .l (V.log.map Deed.d)] ∧ d = .b true
theorem lookup_nd {l : List (Mt × Bool)} {a : Mt} {b : Bool} (nd : (l.map (·.1)).Nodup) (h : (a, b) ∈ l) : l.lookup a = some b := by
  induction l with
  | nil => cases h
  | cons x l ih =>
    rw [List.map_cons, List.nodup_cons] at nd
    rw [List.lookup_cons]
    rcases List.mem_cons.mp h with e | h
    · subst e; simp
    · have : a ≠ x.1 := fun e => nd.1 (List.mem_map.mpr ⟨_, h, e⟩)
      rw [beq_eq_false_iff_ne.mpr this]
      exact ih nd.2 h
theorem SI.deep {n k N : Nat} {p0 : Pt} {V : Ev} (S : SI n k p0 V N) : V.s.p.ok ∧ V.s.p.deep ≤ 2 := ⟨S.gd.pk, S.gd.pd⟩
theorem f13_stands (T : Tx K mg) : FnG P w K mg base 13 (ga K "_law_stands") (spD K rdStands) :=
  fnG_D T.f_law_stands sc_law_stands bn_law_stands (fun ds d ⟨_, _, _, _, _, _, _, h, _⟩ => by rw [h]; rfl) fun cdv A outer s H E hg hr ds d ⟨n, k, p0, V, N, S, hN, h, h2⟩ => by
    subst h h2
    have hu := room_u hr
    have hu1 : (A.deeper (envOfC "_law_stands" (defScope st_law_stands) s.heap.objs.size (ga K "_law_stands") cdv)).units + 1 < cLine := by omega
    have nd := sc_law_stands.nd
    have G := S.gd
    have hlen := S.len
    have hll := G.ll
    have hr60 : ∀ a ∈ V.s.keys, a.r < 60 := fun a ha => by have := G.hr a ha; omega
    have hsm := G.small hr60 (by omega)
    have hlaw := S.law (show N ≤ 28 by omega)
    have hk : V.s.keys.length < 64 := by unfold Fl.keys; rw [List.length_map]; omega
    obtain ⟨hn1, hk1, hn8, hk8, hnk⟩ := id S.nm
    have hcan : lcan V.s.laid n k = sortM V.s.canL := by have := lcan_eq G (by omega); rw [S.en, S.em] at this; exact this
    have hst : [Dt.dT (dtM (runL (fl0 n k p0) V.log).laid), .p (runL (fl0 n k p0) V.log).p.data] = [.dT (dtM V.s.laid), .p V.s.p.data] := by rw [S.run]
    have hkeys : ∀ a ∈ V.s.keys, a.sm := hsm.2.2.2.2
    have hcm : ∀ a ∈ V.s.canL, a.sm := fun a ha => by
      obtain ⟨h1, h2, h3⟩ := (can_in G.iv).mp ha
      have := G.nxt_r h1 h2 h3
      rw [S.en] at h1; rw [S.em] at h2
      exact ⟨by omega, by omega, by omega⟩
    have hcl : (sortM V.s.canL).length ≤ 1000 := by rw [(sortM_perm _).length_eq]; have := canL_len (s := V.s); rw [S.en] at this; omega
    let F : List PyData := [.list (V.log.map Deed.d), .list ((sortM V.s.keys).map Mt.d), .list ((sortM V.s.canL).map Mt.d), .list (((sortM V.s.keys).filter V.s.isE).map Mt.d), V.s.p.data]
    have hT : Tell (.list F) := tell_five (fun t ht => S.tl (by omega) t (.inl ht)) (by omega) (fun a ha => hkeys a ((sortM_perm _).mem_iff.mp ha)) (by rw [(sortM_perm _).length_eq]; omega) (fun a ha => hcm a ((sortM_perm _).mem_iff.mp ha)) hcl
      (fun a ha => hkeys a ((sortM_perm _).mem_iff.mp (List.mem_filter.mp ha).1)) (Nat.le_trans (List.length_filter_le _ _) (by rw [(sortM_perm _).length_eq]; omega)) G.pk G.pd
    refine q_seq (n_par (i := 3) (j := 4) (d1 := .i n) (d2 := .i k) rfl nd rfl rfl (by decide) rfl rfl (a_cons (d_eqv (d_prop T.p_Evening_suns (f1_suns T) (hr.mono (by decide)) ⟨V.p0, V.s, V.log, V.und, rfl, rfl⟩ (d_var 0 rfl)) (by rw [S.en])) (a_cons (d_eqv (d_prop T.p_Evening_moons (f1_moons T) (hr.mono (by decide)) ⟨V.p0, V.s, V.log, V.und, rfl, rfl⟩ (d_var 0 rfl)) (by rw [S.em])) a_nil)) rfl) ?_
    refine q_seq (n_asg (d := .tu [.dT (dtM V.s.laid), .p V.s.p.data]) (d_eqv (d_call ((f7_law_state T).mono (by decide)) hr rfl T.g_law_state T.f_law_state.kp ⟨n, k, p0, V.log, S.okL (by omega), rfl, rfl⟩ (a_cons (d_var 3 rfl) (a_cons (d_var 4 rfl) (a_cons (d_var 1 rfl) (a_cons (d_var 2 rfl) a_nil))))) (by rw [hst]))
      (g_tu rfl (gs_cons (g_name 5 nd rfl (.inr rfl)) (gs_cons (g_name 6 nd rfl (.inl rfl)) gs_nil)) rfl)) ?_
    refine q_seq (n_set 7 nd rfl (.inl rfl) (d_new (d_lstP (ps := F) (a_cons (d_new (d_methN0 T.c_Evening T.m_Evening_log ((f1_log T).mono (by decide)) hr ⟨V.p0, V.s, V.log, V.und, rfl, rfl⟩ (d_var 0 rfl))) (a_cons (d_new (d_methN0 T.c_Evening T.m_Evening_laid ((f1_laid T).mono (by decide)) hr ⟨V.p0, V.s, V.log, V.und, hsm, rfl, rfl⟩ (d_var 0 rfl)))
      (a_cons (d_new (d_methN0 T.c_Evening T.m_Evening_can ((f2_can T).mono (by decide)) hr ⟨V.p0, V.s, V.log, V.und, hsm, G.iv.m1, G.cell hr60, rfl, rfl⟩ (d_var 0 rfl))) (a_cons (d_new (d_methN0 T.c_Evening T.m_Evening_ends ((f2_ends T).mono (by decide)) hr ⟨V.p0, V.s, V.log, V.und, hsm, fun a ha => by obtain ⟨h1, h2⟩ := G.iv.inr a ha; exact G.iv.cok h1 h2, rfl, rfl⟩ (d_var 0 rfl)))
        (a_cons (d_meth0 T.c_Rule T.m_Rule_parts ((f1_Rule_parts T).mono (by decide)) hr ⟨_, rfl, rfl⟩ (d_prop T.p_Evening_rule (f1_rule T) (hr.mono (by decide)) ⟨V.p0, V.s, V.log, V.und, rfl, rfl⟩ (d_var 0 rfl))) a_nil))))) (by simp [F])))) ?_
    refine q_seq (n_set 8 nd rfl (.inl rfl) (d_new (d_lstP (ps := F) (a_cons (d_var 2 rfl) (a_cons (d_new (d_sortD rfl dtM_keys hk hkeys rfl T.b_sorted (d_var 5 rfl)))
      (a_cons (d_eqv (d_new (d_callN ((f2_law_can T).mono (by decide)) hr rfl T.g_law_can T.f_law_can.kp ⟨V.s.laid, n, k, hlaw.can.1, hlaw.can.2.1, hlaw.can.2.2.1, hlaw.can.2.2.2.1, hlaw.can.2.2.2.2, rfl, rfl⟩ (a_cons (d_var 5 rfl) (a_cons (d_var 3 rfl) (a_cons (d_var 4 rfl) a_nil))))) (by rw [hcan]))
        (a_cons (d_eqv (d_new (d_callN ((f2_law_ends T).mono (by decide)) hr rfl T.g_law_ends T.f_law_ends.kp ⟨V.s.laid, by omega, hkeys, rfl, rfl⟩ (a_cons (d_var 5 rfl) a_nil))) (by rw [lends_eq G.iv])) (a_cons (d_var 6 rfl) a_nil))))) (by simp [F])))) ?_
    refine q_if (k := false) (c_not (k := true) (c_val (d_callG ((f1_law_alike T).mono (by decide)) hg hr rfl T.g_law_alike T.f_law_alike.kp ⟨.list F, hT, rfl, rfl⟩ (a_cons (d_var 7 rfl) (a_cons (d_var 8 rfl) a_nil))))) (fun z => nomatch z) fun _ => ?_
    refine q_retE (d_eq hu (sh_mts (l := V.s.keys.filter fun _ => false)) sh_nil (d_new (d_lcK (l := V.s.keys) (f := Mt.d) (kk := fun _ => false) (own := [("_law_spot", 9)]) rfl nd (pe_var (i := 5) rfl (.inr (.inl rfl)) (by decide) (by decide)) (dictAt_var rfl dtM_keys) (blkOk_by (by kernel_rfl)) rfl (by omega) (by decide) (fun _ _ _ => rfl)
      (fun a ha s H C cl fp => g_name 9 nd rfl (.inl rfl)) (fun a ha s H C cl fp => ?_) (fun a ha z => nomatch z))) (d_new (d_lstP (ps := []) a_nil (by simp)))) (by rw [eqv_mts_nil]; simp)
    obtain ⟨⟨a', b⟩, hab, rfl⟩ := List.mem_map.mp ha
    obtain ⟨h1, h2⟩ := G.iv.inr _ ha
    have hlk : V.s.laid.lookup a' = some b := lookup_nd G.iv.nd hab
    have hv : valD (dtM V.s.laid) a'.k = some (.bool b) := by rw [valD_dtM, hlk]; rfl
    exact c_one (c_eqv (c_ne hu sh_bool sh_bool (d_meth T.c_Evening T.m_Evening_above ((f4_above T).mono (by decide)) hr ⟨V.p0, V.s, V.log, V.und, a', b, h1, h2, hlk, rfl, rfl⟩ (d_var 0 rfl) (a_cons (d_var 9 rfl) a_nil)) (d_tsub (k := a'.k) hu1 rfl hv (d_var 5 rfl) (d_var 9 rfl))) (by rw [eqv_bool]; simp))
end Pr
set_option maxHeartbeats 4000000
/-! Zu: rules for _law_needed_right: properties and new instances by the memory; or; is None. -/
namespace Pr
open PySem PySem.Spec PyProof.Rows L2
section
variable {X : Cx} {δ : De} {m : Ms} {k i : Nat} {g ad : Addr} {c cn mt : Str} {p pos : Pos} {e o a b : Expr} {es rest : List Expr} {ds fs : List Dt} {T : Rs} {A : List Dt → Ms → Prop} {C : Bool → Ms → Prop} {d : Dt}
theorem x_prop {F : Ms → List Dt → Rs → Prop} (Pp : PropF X.K cn mt g) (hF : FnR X.prog X.w X.K X.mg X.base CX0 k g (spX X.K F)) (hr : Room (k + 1) X.A) (ho : PE X o (xE X.K δ m fun d' m' => d' = .r ad ∧ m' = m)) (hi : m[i]? = some (ad, .ob cn fs)) (hR : Rf F m [.r ad] T) (hb : attributeBase o mt X.env (eval o X.env) = eval o X.env := by rfl) :
    PE X (.Attribute o mt pos) (xE X.K δ m T) := by
  obtain ⟨p, h1, h2, h3, h4⟩ := Pp.ex
  exact PE_imp (SlX.pe_propSl (E := E0) ho Pp.cl h1 h2 h3 h4 (fnX_frame hF) hr (fun _ _ _ _ z => z) hb) fun σ H Q ⟨M, E, q⟩ => ⟨M, E, fun v d' m' H1 ⟨e1, e2⟩ M1 c1 r1 => by
    subst e1 e2
    cases r1
    obtain ⟨dx, vs, h1, h2, h3⟩ := M1.at hi
    exact ⟨ad, dx, _, rfl, .inr ⟨h1, mn_same _ _ _ _ h2⟩, _, [.r ad], T, hR, M1, .cons (.r ad) .nil, fun v d m' H' t' M' c' r' => q v d m' H' t' M' (c1.trans c') r'⟩⟩
theorem x_makeD {Ri : RI} (M : Mk X.K (ga X.K c) g) (hF : FnR X.prog X.w X.K X.mg X.base CX0 k g (spI X.K c Ri)) (hr : Room (k + 1) X.A) (hg : Gl X c) (hm : X.mg c = some (.ref (ga X.K c))) (ha : PA X (e :: es) (xA X.K δ m A)) (hR : ∀ ds m1, A ds m1 → ∃ fs, Ri ds fs ∧ T (.ob c fs) m1) (hdb : (c == ("__debug__" : Str)) = false := by decide)
    (he : starEach (e :: es) X.env = (false, eval e X.env) :: starEach es X.env := by rfl) (hpl : (backTo pos (starEach es X.env)).any (·.1) = false := by rfl) : PE X (.Call (.Name c p) (e :: es) [] pos) (xE X.K δ m T) :=
  PE_imp (StX.pe_makeR (E := E0) M (fnR_frame hF) hr hg hm pass0 ha hdb he hpl) fun σ H Q ⟨Me, E, z⟩ => ⟨Me, E, fun vs ds' m' H1 aa M1 c1 r1 x dx h1 h2 hne => by
    obtain ⟨fs, hR, ht⟩ := hR ds' m' aa
    have nx : x ∉ dm m' := fun z => by obtain ⟨o, h⟩ := M1.has z; rw [h1] at h; cases h
    have nd : dx ∉ dm m' := fun z => by obtain ⟨o, h⟩ := M1.has z; rw [h2] at h; cases h
    have s1 : Same H1 (upd (upd H1 dx (.own x)) x (.ins (ga X.K c) dx [])) := (same_new h2).trans (same_new (by rw [upd_ne (Ne.symm hne)]; exact h1))
    have M2 := M1.same s1
    have e3 : ∀ H3 : Hp, mn (mn H3 (dm m')) [x, dx] = mn (mn H3 [x, dx]) (dm m') := fun H3 => by rw [mn_mn, mn_mn]; exact mn_perm fun a => by simp only [List.mem_append]; exact Or.comm
    have s2 : Same (mn H1 (dm m')) (mn (mn (upd (upd H1 dx (.own x)) x (.ins (ga X.K c) dx [])) (dm m')) [x, dx]) := by
      rw [e3]
      exact same_mn (mn_made h1 h2)
    refine ⟨dm m', M2.fo, x, dx, vs, ds', fs, rfl, by rw [mn_out nx, upd_same], by rw [mn_out nd, upd_ne hne, upd_same], hne, r1.mono s2, hR, fun H3 us c3 sl rr H' b => ⟨rfl, ?_⟩⟩
    have s3 : Same (mn H1 (dm m')) H3 := (s2.trans c3).trans (mn_same _ _)
    have bt : BhT H1 (dm m') H3 H' := ⟨by
      rw [b.is]
      funext y
      by_cases hy : y ∈ dm m'
      · have y1 : y ≠ x := fun e => nx (e ▸ hy)
        have y2 : y ≠ dx := fun e => nd (e ▸ hy)
        rw [jn_in hy, jn_in hy, upd_ne y1, upd_ne y2]
      · rw [jn_out hy, jn_out hy], b.non⟩
    obtain ⟨M', eh⟩ := memT M1 s3 bt
    refine z _ _ m' H' ht M' (c1.trans ?_) (by rw [eh]; exact .ob sl (rr.mono (mn_same _ _)))
    show Same _ _
    rw [eh]; exact s3⟩
theorem xw_or1 (h : PT X a (xT X.K δ m C)) : PW X (.BoolOp .Or [a] pos) (xT X.K δ m C) := pw_or1 h
theorem xw_or (h1 : PT X a (xT X.K δ m fun k m' => k = false ∧ m' = m)) (h2 : PW X (.BoolOp .Or (b :: rest) pos) (xT X.K δ m C)) : PW X (.BoolOp .Or (a :: b :: rest) pos) (xT X.K δ m C) :=
  PW_imp (pw_or h1 h2) fun σ H Q ⟨M, E, q⟩ => ⟨M, E, fun k m' H1 ⟨e1, e2⟩ M1 c1 => by
    subst e1 e2
    exact ⟨M1, E.mono c1, fun k m2 H2 cc M2 c2 => q k m2 H2 cc M2 (c1.trans c2)⟩⟩
theorem r2_isN {K : PySem.W.Frag} {d : Dt} {k : Bool} (h : ∀ H v, Rp K H v d → decide (v = V.non) = k) : R2D K (fun x y H Q => y = .non ∧ Q (.bl (decide (x = .non))) H) d .n (.b k) := fun x y H Q r1 r2 q => ⟨r2.n_inv, q _ H (Same.refl H) (by rw [h H x r1]; exact .p (.bl _))⟩
theorem d_isN {k : Bool} (h : ∀ H v, Rp X.K H v d → decide (v = V.non) = k) (ha : PE X a (tD X.K δ d)) : PE X (.Compare a [.Is] [.Constant .none j pos] p) (tD X.K δ (.b k)) := d_cmp op_isN (r2_isN h) (nomark _) ha d_non
end
variable {P : Program} {w : World} {K : PySem.W.Frag} {mg : Str → Option Value} {base : Heap}
def rxFirst : Ms → List Dt → Rs → Prop := fun m ds T => ∃ (e : Addr) (A : Ad) (V : Ev), m = evM e A V ∧ ds = [.r e] ∧ T = fun d m' => d = ruleD V.p0 ∧ m' = evM e A V
theorem f1_firstX (T : Tx K mg) : FnR P w K mg base CX0 1 (recAd K "property" "Evening" "first") (spX K rxFirst) :=
  fnR_X T.f_Evening_first sc_Evening_first bn_Evening_first (fun m ds T ⟨_, _, _, _, h, _⟩ => by rw [h]; rfl) fun cdv A outer s H E hr m ds R ⟨e, Ad, V, h, h2, h3⟩ => by
    subst h h2 h3
    exact ss_ret (x_fld T.s_Evening_its_first rfl (x_var 0 rfl) (i := 0) rfl)
theorem okDos_app : ∀ {V : Ev} {l l' : List Deed}, okDos V (l ++ l') ↔ okDos V l ∧ okDos (V.dos l) l'
  | V, [], l' => ⟨fun h => ⟨trivial, h⟩, fun h => h.2⟩
  | V, t :: l, l' => by
    show okDo V t ∧ okDos (V.dn t) (l ++ l') ↔ (okDo V t ∧ okDos (V.dn t) l) ∧ okDos ((V.dn t).dos l) l'
    rw [okDos_app, and_assoc]
theorem dos_app {V : Ev} {l l' : List Deed} : V.dos (l ++ l') = (V.dos l).dos l' := List.foldl_append
end Pr
set_option maxHeartbeats 4000000
/-! Mf: the plain law: what is needed, laid; with one lacking. -/
namespace Pr
open PySem PySem.Spec PyProof.Rows L2
variable {n k N : Nat} {p0 : Pt} {V : Ev} {a x : Mt}
/-- a meeting that is not laid -/
structure Nd (n k : Nat) (p0 : Pt) (V : Ev) (N : Nat) (a : Mt) : Prop where
  S : SI n k p0 V N
  N24 : N ≤ 24
  r : a.r < 4
  i : a.i < n
  j : a.j < k
  out : a ∉ V.s.keys
def needO (n k : Nat) (V : Ev) (a : Mt) : List Mt := (sortN (lvN n k (V.s.need a))).map (·.2)
theorem needO_perm : (needO n k V a).Perm (V.s.need a) := bys_perm (f := fun a => (lvl n k a : Nat))
theorem Nd.mem (D : Nd n k p0 V N a) : x ∈ V.s.need a ↔ (x.r ≤ a.r ∧ x.i < n ∧ x.j < k) ∧ x ∉ V.s.keys ∧ x ≠ a ∧ ahd x a = true := by
  rw [mem_need, D.S.en, D.S.em]
  exact ⟨fun h => h.2, fun h => ⟨D.out, h⟩⟩
theorem Nd.sm (D : Nd n k p0 V N a) : ∀ x ∈ V.s.need a, x.sm := fun x hx => by
  obtain ⟨⟨h1, h2, h3⟩, _⟩ := D.mem.mp hx
  obtain ⟨_, _, n8, k8, _⟩ := D.S.nm
  have := D.r
  exact ⟨by omega, by omega, by omega⟩
theorem Nd.nd (D : Nd n k p0 V N a) : (V.s.need a).Nodup := by
  obtain ⟨_, _, n8, k8, _⟩ := D.S.nm
  exact need_nd (by rw [D.S.en]; omega) (by rw [D.S.em]; omega)
theorem Nd.cl (D : Nd n k p0 V N a) : ∀ x ∈ V.s.need a, ∀ c : Mt, c.i < n → c.j < k → c ≠ x → ahd c x = true → c ∈ V.s.keys ∨ c ∈ V.s.need a := fun x hx c ci cj hne hah => by
  obtain ⟨⟨h1, h2, h3⟩, h4, h5, h6⟩ := D.mem.mp hx
  by_cases hc : c ∈ V.s.keys
  · exact .inl hc
  · refine .inr (D.mem.mpr ⟨⟨Nat.le_trans (ahd_r hah) h1, ci, cj⟩, hc, fun e => ?_, ahd_trans hah h6⟩)
    subst e
    have l1 := lvl_lt (n := n) (m := k) ⟨ci, cj⟩ ⟨h2, h3⟩ hah hne
    have l2 := lvl_lt (n := n) (m := k) ⟨h2, h3⟩ ⟨ci, cj⟩ h6 h5
    omega
theorem Nd.lay (D : Nd n k p0 V N a) : LayOk n k V.s.keys (needO n k V a) :=
  layOk_lv D.sm D.nd (fun x hx => by obtain ⟨⟨_, h2, h3⟩, h4, _⟩ := D.mem.mp hx; exact ⟨⟨h2, h3⟩, h4⟩) D.cl
theorem Nd.kl (D : Nd n k p0 V N a) : V.s.keys.length ≤ 24 := by
  unfold Fl.keys
  rw [List.length_map]
  have := D.S.gd.ll; have := D.S.len; have := D.N24
  omega
theorem Nd.cnt (D : Nd n k p0 V N a) : V.s.keys.length + (V.s.need a).length ≤ 62 := by
  obtain ⟨n1, k1, n8, k8, nk⟩ := D.S.nm
  have G := D.S.gd
  have hkl := D.kl
  by_cases h : ∀ x ∈ V.s.keys, x.r < 4
  · have nd : (V.s.keys ++ (V.s.need a ++ [a])).Nodup := by
      rw [List.nodup_append]
      refine ⟨G.iv.nd, ?_, fun x hx y hy e => ?_⟩
      · rw [List.nodup_append]
        refine ⟨D.nd, List.nodup_cons.mpr ⟨List.not_mem_nil, List.nodup_nil⟩, fun x hx y hy e => ?_⟩
        rw [List.mem_singleton] at hy
        exact (D.mem.mp hx).2.2.1 (by rw [e, hy])
      · subst e
        rcases List.mem_append.mp hy with hy | hy
        · exact (D.mem.mp hy).2.1 hx
        · rw [List.mem_singleton] at hy
          subst hy
          exact D.out hx
    have := len_sub nd (allM_nd (n := n) (m := k) (R := 4) (by omega) (by omega)) fun x hx => by
      rw [mem_allM]
      rcases List.mem_append.mp hx with hx | hx
      · obtain ⟨h1, h2⟩ := G.iv.inr x hx
        rw [D.S.en] at h1; rw [D.S.em] at h2
        exact ⟨h x hx, h1, h2⟩
      · rcases List.mem_append.mp hx with hx | hx
        · obtain ⟨⟨h1, h2, h3⟩, _⟩ := D.mem.mp hx
          have := D.r
          exact ⟨by omega, h2, h3⟩
        · rw [List.mem_singleton] at hx
          subst hx
          exact ⟨D.r, D.i, D.j⟩
    rw [allM_len, List.length_append, List.length_append, List.length_singleton] at this
    omega
  · obtain ⟨x, h⟩ := Classical.not_forall.mp h
    obtain ⟨hx, h⟩ := Classical.not_imp.mp h
    have h3 : (allM n k 3).length ≤ V.s.keys.length := len_sub (allM_nd (by omega) (by omega)) G.iv.nd fun b hb => by
      obtain ⟨b1, b2, b3⟩ := mem_allM.mp hb
      refine G.iv.down hx (by rw [D.S.en]; exact b2) (by rw [D.S.em]; exact b3) ?_
      rw [ahd_iff]
      have e1 := oI_le (p := x.i < b.i)
      have e2 := oI_le (p := x.j < b.j)
      omega
    have h4 : (V.s.need a).length ≤ (allM n k 4).length := len_sub D.nd (allM_nd (by omega) (by omega)) fun b hb => by
      obtain ⟨⟨h1, h2, h3⟩, _⟩ := D.mem.mp hb
      have := D.r
      exact mem_allM.mpr ⟨by omega, h2, h3⟩
    rw [allM_len] at h3 h4
    omega
theorem Nd.c24 (D : Nd n k p0 V N a) : V.log.length ≤ 24 := by have := D.S.len; have := D.N24; omega
/-- facts of an evening on which some of what is needed is laid -/
structure LE (n k : Nat) (V W : Ev) (l : List Mt) (c : Nat) : Prop where
  ok : okDos V (l.map .lay)
  gd : Gd W.s c
  c9 : c ≤ 100
  ks : W.s.keys = V.s.keys ++ l
  en : W.s.n = n
  em : W.s.m = k
  sm : W.s.small
  cell : ∀ i, cnt W.s.sun i / W.s.m < 64
  lg : W.log.length < 100
theorem Nd.le (D : Nd n k p0 V N a) {l : List Mt} (hl : LayOk n k V.s.keys l) (hs : ∀ x ∈ l, x ∈ V.s.need a) (hn : l.length ≤ (V.s.need a).length) : LE n k V (V.dos (l.map .lay)) l (V.log.length + l.length) := by
  have hc := D.cnt
  have h24 := D.c24
  have hlen : l.length ≤ 62 := by omega
  have R := lay_dos (l := l) D.S.gd (by rw [D.S.en, D.S.em]; exact hl) (by omega) (by omega)
  have h60 : ∀ x ∈ (V.dos (l.map .lay)).s.keys, x.r < 60 := fun x hx => by
    rw [R.ks] at hx
    rcases List.mem_append.mp hx with h | h
    · have := D.S.gd.hr x h; omega
    · have := (D.mem.mp (hs x h)).1.1; have := D.r; omega
  have h64 : (V.dos (l.map .lay)).s.laid.length < 64 := by
    have := congrArg List.length R.ks
    rw [List.length_append] at this
    unfold Fl.keys at this hc
    rw [List.length_map] at this
    omega
  exact ⟨R.ok, R.gd, by omega, R.ks, R.n.trans D.S.en, R.m.trans D.S.em, R.gd.small h60 h64, R.gd.cell h60, by rw [R.lg]; omega⟩
theorem Nd.whole (D : Nd n k p0 V N a) : LE n k V (V.dos ((needO n k V a).map .lay)) (needO n k V a) (V.log.length + (needO n k V a).length) :=
  D.le D.lay (fun x hx => needO_perm.mem_iff.mp hx) (Nat.le_of_eq needO_perm.length_eq)
theorem Nd.wnxt (D : Nd n k p0 V N a) : (V.dos ((needO n k V a).map .lay)).s.nxt a = true := by
  have L := D.whole
  refine (L.gd.iv.nxt (by rw [L.en]; exact D.i) (by rw [L.em]; exact D.j)).mpr ⟨fun z => ?_, fun b bi bj hne hah => ?_⟩
  · rw [L.ks] at z
    rcases List.mem_append.mp z with h | h
    · exact D.out h
    · exact (D.mem.mp (needO_perm.mem_iff.mp h)).2.2.1 rfl
  · rw [L.en] at bi; rw [L.em] at bj
    rw [L.ks]
    by_cases z : b ∈ V.s.keys
    · exact List.mem_append_left _ z
    · exact List.mem_append_right _ (needO_perm.mem_iff.mpr (D.mem.mpr ⟨⟨ahd_r hah, bi, bj⟩, z, hne, hah⟩))
theorem Nd.wneed (D : Nd n k p0 V N a) : (V.dos ((needO n k V a).map .lay)).s.need a = [] := by
  have L := D.whole
  have hx := D.wnxt
  have hi : a.i < (V.dos ((needO n k V a).map .lay)).s.n := by rw [L.en]; exact D.i
  have hj : a.j < (V.dos ((needO n k V a).map .lay)).s.m := by rw [L.em]; exact D.j
  exact (need_nil L.gd.iv hi hj ((L.gd.iv.nxt hi hj).mp hx).1).mpr hx
theorem Nd.wdo (D : Nd n k p0 V N a) : okDo (V.dos ((needO n k V a).map .lay)) (.lay a) := by
  have L := D.whole
  exact L.gd.okDo (by have := L.c9; omega) (by have := L.lg; omega) ⟨by rw [L.en]; exact D.i, by rw [L.em]; exact D.j⟩ D.wnxt
/-- which are laid while x lacks -/
def lackG (x b : Mt) : Bool := (!decide (b = x)) && !((!decide (x = b)) && ahd x b)
theorem lackG_iff {b : Mt} : lackG x b = true ↔ b ≠ x ∧ ahd x b = false := by
  unfold lackG
  by_cases h : b = x
  · subst h; simp
  · have h2 : x ≠ b := fun z => h z.symm
    simp [h, h2]
theorem Nd.part (D : Nd n k p0 V N a) : LE n k V (V.dos (((needO n k V a).filter (lackG x)).map .lay)) ((needO n k V a).filter (lackG x)) (V.log.length + ((needO n k V a).filter (lackG x)).length) := by
  have hN : (needO n k V a).Nodup := needO_perm.nodup_iff.mpr D.nd
  have hM : ∀ b ∈ needO n k V a, b ∈ V.s.need a := fun b hb => needO_perm.mem_iff.mp hb
  refine D.le (layOk_part D.lay hN (fun b hb => (D.mem.mp (hM b hb)).2.1) fun b hb gb c hc hah => ?_) (fun b hb => hM b (List.mem_filter.mp hb).1) (Nat.le_trans (List.length_filter_le _ _) (Nat.le_of_eq needO_perm.length_eq))
  rw [lackG_iff] at gb ⊢
  refine ⟨fun e => ?_, ?_⟩
  · subst e; rw [hah] at gb; exact nomatch gb.2
  · rw [Bool.eq_false_iff]; intro z
    rw [ahd_trans z hah] at gb; exact nomatch gb.2
theorem Nd.pout (D : Nd n k p0 V N a) (hx : x ∈ V.s.need a) : x ∉ (V.dos (((needO n k V a).filter (lackG x)).map .lay)).s.keys := fun z => by
  rw [D.part.ks] at z
  rcases List.mem_append.mp z with h | h
  · exact (D.mem.mp hx).2.1 h
  · exact (lackG_iff.mp (List.mem_filter.mp h).2).1 rfl
theorem Nd.aout (D : Nd n k p0 V N a) : a ∉ (V.dos (((needO n k V a).filter (lackG x)).map .lay)).s.keys := fun z => by
  rw [D.part.ks] at z
  rcases List.mem_append.mp z with h | h
  · exact D.out h
  · exact (D.mem.mp (needO_perm.mem_iff.mp (List.mem_filter.mp h).1)).2.2.1 rfl
theorem Nd.pnxt (D : Nd n k p0 V N a) (hx : x ∈ V.s.need a) : (V.dos (((needO n k V a).filter (lackG x)).map .lay)).s.nxt a = false := by
  have L := D.part (x := x)
  rw [Bool.eq_false_iff]; intro z
  obtain ⟨⟨h1, h2, h3⟩, h4, h5, h6⟩ := D.mem.mp hx
  exact D.pout hx (((L.gd.iv.nxt (by rw [L.en]; exact D.i) (by rw [L.em]; exact D.j)).mp z).2 x (by rw [L.en]; exact h2) (by rw [L.em]; exact h3) h5 h6)
theorem Nd.pneed (D : Nd n k p0 V N a) (hx : x ∈ V.s.need a) : x ∈ (V.dos (((needO n k V a).filter (lackG x)).map .lay)).s.need a := by
  have L := D.part (x := x)
  obtain ⟨⟨h1, h2, h3⟩, h4, h5, h6⟩ := D.mem.mp hx
  exact mem_need.mpr ⟨D.aout, ⟨h1, by rw [L.en]; exact h2, by rw [L.em]; exact h3⟩, D.pout hx, h5, h6⟩
/-- as the law tells it -/
theorem need_eq (s : Fl) (b : Mt) (hb : b ∉ s.keys) : (allM s.n s.m (b.r + 1)).filter (fun a => ((!decide (a = b)) && ahd a b) && !decide (a ∈ sortM s.keys)) = s.need b := by
  unfold Fl.need Fl.lack
  rw [if_neg (by rw [has_keys]; exact hb), List.filter_filter]
  refine List.filter_congr fun a _ => ?_
  congr 1
  by_cases h : a ∈ s.keys
  · rw [has_keys.mpr h, decide_eq_true ((sortM_perm _).mem_iff.mpr h)]
  · rw [has_false.mpr h, decide_eq_false fun z => h ((sortM_perm _).mem_iff.mp z)]
theorem can_dec {s : Fl} (I : Iv s) {b : Mt} (hi : b.i < s.n) (hj : b.j < s.m) : decide (b ∈ sortM s.canL) = s.nxt b := by
  rw [Bool.eq_iff_iff, decide_eq_true_iff, (sortM_perm _).mem_iff, can_in I]
  exact ⟨fun h => h.2.2, fun h => ⟨hi, hj, h⟩⟩
end Pr
set_option maxHeartbeats 4000000
/-! Zw: _law_needed_right. -/
namespace Pr
open PySem PySem.Spec PyProof.Rows L2
variable {P : Program} {w : World} {K : PySem.W.Frag} {mg : Str → Option Value} {base : Heap}
abbrev nrM (b : Addr) (e : Addr) (A : Ad) (V : Ev) (B : Bag) : Ms := (b, .l (bgL B.c B.s B.p B.cs)) :: evM e A V
abbrev nrC (b : Addr) (e : Addr) (A : Ad) (V : Ev) (B : Bag) (x : Addr) (A2 : Ad) (W : Ev) : Ms := (b, .l (bgL B.c B.s B.p B.cs)) :: (evM x A2 W ++ evM e A V)
def rxNeedR : Ms → List Dt → Rs → Prop := fun m ds T => ∃ (b e : Addr) (B : Bag) (A : Ad) (V : Ev) (n k : Nat) (p0 : Pt) (N : Nat), SI n k p0 V N ∧ N ≤ 24 ∧ B.ok ∧ m = nrM b e A V B ∧ ds = [.r b, .r e] ∧
  T = fun d m' => d = .b true ∧ ∃ B', B'.ok ∧ m' = nrM b e A V B'
theorem f13_needed_right (T : Tx K mg) : FnR P w K mg base CX0 13 (ga K "_law_needed_right") (spX K rxNeedR) :=
  fnR_X T.f_law_needed_right sc_law_needed_right bn_law_needed_right (fun m ds T ⟨_, _, _, _, _, _, _, _, _, _, _, _, _, h, _⟩ => by rw [h]; rfl) fun cdv A outer s H E hr m ds R ⟨b, e, B, Ad, V, n, k, p0, N, S, hN, hB, h, h2, h3⟩ => by
    subst h h2 h3
    have hu := room_u hr
    have nd := sc_law_needed_right.nd
    obtain ⟨hn1, hk1, hn8, hk8, hnk⟩ := id S.nm
    have G := S.gd
    have hlen := S.len
    have hll := G.ll
    have hr60 : ∀ a ∈ V.s.keys, a.r < 60 := fun a ha => by have := G.hr a ha; omega
    have hsm := G.small hr60 (by omega)
    let M0 : Bag → Ms := nrM b e Ad V
    let Mb : Ms → Prop := fun m' => ∃ B', Bag.ok B' ∧ m' = M0 B'
    have tk : ∀ (q : Nat) (m1 : Ms), 0 < q → q ≤ 1000000 → Mb m1 → Rf rxTake m1 [.r b, .i q] (fun d m' => ∃ v : Nat, v < q ∧ d = .i v ∧ Mb m') := fun q m1 h0 h1 ⟨B1, hB1, e1⟩ =>
      ⟨B1.m b, evM e Ad V, _, by rw [e1]; exact List.Perm.refl _, ⟨b, q, h0, h1, ⟨B1, hB1, rfl⟩, rfl, rfl⟩, fun d m' ⟨v, h1, h2, B', h3, h4⟩ => ⟨v, h1, h2, B', h3, by rw [h4]; rfl⟩⟩
    refine s_seq (N1 := fun δ' m' => δ' = [some (.r b), some (.r e), some (.i n), some (.i k), none, none, none, none, none, none, none, none] ∧ Mb m') (s_par (i := 2) (j := 3) (A := fun ds m' => ds = [.i n, .i k] ∧ Mb m') rfl nd rfl rfl (by decide) rfl rfl ?_ (fun ds m1 ⟨h1, h2⟩ => ⟨_, _, h1, rfl, h2⟩) rfl) fun δ1 m1 ⟨h1, h2⟩ => ?_
    · refine xa_imp (xa_dc (x_look (q := .int n) (Rsv.one 1 rfl (rs_ev 1 rfl rfl rfl rfl rfl rfl rfl) .refl) rfl (d_eqv (d_prop T.p_Evening_suns (f1_suns T) (hr.mono (by decide)) ⟨V.p0, V.s, V.log, V.und, rfl, rfl⟩ (d_var 1 rfl)) (by rw [S.en])))
        (xa_1 (x_look (q := .int k) (Rsv.one 1 rfl (rs_ev 1 rfl rfl rfl rfl rfl rfl rfl) .refl) rfl (d_eqv (d_prop T.p_Evening_moons (f1_moons T) (hr.mono (by decide)) ⟨V.p0, V.s, V.log, V.und, rfl, rfl⟩ (d_var 1 rfl)) (by rw [S.em]))))) fun ds m' ⟨r, ⟨d, ⟨h1, h2⟩, h3⟩, h4⟩ => ⟨by rw [h4, h3, h1], B, hB, h2⟩
    subst h1
    refine ss_set (T := fun d m' => ∃ a : Mt, (a.r < 4 ∧ a.i < n ∧ a.j < k) ∧ d = .p a.d ∧ Mb m') 4 nd rfl (.inr rfl) (x_tup (A := fun ds m' => ∃ a : Mt, (a.r < 4 ∧ a.i < n ∧ a.j < k) ∧ ds = [.i a.r, .i a.i, .i a.j] ∧ Mb m') ?_ fun ds m1 ⟨a, h1, h2, h3⟩ => ⟨[.int a.r, .int a.i, .int a.j], h2, by simp, a, h1, rfl, h3⟩) fun d m2 ⟨a, ha, h1, B1, hB1, h3⟩ => ?_
    · refine xa_imp (xa_cons (T := fun d m' => ∃ v : Nat, v < 4 ∧ d = .i v ∧ Mb m') (B := fun _ m1 ds m' => ∃ v1 v2 : Nat, v1 < n ∧ v2 < k ∧ ds = [.i v1, .i v2] ∧ Mb m') ?_ fun d m2 ⟨_, _, _, hb2⟩ => ?_) fun ds m' ⟨d, m1, r, ⟨v, h1, h2, h3⟩, ⟨v1, v2, h4, h5, h6, h7⟩, h8⟩ => ⟨⟨v, v1, v2⟩, ⟨h1, h4, h5⟩, by rw [h8, h2, h6], h7⟩
      · refine x_call ((f1_law_take T).mono (by decide)) hr rfl T.g_law_take T.f_law_take.kp (x_pureA (a_cons (d_var 0 rfl) (a_cons d_int a_nil))) fun ds m3 ⟨h1, h3⟩ => ?_
        subst h1 h3
        exact tk 4 _ (by decide) (by decide) h2
      · refine xa_imp (xa_cons (T := fun d m' => ∃ v : Nat, v < n ∧ d = .i v ∧ Mb m') (B := fun _ m1 ds m' => ∃ d, (∃ v : Nat, v < k ∧ d = .i v ∧ Mb m') ∧ ds = [d]) ?_ fun d m2 ⟨_, _, _, hb2⟩ => xa_1 ?_) fun ds m' ⟨d, m1, r, ⟨v, h1, h2, h3⟩, ⟨d2, ⟨v2, h4, h5, h6⟩, h7⟩, h8⟩ => ⟨v, v2, h1, h4, by rw [h8, h2, h7, h5], h6⟩
        · refine x_call ((f1_law_take T).mono (by decide)) hr rfl T.g_law_take T.f_law_take.kp (x_pureA (a_cons (d_var 0 rfl) (a_cons (d_var 2 rfl) a_nil))) fun ds m3 ⟨h1, h3⟩ => ?_
          subst h1 h3
          exact tk n _ (by omega) (by omega) hb2
        · refine x_call ((f1_law_take T).mono (by decide)) hr rfl T.g_law_take T.f_law_take.kp (x_pureA (a_cons (d_var 0 rfl) (a_cons (d_var 3 rfl) a_nil))) fun ds m3 ⟨h1, h3⟩ => ?_
          subst h1 h3
          exact tk k _ (by omega) (by omega) hb2
    subst h1 h3
    obtain ⟨har, hai, haj⟩ := ha
    have hkey : ((sortM V.s.keys).map Mt.d).any (fun z => PyData.eqv z a.d) = decide (a ∈ sortM V.s.keys) := any_mts
    refine ss_ifK (k := decide (a ∈ sortM V.s.keys)) (x_lookC (Rsv.one 1 rfl (rs_ev 1 rfl rfl rfl rfl rfl rfl rfl) .refl) (c_eqv (c_in hu sh_mt sh_mts (d_var 4 rfl) (d_new (d_methN0 T.c_Evening T.m_Evening_laid ((f1_laid T).mono (by decide)) hr ⟨V.p0, V.s, V.log, V.und, hsm, rfl, rfl⟩ (d_var 1 rfl)))) hkey)) (fun hk => ?_) fun hk => ?_
    · have ha : a ∈ V.s.keys := (sortM_perm _).mem_iff.mp (of_decide_eq_true hk)
      have hne : V.s.need a = [] := by unfold Fl.need; rw [if_pos (has_keys.mpr ha)]
      refine ss_ret (x_imp (x_look (q := .bool true) (Rsv.one 1 rfl (rs_ev 1 rfl rfl rfl rfl rfl rfl rfl) .refl) rfl (d_eqv (d_eq hu (sh_mts (l := V.s.need a)) sh_nil (d_new (d_methN T.c_Evening T.m_Evening_needed ((f4_needed T).mono (by decide)) hr ⟨V.p0, V.s, V.log, V.und, a, hsm, by omega, by rw [S.en]; exact hai, by rw [S.em]; exact haj, rfl, rfl⟩ (d_var 1 rfl) (a_cons (d_var 4 rfl) a_nil))) (d_new (d_lstP (ps := []) a_nil (by simp)))) (by rw [eqv_mts_nil, hne]; rfl))) fun d m' ⟨h1, h2⟩ => ⟨h1, B1, hB1, h2⟩)
    have haout : a ∉ V.s.keys := fun z => (of_decide_eq_false hk) ((sortM_perm _).mem_iff.mpr z)
    have D : Nd n k p0 V N a := ⟨S, hN, har, hai, haj, haout⟩
    have hneedL : (V.s.need a).length ≤ 62 := by have := D.cnt; omega
    refine ss_asg (T := fun d m' => d = .tu [.l ((V.s.need a).map Mt.d), dnD n k (a.r + 1) p0] ∧ m' = M0 B1) (N1 := fun δ' m' => δ' = [some (.r b), some (.r e), some (.i n), some (.i k), some (.p a.d), some (.l ((V.s.need a).map Mt.d)), some (dnD n k (a.r + 1) p0), none, none, none, none, none] ∧ m' = M0 B1)
      (x_tu (A := fun ds m' => ds = [.l ((V.s.need a).map Mt.d), dnD n k (a.r + 1) p0] ∧ m' = M0 B1) (xa_imp (xa_dc (x_lookN (Rsv.one 1 rfl (rs_ev 1 rfl rfl rfl rfl rfl rfl rfl) .refl) noLs_mts (d_methN T.c_Evening T.m_Evening_needed ((f4_needed T).mono (by decide)) hr ⟨V.p0, V.s, V.log, V.und, a, hsm, by omega, by rw [S.en]; exact hai, by rw [S.em]; exact haj, rfl, rfl⟩ (d_var 1 rfl) (a_cons (d_var 4 rfl) a_nil)))
        (xa_1 (T := fun d m' => d = dnD n k (a.r + 1) p0 ∧ m' = M0 B1) ?_))
        fun ds m' ⟨r, ⟨d, ⟨h1, h2⟩, h3⟩, h4⟩ => ⟨by rw [h4, h3, h1], h2⟩) fun ds m1 ⟨h1, h2⟩ => ⟨by rw [h1]; simp, by rw [h1], h2⟩)
      (fun d m1 ⟨h1, h2⟩ => by
        subst h1 h2
        exact xg_imp (xg_of (g_tu rfl (gs_cons (g_name 5 nd rfl (.inl rfl)) (gs_cons (g_name 6 nd rfl (.inr rfl)) gs_nil)) rfl)) fun δ' m' ⟨e1, e2⟩ => ⟨e1, e2⟩) fun δ1 m1 ⟨h1, h2⟩ => ?_
    · refine x_makeD T.k_Dance ((f3_Dance_init T).mono (show 3 ≤ 11 by decide)) hr rfl T.g_Dance (A := fun ds m' => ds = [.i n, .i k, .i (a.r + 1 : Nat), ruleD p0] ∧ m' = M0 B1) (xa_imp (xa_dc (x_var 2 rfl) (xa_dc (x_var 3 rfl) (xa_dc (x_pure (d_eqv (d := .i (a.r + 1 : Nat)) (d_add (d_ixT (p := .int a.r) rfl (d_var 4 rfl) d_int) d_int) (by push_cast; rfl)) )
          (xa_1 (T := fun d m' => d = ruleD p0 ∧ m' = M0 B1) (x_shift (T := fun d m' => d = ruleD p0 ∧ m' = evM e Ad V ++ [(b, .l (bgL B1.c B1.s B1.p B1.cs))]) (x_prop T.p_Evening_first (f1_firstX T) (hr.mono (by decide)) (x_var 1 rfl) (i := 1) rfl ⟨evM e Ad V, [(b, .l (bgL B1.c B1.s B1.p B1.cs))], _, pm 8 [1, 2, 3, 4, 5, 6, 7, 0] rfl rfl, ⟨e, Ad, V, rfl, rfl, rfl⟩, fun d m' ⟨h1, h2⟩ => ⟨by rw [h1, S.ep], by rw [h2]⟩⟩)
            fun d m' ⟨h1, h2⟩ => ⟨M0 B1, [], by rw [h2]; exact pm 8 [7, 0, 1, 2, 3, 4, 5, 6] rfl rfl, h1, rfl⟩))))) fun ds m' ⟨r, ⟨r2, ⟨r3, ⟨d, ⟨h1, h2⟩, h3⟩, h4⟩, h5⟩, h6⟩ => ⟨by rw [h6, h5, h4, h3, h1], h2⟩) fun ds m1 ⟨h1, h2⟩ => ⟨_, ⟨n, k, a.r + 1, p0, hn1, hk1, by omega, h1, rfl⟩, rfl, h2⟩
    subst h1 h2
    let D5 : De := [some (.r b), some (.r e), some (.i n), some (.i k), some (.p a.d), some (.l ((V.s.need a).map Mt.d)), some (dnD n k (a.r + 1) p0), none, none, none, none, none]
    have hal : (allM n k (a.r + 1)).length ≤ 1000 := by
      rw [allM_len]
      have : (a.r + 1) * (n * k) ≤ 4 * 15 := Nat.mul_le_mul (by omega) hnk
      omega
    have hfl : (allM n k (a.r + 1)).filter (fun x => ((!decide (x = a)) && ahd x a) && !decide (x ∈ sortM V.s.keys)) = V.s.need a := by have := need_eq V.s a haout; rw [S.en, S.em] at this; exact this
    refine ss_ifK (k := false) (x_lookC (Rsv.one 1 rfl (rs_ev 1 rfl rfl rfl rfl rfl rfl rfl) .refl) (c_eqv (c_ne hu sh_mts sh_mts (d_var 5 rfl) (d_new (d_lc (l := allM n k (a.r + 1)) (ι := Mt.d) (f := Mt.d) (k := fun x => ((!decide (x = a)) && ahd x a) && !decide (x ∈ sortM V.s.keys)) (own := [("_law_one", 7)]) (is := [7]) rfl nd
      (i_list (d_new (d_methN0 T.c_Dance T.m_Dance_meetings ((f1_meetings T).mono (by decide)) hr ⟨n, k, a.r + 1, p0, by omega, by omega, by omega, by omega, rfl, rfl⟩ (d_var 6 rfl)))) (blkOk_by (by kernel_rfl)) rfl hal (by decide) (fun _ _ _ => rfl) (fun x hx s H C cl fp => g_name 7 nd rfl (.inl rfl))
      (fun x hx s H C cl fp => c_one (PW.pt (w_and (c_val (d_meth T.c_Dance T.m_Dance_ahead ((f5_ahead T).mono (by decide)) hr ⟨n, k, a.r + 1, p0, x, a, mem_allM.mp hx, ⟨by omega, hai, haj⟩, rfl, rfl⟩ (d_var 6 rfl) (a_cons (d_var 7 rfl) (a_cons (d_var 4 rfl) a_nil)))) fun _ => w_and1 (c_eqv (c_nin hu sh_mt sh_mts (d_var 7 rfl) (d_new (d_methN0 T.c_Evening T.m_Evening_laid ((f1_laid T).mono (by decide)) hr ⟨V.p0, V.s, V.log, V.und, hsm, rfl, rfl⟩ (d_var 1 rfl)))) (by rw [any_mts])))))
      (fun x hx _ s H C cl fp => d_var 7 rfl)))) (by rw [hfl, SeqAt.eqv_refl _ (SeqAt.canLay_of_shaped sh_mts)]; rfl))) (fun z => nomatch z) fun _ => ?_
    have hnx : V.s.nxt a = (V.s.need a).isEmpty := by
      rw [Bool.eq_iff_iff, List.isEmpty_iff]
      exact (need_nil G.iv (by rw [S.en]; exact hai) (by rw [S.em]; exact haj) haout).symm
    refine ss_ifK (k := false) (x_lookC (Rsv.one 1 rfl (rs_ev 1 rfl rfl rfl rfl rfl rfl rfl) .refl) (c_eqv (c_ne hu sh_bool sh_bool (d_eq hu sh_mts sh_nil (d_var 5 rfl) (d_new (d_lstP (ps := []) a_nil (by simp)))) (d_in hu sh_mt sh_mts (d_var 4 rfl) (d_new (d_methN0 T.c_Evening T.m_Evening_can ((f2_can T).mono (by decide)) hr ⟨V.p0, V.s, V.log, V.und, hsm, G.iv.m1, G.cell hr60, rfl, rfl⟩ (d_var 1 rfl)))))
      (by rw [eqv_bool, eqv_mts_nil, any_mts, can_dec G.iv (by rw [S.en]; exact hai) (by rw [S.em]; exact haj), hnx]; simp))) (fun z => nomatch z) fun _ => ?_
    have hsmN : ∀ q ∈ lvN n k (V.s.need a), q.2.sm := fun q hq => by unfold lvN at hq; obtain ⟨x, hx, rfl⟩ := List.mem_map.mp hq; exact D.sm x hx
    refine ss_set 8 nd rfl (.inl rfl) (x_pure (d_new (d_sortN (l := lvN n k (V.s.need a)) hu hsmN rfl T.b_sorted (d_new (n_eqv (d_lc0 (l := V.s.need a) (ι := Mt.d) (f := fun x => nst ((lvl n k x : Nat), x)) (own := [("_law_one", 7)]) (is := [7]) rfl nd (i_list (d_var 5 rfl)) (blkOk_by (by kernel_rfl)) rfl (by omega) (by decide) (fun _ _ => rfl) (fun x hx s H C cl fp => g_name 7 nd rfl (.inl rfl))
      (fun x hx s H C cl fp => d_tup2 (a_cons (d_meth T.c_Dance T.m_Dance_level ((f5_level T).mono (by decide)) hr ⟨n, k, a.r + 1, p0, x, by obtain ⟨⟨h1, h2, h3⟩, _⟩ := D.mem.mp hx; exact ⟨by omega, h2, h3⟩, by omega, rfl, rfl⟩ (d_var 6 rfl) (a_cons (d_var 7 rfl) a_nil)) (a_cons (d_var 7 rfl) a_nil)))) (by unfold lvN; rw [List.map_map]; rfl)))))) fun d m1 ⟨h1, h2⟩ => ?_
    subst h1 h2
    have hV : (⟨V.p0, runL V.s0 V.log, V.log, V.und⟩ : Ev) = V := by rw [S.s0, ← S.run]
    have hokL : okL V.s0 V.log := by rw [S.s0]; exact S.okL (by omega)
    let LV := sortN (lvN n k (V.s.need a))
    let lkD : Dt → Prop := fun ld => (V.s.need a = [] ∧ ld = .n) ∨ ∃ z ∈ V.s.need a, ld = .p z.d
    let D8 : Addr → Dt → De := fun x ld => [some (.r b), some (.r e), some (.i n), some (.i k), some (.p a.d), some (.l ((V.s.need a).map Mt.d)), some (dnD n k (a.r + 1) p0), none, some (.l (LV.map nst)), some (.r x), some ld, none]
    let MC : Bag → Addr → Pr.Ad → Ev → Ms := fun B x A2 W => nrC b e Ad V B x A2 W
    have hLVl : LV.length ≤ 62 := by show (sortN _).length ≤ 62; rw [(sortN_perm _).length_eq]; unfold lvN; rw [List.length_map]; exact hneedL
    refine s_seq (N1 := fun δ' m' => ∃ x A2 ld B2, Bag.ok B2 ∧ lkD ld ∧ δ' = D8 x ld ∧ m' = MC B2 x A2 V) (s_par (i := 9) (j := 10) (A := fun ds m' => ∃ x A2 ld B2, Bag.ok B2 ∧ lkD ld ∧ ds = [.r x, ld] ∧ m' = MC B2 x A2 V) rfl nd rfl rfl (by decide) rfl rfl ?_ (fun ds m1 ⟨x, A2, ld, B2, h1, h2, h3, h4⟩ => ⟨_, _, h3, x, A2, ld, B2, h1, h2, rfl, h4⟩) rfl) fun δ1 m1 ⟨x, A2, ld, B2, hB2, hld, h1, h2⟩ => ?_
    · refine xa_imp (xa_cons (T := fun d m' => ∃ x A2, d = .r x ∧ m' = MC B1 x A2 V) (B := fun d _ ds m' => ∃ x A2 ld B2, Bag.ok B2 ∧ lkD ld ∧ d = .r x ∧ ds = [ld] ∧ m' = MC B2 x A2 V) (x_shift (T := fun d m' => ∃ x A2, d = .r x ∧ m' = evM x A2 V ++ evM e Ad V ++ [(b, .l (bgL B1.c B1.s B1.p B1.cs))])
        (x_meth0 T.c_Evening T.m_Evening_copied (f12_copied T) hr (x_var 1 rfl) (i := 1) rfl ⟨evM e Ad V, [(b, .l (bgL B1.c B1.s B1.p B1.cs))], _, pm 8 [1, 2, 3, 4, 5, 6, 7, 0] rfl rfl, ⟨e, Ad, V, G.iv.n1, G.iv.m1, by omega, hokL, rfl, rfl, rfl⟩, fun d m' ⟨x, A2, h1, h2⟩ => ⟨x, A2, h1, by rw [h2, hV]⟩⟩)
        fun d m' ⟨x, A2, h1, h2⟩ => ⟨MC B1 x A2 V, [], by rw [h2]; exact pm 15 [14, 0, 1, 2, 3, 4, 5, 6, 7, 8, 9, 10, 11, 12, 13] rfl rfl, x, A2, h1, rfl⟩) fun d m1 ⟨x, A2, h1, h2⟩ => ?_) fun ds m' ⟨d, m1, r, _, ⟨x, A2, ld, B2, h1, h2, h3, h4, h5⟩, h6⟩ => ⟨x, A2, ld, B2, h1, h2, by rw [h6, h3, h4], h5⟩
      subst h1 h2
      refine xa_imp (xa_1 (T := fun d m' => lkD d ∧ ∃ B2, Bag.ok B2 ∧ m' = MC B2 x A2 V) (x_if (C := fun q m' => q = !(V.s.need a).isEmpty ∧ m' = MC B1 x A2 V) (xt_imp (x_pureC (c_ne hu sh_mts sh_nil (d_var 5 rfl) (d_new (d_lstP (ps := []) a_nil (by simp))))) fun q m' ⟨h1, h2⟩ => ⟨by rw [h1, eqv_mts_nil], h2⟩) (fun m1 ⟨h1, h2⟩ => ?_) (fun m1 ⟨h1, h2⟩ => ?_))) fun ds m' ⟨d, ⟨h1, B2, h2, h3⟩, h4⟩ => ⟨x, A2, d, B2, h2, h1, rfl, h4, h3⟩
      · subst h2
        have hne : V.s.need a ≠ [] := fun z => by rw [z] at h1; cases h1
        refine x_call ((f2_law_pick T).mono (by decide)) hr rfl T.g_law_pick T.f_law_pick.kp (x_pureA (a_cons (d_var 0 rfl) (a_cons (d_var 5 rfl) a_nil))) fun ds m3 ⟨h1, h2⟩ => ?_
        subst h1 h2
        refine ⟨B1.m b, evM x A2 V ++ evM e Ad V, _, List.Perm.refl _, ⟨b, (V.s.need a).map Mt.d, by rw [List.length_map]; exact List.length_pos_iff.mpr hne, by rw [List.length_map]; omega, noLs_mts, ⟨B1, hB1, rfl⟩, rfl, rfl⟩, fun d m' ⟨q, h1, h2, B2, h3, h4⟩ => ?_⟩
        obtain ⟨z, hz, ez⟩ := List.mem_map.mp h1
        exact ⟨.inr ⟨z, hz, by rw [h2, ez]⟩, B2, h3, by rw [h4]; rfl⟩
      · subst h2
        have hne : V.s.need a = [] := by
          have h1 := h1.symm
          rw [Bool.not_eq_false'] at h1
          exact List.isEmpty_iff.mp h1
        exact x_imp (x_pure d_non) fun d m' ⟨h1, h2⟩ => ⟨.inl ⟨hne, h1⟩, B1, hB1, h2⟩
    subst h1 h2
    have hLE := D.whole
    have hto : (.tuple [.str "told", .none] : PyData).shown = (.tuple [.str "told", .none] : PyData).shown := rfl
    have shT : SeqAt.shaped (.tuple [.str "told", .none]) = true := tell_none.sh
    have neT : (!PyData.eqv (.tuple [.str "told", .none]) (.tuple [.str "told", .none])) = false := by rw [SeqAt.eqv_refl _ (SeqAt.canLay_of_shaped shT)]; rfl
    refine s_seq (s_for (l := LV) (ι := nst) (is := [11, 7]) (fun i δ' m' => δ' = D8 x ld ∧ m' = MC B2 x A2 (V.dos (((needO n k V a).map .lay).take i))) PassesOwn.never rfl (i_list (d_var 8 rfl)) (fun p _ => rfl) ⟨rfl, rfl⟩ fun i q δ1 m1 hq h => ?_) fun δ1 m1 h => ?_
    · obtain ⟨h1, h2⟩ := h
      subst h1 h2
      have hd : ((needO n k V a).map Deed.lay)[i]? = some (.lay q.2) := by unfold needO; rw [List.getElem?_map, List.getElem?_map, hq]; rfl
      have ho := okDos_at hLE.ok hd
      rw [dos_succ hd]
      generalize V.dos (((needO n k V a).map .lay).take i) = W at ho ⊢
      refine ⟨_, g_tup (ps := [.int q.1, q.2.d]) rfl (gs_cons (g_name 11 nd rfl (.inl rfl)) (gs_cons (g_name 7 nd rfl (.inl rfl)) gs_nil)) rfl, ?_⟩
      refine ss_if (C := fun k' m' => k' = false ∧ m' = MC B2 x A2 (W.dn (.lay q.2))) (xt_cmp (T1 := fun d m' => d = .t [.str "told", .none] ∧ m' = MC B2 x A2 (W.dn (.lay q.2))) (op_neD (Nat.lt_of_succ_lt hu)) (x_shift (T := fun d m' => d = .t [.str "told", .none] ∧ m' = evM x A2 (W.dn (.lay q.2)) ++ ((b, .l (bgL B2.c B2.s B2.p B2.cs)) :: evM e Ad V)) ?_ fun d m' ⟨h1, h2⟩ => ⟨MC B2 x A2 (W.dn (.lay q.2)), [], by rw [h2]; exact pm 15 [7, 0, 1, 2, 3, 4, 5, 6, 8, 9, 10, 11, 12, 13, 14] rfl rfl, h1, rfl⟩) (d_tup2 (a_cons d_str (a_cons d_non a_nil))) fun d1 m' ⟨h1, h2⟩ => ⟨false, by rw [h1]; exact neT ▸ r2_neD shT shT, rfl, h2⟩) (fun m3 ⟨h, _⟩ => nomatch h) (fun m3 ⟨_, h⟩ => ?_)
      · refine x_call ((f10_law_did T).mono (by decide)) hr rfl T.g_law_did T.f_law_did.kp (x_pureA (a_cons (d_var 9 rfl) (a_cons (d_tup2 (a_cons d_str (a_cons (d_var 7 rfl) a_nil))) a_nil))) fun ds m3 ⟨h1, h2⟩ => ?_
        subst h1 h2
        exact ⟨evM x A2 W, _, _, pm 15 [1, 2, 3, 4, 5, 6, 7, 0, 8, 9, 10, 11, 12, 13, 14] rfl rfl, ⟨x, A2, W, .lay q.2, ho, rfl, rfl, rfl⟩, fun d m' ⟨h1, h2⟩ => ⟨h1, by rw [h2]; rfl⟩⟩
      · subst h
        exact ss_weak (δ' := D8 x ld) (s_nil ⟨rfl, rfl⟩) fun _ _ E => (E.forget 11).forget 7
    obtain ⟨h1, h2⟩ := h
    subst h1 h2
    rw [List.take_of_length_le (show ((needO n k V a).map Deed.lay).length ≤ LV.length by unfold needO; rw [List.length_map, List.length_map]; exact Nat.le_refl _)]
    have hwi : a.i < (V.dos ((needO n k V a).map .lay)).s.n := by rw [hLE.en]; exact hai
    have hwj : a.j < (V.dos ((needO n k V a).map .lay)).s.m := by rw [hLE.em]; exact haj
    have hwn := D.wnxt
    have hwq := D.wneed
    have hwd := D.wdo
    revert hLE hwi hwj hwn hwq hwd
    generalize V.dos ((needO n k V a).map .lay) = W
    intro hLE hwi hwj hwn hwq hwd
    refine ss_if (C := fun k' m' => k' = false ∧ m' = MC B2 x A2 (W.dn (.lay a))) (PW.pt (xw_or (x_lookC (Rsv.one 9 rfl (rs_ev 1 rfl rfl rfl rfl rfl rfl rfl) .refl) (c_eqv (c_nin hu sh_mt sh_mts (d_var 4 rfl) (d_new (d_methN0 T.c_Evening T.m_Evening_can ((f2_can T).mono (by decide)) hr ⟨W.p0, W.s, W.log, W.und, hLE.sm, hLE.gd.iv.m1, hLE.cell, rfl, rfl⟩ (d_var 9 rfl)))) (by rw [any_mts, can_dec hLE.gd.iv hwi hwj, hwn]; rfl)))
      (xw_or (x_lookC (Rsv.one 9 rfl (rs_ev 1 rfl rfl rfl rfl rfl rfl rfl) .refl) (c_eqv (c_ne hu sh_mts sh_nil (d_new (d_methN T.c_Evening T.m_Evening_needed ((f4_needed T).mono (by decide)) hr ⟨W.p0, W.s, W.log, W.und, a, hLE.sm, by omega, hwi, hwj, rfl, rfl⟩ (d_var 9 rfl) (a_cons (d_var 4 rfl) a_nil))) (d_new (d_lstP (ps := []) a_nil (by simp)))) (by rw [eqv_mts_nil, hwq]; rfl)))
        (xw_or1 (xt_cmp (T1 := fun d m' => d = .t [.str "told", .none] ∧ m' = MC B2 x A2 (W.dn (.lay a))) (op_neD (Nat.lt_of_succ_lt hu)) (x_shift (T := fun d m' => d = .t [.str "told", .none] ∧ m' = evM x A2 (W.dn (.lay a)) ++ ((b, .l (bgL B2.c B2.s B2.p B2.cs)) :: evM e Ad V)) ?_ fun d m' ⟨h1, h2⟩ => ⟨MC B2 x A2 (W.dn (.lay a)), [], by rw [h2]; exact pm 15 [7, 0, 1, 2, 3, 4, 5, 6, 8, 9, 10, 11, 12, 13, 14] rfl rfl, h1, rfl⟩) (d_tup2 (a_cons d_str (a_cons d_non a_nil))) fun d1 m' ⟨h1, h2⟩ => ⟨false, by rw [h1]; exact neT ▸ r2_neD shT shT, rfl, h2⟩))))) (fun m3 ⟨h, _⟩ => nomatch h) (fun m3 ⟨_, h⟩ => ?_)
    · refine x_call ((f10_law_did T).mono (by decide)) hr rfl T.g_law_did T.f_law_did.kp (x_pureA (a_cons (d_var 9 rfl) (a_cons (d_tup2 (a_cons d_str (a_cons (d_var 4 rfl) a_nil))) a_nil))) fun ds m3 ⟨h1, h2⟩ => ?_
      subst h1 h2
      exact ⟨evM x A2 W, _, _, pm 15 [1, 2, 3, 4, 5, 6, 7, 0, 8, 9, 10, 11, 12, 13, 14] rfl rfl, ⟨x, A2, W, .lay a, hwd, rfl, rfl, rfl⟩, fun d m' ⟨h1, h2⟩ => ⟨h1, by rw [h2]; rfl⟩⟩
    subst h
    refine ss_set (T := fun d m' => ∃ y A3, d = .r y ∧ m' = MC B2 y A3 V) 9 nd rfl (.inl rfl) (x_shift (T := fun d m' => ∃ y A3, d = .r y ∧ m' = evM y A3 V ++ evM e Ad V ++ ((b, .l (bgL B2.c B2.s B2.p B2.cs)) :: evM x A2 (W.dn (.lay a))))
      (x_meth0 T.c_Evening T.m_Evening_copied (f12_copied T) hr (x_var 1 rfl) (i := 8) rfl ⟨evM e Ad V, (b, .l (bgL B2.c B2.s B2.p B2.cs)) :: evM x A2 (W.dn (.lay a)), _, pm 15 [8, 9, 10, 11, 12, 13, 14, 0, 1, 2, 3, 4, 5, 6, 7] rfl rfl, ⟨e, Ad, V, G.iv.n1, G.iv.m1, by omega, hokL, rfl, rfl, rfl⟩, fun d m' ⟨y, A3, h1, h2⟩ => ⟨y, A3, h1, by rw [h2, hV]⟩⟩)
      fun d m' ⟨y, A3, h1, h2⟩ => ⟨MC B2 y A3 V, evM x A2 (W.dn (.lay a)), by rw [h2]; exact pm 22 [14, 0, 1, 2, 3, 4, 5, 6, 7, 8, 9, 10, 11, 12, 13, 15, 16, 17, 18, 19, 20, 21] rfl rfl, y, A3, h1, rfl⟩) fun d m1 ⟨y, A3, h1, h2⟩ => ?_
    subst h1 h2
    rcases hld with ⟨hn0, hld⟩ | ⟨z, hz, hld⟩
    · subst hld
      have hLV : LV = [] := List.eq_nil_of_length_eq_zero (by show (sortN _).length = 0; rw [(sortN_perm _).length_eq]; unfold lvN; rw [List.length_map, hn0]; rfl)
      refine s_seq (s_for (l := LV) (ι := nst) (is := [11, 7]) (fun i δ' m' => δ' = D8 y .n ∧ m' = MC B2 y A3 V) PassesOwn.never rfl (i_list (d_var 8 rfl)) (fun p _ => rfl) ⟨rfl, rfl⟩ fun i q δ1 m1 hq h => by rw [hLV] at hq; cases hq) fun δ1 m1 h => ?_
      obtain ⟨h1, h2⟩ := h
      subst h1 h2
      refine ss_ret (x_shift (x_look (q := .bool true) (Rsv.one 9 rfl (rs_ev 1 rfl rfl rfl rfl rfl rfl rfl) .refl) rfl (d_or (k1 := true) (k2 := true) (d_isN (fun H v r => by rw [r.n_inv]; rfl) (d_var 10 rfl)) (fun z => nomatch z))) fun d m' ⟨h1, h2⟩ => ⟨M0 B2, evM y A3 V, by rw [h2]; exact pm 15 [0, 8, 9, 10, 11, 12, 13, 14, 1, 2, 3, 4, 5, 6, 7] rfl rfl, h1, B2, hB2, rfl⟩)
    · subst hld
      have hP := D.part (x := z)
      obtain ⟨⟨hz1, hz2, hz3⟩, _⟩ := D.mem.mp hz
      let pre : Nat → List Deed := fun i => (((needO n k V a).take i).filter (lackG z)).map Deed.lay
      have hlen2 : (needO n k V a).length = LV.length := by unfold needO; rw [List.length_map]
      refine s_seq (s_for (l := LV) (ι := nst) (is := [11, 7]) (fun i δ' m' => δ' = D8 y (.p z.d) ∧ m' = MC B2 y A3 (V.dos (pre i))) PassesOwn.never rfl (i_list (d_var 8 rfl)) (fun p _ => rfl) ⟨rfl, rfl⟩ fun i q δ1 m1 hq h => ?_) fun δ1 m1 h => ?_
      · obtain ⟨h1, h2⟩ := h
        subst h1 h2
        have hd : (needO n k V a)[i]? = some q.2 := by unfold needO; rw [List.getElem?_map, hq]; rfl
        obtain ⟨hil, _⟩ := List.getElem?_eq_some_iff.mp hd
        have hqn : q.2 ∈ V.s.need a := needO_perm.mem_iff.mp (List.mem_of_getElem? hd)
        obtain ⟨⟨hq1, hq2, hq3⟩, _⟩ := D.mem.mp hqn
        have hpre : pre (i + 1) = pre i ++ (if lackG z q.2 = true then [Deed.lay q.2] else []) := by
          show (((needO n k V a).take (i + 1)).filter (lackG z)).map Deed.lay = _
          rw [List.take_succ, hd, Option.toList_some, List.filter_append, List.map_append]
          congr 1
          cases hg : lackG z q.2 <;> simp [List.filter, hg]
        rw [hpre]
        refine ⟨_, g_tup (ps := [.int q.1, q.2.d]) rfl (gs_cons (g_name 11 nd rfl (.inl rfl)) (gs_cons (g_name 7 nd rfl (.inl rfl)) gs_nil)) rfl, ?_⟩
        refine ss_if2 (C := fun k' m' => k' = lackG z q.2 ∧ m' = MC B2 y A3 (V.dos (pre i))) (x_pureC (PW.pt (w_and (k1 := !decide (q.2 = z)) (c_eqv (c_ne hu sh_mt sh_mt (d_var 7 rfl) (d_var 10 rfl)) (by rw [eqv_mt])) fun _ => w_and1 (c_not (c_val (d_meth T.c_Dance T.m_Dance_ahead ((f5_ahead T).mono (by decide)) hr ⟨n, k, a.r + 1, p0, z, q.2, ⟨by omega, hz2, hz3⟩, ⟨by omega, hq2, hq3⟩, rfl, rfl⟩ (d_var 6 rfl) (a_cons (d_var 10 rfl) (a_cons (d_var 7 rfl) a_nil)))))))) (fun m3 ⟨hk, h⟩ => ?_) (fun m3 ⟨hk, h⟩ => ?_)
        · subst h
          have ho : okDo (V.dos (pre i)) (.lay q.2) := by
            have h1 := hP.ok
            have h2 : (needO n k V a).filter (lackG z) = ((needO n k V a).take i).filter (lackG z) ++ (q.2 :: ((needO n k V a).drop (i + 1)).filter (lackG z)) := by
              have h3 : needO n k V a = (needO n k V a).take i ++ (q.2 :: (needO n k V a).drop (i + 1)) := by
                have h4 := (List.getElem?_eq_some_iff.mp hd).2
                rw [← h4, ← List.drop_eq_getElem_cons hil, List.take_append_drop]
              conv => lhs; rw [h3]
              rw [List.filter_append, List.filter_cons_of_pos hk.symm]
            rw [h2, List.map_append, okDos_app] at h1
            exact h1.2.1
          rw [if_pos hk.symm, dos_app]
          show PSs _ _ (xS _ _ _ (fun δ' m' => δ' = D8 y (.p z.d) ∧ m' = MC B2 y A3 ((V.dos (pre i)).dn (.lay q.2))) _)
          generalize V.dos (pre i) = W2 at ho ⊢
          refine ss_expr (T := fun d m' => m' = MC B2 y A3 (W2.dn (.lay q.2))) (x_shift (T := fun d m' => m' = evM y A3 (W2.dn (.lay q.2)) ++ ((b, .l (bgL B2.c B2.s B2.p B2.cs)) :: evM e Ad V)) (x_meth T.c_Evening T.m_Evening_do ((f9_Evening_do T).mono (by decide)) hr (x_var 9 rfl) (i := 1) rfl (x_pureA (a_cons (d_tup2 (a_cons d_str (a_cons (d_var 7 rfl) a_nil))) a_nil)) fun ds m1 ⟨h1, h2⟩ => ?_)
            fun d m' h2 => ⟨MC B2 y A3 (W2.dn (.lay q.2)), [], by rw [h2]; exact pm 15 [7, 0, 1, 2, 3, 4, 5, 6, 8, 9, 10, 11, 12, 13, 14] rfl rfl, rfl⟩) fun d m1 h => ?_
          · subst h1 h2
            exact ⟨evM y A3 W2, _, _, pm 15 [1, 2, 3, 4, 5, 6, 7, 0, 8, 9, 10, 11, 12, 13, 14] rfl rfl, ⟨y, A3, W2, .lay q.2, ho.e, ho.lg, ho.z, ho.d, ho.f, ho.can, rfl, rfl, rfl⟩, fun d m' ⟨_, h2⟩ => by rw [h2]; rfl⟩
          · subst h
            exact ss_weak (δ' := D8 y (.p z.d)) (s_nil ⟨rfl, rfl⟩) fun _ _ E => (E.forget 11).forget 7
        · subst h
          rw [if_neg (by rw [← hk]; decide), List.append_nil]
          exact ss_weak (δ' := D8 y (.p z.d)) (s_nil ⟨rfl, rfl⟩) fun _ _ E => (E.forget 11).forget 7
      obtain ⟨h1, h2⟩ := h
      subst h1 h2
      have he : pre LV.length = ((needO n k V a).filter (lackG z)).map Deed.lay := by
        show (((needO n k V a).take LV.length).filter (lackG z)).map Deed.lay = _
        rw [List.take_of_length_le (Nat.le_of_eq hlen2)]
      rw [he]
      have hPn := D.pnxt hz
      have hPq := D.pneed hz
      revert hP hPn hPq
      generalize V.dos (((needO n k V a).filter (lackG z)).map .lay) = W2
      intro hP hPn hPq
      have hpi : a.i < W2.s.n := by rw [hP.en]; exact hai
      have hpj : a.j < W2.s.m := by rw [hP.em]; exact haj
      refine ss_ret (x_shift (x_look (q := .bool true) (Rsv.one 9 rfl (rs_ev 1 rfl rfl rfl rfl rfl rfl rfl) .refl) rfl (d_or (k1 := false) (k2 := true) (d_isN (fun H v r => by obtain ⟨ad, xs, rfl, _⟩ := dp_tup r.toDp; rfl) (d_var 10 rfl)) (fun _ => d_one (d_and (k1 := true) (k2 := true)
        (d_eqv (d_nin hu sh_mt sh_mts (d_var 4 rfl) (d_new (d_methN0 T.c_Evening T.m_Evening_can ((f2_can T).mono (by decide)) hr ⟨W2.p0, W2.s, W2.log, W2.und, hP.sm, hP.gd.iv.m1, hP.cell, rfl, rfl⟩ (d_var 9 rfl)))) (by rw [any_mts, can_dec hP.gd.iv hpi hpj, hPn]; rfl))
        (fun _ => d_one (d_eqv (d_in hu sh_mt sh_mts (d_var 10 rfl) (d_new (d_methN T.c_Evening T.m_Evening_needed ((f4_needed T).mono (by decide)) hr ⟨W2.p0, W2.s, W2.log, W2.und, a, hP.sm, by omega, hpi, hpj, rfl, rfl⟩ (d_var 9 rfl) (a_cons (d_var 4 rfl) a_nil)))) (by rw [any_mts, decide_eq_true hPq]))))))) fun d m' ⟨h1, h2⟩ => ⟨M0 B2, evM y A3 W2, by rw [h2]; exact pm 15 [0, 8, 9, 10, 11, 12, 13, 14, 1, 2, 3, 4, 5, 6, 7] rfl rfl, h1, B2, hB2, rfl⟩)
end Pr
set_option maxHeartbeats 4000000
/-! Mg: the plain law: dances laid whole, and what is taken off. -/
namespace Pr
open PySem PySem.Spec PyProof.Rows L2
abbrev ev0 (n k : Nat) (p0 : Pt) : Ev := ⟨p0, fl0 n k p0, [], []⟩
structure Wh (n k R : Nat) (p0 : Pt) (a : Mt) : Prop where
  nm : okN n k
  pk : p0.ok
  pd : p0.deep ≤ 2
  R1 : 1 ≤ R
  R3 : R ≤ 3
  a : a ∈ allM n k R
theorem lack0 {n k R : Nat} {p0 : Pt} : (fl0 n k p0).lack R = allM n k R := List.filter_eq_self.mpr fun _ _ => rfl
def whL (n k R : Nat) : List Mt := (sortN (lvN n k (allM n k R))).map (·.2)
theorem whL_perm {n k R : Nat} : (whL n k R).Perm (allM n k R) := bys_perm (f := fun a => (lvl n k a : Nat))
theorem finL_eq {n k R : Nat} {p0 : Pt} : ((finL (fl0 n k p0) R).map fun q => Deed.lay q.2) = (whL n k R).map .lay := by
  unfold finL whL
  rw [lack0, List.map_map]; rfl
theorem wh_len {n k R : Nat} (h : okN n k) (h3 : R ≤ 3) : (allM n k R).length ≤ 45 := by
  rw [allM_len]
  obtain ⟨_, _, _, _, h5⟩ := h
  exact Nat.le_trans (Nat.mul_le_mul h3 h5) (by decide)
theorem wh_lay {n k R : Nat} {p0 : Pt} (h : okN n k) (hp : p0.ok) (hd : p0.deep ≤ 2) (h3 : R ≤ 3) : LayE (ev0 n k p0) 0 (whL n k R) ((ev0 n k p0).dos ((whL n k R).map .lay)) := by
  obtain ⟨n1, k1, n8, k8, nk⟩ := id h
  have hl : (whL n k R).length ≤ 45 := by rw [whL_perm.length_eq]; exact wh_len h h3
  refine lay_dos (gd0 h hp hd) ?_ (by omega) (by show 0 + _ ≤ 200; omega)
  refine layOk_lv (n := n) (m := k) (fun x hx => ?_) (allM_nd (by omega) (by omega)) (fun x hx => ?_) fun x hx c ci cj hne hah => ?_
  · obtain ⟨h1, h2, h3⟩ := mem_allM.mp hx
    exact ⟨by omega, by omega, by omega⟩
  · obtain ⟨h1, h2, h3⟩ := mem_allM.mp hx
    exact ⟨⟨h2, h3⟩, fun z => nomatch z⟩
  · obtain ⟨h1, h2, h3⟩ := mem_allM.mp hx
    exact .inr (mem_allM.mpr ⟨by have := ahd_r hah; omega, ci, cj⟩)
variable {n k R : Nat} {p0 : Pt} {a : Mt}
abbrev whV (n k R : Nat) (p0 : Pt) : Ev := (ev0 n k p0).dos ((whL n k R).map .lay)
theorem Wh.lay (D : Wh n k R p0 a) : LayE (ev0 n k p0) 0 (whL n k R) (whV n k R p0) := wh_lay D.nm D.pk D.pd D.R3
theorem Wh.keys (D : Wh n k R p0 a) {x : Mt} : x ∈ (whV n k R p0).s.keys ↔ x ∈ allM n k R := by
  rw [D.lay.ks]
  show x ∈ [] ++ whL n k R ↔ _
  rw [List.nil_append, whL_perm.mem_iff]
theorem Wh.klen (D : Wh n k R p0 a) : (whV n k R p0).s.keys.length = (allM n k R).length := by
  rw [D.lay.ks]
  show ([] ++ whL n k R).length = _
  rw [List.nil_append, whL_perm.length_eq]
/-- what is taken off ahead of a -/
def tkS (n k R : Nat) (a : Mt) : List Mt := (upL n k R a).filter fun x => !decide (x = a)
def tkN (n k R : Nat) (a : Mt) : List (Int × Mt) := sortN (bys (fun x => 0 - (lvl n k x : Nat)) (tkS n k R a))
def tkL (n k R : Nat) (a : Mt) : List Mt := (tkN n k R a).map (·.2)
theorem tkL_perm : (tkL n k R a).Perm (tkS n k R a) := bys_perm
theorem mem_tkS {x : Mt} : x ∈ tkS n k R a ↔ x ∈ allM n k R ∧ ahd a x = true ∧ x ≠ a := by
  unfold tkS upL
  rw [List.mem_filter, List.mem_filter, Bool.not_eq_true', decide_eq_false_iff_not, and_assoc]
theorem Wh.n64 (D : Wh n k R p0 a) : n ≤ 64 ∧ k ≤ 64 := by obtain ⟨_, _, _, _, _⟩ := D.nm; omega
theorem Wh.tkS_sm (D : Wh n k R p0 a) : ∀ x ∈ tkS n k R a, x.sm := fun x hx => by
  obtain ⟨h1, h2, h3⟩ := mem_allM.mp (mem_tkS.mp hx).1
  obtain ⟨_, _, _, _, _⟩ := D.nm
  have := D.R3
  exact ⟨by omega, by omega, by omega⟩
theorem Wh.tkS_nd (D : Wh n k R p0 a) : (tkS n k R a).Nodup := ((allM_nd D.n64.1 D.n64.2).sublist List.filter_sublist).sublist List.filter_sublist
theorem Wh.take (D : Wh n k R p0 a) : TakeOk (whV n k R p0).s.keys (tkL n k R a) := by
  refine takeOk_lv (n := n) (m := k) (fun x hx => (mem_allM.mp (D.keys.mp hx)).2) D.tkS_sm D.tkS_nd (fun x hx => D.keys.mpr (mem_tkS.mp hx).1) fun x hx b hb hne hah => ?_
  obtain ⟨h1, h2, h3⟩ := mem_tkS.mp hx
  refine mem_tkS.mpr ⟨D.keys.mp hb, ahd_trans h2 hah, fun e => ?_⟩
  subst e
  have l1 := lvl_lt (n := n) (m := k) (mem_allM.mp h1).2 (mem_allM.mp D.a).2 hah (Ne.symm hne)
  have l2 := lvl_lt (n := n) (m := k) (mem_allM.mp D.a).2 (mem_allM.mp h1).2 h2 (Ne.symm h3)
  omega
theorem Wh.tkl (D : Wh n k R p0 a) : (tkL n k R a).length ≤ 45 := by
  rw [tkL_perm.length_eq]
  exact Nat.le_trans (Nat.le_trans (List.length_filter_le _ _) (List.length_filter_le _ _)) (wh_len D.nm D.R3)
theorem dos_nil {V : Ev} : V.dos [] = V := rfl
/-- an evening on which some is taken off -/
structure TW (n k R : Nat) (a : Mt) (W : Ev) (i : Nat) : Prop where
  gd : ∃ c, Gd W.s c
  sm : W.s.small
  cok : ∀ x ∈ W.s.keys, W.s.cok x
  ks : ∀ b, b ∈ W.s.keys ↔ b ∈ allM n k R ∧ b ∉ (tkL n k R a).take i
  kl : W.s.keys.length + ((tkL n k R a).take i).length = (allM n k R).length
  en : W.s.n = n
  em : W.s.m = k
theorem Wh.tw (D : Wh n k R p0 a) (i : Nat) : TW n k R a ((whV n k R p0).dos (((tkL n k R a).map .take).take i)) i := by
  have L := D.lay
  have ht := D.tkl
  have hw : (whL n k R).length ≤ 45 := by rw [whL_perm.length_eq]; exact wh_len D.nm D.R3
  have hti : ((tkL n k R a).take i).length ≤ 45 := Nat.le_trans (List.length_take_le' _ _) ht
  have hlg : (whV n k R p0).log.length ≤ 45 := by rw [L.lg]; show 0 + _ ≤ 45; omega
  rw [← List.map_take]
  have E := take_dos (V := whV n k R p0) (c := 0 + (whL n k R).length) L.gd (takeOk_pre i D.take) (by omega) (by omega)
  have hk : ∀ b, b ∈ ((whV n k R p0).dos (((tkL n k R a).take i).map .take)).s.keys ↔ b ∈ allM n k R ∧ b ∉ (tkL n k R a).take i := fun b => by rw [E.ks, D.keys]
  have hkl := E.kl
  rw [D.klen] at hkl
  have hall := wh_len D.nm D.R3
  have h60 : ∀ x ∈ ((whV n k R p0).dos (((tkL n k R a).take i).map .take)).s.keys, x.r < 60 := fun x hx => by
    have := (mem_allM.mp ((hk x).mp hx).1).1
    have := D.R3
    omega
  refine ⟨⟨_, E.gd⟩, E.gd.small h60 ?_, fun x hx => ?_, hk, hkl, E.n.trans L.n, E.m.trans L.m⟩
  · unfold Fl.keys at hkl
    rw [List.length_map] at hkl
    omega
  · obtain ⟨h1, h2⟩ := E.gd.iv.inr x hx
    exact E.gd.iv.cok h1 h2
theorem Wh.tok (D : Wh n k R p0 a) : okDos (whV n k R p0) ((tkL n k R a).map .take) := by
  have L := D.lay
  have ht := D.tkl
  have hw : (whL n k R).length ≤ 45 := by rw [whL_perm.length_eq]; exact wh_len D.nm D.R3
  have hlg : (whV n k R p0).log.length ≤ 45 := by rw [L.lg]; show 0 + _ ≤ 45; omega
  exact (take_dos (V := whV n k R p0) (c := 0 + (whL n k R).length) L.gd D.take (by omega) (by omega)).ok
theorem Wh.aW (D : Wh n k R p0 a) {W : Ev} {i : Nat} (t : TW n k R a W i) : a ∈ W.s.keys := by
  rw [t.ks]
  refine ⟨D.a, fun z => ?_⟩
  exact (mem_tkS.mp (tkL_perm.mem_iff.mp (List.mem_of_mem_take z))).2.2 rfl
theorem Wh.isE (D : Wh n k R p0 a) {W : Ev} {i : Nat} (t : TW n k R a W i) : W.s.isE a = decide (tkL n k R a = (tkL n k R a).take i) := by
  obtain ⟨c, G⟩ := t.gd
  obtain ⟨_, ai, aj⟩ := mem_allM.mp D.a
  rw [Bool.eq_iff_iff, G.iv.isE (by rw [t.en]; exact ai) (by rw [t.em]; exact aj), decide_eq_true_iff]
  constructor
  · intro ⟨_, h⟩
    apply Classical.byContradiction
    intro z
    have hn : i < (tkL n k R a).length := Nat.not_le.mp fun q => z (List.take_of_length_le q).symm
    have hm : (tkL n k R a)[i] ∈ tkL n k R a := List.getElem_mem _
    obtain ⟨h1, h2, h3⟩ := mem_tkS.mp (tkL_perm.mem_iff.mp hm)
    have hnd : (tkL n k R a).Nodup := tkL_perm.nodup_iff.mpr D.tkS_nd
    have hk : (tkL n k R a)[i] ∈ W.s.keys := by
      rw [t.ks]
      refine ⟨h1, fun q => ?_⟩
      rw [← List.take_append_drop i (tkL n k R a), List.nodup_append] at hnd
      refine hnd.2.2 _ q _ ?_ rfl
      rw [List.drop_eq_getElem_cons hn]
      exact List.mem_cons_self
    rw [h _ hk h3] at h2
    cases h2
  · intro e
    refine ⟨D.aW t, fun b hb hne => ?_⟩
    rw [Bool.eq_false_iff]
    intro z
    obtain ⟨h1, h2⟩ := (t.ks b).mp hb
    exact h2 (by rw [← e]; exact tkL_perm.mem_iff.mpr (mem_tkS.mpr ⟨h1, z, hne⟩))
theorem Wh.isE_lt (D : Wh n k R p0 a) {W : Ev} {i : Nat} (t : TW n k R a W i) (h : i < (tkL n k R a).length) : W.s.isE a = false := by
  rw [D.isE t]
  refine decide_eq_false fun e => ?_
  have := congrArg List.length e
  rw [List.length_take] at this
  omega
theorem Wh.isE_all (D : Wh n k R p0 a) {W : Ev} (t : TW n k R a W (tkL n k R a).length) : W.s.isE a = true := by
  rw [D.isE t, List.take_length]
  exact decide_eq_true rfl
theorem up_one (D : Wh n k R p0 a) : decide (upL n k R a = [a]) = decide (tkL n k R a = (tkL n k R a).take 0) := by
  have hu : a ∈ upL n k R a := List.mem_filter.mpr ⟨D.a, ahd_refl a⟩
  have hnd : (upL n k R a).Nodup := (allM_nd D.n64.1 D.n64.2).sublist List.filter_sublist
  rw [decide_eq_decide, List.take_zero]
  constructor
  · intro h
    have : tkS n k R a = [] := by
      unfold tkS
      rw [h]
      simp
    exact List.eq_nil_of_length_eq_zero (by rw [tkL_perm.length_eq, this]; rfl)
  · intro h
    have h2 : tkS n k R a = [] := List.eq_nil_of_length_eq_zero (by rw [← tkL_perm.length_eq, h]; rfl)
    have p : (upL n k R a).Perm [a] := perm_of hnd (List.nodup_cons.mpr ⟨List.not_mem_nil, List.nodup_nil⟩) fun b => by
      rw [List.mem_singleton]
      constructor
      · intro hb
        apply Classical.byContradiction
        intro z
        have : b ∈ tkS n k R a := List.mem_filter.mpr ⟨hb, by simp [z]⟩
        rw [h2] at this
        cases this
      · intro e; subst e; exact hu
    exact List.perm_singleton.mp p
theorem ends_dec {s : Fl} {c : Nat} (G : Gd s c) {b : Mt} : decide (b ∈ (sortM s.keys).filter s.isE) = s.isE b := by
  rw [Bool.eq_iff_iff, decide_eq_true_iff, List.mem_filter, (sortM_perm _).mem_iff]
  exact ⟨fun h => h.2, fun h => ⟨has_keys.mp (isE_iff.mp h).1, h⟩⟩
theorem eqv_one : ∀ {l : List Mt} {a : Mt}, PyData.eqv (.list (l.map Mt.d)) (.list [a.d]) = decide (l = [a])
  | [], a => rfl
  | [x], a => by
    rw [PyData.eqv]
    show PyData.eqvAll [x.d] [a.d] = _
    rw [PyData.eqvAll, eqv_mt]
    show (decide (x = a) && PyData.eqvAll [] []) = _
    rw [PyData.eqvAll, Bool.and_true]
    exact decide_eq_decide.mpr ⟨fun h => by rw [h], fun h => by cases h; rfl⟩
  | x :: y :: l, a => by
    rw [PyData.eqv]
    show PyData.eqvAll (x.d :: y.d :: l.map Mt.d) [a.d] = _
    rw [PyData.eqvAll]
    have : PyData.eqvAll (y.d :: l.map Mt.d) [] = false := rfl
    rw [this, Bool.and_false]
    exact (decide_eq_false (by simp)).symm
end Pr
set_option maxHeartbeats 4000000
/-! Zx: _law_taken_right. -/
namespace Pr
open PySem PySem.Spec PyProof.Rows L2
variable {P : Program} {w : World} {K : PySem.W.Frag} {mg : Str → Option Value} {base : Heap}
def rxTakenR : Ms → List Dt → Rs → Prop := fun m ds T => ∃ (b : Addr) (n k : Nat) (p0 : Pt), okN n k ∧ p0.ok ∧ p0.deep ≤ 2 ∧ Bg b m ∧ ds = [.r b, .i n, .i k, ruleD p0] ∧ T = fun d m' => d = .b true ∧ Bg b m'
theorem f13_taken_right (T : Tx K mg) : FnR P w K mg base CX0 13 (ga K "_law_taken_right") (spX K rxTakenR) :=
  fnR_X T.f_law_taken_right sc_law_taken_right bn_law_taken_right (fun m ds T ⟨_, _, _, _, _, _, _, _, h, _⟩ => by rw [h]; rfl) fun cdv A outer s H E hr m ds R ⟨b, n, k, p0, nm, pk, pd, hb, h2, h3⟩ => by
    subst h2 h3
    have hu := room_u hr
    have nd := sc_law_taken_right.nd
    obtain ⟨hn1, hk1, hn8, hk8, hnk⟩ := id nm
    refine ss_set (T := fun d m' => ∃ v : Nat, 1 ≤ v ∧ v ≤ 3 ∧ d = .i v ∧ Bg b m') 4 nd rfl (.inl rfl) (x_op (q1 := .int 1) (q2 := .none) (U := fun q m' => ∃ v : Nat, v < 3 ∧ q = .int v ∧ Bg b m') op_add (x_pure d_int) ?_ fun q2 m' ⟨v, h1, h2, h3⟩ => ?_) fun d m1 ⟨rd, hR1, hR3, h1, B, hB, h2⟩ => ?_
    · exact x_imp (x_call ((f1_law_take T).mono (by decide)) hr rfl T.g_law_take T.f_law_take.kp (x_pureA (a_cons (d_var 0 rfl) (a_cons d_int a_nil))) (T := fun d m' => ∃ v : Nat, v < 3 ∧ d = .i v ∧ Bg b m') fun ds m3 ⟨h1, h2⟩ => by rw [h1, h2]; exact Rf.self ⟨b, 3, by decide, by decide, hb, rfl, rfl⟩ fun d m' h => h) fun d m' ⟨v, h1, h2, h3⟩ => ⟨.int v, h2, v, h1, rfl, h3⟩
    · exact ⟨.int (1 + (v : Int)), by rw [h2]; exact r2_I0 fun _ => .p (.int _), rfl, v + 1, by omega, by omega, by rw [show (1 : Int) + v = ((v + 1 : Nat) : Int) by push_cast; omega], h3⟩
    subst h1 h2
    let MC : Bag → Addr → Pr.Ad → Ev → Ms := fun B x A2 W => (b, .l (bgL B.c B.s B.p B.cs)) :: evM x A2 W
    refine ss_asg (T := fun d m' => ∃ x A2, d = .tu [dnD n k rd p0, .r x] ∧ m' = MC B x A2 (ev0 n k p0)) (N1 := fun δ' m' => ∃ x A2, δ' = [some (.r b), some (.i n), some (.i k), some (ruleD p0), some (.i rd), some (dnD n k rd p0), some (.r x), none, none, none, none, none] ∧ m' = MC B x A2 (ev0 n k p0))
      (x_tu (A := fun ds m' => ∃ x A2, ds = [dnD n k rd p0, .r x] ∧ m' = MC B x A2 (ev0 n k p0)) ?_ fun ds m1 ⟨x, A2, h1, h2⟩ => ⟨by rw [h1]; simp, x, A2, by rw [h1], h2⟩)
      (fun d m1 ⟨x, A2, h1, h2⟩ => by
        subst h1 h2
        exact xg_imp (xg_of (g_tu rfl (gs_cons (g_name 5 nd rfl (.inr rfl)) (gs_cons (g_name 6 nd rfl (.inl rfl)) gs_nil)) rfl)) fun δ' m' ⟨e1, e2⟩ => ⟨x, A2, e1, e2⟩) fun δ1 m1 ⟨x, A2, h1, h2⟩ => ?_
    · refine xa_imp (xa_cons (T := fun d m' => d = dnD n k rd p0 ∧ m' = B.m b) (B := fun _ _ ds m' => ∃ d, (∃ x A2, d = .r x ∧ m' = MC B x A2 (ev0 n k p0)) ∧ ds = [d]) ?_ fun d m1 ⟨h1, h2⟩ => ?_) fun ds m' ⟨d, m1, r, ⟨h1, _⟩, ⟨d2, ⟨x, A2, h3, h4⟩, h5⟩, h6⟩ => ⟨x, A2, by rw [h6, h1, h5, h3], h4⟩
      · refine x_makeD T.k_Dance ((f3_Dance_init T).mono (show 3 ≤ 11 by decide)) hr rfl T.g_Dance (x_pureA (a_cons (d_var 1 rfl) (a_cons (d_var 2 rfl) (a_cons (d_var 4 rfl) (a_cons (d_var 3 rfl) a_nil))))) fun ds m1 ⟨h1, h2⟩ => ⟨_, ⟨n, k, rd, p0, hn1, hk1, hR1, h1, rfl⟩, rfl, h2⟩
      · subst h1 h2
        refine xa_1 (x_shift (T := fun d m' => ∃ x A2, d = .r x ∧ m' = evM x A2 (ev0 n k p0) ++ B.m b) (x_make T.k_Evening ((f3_Evening_init T).mono (show 3 ≤ 11 by decide)) hr rfl T.g_Evening (x_pureA (a_cons (d_var 1 rfl) (a_cons (d_var 2 rfl) (a_cons (d_var 3 rfl) a_nil)))) fun ds m1 ⟨h1, h2⟩ => ?_)
          fun d m' ⟨x, A2, h1, h2⟩ => ⟨MC B x A2 (ev0 n k p0), [], by rw [h2]; exact pm 8 [7, 0, 1, 2, 3, 4, 5, 6] rfl rfl, x, A2, h1, rfl⟩)
        subst h2
        exact ⟨_, ⟨n, k, p0, hn1, hk1, h1, rfl⟩, fun x ma ⟨A2, h⟩ => ⟨x, A2, rfl, by rw [h]⟩⟩
    subst h1 h2
    have hz0 : (ev0 n k p0).s.small := ⟨by show n ≤ 60; omega, by show k ≤ 60; omega, by show n * k ≤ 60; omega, by show 0 < 64; decide, fun _ z => nomatch z⟩
    have hfin : okDos (ev0 n k p0) ((finL (ev0 n k p0).s rd).map fun q => .lay q.2) := by
      show okDos _ ((finL (fl0 n k p0) rd).map fun q => Deed.lay q.2)
      rw [finL_eq]; exact (wh_lay nm pk pd hR3).ok
    have hfe : (ev0 n k p0).dos ((finL (ev0 n k p0).s rd).map fun q => .lay q.2) = whV n k rd p0 := by
      show (ev0 n k p0).dos ((finL (fl0 n k p0) rd).map fun q => Deed.lay q.2) = _
      rw [finL_eq]
    have hmul : rd * (n * k) ≤ 45 := Nat.le_trans (Nat.mul_le_mul hR3 hnk) (by decide)
    refine ss_expr (T := fun d m' => m' = MC B x A2 (whV n k rd p0)) (x_shift (T := fun d m' => m' = evM x A2 (whV n k rd p0) ++ [(b, .l (bgL B.c B.s B.p B.cs))]) (x_meth T.c_Evening T.m_Evening_finish ((f10_finish T).mono (by decide)) hr (x_var 6 rfl) (i := 1) rfl (x_pureA (a_cons (d_var 4 rfl) a_nil)) fun ds m1 ⟨h1, h2⟩ => ?_)
      fun d m' h2 => ⟨MC B x A2 (whV n k rd p0), [], by rw [h2]; exact pm 8 [7, 0, 1, 2, 3, 4, 5, 6] rfl rfl, rfl⟩) fun d m1 h => ?_
    · subst h1 h2
      exact ⟨evM x A2 (ev0 n k p0), _, _, pm 8 [1, 2, 3, 4, 5, 6, 7, 0] rfl rfl, ⟨x, A2, ev0 n k p0, rd, hz0, by omega, rfl, rfl, by show rd * (n * k) ≤ 100; omega, hfin, rfl, rfl, rfl⟩, fun d m' h => by rw [h, hfe]; rfl⟩
    subst h
    have hal := wh_len nm hR3
    refine ss_set (T := fun d m' => ∃ a : Mt, a ∈ allM n k rd ∧ d = .p a.d ∧ ∃ B1, Bag.ok B1 ∧ m' = MC B1 x A2 (whV n k rd p0)) 7 nd rfl (.inr rfl) (x_call ((f2_law_pick T).mono (by decide)) hr rfl T.g_law_pick T.f_law_pick.kp (x_pureA (a_cons (d_var 0 rfl) (a_cons (d_new (d_methN0 T.c_Dance T.m_Dance_meetings ((f1_meetings T).mono (by decide)) hr ⟨n, k, rd, p0, by omega, by omega, by omega, by omega, rfl, rfl⟩ (d_var 5 rfl))) a_nil))) fun ds m3 ⟨h1, h2⟩ => ?_) fun d m1 ⟨a, ha, h1, B1, hB1, h2⟩ => ?_
    · subst h1 h2
      refine ⟨B.m b, evM x A2 (whV n k rd p0), _, List.Perm.refl _, ⟨b, (allM n k rd).map Mt.d, by rw [List.length_map, allM_len]; exact Nat.mul_pos (by omega) (Nat.mul_pos (by omega) (by omega)), by rw [List.length_map]; omega, noLs_mts, ⟨B, hB, rfl⟩, rfl, rfl⟩, fun d m' ⟨q, h1, h2, B2, h3, h4⟩ => ?_⟩
      obtain ⟨z, hz, ez⟩ := List.mem_map.mp h1
      exact ⟨z, hz, by rw [h2, ez], B2, h3, by rw [h4]; rfl⟩
    subst h1 h2
    have D : Wh n k rd p0 a := ⟨nm, pk, pd, hR1, hR3, ha⟩
    obtain ⟨har, hai, haj⟩ := mem_allM.mp ha
    have hul : (upL n k rd a).length ≤ 45 := Nat.le_trans (List.length_filter_le _ _) hal
    refine ss_set 8 nd rfl (.inl rfl) (x_pure (d_eqv (d := .l ((upL n k rd a).map Mt.d)) (d_call ((f7_to_undo T).mono (by decide)) hr rfl T.g_to_undo T.f_to_undo.kp ⟨n, k, rd, p0, a, by omega, by omega, by omega, by omega, ⟨har, hai, haj⟩, undo_pre D.n64.1 D.n64.2 (by omega) (by omega) ha, rfl, rfl⟩ (a_cons (d_var 5 rfl) (a_cons (d_new (d_lstP (ps := [a.d]) (a_cons (d_var 7 rfl) a_nil) (by simp))) a_nil)))
      (by rw [undo_eq D.n64.1 D.n64.2 (by omega) ha]))) fun d m1 ⟨h1, h2⟩ => ?_
    subst h1 h2
    have t0 : TW n k rd a (whV n k rd p0) 0 := D.tw 0
    obtain ⟨c0, G0⟩ := t0.gd
    have hcnt := undo_count n (by omega) k (by omega) hnk rd (by omega) a ha
    refine ss_ifK (k := false) (x_lookC (Rsv.one 6 rfl (rs_ev 1 rfl rfl rfl rfl rfl rfl rfl) .refl) (c_eqv (PW.pt (w_or (c_ne hu sh_int sh_int (d_lenL rfl T.b_len (a_cons (d_var 8 rfl) a_nil)) (d_call ((f3_undo_many T).mono (by decide)) hr rfl T.g_undo_many T.f_undo_many.kp ⟨n, k, rd, a, by omega, by omega, by omega, ⟨har, hai, haj⟩, rfl, rfl⟩ (a_cons (d_var 1 rfl) (a_cons (d_var 2 rfl) (a_cons (d_var 4 rfl) (a_cons (d_var 7 rfl) a_nil))))))
      fun _ => w_or1 (c_ne hu sh_bool sh_bool (d_in hu sh_mt sh_mts (d_var 7 rfl) (d_new (d_methN0 T.c_Evening T.m_Evening_ends ((f2_ends T).mono (by decide)) hr ⟨(whV n k rd p0).p0, (whV n k rd p0).s, (whV n k rd p0).log, (whV n k rd p0).und, t0.sm, t0.cok, rfl, rfl⟩ (d_var 6 rfl)))) (d_eq hu sh_mts (sh_mts (l := [a])) (d_var 8 rfl) (d_new (d_lstP (ps := [a.d]) (a_cons (d_var 7 rfl) a_nil) (by simp)))))))
      (by
        have e1 : PyData.eqv (.int ((((upL n k rd a).map Mt.d).length : Nat) : Int)) (.int (undoN n k rd a)) = true := by rw [eqv_int, List.length_map, hcnt]; exact beq_self_eq_true _
        rw [e1, eqv_bool, any_mts, ends_dec G0, D.isE t0, show PyData.eqv (.list ((upL n k rd a).map Mt.d)) (.list ([a].map Mt.d)) = decide (upL n k rd a = [a]) from eqv_one, up_one D]
        simp))) (fun z => nomatch z) fun _ => ?_
    have hsmN : ∀ q ∈ bys (fun x => 0 - (lvl n k x : Nat)) (tkS n k rd a), q.2.sm := fun q hq => by unfold bys at hq; obtain ⟨y, hy, rfl⟩ := List.mem_map.mp hq; exact D.tkS_sm y hy
    refine ss_set 9 nd rfl (.inl rfl) (x_pure (d_new (d_sortN (l := bys (fun x => 0 - (lvl n k x : Nat)) (tkS n k rd a)) hu hsmN rfl T.b_sorted (d_new (n_eqv (d_lc (l := upL n k rd a) (ι := Mt.d) (f := fun x => nst (0 - (lvl n k x : Nat), x)) (k := fun x => !decide (x = a)) (own := [("_law_one", 10)]) (is := [10]) rfl nd (i_list (d_var 8 rfl)) (blkOk_by (by kernel_rfl)) rfl (by omega) (by decide) (fun _ _ _ => rfl) (fun y hy s H C cl fp => g_name 10 nd rfl (.inl rfl))
      (fun y hy s H C cl fp => c_one (c_eqv (c_ne hu sh_mt sh_mt (d_var 10 rfl) (d_var 7 rfl)) (by rw [eqv_mt])))
      (fun y hy _ s H C cl fp => d_tup2 (a_cons (d_sub d_int (d_meth T.c_Dance T.m_Dance_level ((f5_level T).mono (by decide)) hr ⟨n, k, rd, p0, y, mem_allM.mp (List.mem_filter.mp hy).1, by omega, rfl, rfl⟩ (d_var 5 rfl) (a_cons (d_var 10 rfl) a_nil))) (a_cons (d_var 10 rfl) a_nil)))) (by unfold bys tkS; rw [List.map_map]; rfl)))))) fun d m1 ⟨h1, h2⟩ => ?_
    subst h1 h2
    let D9 : De := [some (.r b), some (.i n), some (.i k), some (ruleD p0), some (.i rd), some (dnD n k rd p0), some (.r x), some (.p a.d), some (.l ((upL n k rd a).map Mt.d)), some (.l ((tkN n k rd a).map nst)), none, none]
    have hlen2 : (tkL n k rd a).length = (tkN n k rd a).length := by unfold tkL; rw [List.length_map]
    have htl := D.tkl
    have shT : SeqAt.shaped (.tuple [.str "told", .none]) = true := tell_none.sh
    have neT : (!PyData.eqv (.tuple [.str "told", .none]) (.tuple [.str "told", .none])) = false := by rw [SeqAt.eqv_refl _ (SeqAt.canLay_of_shaped shT)]; rfl
    let Wi : Nat → Ev := fun i => (whV n k rd p0).dos (((tkL n k rd a).map .take).take i)
    refine s_seq (s_for (l := tkN n k rd a) (ι := nst) (is := [11, 10]) (fun i δ' m' => δ' = D9 ∧ m' = MC B1 x A2 (Wi i)) PassesOwn.never rfl (i_list (d_var 9 rfl)) (fun p _ => rfl) ⟨rfl, rfl⟩ fun i q δ1 m1 hq h => ?_) fun δ1 m1 h => ?_
    · obtain ⟨h1, h2⟩ := h
      subst h1 h2
      have hd : ((tkL n k rd a).map Deed.take)[i]? = some (.take q.2) := by unfold tkL; rw [List.getElem?_map, List.getElem?_map, hq]; rfl
      have hil : i < (tkL n k rd a).length := by
        obtain ⟨h, _⟩ := List.getElem?_eq_some_iff.mp hq
        rw [hlen2]; exact h
      have ho := okDos_at D.tok hd
      have ht := D.tw i
      have hs : Wi (i + 1) = (Wi i).dn (.take q.2) := dos_succ hd
      rw [hs]
      have hw : Wi i = (whV n k rd p0).dos (((tkL n k rd a).map .take).take i) := rfl
      rw [← hw] at ho ht
      revert ho ht
      clear hs hw
      generalize Wi i = W
      intro ho ht
      obtain ⟨c, G⟩ := ht.gd
      refine ⟨_, g_tup (ps := [.int q.1, q.2.d]) rfl (gs_cons (g_name 11 nd rfl (.inl rfl)) (gs_cons (g_name 10 nd rfl (.inl rfl)) gs_nil)) rfl, ?_⟩
      refine ss_if (C := fun k' m' => k' = false ∧ m' = MC B1 x A2 (W.dn (.take q.2))) (PW.pt (xw_or (x_lookC (Rsv.one 6 rfl (rs_ev 1 rfl rfl rfl rfl rfl rfl rfl) .refl) (c_eqv (c_in hu sh_mt sh_mts (d_var 7 rfl) (d_new (d_methN0 T.c_Evening T.m_Evening_ends ((f2_ends T).mono (by decide)) hr ⟨W.p0, W.s, W.log, W.und, ht.sm, ht.cok, rfl, rfl⟩ (d_var 6 rfl)))) (by rw [any_mts, ends_dec G, D.isE_lt ht hil])))
        (xw_or1 (xt_cmp (T1 := fun d m' => d = .t [.str "told", .none] ∧ m' = MC B1 x A2 (W.dn (.take q.2))) (op_neD (Nat.lt_of_succ_lt hu)) (x_shift (T := fun d m' => d = .t [.str "told", .none] ∧ m' = evM x A2 (W.dn (.take q.2)) ++ [(b, .l (bgL B1.c B1.s B1.p B1.cs))]) ?_ fun d m' ⟨h1, h2⟩ => ⟨MC B1 x A2 (W.dn (.take q.2)), [], by rw [h2]; exact pm 8 [7, 0, 1, 2, 3, 4, 5, 6] rfl rfl, h1, rfl⟩) (d_tup2 (a_cons d_str (a_cons d_non a_nil))) fun d1 m' ⟨h1, h2⟩ => ⟨false, by rw [h1]; exact neT ▸ r2_neD shT shT, rfl, h2⟩)))) (fun m3 ⟨h, _⟩ => nomatch h) (fun m3 ⟨_, h⟩ => ?_)
      · refine x_call ((f10_law_did T).mono (by decide)) hr rfl T.g_law_did T.f_law_did.kp (x_pureA (a_cons (d_var 6 rfl) (a_cons (d_tup2 (a_cons d_str (a_cons (d_var 10 rfl) a_nil))) a_nil))) fun ds m3 ⟨h1, h2⟩ => ?_
        subst h1 h2
        exact ⟨evM x A2 W, _, _, pm 8 [1, 2, 3, 4, 5, 6, 7, 0] rfl rfl, ⟨x, A2, W, .take q.2, ho, rfl, rfl, rfl⟩, fun d m' ⟨h1, h2⟩ => ⟨h1, by rw [h2]; rfl⟩⟩
      · subst h
        exact ss_weak (δ' := D9) (s_nil ⟨rfl, rfl⟩) fun _ _ E => (E.forget 11).forget 10
    obtain ⟨h1, h2⟩ := h
    subst h1 h2
    have ht : TW n k rd a (Wi (tkN n k rd a).length) (tkL n k rd a).length := by rw [← hlen2]; exact D.tw _
    generalize Wi (tkN n k rd a).length = W at ht ⊢
    obtain ⟨c, G⟩ := ht.gd
    have hkl := ht.kl
    rw [List.take_length, allM_len] at hkl
    refine ss_ret (x_shift (x_look (q := .bool true) (Rsv.one 6 rfl (rs_ev 1 rfl rfl rfl rfl rfl rfl rfl) .refl) rfl (d_and (k1 := true) (k2 := true) (d_eqv (d_in hu sh_mt sh_mts (d_var 7 rfl) (d_new (d_methN0 T.c_Evening T.m_Evening_ends ((f2_ends T).mono (by decide)) hr ⟨W.p0, W.s, W.log, W.und, ht.sm, ht.cok, rfl, rfl⟩ (d_var 6 rfl)))) (by rw [any_mts, ends_dec G, D.isE_all ht])) (fun _ => d_one (d_eqv (d_eq hu sh_int sh_int (d_lenL rfl T.b_len (a_cons (d_new (d_methN0 T.c_Evening T.m_Evening_laid ((f1_laid T).mono (by decide)) hr ⟨W.p0, W.s, W.log, W.und, ht.sm, rfl, rfl⟩ (d_var 6 rfl))) a_nil))
      (d_sub (d_meth0 T.c_Dance T.m_Dance_size ((f1_size T).mono (by decide)) hr ⟨n, k, rd, p0, by omega, by omega, by omega, rfl, rfl⟩ (d_var 5 rfl)) (d_lenL rfl T.b_len (a_cons (d_var 9 rfl) a_nil)))) (by
        rw [eqv_int, List.length_map, List.length_map, (sortM_perm _).length_eq]
        have e2 : n * k * rd = rd * (n * k) := Nat.mul_comm _ _
        have e3 : ((W.s.keys.length : Nat) : Int) = ((n * k * rd : Nat) : Int) - ((tkN n k rd a).length : Nat) := by omega
        rw [e3, beq_self_eq_true]))))) fun d m' ⟨h1, h2⟩ => ⟨B1.m b, evM x A2 W, by rw [h2]; exact List.Perm.refl _, h1, B1, hB1, rfl⟩)
end Pr
set_option maxHeartbeats 4000000
/-! Zy: law. -/
namespace Pr
open PySem PySem.Spec PyProof.Rows L2
section
variable {X : Cx} {δ : De} {m : Ms} {A : List Dt → Ms → Prop} {N : De → Ms → Prop} {R : Rs} {a b c : Expr} {rest : List Expr} {C : Bool → Ms → Prop} {C1 : Ms → Prop} {pos : Pos}
theorem pw_exE {ι : Type} {W : ι → Prop} {t : ι → TT} {e : Expr} (h : ∀ i, W i → PW X e (t i)) : PW X e (fun σ H Q => ∃ i, W i ∧ t i σ H Q) := ⟨fun w pins s σ H Q I ⟨i, wi, q⟩ => (h i wi).run w pins s σ H Q I q⟩
theorem xw_orX (h1 : PT X a (xT X.K δ m fun k m' => k = false ∧ C1 m')) (h2 : ∀ m1, C1 m1 → PW X (.BoolOp .Or (b :: rest) pos) (xT X.K δ m1 C)) : PW X (.BoolOp .Or (a :: b :: rest) pos) (xT X.K δ m C) :=
  PW_imp (pw_or h1 (pw_exE (W := C1) h2)) fun σ H Q ⟨M, E, q⟩ => ⟨M, E, fun k m1 H1 ⟨e1, c1⟩ M1 s1 => by
    subst e1
    exact ⟨m1, c1, M1, E.mono s1, fun k m2 H2 cc M2 s2 => q k m2 H2 cc M2 (s1.trans s2)⟩⟩
/-- x, y, z = e1, e2, e3, all names -/
theorem s_par3 {i j l : Nat} {x y z : Str} {px py pz pt : Pos} {kt k2 pt2} (hc : X.calm = true) (hN : X.N.Nodup) (hi : X.N[i]? = some x) (hj : X.N[j]? = some y) (hl : X.N[l]? = some z) (hij : i ≠ j) (hil : i ≠ l) (hjl : j ≠ l)
    (hx : X.env.scope.names.lookup x = some .local) (hy : X.env.scope.names.lookup y = some .local) (hz : X.env.scope.names.lookup z = some .local) (ha : PA X [a, b, c] (xA X.K δ m A)) (hA : ∀ ds m1, A ds m1 → ∃ d1 d2 d3, ds = [d1, d2, d3] ∧ N (((δ.set i (some d1)).set j (some d2)).set l (some d3)) m1)
    (hw : swappedStores [.Tuple [.Name x px, .Name y py, .Name z pz] kt pt] (.Tuple [a, b, c] k2 pt2) X.env = pure (some [x, y, z]))
    (hs : swapsWithSole [.Tuple [.Name x px, .Name y py, .Name z pz] kt pt] (.Tuple [a, b, c] k2 pt2) pos.line X.env = pure false := by rfl) :
    PS X (.Assign [.Tuple [.Name x px, .Name y py, .Name z pz] kt pt] (.Tuple [a, b, c] k2 pt2) pos) (xS X.K δ m N R) :=
  PS_imp (ps_par3 hc hN hi hj hl hij hil hjl hx hy hz ha hw hs) fun D σ H ⟨M, E, q, _⟩ => ⟨M, E, fun vs ds m1 H1 aa M1 c1 r1 => by
    obtain ⟨d1, d2, d3, e, n⟩ := hA ds m1 aa
    subst e
    cases r1 with
    | cons r1 r => cases r with
      | cons r2 r => cases r with
        | cons r3 r =>
          cases r
          exact ⟨_, _, _, rfl, q _ _ m1 H1 n M1 c1 ((((E.mono c1).set i r1).set j r2).set l r3)⟩⟩
end
theorem SI.mono {n k N N' : Nat} {p0 : Pt} {V : Ev} (S : SI n k p0 V N) (h : N ≤ N') : SI n k p0 V N' := ⟨S.nm, S.pk, S.pd, S.en, S.em, S.ep, S.run, S.ok, Nat.le_trans S.len h⟩
variable {P : Program} {w : World} {K : PySem.W.Frag} {mg : Str → Option Value} {base : Heap}
def rxLaw : Ms → List Dt → Rs → Prop := fun m ds T => ∃ cs : List Int, m = [] ∧ ds = [.l (cs.map .int)] ∧ T = fun d _ => d = .b true
theorem f14_law (T : Tx K mg) (Ez : Tz P K mg) : FnG P w K mg base 14 (ga K "law") (spX K rxLaw) :=
  fnG_X T.f_law sc_law bn_law (fun m ds T ⟨_, _, h, _⟩ => by rw [h]; rfl) fun cdv A outer s H E hg hr m ds R ⟨cs, h, h2, h3⟩ => by
    subst h h2 h3
    have hu := room_u hr
    have nd := sc_law.nd
    refine ss_set (T := fun d m' => ∃ b, d = .r b ∧ Bg b m') 1 nd rfl (.inl rfl) (x_call ((f1_law_bag T).mono (by decide)) hr rfl T.g_law_bag T.f_law_bag.kp (x_pureA (a_cons (d_var 0 rfl) a_nil)) fun ds m3 ⟨h1, h2⟩ => ?_) fun d m1 ⟨b, h1, hb⟩ => ?_
    · subst h1 h2
      exact Rf.self ⟨cs, rfl, rfl, rfl⟩ fun d m' h => h
    subst h1
    let D0 : De := [some (.l (cs.map .int)), some (.r b), none, none, none, none, none, none, none, none, none]
    refine s_seq (s_for (l := List.range 2) (ι := fun i => .int (i : Nat)) (is := [2]) (fun i δ' m' => δ' = D0 ∧ Bg b m') PassesOwn.never rfl (i_eqv (i_range (n := 2) (by omega) (by omega) rfl T.b_range d_int) rfl) (fun p _ => rfl) ⟨rfl, hb⟩ fun i q δ1 m1 hq h => ?_) fun δ1 m1 h => ?_
    · obtain ⟨h1, hb1⟩ := h
      subst h1
      refine ⟨_, g_name 2 nd rfl (.inl rfl), ?_⟩
      refine ss_asg (T := fun d m' => ∃ (n k : Nat) (p : Pt), okN n k ∧ p.ok ∧ p.deep ≤ 2 ∧ d = .l [.int n, .int k, p.data] ∧ Bg b m') (N1 := fun δ' m' => ∃ (n k : Nat) (p : Pt), okN n k ∧ p.ok ∧ p.deep ≤ 2 ∧ δ' = [some (.l (cs.map .int)), some (.r b), some (.i (q : Nat)), some (.i n), some (.i k), some (.p p.data), none, none, none, none, none] ∧ Bg b m')
        ?_ (fun d m2 ⟨n, k, p, h1, h2, h3, h4, h5⟩ => by
          subst h4
          exact xg_imp (xg_of (g_lst (ps := [.int n, .int k, p.data]) rfl (gs_cons (g_name 3 nd rfl (.inl rfl)) (gs_cons (g_name 4 nd rfl (.inl rfl)) (gs_cons (g_name 5 nd rfl (.inl rfl)) gs_nil))) rfl)) fun δ' m' ⟨e1, e2⟩ => ⟨n, k, p, h1, h2, h3, e1, by rw [e2]; exact h5⟩) fun δ1 m2 ⟨n, k, p, nm, pk, pd, h1, hb2⟩ => ?_
      · refine x_call ((f6_law_begun T).mono (by decide)) hr rfl T.g_law_begun T.f_law_begun.kp (x_pureA (a_cons (d_var 1 rfl) a_nil)) fun ds m3 ⟨h1, h2⟩ => ?_
        subst h1 h2
        exact Rf.self ⟨b, hb1, rfl, rfl⟩ fun d m' h => h
      subst h1
      refine ss_set (T := fun d m' => d = ruleD p ∧ Bg b m') 6 nd rfl (.inl rfl) (x_call ((fn_law_rule_of T 3).mono (by decide)) hr rfl T.g_law_rule_of T.f_law_rule_of.kp (x_pureA (a_cons (d_var 1 rfl) (a_cons (d_var 5 rfl) a_nil))) fun ds m3 ⟨h1, h2⟩ => ?_) fun d m3 ⟨h1, B, hB, h2⟩ => ?_
      · subst h1 h2
        exact Rf.self ⟨b, p, pk, by omega, by show p.deep < 5; omega, hb2, rfl, rfl⟩ fun d m' h => h
      subst h1 h2
      let D7 : Addr → Addr → Addr → De := fun e lg gn => [some (.l (cs.map .int)), some (.r b), some (.i (q : Nat)), some (.i n), some (.i k), some (.p p.data), some (ruleD p), some (.r e), some (.r lg), some (.r gn), none]
      obtain ⟨hn1, hk1, hn8, hk8, hnk⟩ := id nm
      refine s_seq (N1 := fun δ' m' => ∃ e A1 lg gn, δ' = D7 e lg gn ∧ m' = (gn, .l []) :: (lg, .l []) :: (evM e A1 (ev0 n k p) ++ B.m b)) (s_par3 (i := 7) (j := 8) (l := 9) (A := fun ds m' => ∃ e A1 lg gn, ds = [.r e, .r lg, .r gn] ∧ m' = (gn, .l []) :: (lg, .l []) :: (evM e A1 (ev0 n k p) ++ B.m b)) rfl nd rfl rfl rfl (by decide) (by decide) (by decide) rfl rfl rfl ?_
        (fun ds m1 ⟨e, A1, lg, gn, h1, h2⟩ => ⟨_, _, _, h1, e, A1, lg, gn, rfl, h2⟩) rfl) fun δ1 m1 ⟨e, A1, lg, gn, h1, h2⟩ => ?_
      · refine xa_imp (xa_cons (T := fun d m' => ∃ e A1, d = .r e ∧ m' = evM e A1 (ev0 n k p) ++ B.m b) (B := fun d m1 ds m' => ∃ lg gn, ds = [.r lg, .r gn] ∧ m' = (gn, .l []) :: (lg, .l []) :: m1) ?_ fun d m1 _ => ?_) fun ds m' ⟨d, m1, r, ⟨e, A1, h1, h2⟩, ⟨lg, gn, h3, h4⟩, h5⟩ => ⟨e, A1, lg, gn, by rw [h5, h1, h3], by rw [h4, h2]⟩
        · refine x_make T.k_Evening ((f3_Evening_init T).mono (show 3 ≤ 12 by decide)) hr rfl T.g_Evening (x_pureA (a_cons (d_var 3 rfl) (a_cons (d_var 4 rfl) (a_cons (d_var 6 rfl) a_nil)))) fun ds m1 ⟨h1, h2⟩ => ?_
          subst h2
          exact ⟨_, ⟨n, k, p, hn1, hk1, h1, rfl⟩, fun x ma ⟨A2, h⟩ => ⟨x, A2, rfl, by rw [h]⟩⟩
        · refine xa_imp (xa_cons (T := fun d m' => ∃ lg, d = .r lg ∧ m' = (lg, .l []) :: m1) (B := fun _ m2 ds m' => ∃ d, (∃ gn, d = .r gn ∧ m' = (gn, .l []) :: m2) ∧ ds = [d]) (x_new rfl (d_lstP (ps := []) a_nil (by simp))) fun d m2 _ => xa_1 (x_new rfl (d_lstP (ps := []) a_nil (by simp)))) fun ds m' ⟨d, m2, r, ⟨lg, h1, h2⟩, ⟨d2, ⟨gn, h3, h4⟩, h5⟩, h6⟩ => ⟨lg, gn, by rw [h6, h1, h5, h3], by rw [h4, h2]⟩
      subst h1 h2
      refine ss_perm (m' := ledM b B e A1 (ev0 n k p) lg gn) (m2 := []) ?_ (pm 10 [9, 2, 3, 4, 5, 6, 7, 8, 1, 0] rfl rfl)
      have S0 : SI n k p (ev0 n k p) 0 := ⟨nm, pk, pd, rfl, rfl, rfl, rfl, trivial, Nat.le_refl _⟩
      refine s_seq (s_for (l := List.range 3) (ι := fun i => .int (i : Nat)) (is := [10]) (fun i δ' m' => δ' = D7 e lg gn ∧ ∃ A' V' B', SI n k p V' (4 * i) ∧ B'.ok ∧ m' = ledM b B' e A' V' lg gn) PassesOwn.never rfl (i_eqv (i_range (n := 3) (by omega) (by omega) rfl T.b_range d_int) rfl) (fun p _ => rfl) ⟨rfl, A1, ev0 n k p, B, S0, hB, rfl⟩ fun j q2 δ1 m1 hq2 h => ?_) fun δ1 m1 h => ?_
      · obtain ⟨h1, A2, V2, B2, S2, hB2, h2⟩ := h
        subst h1 h2
        have hj : j < 3 := by
          obtain ⟨hl, _⟩ := List.getElem?_eq_some_iff.mp hq2
          rw [List.length_range] at hl; exact hl
        refine ⟨_, g_name 10 nd rfl (.inl rfl), ?_⟩
        refine ss_if (C := fun k' m' => k' = false ∧ ∃ A' V' B', SI n k p V' (4 * (j + 1)) ∧ B'.ok ∧ m' = ledM b B' e A' V' lg gn) (xt_not (xt_val (T := fun d m' => d = .b true ∧ ∃ A' V' B', SI n k p V' (4 * (j + 1)) ∧ B'.ok ∧ m' = ledM b B' e A' V' lg gn)
          (x_callG (f13_led T Ez) hg hr rfl T.g_law_led T.f_law_led.kp (A := fun ds m' => ∃ (v : Nat) (B3 : Bag), v < 5 ∧ B3.ok ∧ ds = [.r b, .r e, .r lg, .r gn, .p p.data, .i v] ∧ m' = ledM b B3 e A2 V2 lg gn) ?_ fun ds m3 ⟨v, B3, hv, hB3, h1, h2⟩ => ?_) fun d m' ⟨h1, h2⟩ => ⟨true, h1, rfl, h2⟩)) (fun m3 ⟨h, _⟩ => nomatch h) (fun m3 ⟨_, A3, V3, B3, S3, hB3, h⟩ => ?_)
        · refine xa_imp (xa_dc (x_var 1 rfl) (xa_dc (x_var 7 rfl) (xa_dc (x_var 8 rfl) (xa_dc (x_var 9 rfl) (xa_dc (x_var 5 rfl) (xa_1 (T := fun d m' => ∃ v : Nat, v < 5 ∧ d = .i v ∧ ∃ B3, Bag.ok B3 ∧ m' = ledM b B3 e A2 V2 lg gn) (x_call ((f1_law_take T).mono (show 1 ≤ 13 by decide)) hr rfl T.g_law_take T.f_law_take.kp (x_pureA (a_cons (d_var 1 rfl) (a_cons d_int a_nil))) fun ds m3 ⟨h1, h2⟩ => ?_)))))))
            fun ds m' ⟨r1, ⟨r2, ⟨r3, ⟨r4, ⟨r5, ⟨d, ⟨v, hv, h1, B3, hB3, h2⟩, h3⟩, h4⟩, h5⟩, h6⟩, h7⟩, h8⟩ => ⟨v, B3, hv, hB3, by rw [h8, h7, h6, h5, h4, h3, h1], h2⟩
          subst h1 h2
          exact ⟨B2.m b, _, _, List.Perm.refl _, ⟨b, 5, by decide, by decide, ⟨B2, hB2, rfl⟩, rfl, rfl⟩, fun d m' ⟨v, h1, h2, B', h3, h4⟩ => ⟨v, h1, h2, B', h3, by rw [h4]; rfl⟩⟩
        · subst h1 h2
          exact Rf.self ⟨b, e, lg, gn, B3, A2, V2, n, k, p, 4 * j, v, S2, by omega, hB3, rfl, rfl, rfl⟩ fun d m' ⟨h1, A', V', B', S', hB', h2⟩ => ⟨h1, A', V', B', S'.mono (by omega), hB', h2⟩
        subst h
        refine ss_if (C := fun k' m' => k' = false ∧ ∃ B', Bag.ok B' ∧ m' = ledM b B' e A3 V3 lg gn) (PW.pt (xw_orX (C1 := fun m' => ∃ B', Bag.ok B' ∧ m' = ledM b B' e A3 V3 lg gn) (xt_not (xt_val (T := fun d m' => d = .b true ∧ ∃ B', Bag.ok B' ∧ m' = ledM b B' e A3 V3 lg gn)
          (x_call (f13_needed_right T) hr rfl T.g_law_needed_right T.f_law_needed_right.kp (x_pureA (a_cons (d_var 1 rfl) (a_cons (d_var 7 rfl) a_nil))) fun ds m3 ⟨h1, h2⟩ => ?_) fun d m' ⟨h1, h2⟩ => ⟨true, h1, rfl, h2⟩)) fun m4 ⟨B4, hB4, h⟩ => ?_)) (fun m3 ⟨h, _⟩ => nomatch h) (fun m3 ⟨_, B4, hB4, h⟩ => ?_)
        · subst h1 h2
          exact ⟨nrM b e A3 V3 B3, [(lg, .l (V3.log.map Deed.d)), (gn, .l (V3.und.map Deed.d))], _, List.Perm.refl _, ⟨b, e, B3, A3, V3, n, k, p, 4 * (j + 1), S3, by omega, hB3, rfl, rfl, rfl⟩, fun d m' ⟨h1, B', h2, h3⟩ => ⟨h1, B', h2, by rw [h3]; rfl⟩⟩
        · subst h
          exact xw_or1 (xt_imp (x_lookC (k := false) (Rsv.one 7 rfl (rs_ev 1 rfl rfl rfl rfl rfl rfl rfl) (Rsv.one 8 rfl (.l 8 rfl) .refl)) (c_not (k := true) (c_val (d_callG (f13_stands T) hg hr rfl T.g_law_stands T.f_law_stands.kp ⟨n, k, p, V3, 4 * (j + 1), S3, by omega, rfl, rfl⟩ (a_cons (d_var 7 rfl) (a_cons (d_var 5 rfl) (a_cons (d_var 8 rfl) a_nil))))))) fun k' m' ⟨h1, h2⟩ => ⟨h1, B4, hB4, h2⟩)
        · subst h
          exact ss_weak (δ' := D7 e lg gn) (s_nil ⟨rfl, A3, V3, B4, S3, hB4, rfl⟩) fun _ _ E => E.forget 10
      obtain ⟨h1, A2, V2, B2, S2, hB2, h2⟩ := h
      subst h1 h2
      refine ss_perm (m' := B2.m b) (m2 := evM e A2 V2 ++ [(lg, .l (V2.log.map Deed.d)), (gn, .l (V2.und.map Deed.d))]) ?_ (List.Perm.refl _)
      refine ss_if (C := fun k' m' => k' = false ∧ Bg b m') (xt_not (xt_val (T := fun d m' => d = .b true ∧ Bg b m') (x_call (f13_taken_right T) hr rfl T.g_law_taken_right T.f_law_taken_right.kp (x_pureA (a_cons (d_var 1 rfl) (a_cons (d_var 3 rfl) (a_cons (d_var 4 rfl) (a_cons (d_var 6 rfl) a_nil))))) fun ds m3 ⟨h1, h2⟩ => ?_) fun d m' ⟨h1, h2⟩ => ⟨true, h1, rfl, h2⟩)) (fun m3 ⟨h, _⟩ => nomatch h) (fun m3 ⟨_, h⟩ => ?_)
      · subst h1 h2
        exact Rf.self ⟨b, n, k, p, nm, pk, pd, ⟨B2, hB2, rfl⟩, rfl, rfl⟩ fun d m' h => h
      · exact ss_weak (δ' := D0) (s_nil ⟨rfl, h⟩) fun _ _ E => ((((((((E.forget 2).forget 3).forget 4).forget 5).forget 6).forget 7).forget 8).forget 9).forget 10
    · obtain ⟨h1, hb1⟩ := h
      subst h1
      exact ss_ret (x_imp (x_pure d_bl) fun d m' ⟨h1, h2⟩ => h1)
end Pr
set_option maxHeartbeats 4000000
/-! Hd2 (printed by gen_hd.py): Tx, Tz out of what the Hook looks at. -/
namespace Pr
open PySem PySem.Spec PyProof.Rows L2
theorem fnAt_of {K : PySem.W.Frag} {a : Addr} {q : Str} {st : Stmt} (e : fnO K a = fnE q st) (c : fnB K a q = true) : FnAt K q st a := by
  obtain ⟨kp, c2⟩ := He.ba c
  unfold fnO at e
  cases h : K.lookup a with
  | none => rw [h] at c2; cases c2
  | some o =>
    obtain ⟨oc, od, dt, osl⟩ := o
    rw [h] at c2 e
    cases dt with
    | func fd =>
      obtain ⟨n1, n2, n3, n4, n5, n6, n7, n8, n9, n10, n11, n12, n13, n14, n15⟩ := fd
      have e2 : (some (n2, n3, n4, n5, n6, n7, n8, n15) : FnV) = some (q, defArgs st, .stmts (defBody st), defScope st, mainGlobals, [], .none, builtinsNs) := e
      simp only [Option.some.injEq, Prod.mk.injEq] at e2
      obtain ⟨h2, h3, h4, h5, h6, h7, h8, h9⟩ := e2
      subst h2 h3 h4 h5 h6 h7 h8 h9
      exact ⟨⟨n1, oc, od, n9, n10, n11, n12, n13, n14, osl, h, c2⟩, kp⟩
    | _ => cases c2
theorem sup_of {P : Program} {K : PySem.W.Frag} {C f : Addr} {q : Str} {st : Stmt} (e : feO K f = feE q st) (c : supB P K C f q = true) : SupF P K C f q st := by
  obtain ⟨c0, c1⟩ := He.ba c
  obtain ⟨k1, c1⟩ := He.ba c1
  obtain ⟨k2, c1⟩ := He.ba c1
  obtain ⟨k3, c1⟩ := He.ba c1
  obtain ⟨k4, k5⟩ := He.ba c1
  refine ⟨?_, of_decide_eq_true k1, of_decide_eq_true k2, of_decide_eq_true k3, of_decide_eq_true k4, by rw [Bool.not_eq_true'] at k5; exact k5⟩
  unfold feO at e
  cases h : K.lookup f with
  | none => rw [h] at c0; cases c0
  | some o =>
    obtain ⟨oc, od, dt, osl⟩ := o
    rw [h] at c0 e
    cases dt with
    | func fd =>
      obtain ⟨n1, n2, n3, n4, n5, n6, n7, n8, n9, n10, n11, n12, n13, n14, n15⟩ := fd
      have e2 : (some (n2, n3, n4, n5, n6, n7.map (fun z : Str × Addr => z.1), n8, n15) : FeV) = feE q st := e
      unfold feE at e2
      simp only [Option.some.injEq, Prod.mk.injEq] at e2
      obtain ⟨h2, h3, h4, h5, h6, h7, h8, h9⟩ := e2
      subst h2 h3 h4 h5 h6 h8 h9
      dsimp only at c0
      split at c0
      · rename_i x cc cda
        have hx : x = "__class__" := by simpa using h7
        subst hx
        obtain ⟨d1, d2⟩ := He.ba c0
        obtain ⟨q2, q3⟩ := He.ba d2
        split at q2
        · rename_i ccl cdd vs ccs hc
          split at q2
          · rename_i file tf hv
            split at q3
            · rename_i cl cld D csl hcc
              have hD : D = C := of_decide_eq_true q3
              subst hD
              exact ⟨n1, oc, od, n9, n10, n11, n12, n14, osl, cda, cc, ccl, cdd, vs, ccs, file, tf, cl, cld, csl, rfl, d1, hc, hv, q2, hcc⟩
            · cases q3
          · cases q2
        · cases q2
      · cases c0
    | _ => cases c0
theorem ckT_ok {K : PySem.W.Frag} {t : String} {p g : Addr} (h : ckT K t p g = true) : ∃ rest, PySem.W.recIn K p t = some (.ref g :: rest) := by
  unfold ckT at h
  split at h
  · rename_i f r e
    have : f = g := of_decide_eq_true h
    subst this
    exact ⟨r, e⟩
  · cases h
theorem oex_ok {K : PySem.W.Frag} {C : Addr} (h : oexB K C = true) : OexC K C := by
  obtain ⟨c0, c1⟩ := He.ba h
  obtain ⟨k1, c1⟩ := He.ba c1
  obtain ⟨k2, c1⟩ := He.ba c1
  obtain ⟨k3, k4⟩ := He.ba c1
  refine ⟨?_, of_decide_eq_true k1, of_decide_eq_true k2, of_decide_eq_true k3, k4⟩
  split at c0
  · rename_i od cd sl ho
    split at c0
    · rename_i D bm x0 x1 x2 x3 nn x5 hm hs
      obtain ⟨d1, c0⟩ := He.ba c0
      obtain ⟨d2, c0⟩ := He.ba c0
      obtain ⟨d3, c0⟩ := He.ba c0
      obtain ⟨d4, d5⟩ := He.ba c0
      have e1 : D = C := of_decide_eq_true d1
      have e2 : nn = "ValueError.__new__" := of_decide_eq_true d2
      obtain ⟨nm, bs, mro, ns, qn, hd, sn, sub, ab, col, del⟩ := cd
      dsimp only at hm d3 d4
      rw [Bool.not_eq_true'] at d3
      subst e1 e2 hm d3 d4
      have hsl : sl = #[x0, x1, x2, x3, some (.builtin "ValueError.__new__"), x5] := by
        obtain ⟨l⟩ := sl
        simp only at hs
        rw [hs]
      subst hsl
      exact ⟨nm, qn, ns, bs, bm, sn, sub, ab, col, od, x0, x1, x2, x3, x5, ho, d5⟩
    · cases c0
  · cases c0
section
variable {K : PySem.W.Frag} {c m d f : Str} {b : Bool} {i : Nat}
theorem scls_ok (h : (Fc.scls c).ok K = true) : SlX.SCls K (ga K c) := by
  obtain ⟨h1, h⟩ := He.ba h
  obtain ⟨h2, h⟩ := He.ba h
  obtain ⟨h3, h4⟩ := He.ba h
  exact ⟨h1, h2, h3, of_decide_eq_true h4⟩
theorem sisi_ok (h : (Fc.sisi c).ok K = true) : SlX.SIsi K (ga K c) := by
  obtain ⟨h1, h⟩ := He.ba h
  obtain ⟨h2, h⟩ := He.ba h
  obtain ⟨h3, h4⟩ := He.ba h
  exact ⟨of_decide_eq_true h1, of_decide_eq_true h2, of_decide_eq_true h3, of_decide_eq_true h4⟩
theorem mk_ok (h : (Fc.mk c).ok K = true) : Mk K (ga K c) (ma K c "__init__") := by
  obtain ⟨h1, h⟩ := He.ba h
  obtain ⟨h2, h⟩ := He.ba h
  obtain ⟨h3, h4⟩ := He.ba h
  exact ⟨h1, of_decide_eq_true h2, h3, h4⟩
theorem slot_ok (h0 : (Fc.scls c).ok K = true) (h : (Fc.slot c f i).ok K = true) : SlF K c f i := by
  have h' : (match PySem.W.findIn K (.ref (ga K c)) f with
    | some (some (.ref p)) => veq (PySem.W.specialIn K (.ref p) "__get__") (some (some (.builtin "member_descriptor.__get__"))) && (decide (PySem.W.takesIn K (.ref p) = some true) && (decide (PySem.W.typeIn K (.ref p) = some (.type "member_descriptor")) && (decide (PySem.W.slotIn K p (ga K c) = some i) && decide (i < 1000))))
    | _ => false) = true := h
  split at h'
  · rename_i p e
    obtain ⟨h1, h'⟩ := He.ba h'
    obtain ⟨h2, h'⟩ := He.ba h'
    obtain ⟨h3, h'⟩ := He.ba h'
    obtain ⟨h4, h5⟩ := He.ba h'
    exact ⟨scls_ok h0, p, e, of_decide_eq_true h1, of_decide_eq_true h2, of_decide_eq_true h3, of_decide_eq_true h4, of_decide_eq_true h5⟩
  · cases h'
theorem meth_ok (h : (Fc.meth c m).ok K = true) : Meth K (ga K c) m (ma K c m) := by
  obtain ⟨h1, h⟩ := He.ba h
  obtain ⟨h2, h3⟩ := He.ba h
  exact ⟨of_decide_eq_true h1, h2, h3⟩
theorem prop_ok (h0 : (Fc.scls c).ok K = true) (h : (Fc.prop c m).ok K = true) : PropF K c m (recAd K "property" c m) := by
  have h' : (match PySem.W.findIn K (.ref (ga K c)) m with
    | some (some (.ref p)) => veq (PySem.W.specialIn K (.ref p) "__get__") (some (some (.builtin "property.__get__"))) && (decide (PySem.W.takesIn K (.ref p) = some true) && ckT K "property" p (recAd K "property" c m))
    | _ => false) = true := h
  split at h'
  · rename_i p e
    obtain ⟨h1, h'⟩ := He.ba h'
    obtain ⟨h2, h3⟩ := He.ba h'
    exact ⟨scls_ok h0, p, e, of_decide_eq_true h1, of_decide_eq_true h2, ckT_ok h3⟩
  · cases h'
theorem stat_ok (h : (Fc.stat c m).ok K = true) : StatF K c m (recAd K "staticmethod" c m) := by
  obtain ⟨h1, h⟩ := He.ba h
  obtain ⟨h2, h⟩ := He.ba h
  obtain ⟨h3, h4⟩ := He.ba h
  refine ⟨h1, of_decide_eq_true h2, ?_, ckT_ok h4⟩
  split at h3
  · rename_i n a b e
    obtain ⟨e1, h3⟩ := He.ba h3
    obtain ⟨e2, e3⟩ := He.ba h3
    have e1 := of_decide_eq_true e1
    have e2 := of_decide_eq_true e2
    have e3 := of_decide_eq_true e3
    rw [e, e1, e2, e3]
  · cases h3
theorem own_ok (h : (Fc.own c m).ok K = true) : OwnF K c m (ma K c m) := by
  obtain ⟨h1, h⟩ := He.ba h
  obtain ⟨h2, h⟩ := He.ba h
  obtain ⟨h3, h4⟩ := He.ba h
  exact ⟨of_decide_eq_true h1, h2, h3, h4⟩
theorem callO_ok (h : (Fc.callO c m).ok K = true) : StX.CallO K (ga K c) (ma K c m) := by
  obtain ⟨h1, h⟩ := He.ba h
  obtain ⟨h2, h3⟩ := He.ba h
  exact ⟨of_decide_eq_true h1, h2, h3⟩
theorem kit_ok (h : (Fc.kit c d b).ok K = true) : PySem.W.kitOne K (.ref (ga K c)) (.ref (ga K d)) = some b := of_decide_eq_true h
theorem exm_ok (h : (Fc.exm c d b).ok K = true) : PySem.W.exmOne K (.ref (ga K c)) (.ref (ga K d)) = some b := of_decide_eq_true h
theorem noat_ok (h : (Fc.noat c f).ok K = true) : PySem.W.findIn K (.ref (ga K c)) f = some none := of_decide_eq_true h
theorem xc_ok (h : (Fc.xc c).ok K = true) : XcC K (ga K c) := by
  obtain ⟨h1, h⟩ := He.ba h
  obtain ⟨h2, h⟩ := He.ba h
  obtain ⟨h3, h⟩ := He.ba h
  obtain ⟨h4, h⟩ := He.ba h
  obtain ⟨h5, h⟩ := He.ba h
  obtain ⟨h6, h⟩ := He.ba h
  obtain ⟨h7, h8⟩ := He.ba h
  exact ⟨h1, of_decide_eq_true h2, of_decide_eq_true h3, of_decide_eq_true h4, of_decide_eq_true h5, of_decide_eq_true h6, of_decide_eq_true h7, of_decide_eq_true h8⟩
theorem gl_ok {h : Heap} {mg : Str → Option Value} (X : K.In h) (G : h.Ns mainGlobals mg) (e : (Fc.glo c).ok K = true) : mg c = some (.ref (ga K c)) := He.glo_ok X G e
theorem fr_ok {h : Heap} {mg : Str → Option Value} (X : K.In h) (G : h.Ns mainGlobals mg) (e : (Fc.free c).ok K = true) : mg c = none := He.free_ok X G e
theorem in_ok {h : Heap} {mg : Str → Option Value} {i : Int} (X : K.In h) (G : h.Ns mainGlobals mg) (e : (Fc.int c i).ok K = true) : ∃ t, mg c = some (.int i t) := He.int_ok X G e
theorem tu_ok {vs : List He.Dv} (e : (Fc.tup c vs).ok K = true) (H : Hp) : SqT K H (ga K c) (vs.map (He.Dv.v K)) := He.tupB_ok e H
theorem xf_ok (e : (Fc.xf c).ok K = true) : XfC K (ga K c) := xfB_ok e
theorem err_ok {P : Program} {h : Heap} {mg : Str → Option Value} {q : Str} {st : Stmt} (X : K.In h) (G : h.Ns mainGlobals mg) (h0 : (Fc.glo c).ok K = true) (h1 : (Fc.err c).ok K = true) (s : SupF P K (ga K c) (ma K c "__init__") q st) : ErrF P K mg c st q := by
  obtain ⟨k1, h1⟩ := He.ba h1
  obtain ⟨k2, k3⟩ := He.ba h1
  exact ⟨He.glo_ok X G h0, s, oex_ok k1, of_decide_eq_true k2, of_decide_eq_true k3⟩
end

section
variable {K : PySem.W.Frag} {h : Heap} {mg : Str → Option Value}
theorem SaysP.fact (c : SaysP K) (i : Nat) {f : Fc} (h : fcs[i]? = some f := by rfl) : f.ok K = true :=
  List.all_eq_true.mp (He.ba (show ((fcs.all fun f => f.ok K) && _) = true from congrArg (fun z : Al => z.1) c)).1 f (List.mem_of_getElem? h)
theorem SaysP.fn (c : SaysP K) (i : Nat) {d : Fd} (h : fds[i]? = some d := by rfl) : FnAt K d.2.1 d.2.2 (d.1.ad K) := by
  have c2 := (He.ba (He.ba (show ((fcs.all fun f => f.ok K) && ((fds.all fun d => fnB K (d.1.ad K) d.2.1) && _)) = true from congrArg (fun z : Al => z.1) c)).2).1
  have e : (fds.map fun d => fnO K (d.1.ad K)) = fds.map fun d => fnE d.2.1 d.2.2 := congrArg (fun z : Al => z.2.1) c
  have e2 := congrArg (fun l : List FnV => l[i]?) e
  rw [List.getElem?_map, List.getElem?_map, h] at e2
  exact fnAt_of (Option.some.inj e2) (List.all_eq_true.mp c2 d (List.mem_of_getElem? h))
theorem SaysP.sup (c : SaysP K) (i : Nat) {d : Ed} (h : eds[i]? = some d := by rfl) : SupF PySem.Challenge.pw_poleribbons_k86_whole_needed_and_then_la K (ga K d.1) (ma K d.1 "__init__") d.2.1 d.2.2 := by
  have c2 := (He.ba (He.ba (show ((fcs.all fun f => f.ok K) && (_ && eds.all fun d => supB PySem.Challenge.pw_poleribbons_k86_whole_needed_and_then_la K (ga K d.1) (ma K d.1 "__init__") d.2.1)) = true from congrArg (fun z : Al => z.1) c)).2).2
  have e : (eds.map fun d => feO K (ma K d.1 "__init__")) = eds.map fun d => feE d.2.1 d.2.2 := congrArg (fun z : Al => z.2.2) c
  have e2 := congrArg (fun l : List FeV => l[i]?) e
  rw [List.getElem?_map, List.getElem?_map, h] at e2
  exact sup_of (Option.some.inj e2) (List.all_eq_true.mp c2 d (List.mem_of_getElem? h))

theorem tx_of (X : K.In h) (G : h.Ns mainGlobals mg) (c : SaysP K) : Tx K mg where
  g_is_integer := gl_ok X G (c.fact 0)
  f_is_integer := (c.fn 0)
  g_is_count := gl_ok X G (c.fact 1)
  f_is_count := (c.fn 1)
  g_is_number := gl_ok X G (c.fact 2)
  f_is_number := (c.fn 2)
  g_are_bits := gl_ok X G (c.fact 3)
  f_are_bits := (c.fn 3)
  g_is_reader := gl_ok X G (c.fact 4)
  f_is_reader := (c.fn 4)
  g_bit_at := gl_ok X G (c.fact 5)
  f_bit_at := (c.fn 5)
  g_are_parts := gl_ok X G (c.fact 6)
  f_are_parts := (c.fn 6)
  g_truth_of := gl_ok X G (c.fact 7)
  f_truth_of := (c.fn 7)
  g_to_undo := gl_ok X G (c.fact 8)
  f_to_undo := (c.fn 8)
  g_undo_many := gl_ok X G (c.fact 9)
  f_undo_many := (c.fn 9)
  g_law_bag := gl_ok X G (c.fact 10)
  f_law_bag := (c.fn 10)
  g_law_take := gl_ok X G (c.fact 11)
  f_law_take := (c.fn 11)
  g_law_alike := gl_ok X G (c.fact 12)
  f_law_alike := (c.fn 12)
  g_law_pick := gl_ok X G (c.fact 13)
  f_law_pick := (c.fn 13)
  g_law_bit := gl_ok X G (c.fact 14)
  f_law_bit := (c.fn 14)
  g_law_parts := gl_ok X G (c.fact 15)
  f_law_parts := (c.fn 15)
  g_law_truth := gl_ok X G (c.fact 16)
  f_law_truth := (c.fn 16)
  g_law_meetings := gl_ok X G (c.fact 17)
  f_law_meetings := (c.fn 17)
  g_law_ahead := gl_ok X G (c.fact 18)
  f_law_ahead := (c.fn 18)
  g_law_rule_of := gl_ok X G (c.fact 19)
  f_law_rule_of := (c.fn 19)
  g_law_state := gl_ok X G (c.fact 20)
  f_law_state := (c.fn 20)
  g_law_can := gl_ok X G (c.fact 21)
  f_law_can := (c.fn 21)
  g_law_ends := gl_ok X G (c.fact 22)
  f_law_ends := (c.fn 22)
  g_law_deed := gl_ok X G (c.fact 23)
  f_law_deed := (c.fn 23)
  g_law_is_done := gl_ok X G (c.fact 24)
  f_law_is_done := (c.fn 24)
  g_law_did := gl_ok X G (c.fact 25)
  f_law_did := (c.fn 25)
  g_law_begun := gl_ok X G (c.fact 26)
  f_law_begun := (c.fn 26)
  g_law_led := gl_ok X G (c.fact 27)
  f_law_led := (c.fn 27)
  g_law_turned_back := gl_ok X G (c.fact 28)
  f_law_turned_back := (c.fn 28)
  g_law_stands := gl_ok X G (c.fact 29)
  f_law_stands := (c.fn 29)
  g_law_needed_right := gl_ok X G (c.fact 30)
  f_law_needed_right := (c.fn 30)
  g_law_taken_right := gl_ok X G (c.fact 31)
  f_law_taken_right := (c.fn 31)
  g_law := gl_ok X G (c.fact 32)
  f_law := (c.fn 32)
  b_isinstance := fr_ok X G (c.fact 33)
  b_int := fr_ok X G (c.fact 34)
  b_bool := fr_ok X G (c.fact 35)
  b_str := fr_ok X G (c.fact 36)
  b_all := fr_ok X G (c.fact 37)
  b_len := fr_ok X G (c.fact 38)
  b_tuple := fr_ok X G (c.fact 39)
  b_range := fr_ok X G (c.fact 40)
  b_sorted := fr_ok X G (c.fact 41)
  b_max := fr_ok X G (c.fact 42)
  b_list := fr_ok X G (c.fact 43)
  b_abs := fr_ok X G (c.fact 44)
  b_repr := fr_ok X G (c.fact 45)
  b_enumerate := fr_ok X G (c.fact 46)
  b_super := fr_ok X G (c.fact 47)
  g_Word := gl_ok X G (c.fact 48)
  c_Word := scls_ok (c.fact 49)
  i_Word := sisi_ok (c.fact 50)
  k_Word := mk_ok (c.fact 51)
  s_Word_its_again := slot_ok (c.fact 49) (c.fact 52)
  s_Word_its_early := slot_ok (c.fact 49) (c.fact 53)
  m_Word_init := meth_ok (c.fact 54)
  f_Word_init := (c.fn 33)
  p_Word_early := prop_ok (c.fact 49) (c.fact 55)
  f_Word_early := (c.fn 34)
  p_Word_again := prop_ok (c.fact 49) (c.fact 56)
  f_Word_again := (c.fn 35)
  g_Rule := gl_ok X G (c.fact 57)
  c_Rule := scls_ok (c.fact 58)
  i_Rule := sisi_ok (c.fact 59)
  k_Rule := mk_ok (c.fact 60)
  s_Rule_its_parts := slot_ok (c.fact 58) (c.fact 61)
  m_Rule_init := meth_ok (c.fact 62)
  f_Rule_init := (c.fn 36)
  a_Rule_by := stat_ok (c.fact 63)
  f_Rule_by := (c.fn 37)
  a_Rule_always := stat_ok (c.fact 64)
  f_Rule_always := (c.fn 38)
  a_Rule_of := stat_ok (c.fact 65)
  f_Rule_of := (c.fn 39)
  m_Rule_call := meth_ok (c.fact 66)
  f_Rule_call := (c.fn 40)
  m_Rule_parts := meth_ok (c.fact 67)
  f_Rule_parts := (c.fn 41)
  m_Rule_invert := meth_ok (c.fact 68)
  f_Rule_invert := (c.fn 42)
  m_Rule_and := meth_ok (c.fact 69)
  f_Rule_and := (c.fn 43)
  m_Rule_or := meth_ok (c.fact 70)
  f_Rule_or := (c.fn 44)
  m_Rule_xor := meth_ok (c.fact 71)
  f_Rule_xor := (c.fn 45)
  g_Floor := gl_ok X G (c.fact 72)
  c_Floor := scls_ok (c.fact 73)
  i_Floor := sisi_ok (c.fact 74)
  k_Floor := mk_ok (c.fact 75)
  s_Floor_floor_moons := slot_ok (c.fact 73) (c.fact 76)
  s_Floor_floor_rule := slot_ok (c.fact 73) (c.fact 77)
  s_Floor_floor_suns := slot_ok (c.fact 73) (c.fact 78)
  s_Floor_on_moon := slot_ok (c.fact 73) (c.fact 79)
  s_Floor_on_sun := slot_ok (c.fact 73) (c.fact 80)
  s_Floor_truths := slot_ok (c.fact 73) (c.fact 81)
  m_Floor_init := meth_ok (c.fact 82)
  f_Floor_init := (c.fn 46)
  m_Floor_is_next := meth_ok (c.fact 83)
  f_Floor_is_next := (c.fn 47)
  m_Floor_is_end := meth_ok (c.fact 84)
  f_Floor_is_end := (c.fn 48)
  m_Floor_counted := meth_ok (c.fact 85)
  f_Floor_counted := (c.fn 49)
  m_Floor_can_do := meth_ok (c.fact 86)
  f_Floor_can_do := (c.fn 50)
  m_Floor_do := meth_ok (c.fact 87)
  f_Floor_do := (c.fn 51)
  g_Evening := gl_ok X G (c.fact 88)
  c_Evening := scls_ok (c.fact 89)
  i_Evening := sisi_ok (c.fact 90)
  k_Evening := mk_ok (c.fact 91)
  s_Evening_its_first := slot_ok (c.fact 89) (c.fact 92)
  s_Evening_its_floor := slot_ok (c.fact 89) (c.fact 93)
  s_Evening_its_log := slot_ok (c.fact 89) (c.fact 94)
  s_Evening_its_moons := slot_ok (c.fact 89) (c.fact 95)
  s_Evening_its_suns := slot_ok (c.fact 89) (c.fact 96)
  s_Evening_its_undone := slot_ok (c.fact 89) (c.fact 97)
  m_Evening_init := meth_ok (c.fact 98)
  f_Evening_init := (c.fn 52)
  p_Evening_suns := prop_ok (c.fact 89) (c.fact 99)
  f_Evening_suns := (c.fn 53)
  p_Evening_moons := prop_ok (c.fact 89) (c.fact 100)
  f_Evening_moons := (c.fn 54)
  p_Evening_first := prop_ok (c.fact 89) (c.fact 101)
  f_Evening_first := (c.fn 55)
  p_Evening_rule := prop_ok (c.fact 89) (c.fact 102)
  f_Evening_rule := (c.fn 56)
  m_Evening_is_place := meth_ok (c.fact 103)
  f_Evening_is_place := (c.fn 57)
  m_Evening_is_deed := meth_ok (c.fact 104)
  f_Evening_is_deed := (c.fn 58)
  m_Evening_laid := meth_ok (c.fact 105)
  f_Evening_laid := (c.fn 59)
  m_Evening_above := meth_ok (c.fact 106)
  f_Evening_above := (c.fn 60)
  m_Evening_can := meth_ok (c.fact 107)
  f_Evening_can := (c.fn 61)
  m_Evening_ends := meth_ok (c.fact 108)
  f_Evening_ends := (c.fn 62)
  m_Evening_lacking := meth_ok (c.fact 109)
  f_Evening_lacking := (c.fn 63)
  m_Evening_needed := meth_ok (c.fact 110)
  f_Evening_needed := (c.fn 64)
  m_Evening_do := meth_ok (c.fact 111)
  f_Evening_do := (c.fn 65)
  m_Evening_log := meth_ok (c.fact 112)
  f_Evening_log := (c.fn 66)
  m_Evening_floor_behind := meth_ok (c.fact 113)
  f_Evening_floor_behind := (c.fn 67)
  m_Evening_begin_anew := meth_ok (c.fact 114)
  f_Evening_begin_anew := (c.fn 68)
  m_Evening_undo := meth_ok (c.fact 115)
  f_Evening_undo := (c.fn 69)
  m_Evening_redo := meth_ok (c.fact 116)
  f_Evening_redo := (c.fn 70)
  m_Evening_finish := meth_ok (c.fact 117)
  f_Evening_finish := (c.fn 71)
  m_Evening_past := meth_ok (c.fact 118)
  f_Evening_past := (c.fn 72)
  m_Evening_copied := meth_ok (c.fact 119)
  f_Evening_copied := (c.fn 73)
  g_Dance := gl_ok X G (c.fact 120)
  c_Dance := scls_ok (c.fact 121)
  i_Dance := sisi_ok (c.fact 122)
  k_Dance := mk_ok (c.fact 123)
  s_Dance_its_moons := slot_ok (c.fact 121) (c.fact 124)
  s_Dance_its_rounds := slot_ok (c.fact 121) (c.fact 125)
  s_Dance_its_rule := slot_ok (c.fact 121) (c.fact 126)
  s_Dance_its_suns := slot_ok (c.fact 121) (c.fact 127)
  m_Dance_init := meth_ok (c.fact 128)
  f_Dance_init := (c.fn 74)
  m_Dance_is_meeting := meth_ok (c.fact 129)
  f_Dance_is_meeting := (c.fn 75)
  m_Dance_need_meeting := meth_ok (c.fact 130)
  f_Dance_need_meeting := (c.fn 76)
  m_Dance_meetings := meth_ok (c.fact 131)
  f_Dance_meetings := (c.fn 77)
  m_Dance_size := meth_ok (c.fact 132)
  f_Dance_size := (c.fn 78)
  m_Dance_behind := meth_ok (c.fact 133)
  f_Dance_behind := (c.fn 79)
  m_Dance_ahead := meth_ok (c.fact 134)
  f_Dance_ahead := (c.fn 80)
  m_Dance_level := meth_ok (c.fact 135)
  f_Dance_level := (c.fn 81)
  o_invert := own_ok (c.fact 136)
  o_and := own_ok (c.fact 137)
  o_or := own_ok (c.fact 138)
  o_xor := own_ok (c.fact 139)
  kk_Word := kit_ok (c.fact 140)
  kk_Rule := kit_ok (c.fact 141)
  o_call := callO_ok (c.fact 142)
  t_READERS := ⟨gl_ok X G (c.fact 143), fun H => tu_ok (c.fact 144) H⟩
  t_PAIRS := ⟨gl_ok X G (c.fact 145), fun H => tu_ok (c.fact 146) H⟩
  t_MOST := in_ok X G (c.fact 147)
theorem tz_of (X : K.In h) (G : h.Ns mainGlobals mg) (c : SaysP K) : Tz (PySem.Challenge.pw_poleribbons_k86_whole_needed_and_then_la) K mg where
  r := err_ok X G (c.fact 148) (c.fact 149) (c.sup 0)
  n := err_ok X G (c.fact 150) (c.fact 151) (c.sup 1)
  deed := noat_ok (c.fact 152)
  xf := xf_ok (c.fact 153)
  er := xc_ok (c.fact 154)
  en := xc_ok (c.fact 155)
  g_RibbonError := gl_ok X G (c.fact 156)
  xr := exm_ok (c.fact 157)
  xn := exm_ok (c.fact 158)
  g_NoDeed := gl_ok X G (c.fact 159)
  g_Full := gl_ok X G (c.fact 160)
  g_NoEntry := gl_ok X G (c.fact 161)
  r1 := kit_ok (c.fact 162)
  r2 := kit_ok (c.fact 163)
  r3 := kit_ok (c.fact 164)
  n1 := kit_ok (c.fact 165)
  n2 := kit_ok (c.fact 166)
end
end Pr
set_option maxHeartbeats 4000000
/-! Zz: the end: the law where no guard stands. -/
namespace Pr
open PySem PySem.Spec PyProof.Rows L2
theorem lawEnd {P : Program} {w : World} {K : PySem.W.Frag} {mg mb : Str → Option Value} {kk : Nat} {fa sc : Addr} {st : Shared} {its : List Value} {ns : List Int}
    (inK : K.In st.heap) (nsG : st.heap.Ns mainGlobals mg) (nsB : st.heap.Ns builtinsNs mb) (bb : ∀ x : Str, x ≠ "__name__" → mb x = bootBuiltins x) (nl : st.heap.NoLimit) (ng : st.gens = #[])
    (at_ : st.heap.get? sc = some { cls := .type "list", data := .seq its.toArray }) (ia : IntsAre its ns) (le : ns.length ≤ sizeLine) (rm : Room kk callerA)
    (F : ∀ base : Heap, K.In base → base.Ns mainGlobals mg → FnG P w K mg base kk fa (spX K rxLaw)) :
    codeAny (model P w) callerA (.call (.ref fa) ⟨[.ref sc], []⟩) (fun r s2 => r = .ok (.ret (.bool true)) ∧ OldK st.heap s2.heap ∧ s2.os = st.os ∧ AllBare s2.gens) st := by
  have vi := vals_ints ia
  have li := ia.length
  let fz : HO := .frz { cls := .type "list", data := .seq its.toArray } (.lst (ns.map V.int))
  -- the abstract heap: nothing, or the script alone
  have main : ∀ T : Hp, (∀ b u, T b = some u → b = sc ∧ u = fz) → (T sc ≠ none → K.lookup sc = none) → SqL K T sc (ns.map V.int) →
      codeAny (model P w) callerA (.call (.ref fa) ⟨[.ref sc], []⟩) (fun r s2 => r = .ok (.ret (.bool true)) ∧ OldK st.heap s2.heap ∧ s2.os = st.os ∧ AllBare s2.gens) st := by
    intro T hT hN hS
    have okT : HOk P w T st.heap := fun b u z => by
      obtain ⟨e1, e2⟩ := hT b u z
      subst e1 e2
      exact ⟨at_, by rw [List.length_map]; exact le, its, _, vi, at_⟩
    have see : ∀ {b : Addr} {o : Obj}, st.heap.get? b = some o → T b = none → (hidT st.heap T).get? b = some o := fun z n => hidT_get z n
    have off : ∀ {b : Addr} {o : Obj} {es : Array DictEntry} {ep : Nat}, st.heap.get? b = some o → o.data = .dict es ep → T b = none := fun {b o es ep} z d => by
      cases q : T b with
      | none => rfl
      | some u =>
        obtain ⟨e1, _⟩ := hT b u q
        subst e1
        rw [at_] at z
        cases z
        exact nomatch (show Data.seq its.toArray _ = Data.dict es ep from d)
    have nsT : ∀ {b : Addr} {m : Str → Option Value}, st.heap.Ns b m → (hidT st.heap T).Ns b m := fun ⟨o, es, ep, z, d, r⟩ => ⟨o, es, ep, see z (off z d), d, r⟩
    have kT : K.In (hidT st.heap T) := fun b o z => see (inK b o z) (by
      cases q : T b with
      | none => rfl
      | some u =>
        obtain ⟨e1, _⟩ := hT b u q
        subst e1
        rw [hN (by rw [q]; exact fun z => nomatch z)] at z
        cases z)
    have mT : Mod K mg (hidT st.heap T) := ⟨kT, nsT nsG, ⟨mb, nsT nsB, bb⟩, by obtain ⟨mc, n1, n2⟩ := nl; exact ⟨mc, nsT n1, n2⟩⟩
    have env : Env0 P w K mg (hidT st.heap T) callerA [] st T := ⟨rfl, mT, fun b o z => of_hidT z, Nat.le_of_eq (hidT_size _ _), trivial, fun b z => (nomatch (show b ∈ ([] : List Addr) from z)), okT, .of_eq ng⟩
    have dat : RpAll K T [.ref sc] [.l (ns.map .int)] := .cons (.p (.lst hS (by
      clear hS hN hT okT see off nsT kT mT env le li vi ia
      induction ns with
      | nil => exact .nil
      | cons n r ih => exact .cons (.int n) ih))) .nil
    have said : spX K rxLaw [.ref sc] T (fun v _ => v = .bl true) (fun _ _ _ => False) := ⟨[], [.l (ns.map .int)], _, ⟨ns, rfl, rfl, rfl⟩, mem_nil, by rw [show dm ([] : Ms) = [] from rfl, mn_nil]; exact dat, fun v d m2 H2 t M2 c2 r2 => by
      have e := t
      subst e
      exact r2.b_inv⟩
    refine codeAny_mono (F _ kT (nsT nsG) callerA [] st T [.ref sc] [.ref sc] _ _ rfl rm env (.cons rfl .nil) said) fun r s2 got => ?_
    cases r with
    | error e => exact (got : False).elim
    | ok fl =>
      cases fl with
      | next => exact got.elim
      | brk => exact got.elim
      | cont => exact got.elim
      | ret u =>
        obtain ⟨v, T2, sameO, sameB, un, ok2, rv, q⟩ := got
        have ev : v = .bl true := q
        subst ev
        have eu : u = Value.bool true := rv
        subst eu
        refine ⟨rfl, OldK.of_keep fun b o z => ?_, sameO, sameB⟩
        cases qb : T b with
        | none => exact un.keep b o z qb (by intro y; exact nomatch (show b ∈ ([] : List Addr) from y)) (by simp)
        | some x =>
          obtain ⟨e1, e2⟩ := hT b x qb
          subst e1 e2
          obtain ⟨g2, _⟩ := ok2 _ _ (un.frzs _ _ _ qb)
          rw [at_] at z
          cases z
          exact g2
  cases hk : K.lookup sc with
  | some o =>
    have z := inK sc o hk
    rw [at_] at z
    cases z
    refine main (fun _ => none) (fun b u z => (nomatch z)) (fun z => absurd rfl z) (.inr ⟨_, its.toArray, _, hk, rfl, rfl, rfl, by rw [List.size_toArray, li]; exact le, by simpa using vi⟩)
  | none =>
    refine main (fun b => if b = sc then some fz else none) (fun b u z => ?_) (fun _ => hk) (.inl (.inr ⟨{ cls := .type "list", data := .seq its.toArray }, if_pos rfl⟩))
    by_cases hb : b = sc
    · exact ⟨hb, (Option.some.inj ((if_pos hb).symm.trans z)).symm⟩
    · exact nomatch (if_neg hb).symm.trans z
end Pr
set_option maxHeartbeats 4000000
open PySem PySem.W PySem.Calls PyProof.Rows
set_option maxRecDepth 100000 in
set_option maxHeartbeats 0 in
theorem PySem.Challenge.cw_poleribbons_k86_whole_needed_and_then_la_holds : PySem.Challenge.rw_poleribbons_k86_whole_needed_and_then_la.Holds := by
  w_on; o_law
  refine HandSHeadRun.head_any (r := Pr.RR) (q := Pr.qV) (H := Pr.hkP) (ob := Pr.obP) (M := 20000) (loose := Pr.names) (d := HandSHeadRun.topDef Pr.RR.prog 65) (kwd := []) Pr.obP_eq (by kernel_rfl) (fun s => by kernel_rfl) Pr.runP (by kernel_rfl) (by kernel_rfl) (by kernel_rfl) (by rfl) (by first | assumption | decide +kernel) (by decide +kernel) ⟨rfl, rfl, rfl, rfl, rfl, by decide +kernel⟩ ?hw ?hc
  case hw => w_witness2
  case hc =>
    refine Att.attach_call (l := PySem.Challenge.rw_poleribbons_k86_whole_needed_and_then_la) (n := 63) rfl (by kernel_rfl) fun w s₀ s₁ mg mb fa o pm cd doc a vs ns G Y ho hd hcd hmg hobj hints hlen hg => ?_
    obtain ⟨K, KX, c⟩ := Y
    have hn : (HandSHeadRun.topDef Pr.RR.prog 65).name = ("law" : PySem.Str) := by kernel_rfl
    rw [hn] at hmg
    have T := Pr.tx_of KX G.T.g c
    have ef : fa = Pr.ga K "law" := Value.ref.inj (Option.some.inj (hmg.symm.trans T.g_law))
    subst ef
    exact Pr.lawEnd (kk := 14) KX G.T.g G.T.b G.T.builtins G.T.nolimit hg hobj hints (Nat.le_trans hlen (by decide)) ⟨rfl, by decide, by decide⟩ fun base KB NB => Pr.f14_law (Pr.tx_of KB NB c) (Pr.tz_of KB NB c)
