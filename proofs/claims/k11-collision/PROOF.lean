import PyProof.Rows.All
import Wide.All
import OpenK.AllK
import Wide.FinOn
import KE.KStateDown
import KE.KExcSuper
import Lean
import KE.GoesRaise
import KE.GoesComp
import HandS.ForMost
import HandS.Exc
import HandS.TryOnly
import HandS.ExcOwn
import HandS.WordsExc
import HandS.Replace
import HandS.WideBits
import HandS.Zip
import HandS.TupAny
import HandS.Walk
import HandS.More
import HandS.ExcInit
import HandS.Defaults
import HandS.Head0
import HandS.Head1
import HandS.Head2
import HandS.HeadEnd
import HandS.HeadHook1
import HandS.HeadHook2
import PySem.Challenge.RW_sumgrove_k11_whole_two_answers_hand_out
set_option Elab.async false
set_option linter.all false
set_option maxRecDepth 100000
set_option maxHeartbeats 2000000

/-! # A layer: big steps over plain data -/
namespace Sg
open PySem PySem.Spec L2

/-! ### what must hold so that a piece of the text runs to the wish -/
def wE (X : Cx) (e : Expr) : TE := fun σ H Q => ∃ t, PE X e t ∧ t σ H Q
def wT (X : Cx) (e : Expr) : TT := fun σ H Q => ∃ t, PT X e t ∧ t σ H Q
def wA (X : Cx) (es : List Expr) : TA := fun σ H Q => ∃ t, PA X es t ∧ t σ H Q
def wS (X : Cx) (s : Stmt) : TS := fun D σ H => ∃ t, PS X s t ∧ t D σ H
def wSs (X : Cx) (ss : List Stmt) : TS := fun D σ H => ∃ t, PSs X ss t ∧ t D σ H
theorem pe_w {X : Cx} {e : Expr} : PE X e (wE X e) := ⟨fun pins s σ H Q I h => let ⟨t, p, q⟩ := h; p.run pins s σ H Q I q⟩
theorem pt_w {X : Cx} {e : Expr} : PT X e (wT X e) := ⟨fun pins s σ H Q I h => let ⟨t, p, q⟩ := h; p.run pins s σ H Q I q⟩
theorem pa_w {X : Cx} {es : List Expr} : PA X es (wA X es) := ⟨fun pos pins s σ H Q I h => let ⟨t, p, q⟩ := h; p.run pos pins s σ H Q I q⟩
theorem ps_w {X : Cx} {s : Stmt} : PS X s (wS X s) := ⟨fun pins s σ H D I h => let ⟨t, p, q⟩ := h; p.run pins s σ H D I q⟩
theorem pss_w {X : Cx} {ss : List Stmt} : PSs X ss (wSs X ss) := ⟨fun pins s σ H D I h => let ⟨t, p, q⟩ := h; p.run pins s σ H D I q⟩

/-! ### data -/
inductive DV where
  | d (x : PyData)
  /-- a sealer of this modulus -/
  | sl (m : Int)
  /-- a dict from texts to data -/
  | dc (kvs : List (Str × PyData))
/-- what a dict holds -/
inductive KvD (K : PySem.W.Frag) (H : Hp) : List (Key × V) → List (Str × PyData) → Prop
  | nil : KvD K H [] []
  | cons {x : Str} {v : V} {d : PyData} {kvs : List (Key × V)} {ds : List (Str × PyData)} : Dp K H v d → KvD K H kvs ds → KvD K H ((.inr x, v) :: kvs) ((x, d) :: ds)
def DR (K : PySem.W.Frag) (H : Hp) (v : V) : DV → Prop
  | .d x => Dp K H v x
  | .sl m => ∃ a dx, v = .ref a ∧ H a = some (.ins (He.ga K "Sealer") dx [("_modulus", .int m)])
  | .dc ds => ∃ a kvs, v = .ref a ∧ H a = some (.dK kvs) ∧ KvD K H kvs ds
inductive DRs (K : PySem.W.Frag) (H : Hp) : List V → List DV → Prop
  | nil : DRs K H [] []
  | cons {v : V} {vs : List V} {x : DV} {xs : List DV} : DR K H v x → DRs K H vs xs → DRs K H (v :: vs) (x :: xs)
theorem Same.rd {H H' : Hp} {a : Addr} {u : HO} (e : Same H H') (h : Rd H a u) : Rd H' a u := by
  rcases h with h | ⟨o, h⟩
  · exact .inl (e a _ h)
  · exact .inr ⟨o, e a _ h⟩
theorem Same.seqT {K : PySem.W.Frag} {H H' : Hp} {a : Addr} {xs : List V} (e : Same H H') (h : SqT K H a xs) : SqT K H' a xs := by
  rcases h with h | h
  · exact .inl (Same.rd e h)
  · exact .inr h
theorem same_new {H : Hp} {p : Addr} (h : H p = none) (o : HO) : Same H (upd H p o) := fun b u q => by rw [upd_ne (ne_of_none q h)]; exact q
mutual
theorem dp_mono {K : PySem.W.Frag} {H H' : Hp} (e : Same H H') : ∀ (d : PyData) (v : V), Dp K H v d → Dp K H' v d
  | .none, _, h => by cases h; exact .non
  | .bool _, _, h => by cases h; exact .bl _
  | .int _, _, h => by cases h; exact .int _
  | .str _, _, h => by cases h; exact .str _
  | .list ds, _, h => by
    cases h with
    | lst hs ha => exact .lst (e.seq hs) (dpAll_mono e ds _ ha)
  | .tuple ds, _, h => by
    cases h with
    | tup hs ha => exact .tup (Same.seqT e hs) (dpAll_mono e ds _ ha)
  | .dict _, _, h => by cases h
theorem dpAll_mono {K : PySem.W.Frag} {H H' : Hp} (e : Same H H') : ∀ (ds : List PyData) (vs : List V), DpAll K H vs ds → DpAll K H' vs ds
  | [], _, h => by cases h; exact .nil
  | d :: ds, _, h => by
    cases h with
    | cons h1 h2 => exact .cons (dp_mono e d _ h1) (dpAll_mono e ds _ h2)
end
theorem KvD.mono {K : PySem.W.Frag} {H H' : Hp} (e : Same H H') {kvs : List (Key × V)} {ds : List (Str × PyData)} (h : KvD K H kvs ds) : KvD K H' kvs ds := by
  induction h with
  | nil => exact .nil
  | cons h1 _ ih => exact .cons (dp_mono e _ _ h1) ih
theorem DR.mono {K : PySem.W.Frag} {H H' : Hp} (e : Same H H') {v : V} {x : DV} (h : DR K H v x) : DR K H' v x := by
  cases x with
  | d x => exact dp_mono e _ _ h
  | sl m =>
    obtain ⟨a, dx, e1, e2⟩ := h
    exact ⟨a, dx, e1, e a _ e2⟩
  | dc ds =>
    obtain ⟨a, kvs, e1, e2, e3⟩ := h
    exact ⟨a, kvs, e1, e a _ e2, e3.mono e⟩
theorem DRs.mono {K : PySem.W.Frag} {H H' : Hp} (e : Same H H') {vs : List V} {xs : List DV} (h : DRs K H vs xs) : DRs K H' vs xs := by
  induction h with
  | nil => exact .nil
  | cons h1 _ ih => exact .cons (h1.mono e) ih
theorem DRs.length {K : PySem.W.Frag} {H : Hp} {vs : List V} {xs : List DV} (h : DRs K H vs xs) : vs.length = xs.length := by
  induction h with
  | nil => rfl
  | cons _ _ ih => simp [ih]
theorem dpAll_length {K : PySem.W.Frag} {H : Hp} : ∀ {ds : List PyData} {vs : List V}, DpAll K H vs ds → vs.length = ds.length
  | [], _, h => by cases h; rfl
  | _ :: ds, _, h => by
    cases h with
    | cons _ h2 => simp [dpAll_length h2]
theorem dpAll_get {K : PySem.W.Frag} {H : Hp} : ∀ {ds : List PyData} {vs : List V} {i : Nat} {d : PyData}, DpAll K H vs ds → ds[i]? = some d → ∃ v, vs[i]? = some v ∧ Dp K H v d
  | [], _, _, _, _, e => by simp at e
  | _ :: ds, _, i, d, h, e => by
    cases h with
    | cons h1 h2 =>
      cases i with
      | zero => simp at e; subst e; exact ⟨_, rfl, h1⟩
      | succ i => simpa using dpAll_get h2 (by simpa using e)
theorem dpAll_append {K : PySem.W.Frag} {H : Hp} : ∀ {ds es : List PyData} {vs ws : List V}, DpAll K H vs ds → DpAll K H ws es → DpAll K H (vs ++ ws) (ds ++ es)
  | [], _, _, _, h, k => by cases h; exact k
  | _ :: ds, _, _, _, h, k => by
    cases h with
    | cons h1 h2 => exact .cons h1 (dpAll_append h2 k)
theorem dpAll_take {K : PySem.W.Frag} {H : Hp} : ∀ {ds : List PyData} {vs : List V} (n : Nat), DpAll K H vs ds → DpAll K H (vs.take n) (ds.take n)
  | [], _, _, h => by cases h; simpa using DpAll.nil
  | _ :: ds, _, n, h => by
    cases h with
    | cons h1 h2 =>
      cases n with
      | zero => exact .nil
      | succ n => exact .cons h1 (dpAll_take n h2)
theorem dpAll_drop {K : PySem.W.Frag} {H : Hp} : ∀ {ds : List PyData} {vs : List V} (n : Nat), DpAll K H vs ds → DpAll K H (vs.drop n) (ds.drop n)
  | [], _, _, h => by cases h; simpa using DpAll.nil
  | _ :: ds, _, n, h => by
    cases h with
    | cons h1 h2 =>
      cases n with
      | zero => exact .cons h1 h2
      | succ n => exact dpAll_drop n h2
theorem dpAll_of_drs {K : PySem.W.Frag} {H : Hp} : ∀ {ds : List PyData} {vs : List V}, DRs K H vs (ds.map DV.d) → DpAll K H vs ds
  | [], _, h => by cases h; exact .nil
  | _ :: ds, _, h => by
    cases h with
    | cons h1 h2 => exact .cons h1 (dpAll_of_drs h2)
theorem dpAll_ints {K : PySem.W.Frag} {H : Hp} : ∀ {ns : List Int} {vs : List V}, DpAll K H vs (ns.map PyData.int) → vs = ns.map V.int
  | [], _, h => by cases h; rfl
  | _ :: ns, _, h => by
    cases h with
    | cons h1 h2 => cases h1; rw [dpAll_ints h2]; rfl
theorem dpAll_of_ints {K : PySem.W.Frag} {H : Hp} : ∀ (ns : List Int), DpAll K H (ns.map V.int) (ns.map PyData.int)
  | [] => .nil
  | _ :: ns => .cons (.int _) (dpAll_of_ints ns)
theorem dpAll_bools {K : PySem.W.Frag} {H : Hp} : ∀ {ns : List Bool} {vs : List V}, DpAll K H vs (ns.map PyData.bool) → vs = ns.map V.bl
  | [], _, h => by cases h; rfl
  | _ :: ns, _, h => by
    cases h with
    | cons h1 h2 => cases h1; rw [dpAll_bools h2]; rfl

/-! ### the slots -/
abbrev Rho := List (Option DV)
structure Env (K : PySem.W.Frag) (H : Hp) (σ : St) (ρ : Rho) : Prop where
  len : σ.length = ρ.length
  get : ∀ (i : Nat) (x : DV), ρ[i]? = some (some x) → ∃ v, σ[i]? = some (some v) ∧ DR K H v x
theorem Env.mono {K : PySem.W.Frag} {H H' : Hp} {σ : St} {ρ : Rho} (e : Same H H') (E : Env K H σ ρ) : Env K H' σ ρ := ⟨E.len, fun i x h => let ⟨v, a, b⟩ := E.get i x h; ⟨v, a, b.mono e⟩⟩
theorem Env.set {K : PySem.W.Frag} {H : Hp} {σ : St} {ρ : Rho} {v : V} {x : DV} (i : Nat) (E : Env K H σ ρ) (r : DR K H v x) : Env K H (σ.set i (some v)) (ρ.set i (some x)) := by
  refine ⟨by simp [E.len], fun j y h => ?_⟩
  by_cases hj : i = j
  · subst hj
    by_cases hl : i < ρ.length
    · rw [List.getElem?_set_self hl] at h
      cases h
      exact ⟨v, List.getElem?_set_self (by rw [E.len]; exact hl), r⟩
    · rw [List.getElem?_eq_none (by simpa using hl)] at h; cases h
  · rw [List.getElem?_set_ne hj] at h
    rw [List.getElem?_set_ne hj]
    exact E.get j y h
theorem Env.unset {K : PySem.W.Frag} {H : Hp} {σ : St} {ρ : Rho} (i : Nat) (E : Env K H σ ρ) : Env K H (σ.set i none) (ρ.set i none) := by
  refine ⟨by simp [E.len], fun j y h => ?_⟩
  by_cases hj : i = j
  · subst hj
    by_cases hl : i < ρ.length
    · rw [List.getElem?_set_self hl] at h; cases h
    · rw [List.getElem?_eq_none (by simpa using hl)] at h; cases h
  · rw [List.getElem?_set_ne hj] at h
    rw [List.getElem?_set_ne hj]
    exact E.get j y h
def wipeR (ρ : Rho) : List Nat → Rho
  | [] => ρ
  | v :: vs => (wipeR ρ vs).set v none
theorem Env.wipe {K : PySem.W.Frag} {H : Hp} {σ : St} {ρ : Rho} (E : Env K H σ ρ) : ∀ vs : List Nat, Env K H (L2.wipe σ vs) (wipeR ρ vs)
  | [] => E
  | _ :: vs => (E.wipe vs).unset _
/-- fewer slots are known -/
theorem Env.weak {K : PySem.W.Frag} {H : Hp} {σ : St} {ρ ρ' : Rho} (E : Env K H σ ρ) (hl : ρ'.length = ρ.length) (h : ∀ (i : Nat) (x : DV), ρ'[i]? = some (some x) → ρ[i]? = some (some x)) : Env K H σ ρ' :=
  ⟨E.len.trans hl.symm, fun i x e => E.get i x (h i x e)⟩
theorem env_start {K : PySem.W.Frag} {H : Hp} {vs : List V} {xs : List DV} (h : DRs K H vs xs) (N : List Str) : Env K H (L2.start N vs) (xs.map some ++ List.replicate (N.length - xs.length) none) := by
  have hl := h.length
  unfold L2.start
  rw [hl]
  have key : ∀ {vs : List V} {xs : List DV}, DRs K H vs xs → ∀ (r : Nat), Env K H (vs.map some ++ List.replicate r none) (xs.map some ++ List.replicate r none) := by
    intro vs xs h r
    induction h with
    | nil =>
      refine ⟨by simp, fun i x e => ?_⟩
      simp only [List.map_nil, List.nil_append, List.getElem?_replicate] at e
      split at e <;> cases e
    | cons h1 h2 ih =>
      refine ⟨by simpa using ih.len, fun i x e => ?_⟩
      cases i with
      | zero => simp at e; subst e; exact ⟨_, rfl, h1⟩
      | succ i => simpa using ih.get i x (by simpa using e)
  exact key h _

/-! ### exceptions: of which class, with which fields -/
structure Xn where
  cls : Str
  flds : List (Str × PyData)
inductive FldsR (K : PySem.W.Frag) (H : Hp) : List (Str × V) → List (Str × PyData) → Prop
  | nil : FldsR K H [] []
  | cons {f : Str} {v : V} {x : PyData} {fs : List (Str × V)} {xs : List (Str × PyData)} : Dp K H v x → FldsR K H fs xs → FldsR K H ((f, v) :: fs) ((f, x) :: xs)
def XD (K : PySem.W.Frag) (H : Hp) (cls : Value) (dct : Option Addr) (x : Xn) : Prop :=
  cls = .ref (He.ga K x.cls) ∧ ∃ a fs, dct = some a ∧ H a = some (.xd fs) ∧ FldsR K H fs x.flds
inductive Rs where
  | ok (x : DV)
  | ex (x : Xn)

/-! ### the judgements -/
def Ev (X : Cx) (e : Expr) (ρ : Rho) (x : DV) : Prop := ∀ (σ : St) (H : Hp) (Q : VK), Env X.K H σ ρ → (∀ v H', Same H H' → DR X.K H' v x → Q v H') → wE X e σ H Q
/-- it raises -/
def EvX (X : Cx) (e : Expr) (ρ : Rho) (x : Xn) : Prop := ∀ (W : WX) (σ : St) (H : Hp) (Q : VK), Takes X W → Env X.K H σ ρ → (∀ cls dct H', Same H H' → XD X.K H' cls dct x → W cls dct σ H') → wE X e σ H Q
def EvA (X : Cx) (es : List Expr) (ρ : Rho) (xs : List DV) : Prop := ∀ (σ : St) (H : Hp) (Q : List V → Hp → Prop), Env X.K H σ ρ → (∀ vs H', Same H H' → DRs X.K H' vs xs → Q vs H') → wA X es σ H Q
def Vt (X : Cx) (e : Expr) (ρ : Rho) (b : Bool) : Prop := ∀ (σ : St) (H : Hp) (Q : Bool → Hp → Prop), Env X.K H σ ρ → (∀ H', Same H H' → Q b H') → wT X e σ H Q
inductive Fl where
  | nx (ρ : Rho)
  | rt (x : DV)
  | bk (ρ : Rho)
  | ct (ρ : Rho)
  | ex (x : Xn) (ρ : Rho)
def Post (K : PySem.W.Frag) (H : Hp) (W : WX) (D : Ends) : Fl → Prop
  | .nx ρ => ∀ σ' H', Same H H' → Env K H' σ' ρ → D.nx σ' H'
  | .rt x => ∀ v H', Same H H' → DR K H' v x → D.rt v H'
  | .bk ρ => ∀ σ' H', Same H H' → Env K H' σ' ρ → D.bk σ' H'
  | .ct ρ => ∀ σ' H', Same H H' → Env K H' σ' ρ → D.ct σ' H'
  | .ex x ρ => ∀ cls dct σ' H', Same H H' → Env K H' σ' ρ → XD K H' cls dct x → W cls dct σ' H'
def Bs (X : Cx) (ss : List Stmt) (ρ : Rho) (fl : Fl) : Prop := ∀ (W : WX) (σ : St) (H : Hp) (D : Ends), Takes X W → Env X.K H σ ρ → Post X.K H W D fl → wSs X ss D σ H
def B1 (X : Cx) (s : Stmt) (ρ : Rho) (fl : Fl) : Prop := ∀ (W : WX) (σ : St) (H : Hp) (D : Ends), Takes X W → Env X.K H σ ρ → Post X.K H W D fl → wS X s D σ H
theorem Post.mono {K : PySem.W.Frag} {H H' : Hp} {W : WX} {D : Ends} {fl : Fl} (e : Same H H') (h : Post K H W D fl) : Post K H' W D fl := by
  cases fl with
  | nx ρ => exact fun σ' H'' a b => h σ' H'' (e.trans a) b
  | rt x => exact fun v H'' a b => h v H'' (e.trans a) b
  | bk ρ => exact fun σ' H'' a b => h σ' H'' (e.trans a) b
  | ct ρ => exact fun σ' H'' a b => h σ' H'' (e.trans a) b
  | ex x ρ => exact fun c d σ2 H'' a b z => h c d σ2 H'' (e.trans a) b z

/-! ### the context -/
structure XOk (X : Cx) : Prop where
  calm : X.calm = true
  nd : X.N.Nodup
  po : PassesOwn (model X.prog X.w) X.A X.env X.xe
/-- a def to be called -/
def Fn (P : Program) (w : World) (K : PySem.W.Frag) (mg : Str → Option Value) (base : Heap) (x : Str) (ps : List Str) (k : Nat) (sp : Sp) : Prop :=
  mg x = some (.ref (He.ga K x)) ∧ PySem.W.keepIn K (.ref (He.ga K x)) = true ∧ ∃ fd, FnOk P w K mg base (L2.CX P w) k (He.ga K x) fd ps sp ∧ Binds K fd ps []
/-- over data: R tells from the arguments the result -/
def spD (K : PySem.W.Frag) (n : Nat) (R : List DV → Rs → Prop) : Sp := fun vs H Q E => ∃ xs r, vs.length = n ∧ DRs K H vs xs ∧ R xs r ∧ (match r with
  | .ok x => ∀ v H', Same H H' → DR K H' v x → Q v H'
  | .ex x => ∀ cls dct H', Same H H' → XD K H' cls dct x → E cls dct H')

section
variable {X : Cx} {ρ : Rho} {e a b c : Expr} {es : List Expr} {x y z : DV} {pos p : Pos} {i j : Int} {s t : Str}
theorem ev_of_pe {t : TE} (h : PE X e t) (q : ∀ (σ : St) (H : Hp) (Q : VK), Env X.K H σ ρ → (∀ v H', Same H H' → DR X.K H' v x → Q v H') → t σ H Q) : Ev X e ρ x := fun σ H Q E k => ⟨t, h, q σ H Q E k⟩
theorem Ev.is (h : Ev X e ρ x) (q : x = y) : Ev X e ρ y := q ▸ h
theorem ev_var {k : Nat} {n : Str} (hk : ρ[k]? = some (some x)) (hN : X.N[k]? = some n) (hv : Vis X.env.scope n) (hd : (n == ("__debug__" : Str)) = false) (hcd : (n == ("__classdict__" : Str)) = false) : Ev X (.Name n pos) ρ x :=
  ev_of_pe (pe_var hN hv hd hcd) fun σ H Q E q => let ⟨v, h1, h2⟩ := E.get k x hk; ⟨v, h1, q v H (Same.refl H) h2⟩
theorem ev_int {k} : Ev X (.Constant (.int i) k pos) ρ (.d (.int i)) := ev_of_pe pe_int fun σ H Q E q => q _ H (Same.refl H) (Dp.int i)
theorem ev_str {k} : Ev X (.Constant (.str s) k pos) ρ (.d (.str s)) := ev_of_pe pe_str fun σ H Q E q => q _ H (Same.refl H) (Dp.str s)
theorem ev_non {k} : Ev X (.Constant .none k pos) ρ (.d .none) := ev_of_pe pe_non fun σ H Q E q => q _ H (Same.refl H) Dp.non
theorem ev_bl {k} {b : Bool} : Ev X (.Constant (.bool b) k pos) ρ (.d (.bool b)) := ev_of_pe pe_bl fun σ H Q E q => q _ H (Same.refl H) (Dp.bl b)
theorem ev_gint {n : Str} (hg : Gl X n) (hm : ∃ t, X.mg n = some (.int i t)) (hd : (n == ("__debug__" : Str)) = false) : Ev X (.Name n pos) ρ (.d (.int i)) := by
  obtain ⟨t, hm⟩ := hm
  exact ev_of_pe (pe_glob (v := .int i) hg hm ⟨t, rfl⟩ hd) fun σ H Q E q => q _ H (Same.refl H) (Dp.int i)
theorem ev_gstr {n : Str} (hg : Gl X n) (hm : ∃ t, X.mg n = some (.str s t)) (hd : (n == ("__debug__" : Str)) = false) : Ev X (.Name n pos) ρ (.d (.str s)) := by
  obtain ⟨t, hm⟩ := hm
  exact ev_of_pe (pe_glob (v := .str s) hg hm ⟨t, rfl⟩ hd) fun σ H Q E q => q _ H (Same.refl H) (Dp.str s)
/-- what a relation on values says of data -/
def R2V (K : PySem.W.Frag) (r : R2) (x y z : DV) : Prop := ∀ (v u : V) (H : Hp) (Q : VK), DR K H v x → DR K H u y → (∀ w H', Same H H' → DR K H' w z → Q w H') → r v u H Q
theorem ev_op {op : Operator} {r : R2} (ho : OpR X (binaryOp op) r) (ha : Ev X a ρ x) (hb : Ev X b ρ y) (hr : R2V X.K r x y z) : Ev X (.BinOp a op b pos) ρ z :=
  ev_of_pe (pe_op ho pe_w pe_w) fun σ H Q E q => ha σ H _ E fun v H1 s1 d1 => hb σ H1 _ (E.mono s1) fun u H2 s2 d2 => hr v u H2 Q (d1.mono s2) d2 fun w H3 s3 d3 => q w H3 ((s1.trans s2).trans s3) d3
theorem ev_cmp {op : CmpOp} {r : R2} (ho : OpR X (compareOp op) r) (ha : Ev X a ρ x) (hb : Ev X b ρ y) (hr : R2V X.K r x y z) (hm : behindInMarks op b = false) : Ev X (.Compare a [op] [b] pos) ρ z :=
  ev_of_pe (pe_cmpR ho pe_w pe_w hm) fun σ H Q E q => ha σ H _ E fun v H1 s1 d1 => hb σ H1 _ (E.mono s1) fun u H2 s2 d2 => hr v u H2 Q (d1.mono s2) d2 fun w H3 s3 d3 => q w H3 ((s1.trans s2).trans s3) d3
theorem vt_cmp {op : CmpOp} {r : R2} {k : Bool} (ho : OpR X (compareOp op) r) (ha : Ev X a ρ x) (hb : Ev X b ρ y) (hr : R2V X.K r x y (.d (.bool k))) (hm : behindInMarks op b = false) : Vt X (.Compare a [op] [b] pos) ρ k := fun σ H Q E q =>
  ⟨_, pt_cmpR ho pe_w pe_w hm, ha σ H _ E fun v H1 s1 d1 => hb σ H1 _ (E.mono s1) fun u H2 s2 d2 => hr v u H2 _ (d1.mono s2) d2 fun w H3 s3 d3 => by
    have d3 : Dp X.K H3 w (.bool k) := d3
    cases d3
    exact ⟨k, rfl, q H3 ((s1.trans s2).trans s3)⟩⟩
/-! relations -/
theorem r_I0 {K : PySem.W.Frag} {g : Int → Int → V} {gd : Int → Int → PyData} (h : ∀ i j H, Dp K H (g i j) (gd i j)) : R2V K (rI0 g) (.d (.int i)) (.d (.int j)) (.d (gd i j)) := fun v u H Q d1 d2 q => by
  have d1 : Dp K H v (.int i) := d1
  have d2 : Dp K H u (.int j) := d2
  cases d1; cases d2
  exact ⟨i, j, rfl, rfl, q _ H (Same.refl H) (h i j H)⟩
theorem r_I {K : PySem.W.Frag} {C : Int → Int → Prop} {g : Int → Int → V} {gd : Int → Int → PyData} (hc : C i j) (h : ∀ i j H, Dp K H (g i j) (gd i j)) : R2V K (rI C g) (.d (.int i)) (.d (.int j)) (.d (gd i j)) := fun v u H Q d1 d2 q => by
  have d1 : Dp K H v (.int i) := d1
  have d2 : Dp K H u (.int j) := d2
  cases d1; cases d2
  exact ⟨i, j, rfl, rfl, hc, q _ H (Same.refl H) (h i j H)⟩
theorem ev_add (ha : Ev X a ρ (.d (.int i))) (hb : Ev X b ρ (.d (.int j))) : Ev X (.BinOp a .Add b pos) ρ (.d (.int (i + j))) := ev_op op_add ha hb (r_I0 (gd := fun i j => .int (i + j)) fun _ _ _ => .int _)
theorem ev_sub (ha : Ev X a ρ (.d (.int i))) (hb : Ev X b ρ (.d (.int j))) : Ev X (.BinOp a .Sub b pos) ρ (.d (.int (i - j))) := ev_op op_sub ha hb (r_I0 (gd := fun i j => .int (i - j)) fun _ _ _ => .int _)
theorem ev_mul (ha : Ev X a ρ (.d (.int i))) (hb : Ev X b ρ (.d (.int j))) (hc : CMul i j) : Ev X (.BinOp a .Mult b pos) ρ (.d (.int (i * j))) := ev_op op_mul ha hb (r_I (gd := fun i j => .int (i * j)) hc fun _ _ _ => .int _)
theorem ev_div (ha : Ev X a ρ (.d (.int i))) (hb : Ev X b ρ (.d (.int j))) (hc : CDiv i j) : Ev X (.BinOp a .FloorDiv b pos) ρ (.d (.int (i / j))) := ev_op op_fdiv ha hb (r_I (gd := fun i j => .int (i / j)) hc fun _ _ _ => .int _)
theorem ev_mod (ha : Ev X a ρ (.d (.int i))) (hb : Ev X b ρ (.d (.int j))) (hc : 0 < j) : Ev X (.BinOp a .Mod b pos) ρ (.d (.int (i % j))) := ev_op op_mod ha hb (r_I (C := fun _ j => 0 < j) (gd := fun i j => .int (i % j)) hc fun _ _ _ => .int _)
theorem ev_shr (ha : Ev X a ρ (.d (.int i))) (hb : Ev X b ρ (.d (.int j))) (hc : 0 ≤ j) : Ev X (.BinOp a .RShift b pos) ρ (.d (.int (i / 2 ^ j.toNat))) := ev_op op_shr ha hb (r_I (C := fun _ j => 0 ≤ j) (gd := fun i j => .int (i / 2 ^ j.toNat)) hc fun _ _ _ => .int _)
theorem ev_xor (ha : Ev X a ρ (.d (.int i))) (hb : Ev X b ρ (.d (.int j))) : Ev X (.BinOp a .BitXor b pos) ρ (.d (.int (Builtin.bitXor i j))) := ev_op op_xor ha hb (r_I0 (gd := fun i j => .int (Builtin.bitXor i j)) fun _ _ _ => .int _)
theorem ev_adds (ha : Ev X a ρ (.d (.str s))) (hb : Ev X b ρ (.d (.str t))) (hc : s.length + t.length ≤ sizeLine) : Ev X (.BinOp a .Add b pos) ρ (.d (.str (s ++ t))) := ev_op op_add_str ha hb fun v u H Q d1 d2 q => by
  have d1 : Dp X.K H v (.str s) := d1
  have d2 : Dp X.K H u (.str t) := d2
  cases d1; cases d2
  exact ⟨s, t, rfl, rfl, hc, q _ H (Same.refl H) (Dp.str _)⟩
theorem ev_addt {ds es : List PyData} (ha : Ev X a ρ (.d (.tuple ds))) (hb : Ev X b ρ (.d (.tuple es))) (hc : ds.length + es.length ≤ sizeLine) : Ev X (.BinOp a .Add b pos) ρ (.d (.tuple (ds ++ es))) := ev_op op_catA ha hb fun v u H Q d1 d2 q => by
  have d1 : Dp X.K H v (.tuple ds) := d1
  have d2 : Dp X.K H u (.tuple es) := d2
  cases d1 with
  | tup h1 a1 =>
    cases d2 with
    | tup h2 a2 =>
      refine ⟨_, _, _, _, rfl, rfl, h1, h2, by rw [dpAll_length a1, dpAll_length a2]; exact hc, fun e => ?_, fun n e => ?_, fun n1 n2 p hp => ?_⟩
      · refine q _ H (Same.refl H) ?_
        subst e
        cases a1
        exact .tup h2 a2
      · refine q _ H (Same.refl H) ?_
        subst e
        cases a2
        rw [List.append_nil]
        exact .tup h1 a1
      · have sm := fun o => same_new hp o
        exact q _ _ (sm _) (.tup (SqT.of upd_same) (dpAll_append (dpAll_mono (sm _) _ _ a1) (dpAll_mono (sm _) _ _ a2)))
/-! comparisons -/
theorem r_lt {K : PySem.W.Frag} : R2V K (rI0 fun i j => .bl (decide (i < j))) (.d (.int i)) (.d (.int j)) (.d (.bool (decide (i < j)))) := r_I0 (gd := fun i j => .bool (decide (i < j))) fun _ _ _ => .bl _
theorem r_le {K : PySem.W.Frag} : R2V K (rI0 fun i j => .bl (decide (i ≤ j))) (.d (.int i)) (.d (.int j)) (.d (.bool (decide (i ≤ j)))) := r_I0 (gd := fun i j => .bool (decide (i ≤ j))) fun _ _ _ => .bl _
theorem r_gt {K : PySem.W.Frag} : R2V K (rI0 fun i j => .bl (decide (j < i))) (.d (.int i)) (.d (.int j)) (.d (.bool (decide (j < i)))) := r_I0 (gd := fun i j => .bool (decide (j < i))) fun _ _ _ => .bl _
theorem r_ge {K : PySem.W.Frag} : R2V K (rI0 fun i j => .bl (decide (j ≤ i))) (.d (.int i)) (.d (.int j)) (.d (.bool (decide (j ≤ i)))) := r_I0 (gd := fun i j => .bool (decide (j ≤ i))) fun _ _ _ => .bl _
theorem r_eqI {K : PySem.W.Frag} : R2V K rEq (.d (.int i)) (.d (.int j)) (.d (.bool (decide (i = j)))) := fun v u H Q d1 d2 q => by
  have d1 : Dp K H v (.int i) := d1
  have d2 : Dp K H u (.int j) := d2
  cases d1; cases d2
  refine ⟨rfl, q _ H (Same.refl H) ?_⟩
  rw [show decide (V.int i = V.int j) = decide (i = j) from decide_eq_decide.mpr ⟨fun z => V.int.inj z, fun z => by rw [z]⟩]
  exact Dp.bl _
theorem r_eqS {K : PySem.W.Frag} : R2V K rEq (.d (.str s)) (.d (.str t)) (.d (.bool (decide (s = t)))) := fun v u H Q d1 d2 q => by
  have d1 : Dp K H v (.str s) := d1
  have d2 : Dp K H u (.str t) := d2
  cases d1; cases d2
  refine ⟨rfl, q _ H (Same.refl H) ?_⟩
  rw [show decide (V.str s = V.str t) = decide (s = t) from decide_eq_decide.mpr ⟨fun z => V.str.inj z, fun z => by rw [z]⟩]
  exact Dp.bl _
theorem r_neI {K : PySem.W.Frag} : R2V K rNe (.d (.int i)) (.d (.int j)) (.d (.bool (!decide (i = j)))) := fun v u H Q d1 d2 q => by
  have d1 : Dp K H v (.int i) := d1
  have d2 : Dp K H u (.int j) := d2
  cases d1; cases d2
  refine ⟨rfl, q _ H (Same.refl H) ?_⟩
  rw [show decide (V.int i = V.int j) = decide (i = j) from decide_eq_decide.mpr ⟨fun z => V.int.inj z, fun z => by rw [z]⟩]
  exact Dp.bl _
theorem r_neS {K : PySem.W.Frag} : R2V K rNe (.d (.str s)) (.d (.str t)) (.d (.bool (!decide (s = t)))) := fun v u H Q d1 d2 q => by
  have d1 : Dp K H v (.str s) := d1
  have d2 : Dp K H u (.str t) := d2
  cases d1; cases d2
  refine ⟨rfl, q _ H (Same.refl H) ?_⟩
  rw [show decide (V.str s = V.str t) = decide (s = t) from decide_eq_decide.mpr ⟨fun z => V.str.inj z, fun z => by rw [z]⟩]
  exact Dp.bl _
theorem r_eqD {K : PySem.W.Frag} {d e : PyData} (h1 : SeqAt.shaped d = true) (h2 : SeqAt.shaped e = true) : R2V K (rEqD K) (.d d) (.d e) (.d (.bool (PyData.eqv d e))) := fun v u H Q d1 d2 q => ⟨d, e, d1, d2, h1, h2, q _ H (Same.refl H) (Dp.bl _)⟩
theorem r_neD {K : PySem.W.Frag} {d e : PyData} (h1 : SeqAt.shaped d = true) (h2 : SeqAt.shaped e = true) : R2V K (rNeD K) (.d d) (.d e) (.d (.bool (!PyData.eqv d e))) := fun v u H Q d1 d2 q => ⟨d, e, d1, d2, h1, h2, q _ H (Same.refl H) (Dp.bl _)⟩
def isN : PyData → Bool
  | .none => true
  | _ => false
theorem isN_of {K : PySem.W.Frag} {H : Hp} {v : V} {d : PyData} (h : Dp K H v d) : decide (v = .non) = isN d := by
  cases h <;> first | rfl | (refine decide_eq_false ?_; intro z; cases z)
theorem r_isN {K : PySem.W.Frag} {d : PyData} : R2V K (fun x y H Q => y = .non ∧ Q (.bl (decide (x = .non))) H) (.d d) (.d .none) (.d (.bool (isN d))) := fun v u H Q d1 d2 q => by
  have d2 : Dp K H u .none := d2
  cases d2
  refine ⟨rfl, q _ H (Same.refl H) ?_⟩
  rw [isN_of d1]
  exact Dp.bl _
theorem r_notN {K : PySem.W.Frag} {d : PyData} : R2V K (fun x y H Q => y = .non ∧ Q (.bl (!decide (x = .non))) H) (.d d) (.d .none) (.d (.bool (!isN d))) := fun v u H Q d1 d2 q => by
  have d2 : Dp K H u .none := d2
  cases d2
  refine ⟨rfl, q _ H (Same.refl H) ?_⟩
  rw [isN_of d1]
  exact Dp.bl _
theorem r_inS {K : PySem.W.Frag} {c : Nat} : R2V K (fun x y H Q => ∃ (c : Nat) (z : Str), x = .str ⟨#[c]⟩ ∧ y = .str z ∧ Q (.bl (decide (c ∈ z.cps.toList))) H) (.d (.str ⟨#[c]⟩)) (.d (.str s)) (.d (.bool (decide (c ∈ s.cps.toList)))) := fun v u H Q d1 d2 q => by
  have d1 : Dp K H v (.str ⟨#[c]⟩) := d1
  have d2 : Dp K H u (.str s) := d2
  cases d1; cases d2
  exact ⟨c, s, rfl, rfl, q _ H (Same.refl H) (Dp.bl _)⟩
theorem vt_is {k k' : Bool} (h : Vt X e ρ k) (q : k = k') : Vt X e ρ k' := q ▸ h
/-! and, or, not as tests and as values -/
theorem vt_val {k : Bool} (h : Ev X e ρ (.d (.bool k))) (he : ∀ whole, isTrue e X.env whole = (do let v ← whole; standAt e.pos; holding [v] (truthy v))) : Vt X e ρ k := fun σ H Q E q =>
  ⟨_, pt_val pe_w he, h σ H _ E fun v H1 s1 d1 => by
    have d1 : Dp X.K H1 v (.bool k) := d1
    cases d1
    exact ⟨k, rfl, q H1 s1⟩⟩
/-- a chain of and, or as a test -/
def Vw (X : Cx) (e : Expr) (ρ : Rho) (b : Bool) : Prop := ∀ (σ : St) (H : Hp) (Q : Bool → Hp → Prop), Env X.K H σ ρ → (∀ H', Same H H' → Q b H') → ∃ t, PW X e t ∧ t σ H Q
theorem Vw.vt {k : Bool} (h : Vw X e ρ k) : Vt X e ρ k := fun σ H Q E q => let ⟨t, p, r⟩ := h σ H Q E q; ⟨t, p.pt, r⟩
def wW (X : Cx) (e : Expr) : TT := fun σ H Q => ∃ t, PW X e t ∧ t σ H Q
theorem pw_w {e : Expr} : PW X e (wW X e) := ⟨fun wh pins s σ H Q I h => let ⟨t, p, q⟩ := h; p.run wh pins s σ H Q I q⟩
theorem vw_and1 {k : Bool} (h : Vt X a ρ k) : Vw X (.BoolOp .And [a] pos) ρ k := fun σ H Q E q => ⟨_, pw_and1 pt_w, h σ H Q E q⟩
theorem vw_or1 {k : Bool} (h : Vt X a ρ k) : Vw X (.BoolOp .Or [a] pos) ρ k := fun σ H Q E q => ⟨_, pw_or1 pt_w, h σ H Q E q⟩
theorem vw_and {k l : Bool} {rest : List Expr} (h : Vt X a ρ k) (g : k = true → Vw X (.BoolOp .And (b :: rest) pos) ρ l) : Vw X (.BoolOp .And (a :: b :: rest) pos) ρ (k && l) := fun σ H Q E q =>
  ⟨_, pw_and pt_w pw_w, h σ H _ E fun H1 s1 => by
    cases k with
    | true => exact g rfl σ H1 Q (E.mono s1) fun H2 s2 => q H2 (s1.trans s2)
    | false => exact q H1 s1⟩
theorem vw_or {k l : Bool} {rest : List Expr} (h : Vt X a ρ k) (g : k = false → Vw X (.BoolOp .Or (b :: rest) pos) ρ l) : Vw X (.BoolOp .Or (a :: b :: rest) pos) ρ (k || l) := fun σ H Q E q =>
  ⟨_, pw_or pt_w pw_w, h σ H _ E fun H1 s1 => by
    cases k with
    | false => exact g rfl σ H1 Q (E.mono s1) fun H2 s2 => q H2 (s1.trans s2)
    | true => exact q H1 s1⟩
theorem vt_not {k : Bool} (h : Vt X a ρ k) : Vt X (.UnaryOp .Not a pos) ρ (!k) := fun σ H Q E q => ⟨_, pt_not pt_w, h σ H _ E fun H1 s1 => q H1 s1⟩
theorem ev_one {op} (h : Ev X a ρ x) : Ev X (.BoolOp op [a] pos) ρ x := ev_of_pe (pe_one pe_w) fun σ H Q E q => h σ H Q E q
theorem ev_and {k : Bool} {l : PyData} {rest : List Expr} (h : Ev X a ρ (.d (.bool k))) (g : k = true → Ev X (.BoolOp .And (b :: rest) pos) ρ (.d l)) : Ev X (.BoolOp .And (a :: b :: rest) pos) ρ (.d (if k then l else .bool false)) :=
  ev_of_pe (pe_and pe_w pe_w) fun σ H Q E q => h σ H _ E fun v H1 s1 d1 => by
    have d1 : Dp X.K H1 v (.bool k) := d1
    cases d1
    refine ⟨k, rfl, ?_⟩
    cases k with
    | true => exact g rfl σ H1 Q (E.mono s1) fun v H2 s2 d2 => q v H2 (s1.trans s2) d2
    | false => exact q _ H1 s1 (Dp.bl _)
theorem ev_andB {k l : Bool} {rest : List Expr} (h : Ev X a ρ (.d (.bool k))) (g : k = true → Ev X (.BoolOp .And (b :: rest) pos) ρ (.d (.bool l))) : Ev X (.BoolOp .And (a :: b :: rest) pos) ρ (.d (.bool (k && l))) :=
  (ev_and h g).is (by cases k <;> rfl)
/-! a < b < c -/
theorem ev_chain {op op' : CmpOp} {r r' : R2} {w : DV} {k l : Bool} (ho : OpR X (compareOp op) r) (ho' : OpR X (compareOp op') r') (ha : Ev X a ρ x) (hb : Ev X b ρ y) (hc : Ev X c ρ z) (hr : R2V X.K r x y (.d (.bool k))) (hr' : R2V X.K r' y z (.d (.bool l)))
    (hm : lastMarks [op, op'] [b, c] = false) : Ev X (.Compare a [op, op'] [b, c] pos) ρ (.d (.bool (k && l))) :=
  ev_of_pe (pe_chain ho ho' pe_w pe_w pe_w hm) fun σ H Q E q => ha σ H _ E fun v H1 s1 d1 => hb σ H1 _ (E.mono s1) fun u H2 s2 d2 => hr v u H2 _ (d1.mono s2) d2 fun w H3 s3 d3 => by
    have d3 : Dp X.K H3 w (.bool k) := d3
    cases d3
    refine ⟨k, rfl, ?_⟩
    cases k with
    | true => exact hc σ H3 _ (((E.mono s1).mono s2).mono s3) fun w' H4 s4 d4 => hr' u w' H4 Q ((d2.mono s3).mono s4) d4 fun o H5 s5 d5 => q o H5 ((((s1.trans s2).trans s3).trans s4).trans s5) d5
    | false => exact q _ H3 ((s1.trans s2).trans s3) (Dp.bl _)
theorem vt_chain {op op' : CmpOp} {r r' : R2} {w : DV} {k l : Bool} (ho : OpR X (compareOp op) r) (ho' : OpR X (compareOp op') r') (ha : Ev X a ρ x) (hb : Ev X b ρ y) (hc : Ev X c ρ z) (hr : R2V X.K r x y (.d (.bool k))) (hr' : R2V X.K r' y z (.d (.bool l)))
    (hm : lastMarks [op, op'] [b, c] = false) : Vt X (.Compare a [op, op'] [b, c] pos) ρ (k && l) := fun σ H Q E q =>
  ⟨_, pt_chain ho ho' pe_w pe_w pe_w hm, ha σ H _ E fun v H1 s1 d1 => hb σ H1 _ (E.mono s1) fun u H2 s2 d2 => hr v u H2 _ (d1.mono s2) d2 fun w H3 s3 d3 => by
    have d3 : Dp X.K H3 w (.bool k) := d3
    cases d3
    refine ⟨k, rfl, ?_⟩
    cases k with
    | true =>
      refine hc σ H3 _ (((E.mono s1).mono s2).mono s3) fun w' H4 s4 d4 => hr' u w' H4 _ ((d2.mono s3).mono s4) d4 fun o H5 s5 d5 => ?_
      have d5 : Dp X.K H5 o (.bool l) := d5
      cases d5
      exact ⟨l, rfl, q H5 ((((s1.trans s2).trans s3).trans s4).trans s5)⟩
    | false => exact ⟨false, rfl, q H3 ((s1.trans s2).trans s3)⟩⟩
/-! arguments, displays, subscripts -/
theorem ea_nil : EvA X [] ρ [] := fun σ H Q E q => ⟨_, pa_nil, q [] H (Same.refl H) .nil⟩
theorem ea_cons {xs : List DV} (h : Ev X e ρ x) (g : EvA X es ρ xs) (hs : starEach (e :: es) X.env = (false, eval e X.env) :: starEach es X.env) : EvA X (e :: es) ρ (x :: xs) := fun σ H Q E q =>
  ⟨_, pa_cons pe_w pa_w hs, h σ H _ E fun v H1 s1 d1 => g σ H1 _ (E.mono s1) fun vs H2 s2 d2 => q (v :: vs) H2 (s1.trans s2) (.cons (d1.mono s2) d2)⟩
theorem ev_tup {ds : List PyData} {k} (h : EvA X es ρ (ds.map DV.d)) (hl : ds.length ≤ 1000) : Ev X (.Tuple es k pos) ρ (.d (.tuple ds)) :=
  ev_of_pe (pe_tup pa_w) fun σ H Q E q => h σ H _ E fun vs H1 s1 d1 => by
    have da := dpAll_of_drs d1
    have hz : vs.length ≤ 1000 := by rw [dpAll_length da]; exact hl
    exact ⟨Nat.le_of_lt (small1000 hz), fun p hp => q _ _ (s1.trans (same_new hp _)) (.tup (SqT.of upd_same) (dpAll_mono (same_new hp _) _ _ da))⟩
theorem ev_lst {ds : List PyData} (h : EvA X es ρ (ds.map DV.d)) (hl : ds.length ≤ 1000) : Ev X (.List es pos) ρ (.d (.list ds)) :=
  ev_of_pe (pe_lst pa_w) fun σ H Q E q => h σ H _ E fun vs H1 s1 d1 => by
    have da := dpAll_of_drs d1
    have hz : vs.length ≤ 1000 := by rw [dpAll_length da]; exact hl
    exact ⟨Nat.le_of_lt (small1000 hz), fun p hp => q _ _ (s1.trans (same_new hp _)) (.lst (SqL.of upd_same) (dpAll_mono (same_new hp _) _ _ da))⟩
theorem atI_map {K : PySem.W.Frag} {H : Hp} {ds : List PyData} {vs : List V} {d : PyData} (h : DpAll K H vs ds) (e : atI ds i = some d) : ∃ v, atI vs i = some v ∧ Dp K H v d := by
  unfold atI at e ⊢
  rw [dpAll_length h]
  cases q : ixN ds.length i with
  | none => rw [q] at e; cases e
  | some j =>
    rw [q] at e
    exact dpAll_get h e
theorem ev_ixT {ds : List PyData} {d : PyData} (ha : Ev X a ρ (.d (.tuple ds))) (hb : Ev X b ρ (.d (.int i))) (hi : atI ds i = some d) (hp : PlainIx b) : Ev X (.Subscript a b pos) ρ (.d d) :=
  ev_of_pe (pe_ix ix_tup pe_w pe_w hp) fun σ H Q E q => ha σ H _ E fun v H1 s1 d1 => hb σ H1 _ (E.mono s1) fun u H2 s2 d2 => by
    have d1 : Dp X.K H1 v (.tuple ds) := d1
    have d2 : Dp X.K H2 u (.int i) := d2
    cases d2
    cases d1 with
    | tup h1 a1 =>
      obtain ⟨w, e1, e2⟩ := atI_map (dpAll_mono s2 _ _ a1) hi
      exact ⟨_, _, i, w, rfl, rfl, Same.seqT s2 h1, e1, q _ _ (s1.trans s2) e2⟩
theorem ev_ixL {ds : List PyData} {d : PyData} (ha : Ev X a ρ (.d (.list ds))) (hb : Ev X b ρ (.d (.int i))) (hi : atI ds i = some d) (hp : PlainIx b) : Ev X (.Subscript a b pos) ρ (.d d) :=
  ev_of_pe (pe_ix ix_list pe_w pe_w hp) fun σ H Q E q => ha σ H _ E fun v H1 s1 d1 => hb σ H1 _ (E.mono s1) fun u H2 s2 d2 => by
    have d1 : Dp X.K H1 v (.list ds) := d1
    have d2 : Dp X.K H2 u (.int i) := d2
    cases d2
    cases d1 with
    | lst h1 a1 =>
      obtain ⟨w, e1, e2⟩ := atI_map (dpAll_mono s2 _ _ a1) hi
      exact ⟨_, _, i, w, rfl, rfl, s2.seq h1, e1, q _ _ (s1.trans s2) e2⟩
theorem ev_ixS {k : Nat} (ha : Ev X a ρ (.d (.str s))) (hb : Ev X b ρ (.d (.int i))) (hl : s.length ≤ sizeLine) (hi : atI s.cps.toList i = some k) (hp : PlainIx b) : Ev X (.Subscript a b pos) ρ (.d (.str ⟨#[k]⟩)) :=
  ev_of_pe (pe_ix ix_str pe_w pe_w hp) fun σ H Q E q => ha σ H _ E fun v H1 s1 d1 => hb σ H1 _ (E.mono s1) fun u H2 s2 d2 => by
    have d1 : Dp X.K H1 v (.str s) := d1
    have d2 : Dp X.K H2 u (.int i) := d2
    cases d1; cases d2
    exact ⟨s, i, k, rfl, rfl, hl, hi, q _ _ (s1.trans s2) (Dp.str _)⟩
/-! built-ins -/
def C1V (X : Cx) (r : List V → Hp → VK → Prop) (xs : List DV) (z : DV) : Prop := ∀ (vs : List V) (H : Hp) (Q : VK), DRs X.K H vs xs → (∀ w H', Same H H' → DR X.K H' w z → Q w H') → r vs H Q
theorem ev_callB {r : List V → Hp → VK → Prop} {n : Str} {id : String} {xs : List DV} (hc : CallR X (.builtin id) r) (hg : Gl X n) (hm : X.mg n = none) (hv : bootBuiltins n = some (.builtin id)) (ha : EvA X (e :: es) ρ xs) (hr : C1V X r xs z) (hn : n ≠ "__name__") (hdb : (n == ("__debug__" : Str)) = false)
    (he : starEach (e :: es) X.env = (false, eval e X.env) :: starEach es X.env) (hpl : (backTo pos (starEach es X.env)).any (·.1) = false) : Ev X (.Call (.Name n p) (e :: es) [] pos) ρ z :=
  ev_of_pe (pe_callB hc hg hm hv pa_w hn hdb he hpl) fun σ H Q E q => ha σ H _ E fun vs H1 s1 d1 => hr vs H1 Q d1 fun w H2 s2 d2 => q w H2 (s1.trans s2) d2
theorem ev_callTy {r : List V → Hp → VK → Prop} {n : Str} {id : String} {xs : List DV} (hc : CallR X (.type id) r) (hg : Gl X n) (hm : X.mg n = none) (hv : bootBuiltins n = some (.type id)) (ha : EvA X (e :: es) ρ xs) (hr : C1V X r xs z) (hn : n ≠ "__name__") (hdb : (n == ("__debug__" : Str)) = false)
    (he : starEach (e :: es) X.env = (false, eval e X.env) :: starEach es X.env) (hpl : (backTo pos (starEach es X.env)).any (·.1) = false) : Ev X (.Call (.Name n p) (e :: es) [] pos) ρ z :=
  ev_of_pe (pe_callTy hc hg hm hv pa_w hn hdb he hpl) fun σ H Q E q => ha σ H _ E fun vs H1 s1 d1 => hr vs H1 Q d1 fun w H2 s2 d2 => q w H2 (s1.trans s2) d2
end
end Sg

/-! # The layer, part 2: walks, comprehensions, calls, statements -/
namespace Sg
open PySem PySem.Spec L2 RZ

/-! ### no lists within -/
mutual
def noL : PyData → Bool
  | .list _ => false
  | .tuple xs => noLs xs
  | .dict _ => false
  | _ => true
def noLs : List PyData → Bool
  | [] => true
  | x :: xs => noL x && noLs xs
end
theorem noLs_iff : ∀ {xs : List PyData}, noLs xs = true ↔ ∀ x ∈ xs, noL x = true
  | [] => by simp [noLs]
  | x :: xs => by simp [noLs, noLs_iff (xs := xs)]
mutual
theorem dp_swap {K : PySem.W.Frag} {H H' : Hp} {D : Addr} {acc : List V} (hD : H D = some (.lst acc)) (k : ∀ b o, b ≠ D → H b = some o → H' b = some o) : ∀ (d : PyData) (v : V), noL d = true → Dp K H v d → Dp K H' v d
  | .none, _, _, h => by cases h; exact .non
  | .bool _, _, _, h => by cases h; exact .bl _
  | .int _, _, _, h => by cases h; exact .int _
  | .str _, _, _, h => by cases h; exact .str _
  | .list ds, _, n, h => by cases n
  | .tuple ds, _, n, h => by
    cases h with
    | @tup a xs _ hs ha =>
      refine .tup ?_ (dpAll_swap hD k ds _ n ha)
      rcases hs with (hs | ⟨o, hs⟩) | hs
      · exact .inl (.inl (k a _ (fun z => by rw [z, hD] at hs; cases hs) hs))
      · exact .inl (.inr ⟨o, k a _ (fun z => by rw [z, hD] at hs; cases hs) hs⟩)
      · exact .inr hs
  | .dict _, _, n, h => by cases n
theorem dpAll_swap {K : PySem.W.Frag} {H H' : Hp} {D : Addr} {acc : List V} (hD : H D = some (.lst acc)) (k : ∀ b o, b ≠ D → H b = some o → H' b = some o) : ∀ (ds : List PyData) (vs : List V), noLs ds = true → DpAll K H vs ds → DpAll K H' vs ds
  | [], _, _, h => by cases h; exact .nil
  | d :: ds, _, n, h => by
    cases h with
    | cons h1 h2 =>
      have n' : noL d = true ∧ noLs ds = true := by simpa [noLs] using n
      exact .cons (dp_swap hD k d _ n'.1 h1) (dpAll_swap hD k ds _ n'.2 h2)
end

/-! ### what is walked -/
/-- behind the making of an iterator: n items, the i-th of them f i, as long as what is tracked at H0 stands -/
structure WkAt (K : PySem.W.Frag) (J : It) (n : Nat) (f : Nat → PyData) (H0 : Hp) : Prop where
  ex : ∃ (G : Hp → Prop) (Y : Nat → Hp → V → Hp → Prop), Walk J n G Y ∧ (∀ H, Same H0 H → G H) ∧ ∀ i H v H', i < n → Same H0 H → Y i H v H' → Same H H' ∧ Dp K H' v (f i) ∧ ∀ D acc, H0 D = none → H D = some (.lst acc) → ∀ H2, (∀ b o, b ≠ D → H' b = some o → H2 b = some o) → Dp K H2 v (f i)
def wI (X : Cx) (tg iter : Expr) : TI := fun σ H R => ∃ wi, PI X tg iter wi ∧ wi σ H R
theorem pi_w {X : Cx} {tg iter : Expr} : PI X tg iter (wI X tg iter) := ⟨fun pins s σ H Q I h => let ⟨t, p, q⟩ := h; p.run pins s σ H Q I q⟩
def EvI (X : Cx) (tg iter : Expr) (ρ : Rho) (n : Nat) (f : Nat → PyData) : Prop := ∀ (σ : St) (H : Hp) (R : It → Hp → Prop), Env X.K H σ ρ → (∀ J H', Same H H' → WkAt X.K J n f H' → R J H') → wI X tg iter σ H R
section
variable {X : Cx} {ρ : Rho} {tg e a b : Expr} {es : List Expr} {pos p : Pos} {i j : Int} {s : Str} {ds es' : List PyData}
/-- a heap in which D alone may be another -/
theorem same_but {H0 H' H2 : Hp} {D : Addr} (h : Same H0 H') (hD : H0 D = none) (k : ∀ b o, b ≠ D → H' b = some o → H2 b = some o) : Same H0 H2 := fun b o q => k b o (ne_of_none q hD) (h b o q)
theorem evi_list (h : Ev X e ρ (.d (.list ds))) : EvI X tg e ρ ds.length (fun i => ds.getD i .none) := fun σ H R E q =>
  ⟨_, pi_list pe_w, h σ H _ E fun v H1 s1 d1 => by
    have d1 : Dp X.K H1 v (.list ds) := d1
    cases d1 with
    | @lst a xs _ hs ha =>
      refine ⟨a, rfl, ⟨xs, hs⟩, q _ H1 s1 ⟨_, _, by rw [← dpAll_length ha]; exact walk_list (xs := xs), fun H sm => sm.seq hs, fun i H v H' hi sm y => ?_⟩⟩
      obtain ⟨rfl, e2⟩ := y
      have hx : ∀ {H2 : Hp}, Same H1 H2 → Dp X.K H2 v (ds.getD i .none) := fun {H2} sm2 => by
        obtain ⟨w, ew, dw⟩ := dpAll_get (dpAll_mono sm2 _ _ ha) (show ds[i]? = some (ds.getD i .none) by simp [List.getD, hi])
        rw [e2] at ew
        cases ew
        exact dw
      exact ⟨Same.refl _, hx sm, fun D acc hD hl H2 k => hx (same_but sm hD k)⟩⟩
theorem evi_tup (h : Ev X e ρ (.d (.tuple ds))) : EvI X tg e ρ ds.length (fun i => ds.getD i .none) := fun σ H R E q =>
  ⟨_, pi_tup pe_w, h σ H _ E fun v H1 s1 d1 => by
    have d1 : Dp X.K H1 v (.tuple ds) := d1
    cases d1 with
    | @tup a xs _ hs ha =>
      refine ⟨a, rfl, ⟨xs, hs⟩, q _ H1 s1 ⟨_, _, by rw [← dpAll_length ha]; exact walk_tup (xs := xs), fun H sm => Same.seqT sm hs, fun i H v H' hi sm y => ?_⟩⟩
      obtain ⟨rfl, e2⟩ := y
      have hx : ∀ {H2 : Hp}, Same H1 H2 → Dp X.K H2 v (ds.getD i .none) := fun {H2} sm2 => by
        obtain ⟨w, ew, dw⟩ := dpAll_get (dpAll_mono sm2 _ _ ha) (show ds[i]? = some (ds.getD i .none) by simp [List.getD, hi])
        rw [e2] at ew
        cases ew
        exact dw
      exact ⟨Same.refl _, hx sm, fun D acc hD hl H2 k => hx (same_but sm hD k)⟩⟩
theorem evi_str (h : Ev X e ρ (.d (.str s))) : EvI X tg e ρ s.cps.size (fun i => .str ⟨#[s.cps.getD i 0]⟩) := fun σ H R E q =>
  ⟨_, pi_str pe_w, h σ H _ E fun v H1 s1 d1 => by
    have d1 : Dp X.K H1 v (.str s) := d1
    cases d1
    refine ⟨s, rfl, q _ H1 s1 ⟨_, _, walk_str, fun H sm => trivial, fun i H v H' hi sm y => ?_⟩⟩
    obtain ⟨rfl, c, e2, rfl⟩ := y
    have ec : s.cps.getD i 0 = c := by simp [Array.getD_eq_getD_getElem?, e2]
    rw [ec]
    exact ⟨Same.refl _, .str _, fun _ _ _ _ _ _ => .str _⟩⟩
theorem evi_range1 (hg : Gl X "range") (hm : X.mg "range" = none) (h : Ev X a ρ (.d (.int j))) (h1 : -(2 ^ 62) ≤ j) (h2 : j < 2 ^ 62) (hs : starEach [a] X.env = (false, eval a X.env) :: starEach [] X.env) : EvI X tg (.Call (.Name "range" p) [a] [] pos) ρ j.toNat (fun i => .int i) := fun σ H R E q =>
  ⟨_, pi_range1 hg hm pa_w hs, ea_cons h ea_nil hs σ H _ E fun vs H1 s1 d1 => by
    cases d1 with
    | cons d1 d2 =>
      cases d2
      have d1 : Dp X.K H1 _ (.int j) := d1
      cases d1
      refine ⟨j, rfl, h1, h2, q _ H1 s1 ⟨_, _, walk_range, fun H sm => trivial, fun i H v H' hi sm y => ?_⟩⟩
      obtain ⟨rfl, rfl⟩ := y
      have ez : (0 : Int) + (i : Nat) = (i : Nat) := Int.zero_add _
      exact ⟨Same.refl _, by show Dp _ _ (V.int (0 + (i : Nat))) _; rw [ez]; exact .int _, fun _ _ _ _ _ _ => by show Dp _ _ (V.int (0 + (i : Nat))) _; rw [ez]; exact .int _⟩⟩
theorem evi_range2 (hg : Gl X "range") (hm : X.mg "range" = none) (h : Ev X a ρ (.d (.int i))) (h' : Ev X b ρ (.d (.int j))) (hb : -(2 ^ 62) ≤ i ∧ i < 2 ^ 62 ∧ -(2 ^ 62) ≤ j ∧ j < 2 ^ 62) (hs : starEach [a, b] X.env = (false, eval a X.env) :: starEach [b] X.env) (hs2 : starEach [b] X.env = (false, eval b X.env) :: starEach [] X.env) :
    EvI X tg (.Call (.Name "range" p) [a, b] [] pos) ρ (j - i).toNat (fun k => .int (i + k)) := fun σ H R E q =>
  ⟨_, pi_range2 hg hm pa_w (by rw [hs, hs2]; rfl) (by rw [hs2]; rfl), ea_cons h (ea_cons h' ea_nil hs2) hs σ H _ E fun vs H1 s1 d1 => by
    cases d1 with
    | cons d1 d2 =>
      cases d2 with
      | cons d2 d3 =>
        cases d3
        have d1 : Dp X.K H1 _ (.int i) := d1
        have d2 : Dp X.K H1 _ (.int j) := d2
        cases d1; cases d2
        refine ⟨i, j, rfl, hb, q _ H1 s1 ⟨_, _, walk_range, fun H sm => trivial, fun k H v H' hi sm y => ?_⟩⟩
        obtain ⟨rfl, rfl⟩ := y
        exact ⟨Same.refl _, .int _, fun _ _ _ _ _ _ => .int _⟩⟩
theorem walk_zipT {K : PySem.W.Frag} {a b : Addr} {xs ys : List V} {n : Nat} (hn : n = min xs.length ys.length) : Walk (ItzT K a b) n (fun H => SqT K H a xs ∧ SqT K H b ys) (YPair (fun i => xs[i]?) (fun i => ys[i]?)) := by
  subst hn
  refine ⟨fun i _ hi q => ?_, fun _ q => ⟨xs, ys, q.1, q.2, by omega⟩, fun i H v H' _ q y => ?_⟩
  · have h1 : i < xs.length := by omega
    have h2 : i < ys.length := by omega
    exact ⟨xs, ys, xs[i], ys[i], q.1, q.2, by simp [h1], by simp [h2]⟩
  · obtain ⟨T, x, z, h1, h2, h3, h4, h5⟩ := y
    exact ⟨T, x, z, h1, h2, h3, h4 xs q.1, h5 ys q.2⟩
theorem evi_zipT {elts : List Expr} {kk : Nat} {tpos : Pos} (hg : Gl X "zip") (hm : X.mg "zip" = none) (h : Ev X a ρ (.d (.tuple ds))) (h' : Ev X b ρ (.d (.tuple es'))) (hl : es'.length = ds.length) (hs : starEach [a, b] X.env = (false, eval a X.env) :: starEach [b] X.env) (hs2 : starEach [b] X.env = (false, eval b X.env) :: starEach [] X.env)
    (hpl : (backTo pos (starEach [b] X.env)).any (·.1) = false) :
    EvI X (.Tuple elts kk tpos) (.Call (.Name "zip" p) [a, b] [] pos) ρ ds.length (fun k => .tuple [ds.getD k .none, es'.getD k .none]) := fun σ H R E q =>
  ⟨_, pi_zipA hg hm pa_w hs hpl, ea_cons h (ea_cons h' ea_nil hs2) hs σ H _ E fun vs H1 s1 d1 => by
    cases d1 with
    | cons d1 d2 =>
      cases d2 with
      | cons d2 d3 =>
        cases d3
        have d1 : Dp X.K H1 _ (.tuple ds) := d1
        have d2 : Dp X.K H1 _ (.tuple es') := d2
        cases d1 with
        | @tup a1 xs _ hx ax =>
          cases d2 with
          | @tup a2 ys _ hy ay =>
            refine ⟨a1, a2, xs, ys, rfl, .inr ⟨hx, hy, q _ H1 s1 ⟨_, _, walk_zipT (xs := xs) (ys := ys) (by rw [dpAll_length ax, dpAll_length ay, hl, Nat.min_self]), fun H sm => ⟨Same.seqT sm hx, Same.seqT sm hy⟩, fun i H v H' hi sm y => ?_⟩⟩⟩
            obtain ⟨T, x, z, rfl, hT, rfl, ex, ey⟩ := y
            have ex : xs[i]? = some x := ex
            have ey : ys[i]? = some z := ey
            have hD : ∀ {H2 : Hp}, Same H1 H2 → H2 T = some (.tup [x, z]) → Dp X.K H2 (.ref T) (.tuple [ds.getD i .none, es'.getD i .none]) := fun {H2} sm2 hT2 => by
              obtain ⟨w1, e1, b1⟩ := dpAll_get (dpAll_mono sm2 _ _ ax) (show ds[i]? = some (ds.getD i .none) by simp [List.getD, hi])
              obtain ⟨w2, e2, b2⟩ := dpAll_get (dpAll_mono sm2 _ _ ay) (show es'[i]? = some (es'.getD i .none) by simp [List.getD, hl, hi])
              rw [ex] at e1
              rw [ey] at e2
              cases e1
              cases e2
              exact .tup (SqT.of hT2) (.cons b1 (.cons b2 .nil))
            refine ⟨same_new hT _, hD (sm.trans (same_new hT _)) upd_same, fun D acc h0 hl2 H2 k => ?_⟩
            have hTD : T ≠ D := fun z => by rw [z, hl2] at hT; cases hT
            exact hD (same_but (sm.trans (same_new hT _)) h0 k) (k T _ hTD upd_same)⟩
end

/-! ### targets -/
/-- the slots behind the store of d -/
def Tg (X : Cx) (tg : Expr) (vs : List Nat) (d : PyData) (ρ ρ' : Rho) : Prop := ∃ g, PG X tg g ∧ ∀ (v : V) (σ : St) (H : Hp) (Q : St → Hp → Prop), Env X.K H σ ρ → Dp X.K H v d → (∀ σ', Env X.K H σ' ρ' → wipe σ' vs = wipe σ vs → Q σ' H) → g v σ H Q
def wG (X : Cx) (tg : Expr) : TG := fun v σ H Q => ∃ g, PG X tg g ∧ g v σ H Q
theorem pg_w {X : Cx} {tg : Expr} : PG X tg (wG X tg) := ⟨fun pins s σ H v u Q I r h => let ⟨t, p, q⟩ := h; p.run pins s σ H v u Q I r q⟩
theorem wipe_set1 {σ : St} {i : Nat} {o : Option V} : wipe (σ.set i o) [i] = wipe σ [i] := by
  show (σ.set i o).set i none = σ.set i none
  rw [List.set_set]
theorem wipe_set2 {σ : St} {i j : Nat} {o o' : Option V} (h : i ≠ j) : wipe ((σ.set i o).set j o') [i, j] = wipe σ [i, j] := by
  show (((σ.set i o).set j o').set j none).set i none = (σ.set j none).set i none
  rw [List.set_set, List.set_comm _ _ h, List.set_set]
theorem tg_name {X : Cx} {n : Str} {p : Pos} {i : Nat} {d : PyData} {ρ : Rho} (h : PG X (.Name n p) (gName i)) : Tg X (.Name n p) [i] d ρ (ρ.set i (some (.d d))) :=
  ⟨_, h, fun v σ H Q E dp q => q _ (E.set i (x := .d _) dp) wipe_set1⟩
theorem tg_pair {X : Cx} {es : List Expr} {k : Nat} {p : Pos} {i j : Nat} {d1 d2 : PyData} {ρ : Rho} (hij : i ≠ j) (h : PG X (.Tuple es k p) (gTup X.K 2 (gCons (gName i) (gCons (gName j) gNil)))) : Tg X (.Tuple es k p) [i, j] (.tuple [d1, d2]) ρ ((ρ.set i (some (.d d1))).set j (some (.d d2))) :=
  ⟨_, h, fun v σ H Q E dp q => by
    cases dp with
    | tup hs ha =>
      cases ha with
      | cons a1 a2 =>
        cases a2 with
        | cons a2 a3 =>
          cases a3
          exact ⟨_, _, rfl, hs, rfl, _, _, rfl, _, _, rfl, rfl, q _ ((E.set i (x := .d _) a1).set j (x := .d _) a2) (wipe_set2 hij)⟩⟩

/-! ### a comprehension: n items f 0 .., the test p, the element g -/
section
variable {X : Cx} {ρ : Rho}
def pick (n : Nat) (pk : Nat → Bool) (g : Nat → PyData) : List PyData := ((List.range n).filter pk).map g
theorem pick_succ {n : Nat} {pk : Nat → Bool} {g : Nat → PyData} : pick (n + 1) pk g = if pk n = true then pick n pk g ++ [g n] else pick n pk g := by
  unfold pick
  rw [List.range_succ, List.filter_append]
  cases h : pk n <;> simp [h]
theorem pick_le {n : Nat} {pk : Nat → Bool} {g : Nat → PyData} : (pick n pk g).length ≤ n := by
  unfold pick
  rw [List.length_map]
  exact Nat.le_trans (List.length_filter_le _ _) (by simp)
/-- the reading of it -/
theorem lc_reads {tg iter elt : Expr} {ifs : List Expr} {n : Nat} {f g : Nat → PyData} {pk : Nat → Bool} {vs : List Nat} {ρt : Nat → Rho} {wg : TG} {wt : TT} {we : TE} (hi : EvI X tg iter ρ n f) (hn : n ≤ 1000)
    (hg : ∀ k, k < n → ∀ (v : V) (σ : St) (H : Hp) (Q : St → Hp → Prop), Env X.K H σ (wipeR ρ vs) → Dp X.K H v (f k) → (∀ σ', Env X.K H σ' (ρt k) → wipe σ' vs = wipe σ vs → Q σ' H) → wg v σ H Q)
    (ht : ∀ k, k < n → ∀ (σ : St) (H : Hp) (Q : Bool → Hp → Prop), Env X.K H σ (ρt k) → (∀ H', Same H H' → Q (pk k) H') → wt σ H Q)
    (he : ∀ k, k < n → pk k = true → ∀ (σ : St) (H : Hp) (Q : VK), Env X.K H σ (ρt k) → (∀ v H', Same H H' → Dp X.K H' v (g k) → Q v H') → we σ H Q)
    (hL : ∀ k, k < n → pk k = true → noL (g k) = true) (σ : St) (H : Hp) (Q : VK) (E : Env X.K H σ ρ) (q : ∀ v H', Same H H' → Dp X.K H' v (.list (pick n pk g)) → Q v H') :
    tLc (wI X tg iter) wg wt we vs σ H Q := by
  refine hi σ H _ E fun J H1 s1 wk D hD => ?_
  obtain ⟨G, Y, w, hG, hY⟩ := wk.ex
  have sD : ∀ o, Same H1 (upd H1 D o) := fun o => same_new hD o
  refine lc_it w (fun k H2 => Same H1 H2 ∧ ∃ acc, H2 D = some (.lst acc) ∧ DpAll X.K H2 acc (pick k pk g)) ⟨sD _, [], upd_same, .nil⟩ (fun k H2 _ p => hG H2 p.1) ?_ ?_
  · rintro k x H2 H3 hk ⟨s2, acc, hacc, dacc⟩ y
    obtain ⟨s3, dx, _⟩ := hY k H2 x H3 hk s2 y
    have E3 : Env X.K H3 (wipe σ vs) (wipeR ρ vs) := (((E.mono s1).mono s2).mono s3).wipe vs
    refine hg k hk x _ H3 _ E3 dx fun σ4 E4 hw => ⟨hw.trans ?_, ht k hk σ4 H3 _ E4 fun H5 s5 => ?_⟩
    · have idem : ∀ (vs : List Nat) (σ : St), wipe (wipe σ vs) vs = wipe σ vs := by
        intro vs
        have wc : ∀ (us : List Nat) (v : Nat) (σ : St), wipe (σ.set v none) us = (wipe σ us).set v none := by
          intro us v
          induction us with
          | nil => intro σ; rfl
          | cons u us ih =>
            intro σ
            show (wipe (σ.set v none) us).set u none = ((wipe σ us).set u none).set v none
            rw [ih]
            by_cases h : v = u
            · subst h; rfl
            · rw [List.set_comm _ _ h]
        induction vs with
        | nil => intro σ; rfl
        | cons v vs ih =>
          intro σ
          show (wipe ((wipe σ vs).set v none) vs).set v none = (wipe σ vs).set v none
          rw [wc, ih, List.set_set]
      exact idem vs σ
    · have hacc5 : H5 D = some (.lst acc) := s5 D _ (s3 D _ hacc)
      have dacc5 := dpAll_mono s5 _ _ (dpAll_mono s3 _ _ dacc)
      have s15 : Same H1 H5 := (s2.trans s3).trans s5
      cases hp : pk k with
      | false =>
        rw [if_neg (by decide)]
        refine ⟨s15, acc, hacc5, ?_⟩
        rw [pick_succ, hp, if_neg (by decide)]
        exact dacc5
      | true =>
        rw [if_pos rfl]
        refine he k hk hp σ4 H5 _ (E4.mono s5) fun v H6 s6 d6 => ?_
        have hacc6 : H6 D = some (.lst acc) := s6 D _ hacc5
        have dacc6 := dpAll_mono s6 _ _ dacc5
        have hlen : acc.length < 1001 := by
          rw [dpAll_length dacc6]
          exact Nat.lt_succ_of_le (Nat.le_trans pick_le (by omega))
        refine ⟨acc, hacc6, Nat.lt_of_lt_of_le hlen (by decide), fun b o qb => ?_, acc ++ [v], upd_same, ?_⟩
        · rw [upd_ne (ne_of_none qb hD)]
          exact s6 b o (s15 b o qb)
        · rw [pick_succ, hp, if_pos rfl]
          have kk : ∀ b o, b ≠ D → H6 b = some o → upd H6 D (.lst (acc ++ [v])) b = some o := fun b o hb e => by rw [upd_ne hb]; exact e
          refine dpAll_append (dpAll_swap hacc6 kk _ _ ?_ dacc6) (.cons (dp_swap hacc6 kk _ _ (hL k hk hp) d6) .nil)
          rw [noLs_iff]
          intro z hz
          unfold pick at hz
          obtain ⟨m, hm, rfl⟩ := List.mem_map.mp hz
          obtain ⟨h1, h2⟩ := List.mem_filter.mp hm
          exact hL m (Nat.lt_trans (List.mem_range.mp h1) hk) h2
  · rintro H2 ⟨s2, acc, hacc, dacc⟩
    exact q _ H2 (s1.trans s2) (.lst (SqL.of hacc) dacc)
end
/-- within the block -/
abbrev Blk (X : Cx) (scope : Scope) (P : Cx → Prop) : Prop := ∀ (s : Shared) (H : Hp) (C : Addr) (cl : List (Str × Addr)) (fp : List Addr), P (X.blk s H scope (compEnvC scope cl C X.env) fp)
/-- a clause's tests over data -/
def VtI (X : Cx) (ifs : List Expr) (ρ : Rho) (b : Bool) : Prop := ∀ (σ : St) (H : Hp) (Q : Bool → Hp → Prop), Env X.K H σ ρ → (∀ H', Same H H' → Q b H') → ∃ t, PTs X ifs t ∧ t σ H Q
theorem vti_nil {X : Cx} {ρ : Rho} : VtI X [] ρ true := fun σ H Q E q => ⟨_, pts_nil, q H (Same.refl H)⟩
theorem vti_one {X : Cx} {ρ : Rho} {c : Expr} {b : Bool} (h : Vt X c ρ b) : VtI X [c] ρ b := fun σ H Q E q => ⟨_, pts_one pt_w, h σ H Q E q⟩
section
variable {X : Cx} {ρ : Rho}
/-- the weakest, over all blocks -/
def bE (X : Cx) (scope : Scope) (e : Expr) : TE := fun σ H Q => ∀ s H0 C cl fp, wE (X.blk s H0 scope (compEnvC scope cl C X.env) fp) e σ H Q
def bG (X : Cx) (scope : Scope) (e : Expr) : TG := fun v σ H Q => ∀ s H0 C cl fp, wG (X.blk s H0 scope (compEnvC scope cl C X.env) fp) e v σ H Q
def bT (X : Cx) (scope : Scope) (es : List Expr) : TT := fun σ H Q => ∀ s H0 C cl fp, ∃ t, PTs (X.blk s H0 scope (compEnvC scope cl C X.env) fp) es t ∧ t σ H Q
theorem lc_terms {scope : Scope} {tg elt : Expr} {ifs : List Expr} : (∀ s H C cl fp, PG (X.blk s H scope (compEnvC scope cl C X.env) fp) tg (bG X scope tg)) ∧ (∀ s H C cl fp, PTs (X.blk s H scope (compEnvC scope cl C X.env) fp) ifs (bT X scope ifs)) ∧
    ∀ s H C cl fp, PE (X.blk s H scope (compEnvC scope cl C X.env) fp) elt (bE X scope elt) :=
  ⟨fun s H C cl fp => ⟨fun pins s' σ H' v u Q I r h => pg_w.run pins s' σ H' v u Q I r (h s H C cl fp)⟩, fun s H C cl fp => ⟨fun pins s' σ H' Q I h => let ⟨t, p, q⟩ := h s H C cl fp; p.run pins s' σ H' Q I q⟩,
    fun s H C cl fp => ⟨fun pins s' σ H' Q I h => pe_w.run pins s' σ H' Q I (h s H C cl fp)⟩⟩
theorem lc_full {tg iter elt : Expr} {ifs : List Expr} {scope : Scope} {n : Nat} {f g : Nat → PyData} {pk : Nat → Bool} {vs : List Nat} {ρt : Nat → Rho} (hi : EvI X tg iter ρ n f) (hn : n ≤ 1000)
    (hg : Blk X scope fun Y => ∀ k, k < n → Tg Y tg vs (f k) (wipeR ρ vs) (ρt k)) (ht : Blk X scope fun Y => ∀ k, k < n → VtI Y ifs (ρt k) (pk k)) (he : Blk X scope fun Y => ∀ k, k < n → pk k = true → Ev Y elt (ρt k) (.d (g k))) (hL : ∀ k, k < n → pk k = true → noL (g k) = true)
    (σ : St) (H : Hp) (Q : VK) (E : Env X.K H σ ρ) (q : ∀ v H', Same H H' → Dp X.K H' v (.list (pick n pk g)) → Q v H') : tLc (wI X tg iter) (bG X scope tg) (bT X scope ifs) (bE X scope elt) vs σ H Q :=
  lc_reads (elt := elt) (ifs := ifs) hi hn (fun k hk v σ H Q E d r s H0 C cl fp => let ⟨w, p, h⟩ := hg s H0 C cl fp k hk; ⟨w, p, h v σ H Q E d r⟩) (fun k hk σ H Q E r s H0 C cl fp => ht s H0 C cl fp k hk σ H Q E r) (fun k hk hp σ H Q E r s H0 C cl fp => he s H0 C cl fp k hk hp σ H Q E fun v H' sm d => r v H' sm d) hL σ H Q E q
/-- [elt for tg in iter if ..] as a value -/
theorem ev_lc {tg iter elt : Expr} {ifs : List Expr} {scope : Scope} {pos : Pos} {n : Nat} {f g : Nat → PyData} {pk : Nat → Bool} {own : List (Str × Nat)} {ρt : Nat → Rho} (c : XOk X) (ok : BlkOk X.N X.env.scope scope own) (hi : EvI X tg iter ρ n f) (hn : n ≤ 1000)
    (hg : Blk X scope fun Y => ∀ k, k < n → Tg Y tg (own.map (·.2)) (f k) (wipeR ρ (own.map (·.2))) (ρt k)) (ht : Blk X scope fun Y => ∀ k, k < n → VtI Y ifs (ρt k) (pk k)) (he : Blk X scope fun Y => ∀ k, k < n → pk k = true → Ev Y elt (ρt k) (.d (g k))) (hL : ∀ k, k < n → pk k = true → noL (g k) = true)
    (hs : ∀ x, foldedSetIterable iter X.env x = pure x) : Ev X (.ListComp elt [⟨tg, iter, ifs, 0⟩] scope pos) ρ (.d (.list (pick n pk g))) :=
  ev_of_pe (pe_lc c.calm c.nd pi_w ok (lc_terms (tg := tg) (elt := elt) (ifs := ifs)).1 (lc_terms (tg := tg) (elt := elt) (ifs := ifs)).2.1 (lc_terms (tg := tg) (elt := elt) (ifs := ifs)).2.2 hs) fun σ H Q E q => lc_full hi hn hg ht he hL σ H Q E q
/-- name = [elt for tg in iter if ..] -/
theorem b1_setLc {tg iter elt : Expr} {ifs : List Expr} {scope : Scope} {pos spos py : Pos} {y : Str} {i : Nat} {n : Nat} {f g : Nat → PyData} {pk : Nat → Bool} {own : List (Str × Nat)} {ρt : Nat → Rho} (c : XOk X) (hy : X.N[i]? = some y) (hyl : X.env.scope.names.lookup y = some .local)
    (hsw : swapsWith (.ListComp elt [⟨tg, iter, ifs, 0⟩] scope pos) (some (.Name y py)) spos.line X.env = pure true) (ok : BlkOk X.N X.env.scope scope own) (hi : EvI X tg iter ρ n f) (hn : n ≤ 1000)
    (hg : Blk X scope fun Y => ∀ k, k < n → Tg Y tg (own.map (·.2)) (f k) (wipeR ρ (own.map (·.2))) (ρt k)) (ht : Blk X scope fun Y => ∀ k, k < n → VtI Y ifs (ρt k) (pk k)) (he : Blk X scope fun Y => ∀ k, k < n → pk k = true → Ev Y elt (ρt k) (.d (g k))) (hL : ∀ k, k < n → pk k = true → noL (g k) = true)
    (hs : ∀ x, foldedSetIterable iter X.env x = pure x) : B1 X (.Assign [.Name y py] (.ListComp elt [⟨tg, iter, ifs, 0⟩] scope pos) spos) ρ (.nx (ρ.set i (some (.d (.list (pick n pk g)))))) := fun W σ H D tk E q =>
  ⟨_, ps_setLc c.calm c.nd hy hyl hsw pi_w ok (lc_terms (tg := tg) (elt := elt) (ifs := ifs)).1 (lc_terms (tg := tg) (elt := elt) (ifs := ifs)).2.1 (lc_terms (tg := tg) (elt := elt) (ifs := ifs)).2.2 hs, lc_full hi hn hg ht he hL σ H _ E fun v H' sm d => q _ H' sm ((E.mono sm).set i (x := .d _) d)⟩
end

/-! ### calls of the program's defs -/
section
variable {X : Cx} {ρ : Rho} {e : Expr} {es : List Expr} {n : Str} {ps : List Str} {k k' : Nat} {R : List DV → Rs → Prop} {xs : List DV} {z : DV} {p pos : Pos}
theorem ev_call (F : Fn X.prog X.w X.K X.mg X.base n ps k (spD X.K ps.length R)) (hr : Room k' X.A) (hk : k ≤ k') (ha : EvA X (e :: es) ρ xs) (hR : R xs (.ok z)) (hl : xs.length = ps.length) (hg : Gl X n) (hdb : (n == ("__debug__" : Str)) = false) (he : starEach (e :: es) X.env = (false, eval e X.env) :: starEach es X.env) (hpl : (backTo pos (starEach es X.env)).any (·.1) = false) :
    Ev X (.Call (.Name n p) (e :: es) [] pos) ρ z := by
  obtain ⟨hm, kp, fd, F, hb⟩ := F
  refine ev_of_pe (pe_callS (E := fun _ => E0) F (hr.mono hk) hg hm kp hb (fun σ pins H s e s' I c => passL pins σ H s e s' I c) pa_w hdb he hpl) fun σ H Q E q => ha σ H _ E fun vs H1 s1 d1 => ?_
  exact ⟨xs, .ok z, by rw [d1.length]; exact hl, d1, hR, fun v H2 s2 d2 => q v H2 (s1.trans s2) d2⟩
theorem evx_call {x : Xn} (F : Fn X.prog X.w X.K X.mg X.base n ps k (spD X.K ps.length R)) (hr : Room k' X.A) (hk : k ≤ k') (ha : EvA X (e :: es) ρ xs) (hR : R xs (.ex x)) (hl : xs.length = ps.length) (hg : Gl X n) (hdb : (n == ("__debug__" : Str)) = false) (he : starEach (e :: es) X.env = (false, eval e X.env) :: starEach es X.env) (hpl : (backTo pos (starEach es X.env)).any (·.1) = false) :
    EvX X (.Call (.Name n p) (e :: es) [] pos) ρ x := by
  obtain ⟨hm, kp, fd, F, hb⟩ := F
  refine fun W σ H Q tk E q => ⟨_, pe_callS (E := WE W) F (hr.mono hk) hg hm kp hb (fun σ => passAt tk σ) pa_w hdb he hpl, ha σ H _ E fun vs H1 s1 d1 => ?_⟩
  exact ⟨xs, .ex x, by rw [d1.length]; exact hl, d1, hR, fun cls dct H2 s2 d2 => q cls dct H2 (s1.trans s2) d2⟩
end

/-! ### statements -/
def Fl.term : Fl → Bool
  | .nx _ => false
  | _ => true
section
variable {X : Cx} {ρ ρ' : Rho} {st : Stmt} {ss body orelse : List Stmt} {fl : Fl} {e c : Expr} {x : DV} {pos p : Pos}
theorem bs_nil : Bs X [] ρ (.nx ρ) := fun W σ H D tk E q => ⟨_, pss_nil, q σ H (Same.refl H) E⟩
theorem bs_cons (h : B1 X st ρ (.nx ρ')) (g : Bs X ss ρ' fl) : Bs X (st :: ss) ρ fl := fun W σ H D tk E q =>
  ⟨_, pss_cons ps_w pss_w, h W σ H _ tk E fun σ' H' sm E' => g W σ' H' D tk E' (q.mono sm)⟩
theorem Post.ends {K : PySem.W.Frag} {H : Hp} {W : WX} {D D' : Ends} {fl : Fl} (t : fl.term = true) (h : Post K H W D fl) (h1 : D'.rt = D.rt) (h2 : D'.bk = D.bk) (h3 : D'.ct = D.ct) : Post K H W D' fl := by
  cases fl with
  | nx ρ => cases t
  | rt x => intro v H' a b; rw [h1]; exact h v H' a b
  | bk ρ => intro v H' a b; rw [h2]; exact h v H' a b
  | ct ρ => intro v H' a b; rw [h3]; exact h v H' a b
  | ex x ρ => exact h
theorem bs_stop (h : B1 X st ρ fl) (t : fl.term = true) : Bs X (st :: ss) ρ fl := fun W σ H D tk E q =>
  ⟨_, pss_cons ps_w pss_w, h W σ H _ tk E (q.ends t rfl rfl rfl)⟩
theorem bs_one (h : B1 X st ρ fl) : Bs X [st] ρ fl := fun W σ H D tk E q => ⟨_, pss_one ps_w, h W σ H _ tk E q⟩
theorem b1_ret (h : Ev X e ρ x) : B1 X (.Return (some e) pos) ρ (.rt x) := fun W σ H D tk E q => ⟨_, ps_ret pe_w, h σ H _ E fun v H' sm d => q v H' sm d⟩
theorem b1_retN : B1 X (.Return none pos) ρ (.rt (.d .none)) := fun W σ H D tk E q => ⟨_, ps_retN, q _ H (Same.refl H) Dp.non⟩
theorem b1_retX {y : Xn} (h : EvX X e ρ y) : B1 X (.Return (some e) pos) ρ (.ex y ρ) := fun W σ H D tk E q => ⟨_, ps_ret pe_w, h W σ H _ tk E fun c d H' sm xd => q c d σ H' sm (E.mono sm) xd⟩
theorem b1_set {i : Nat} {n : Str} {p' : Pos} (k : XOk X) (h : Ev X e ρ x) (hi : X.N[i]? = some n) (hx : Loc X.env.scope n) (hs : swapsWith e (some (.Name n p')) pos.line X.env = pure false) (hf : X.fn n = true ∨ X.env.scope.names.lookup n = some .local) :
    B1 X (.Assign [.Name n p'] e pos) ρ (.nx (ρ.set i (some x))) := fun W σ H D tk E q => ⟨_, ps_set k.nd hi hx pe_w hs hf, h σ H _ E fun v H' sm d => q _ H' sm ((E.mono sm).set i d)⟩
theorem b1_setX {i : Nat} {n : Str} {p' : Pos} {y : Xn} (k : XOk X) (h : EvX X e ρ y) (hi : X.N[i]? = some n) (hx : Loc X.env.scope n) (hs : swapsWith e (some (.Name n p')) pos.line X.env = pure false) (hf : X.fn n = true ∨ X.env.scope.names.lookup n = some .local) :
    B1 X (.Assign [.Name n p'] e pos) ρ (.ex y ρ) := fun W σ H D tk E q => ⟨_, ps_set k.nd hi hx pe_w hs hf, h W σ H _ tk E fun c d H' sm xd => q c d σ H' sm (E.mono sm) xd⟩
theorem b1_expr (h : Ev X e ρ x) (hs : swapsWith e none pos.line X.env = pure false) : B1 X (.Expr e pos) ρ (.nx ρ) := fun W σ H D tk E q => ⟨_, ps_expr pe_w hs, h σ H _ E fun v H' sm d => q σ H' sm (E.mono sm)⟩
theorem b1_exprX {y : Xn} (h : EvX X e ρ y) (hs : swapsWith e none pos.line X.env = pure false) : B1 X (.Expr e pos) ρ (.ex y ρ) := fun W σ H D tk E q => ⟨_, ps_expr pe_w hs, h W σ H _ tk E fun c d H' sm xd => q c d σ H' sm (E.mono sm) xd⟩
theorem b1_if {b : Bool} (h : Vt X c ρ b) (h1 : b = true → Bs X body ρ fl) (h2 : b = false → Bs X orelse ρ fl) : B1 X (.If c body orelse pos) ρ fl := fun W σ H D tk E q =>
  ⟨_, ps_if pt_w pss_w pss_w, h σ H _ E fun H' sm => by
    cases b with
    | true => exact iteT (h1 rfl W σ H' D tk (E.mono sm) (q.mono sm))
    | false => exact iteF (h2 rfl W σ H' D tk (E.mono sm) (q.mono sm))⟩
/-- a test whose branch ends the block -/
theorem bs_ifT {b : Bool} (h : Vt X c ρ b) (hb : b = true) (h1 : Bs X body ρ fl) (t : fl.term = true) : Bs X (.If c body orelse pos :: ss) ρ fl := bs_stop (b1_if h (fun _ => h1) (fun z => by rw [hb] at z; cases z)) t
theorem bs_ifF {b : Bool} (h : Vt X c ρ b) (hb : b = false) (h2 : Bs X ss ρ fl) : Bs X (.If c body [] pos :: ss) ρ fl := bs_cons (b1_if h (fun z => by rw [hb] at z; cases z) (fun _ => bs_nil)) h2
/-- both -/
theorem bs_if {b : Bool} (h : Vt X c ρ b) (h1 : b = true → Bs X body ρ fl) (t : b = true → fl.term = true) (h2 : b = false → Bs X ss ρ fl) : Bs X (.If c body [] pos :: ss) ρ fl := by
  cases b with
  | true => exact bs_ifT h rfl (h1 rfl) (t rfl)
  | false => exact bs_ifF h rfl (h2 rfl)
/-- a test whose branch goes on -/
theorem bs_ifN {b : Bool} (h : Vt X c ρ b) (h1 : b = true → Bs X body ρ (.nx ρ')) (h0 : b = false → ρ' = ρ) (h2 : Bs X ss ρ' fl) : Bs X (.If c body [] pos :: ss) ρ fl := bs_cons (b1_if h h1 (fun z => by rw [h0 z]; exact bs_nil)) h2
theorem b1_par {i j : Nat} {n m : Str} {a b : Expr} {y : DV} {px py pt : Pos} {kt k2 pt2} (k : XOk X) (ha : Ev X a ρ x) (hb : Ev X b ρ y) (hi : X.N[i]? = some n) (hj : X.N[j]? = some m) (hij : i ≠ j) (hx : X.env.scope.names.lookup n = some .local) (hy : X.env.scope.names.lookup m = some .local)
    (s1 : starEach [a, b] X.env = (false, eval a X.env) :: starEach [b] X.env) (s2 : starEach [b] X.env = (false, eval b X.env) :: starEach [] X.env)
    (hw : swappedStores [.Tuple [.Name n px, .Name m py] kt pt] (.Tuple [a, b] k2 pt2) X.env = pure (some [n, m])) (hs : swapsWithSole [.Tuple [.Name n px, .Name m py] kt pt] (.Tuple [a, b] k2 pt2) pos.line X.env = pure false) :
    B1 X (.Assign [.Tuple [.Name n px, .Name m py] kt pt] (.Tuple [a, b] k2 pt2) pos) ρ (.nx ((ρ.set i (some x)).set j (some y))) := fun W σ H D tk E q =>
  ⟨_, ps_par k.calm k.nd hi hj hij hx hy pa_w hw hs, ea_cons ha (ea_cons hb ea_nil s2) s1 σ H _ E fun vs H' sm d => by
    cases d with
    | cons d1 d2 =>
      cases d2 with
      | cons d2 d3 =>
        cases d3
        exact ⟨_, _, rfl, q _ H' sm (((E.mono sm).set i d1).set j d2)⟩⟩
/-- a, b, .. = a tuple: by a target -/
theorem b1_unpack {tg : Expr} {g : TG} {d : PyData} (h : Ev X e ρ (.d d)) (hg : PG X tg g) (hq : ∀ (v : V) (σ : L2.St) (H : Hp) (Q : L2.St → Hp → Prop), Env X.K H σ ρ → Dp X.K H v d → (∀ σ', Env X.K H σ' ρ' → Q σ' H) → g v σ H Q)
    (hs : swapsWithSole [tg] e pos.line X.env = pure false) (hw : swappedStores [tg] e X.env = pure none) (h1 : (assignEach [tg] X.env).map (·.2) = [assign tg X.env]) : B1 X (.Assign [tg] e pos) ρ (.nx ρ') := fun W σ H D tk E q =>
  ⟨_, ps_asg pe_w hg hs hw h1, h σ H _ E fun v H' sm dv => hq v σ H' _ (E.mono sm) dv fun σ' E' => q σ' H' sm E'⟩
theorem b1_aug {i : Nat} {n : Str} {op : Operator} {ti : TIp} {p' : Pos} {y z : DV} (k : XOk X) (hρ : ρ[i]? = some (some x)) (h : Ev X e ρ y) (ho : PIp X op ti) (hr : R2V X.K ti x y z) (hi : X.N[i]? = some n) (hx : Loc X.env.scope n) (hf : X.fn n = true ∨ X.env.scope.names.lookup n = some .local) :
    B1 X (.AugAssign (.Name n p') op e pos) ρ (.nx (ρ.set i (some z))) := fun W σ H D tk E q => by
  obtain ⟨v, e1, d1⟩ := E.get i x hρ
  exact ⟨_, ps_aug k.nd hi hx pe_w ho hf, v, e1, h σ H _ E fun u H1 s1 d2 => hr v u H1 _ (d1.mono s1) d2 fun w H2 s2 d3 => q _ H2 (s1.trans s2) ((E.mono (s1.trans s2)).set i d3)⟩
/-- for name in iter: n turns; st k the slots ahead of turn k; fl how it ends at turn m -/
theorem b1_for {tg iter : Expr} {n m : Nat} {f : Nat → PyData} {st ts : Nat → Rho} (k : XOk X) (hi : EvI X tg iter ρ n f) (h0 : ∀ (K : PySem.W.Frag) (H : Hp) (σ : L2.St), Env K H σ ρ → Env K H σ (st 0)) (ht : ∀ j, j < n → ∃ g, PG X tg g ∧ ∀ (v : V) (σ : L2.St) (H : Hp) (Q : L2.St → Hp → Prop), Env X.K H σ (st j) → Dp X.K H v (f j) → (∀ σ', Env X.K H σ' (ts j) → Q σ' H) → g v σ H Q)
    (hb : ∀ j, j < m → j < n → Bs X body (ts j) (.nx (st (j + 1)))) (he : (m = n ∧ fl = .nx (st n)) ∨ (m < n ∧ fl.term = true ∧ (∀ ρ, fl ≠ .bk ρ ∧ fl ≠ .ct ρ) ∧ Bs X body (ts m) fl))
    (hs : ∀ x, foldedSetIterable iter X.env x = pure x) : B1 X (.For tg iter body [] pos) ρ fl := fun W σ H D tk E q => by
  refine ⟨_, ps_for k.po k.calm pi_w (pg_w (tg := tg)) pss_w hs, hi σ H _ E fun J H1 s1 wk => ?_⟩
  obtain ⟨G, Y, w, hG, hY⟩ := wk.ex
  have hm : m ≤ n := by rcases he with ⟨h, _⟩ | ⟨h, _⟩ <;> omega
  refine for_it w (fun j σ' H2 => j ≤ m ∧ Same H1 H2 ∧ Env X.K H2 σ' (st j)) ⟨Nat.zero_le _, Same.refl _, h0 _ _ _ (E.mono s1)⟩ (fun j σ' H2 _ p => hG H2 p.2.1) ?_ ?_
  · rintro j x σ2 H2 H3 hj ⟨hjm, s2, E2⟩ y
    obtain ⟨s3, dx, _⟩ := hY j H2 x H3 hj s2 y
    obtain ⟨g, pg, hg⟩ := ht j hj
    refine ⟨g, pg, hg x σ2 H3 _ (E2.mono s3) dx fun σ4 E4 => ?_⟩
    by_cases hlt : j < m
    · exact hb j hlt hj W σ4 H3 _ tk E4 fun σ5 H5 s5 E5 => ⟨hlt, (s2.trans s3).trans s5, E5⟩
    · have ej : j = m := by omega
      subst ej
      rcases he with ⟨h, _⟩ | ⟨h, t, nb, hbs⟩
      · omega
      · refine hbs W σ4 H3 _ tk E4 ?_
        have q3 : Post X.K H3 W D fl := q.mono ((s1.trans s2).trans s3)
        cases fl with
        | nx ρ => cases t
        | rt x => exact q3
        | bk ρ => exact absurd rfl (nb ρ).1
        | ct ρ => exact absurd rfl (nb ρ).2
        | ex x ρ => exact q3
  · rintro σ2 H2 ⟨hj, s2, E2⟩
    rcases he with ⟨h, rfl⟩ | ⟨h, _⟩
    · exact q σ2 H2 (s1.trans s2) E2
    · omega
/-- while: n turns -/
theorem b1_while {n : Nat} {st : Nat → Rho} (k : XOk X) (h0 : st 0 = ρ) (hc : ∀ j, j ≤ n → Vt X c (st j) (decide (j < n))) (hb : ∀ j, j < n → Bs X body (st j) (.nx (st (j + 1)))) : B1 X (.While c body [] pos) ρ (.nx (st n)) := fun W σ H D tk E q => by
  subst h0
  refine ⟨_, ps_while k.po pt_w pss_w, fun m σ2 H2 => ∃ j, j ≤ n ∧ m = n - j ∧ Same H H2 ∧ Env X.K H2 σ2 (st j), ⟨n, 0, Nat.zero_le _, rfl, Same.refl _, E⟩, ?_⟩
  rintro m σ2 H2 ⟨j, hj, rfl, s2, E2⟩
  refine hc j hj σ2 H2 _ E2 fun H3 s3 => ?_
  by_cases hlt : j < n
  · rw [decide_eq_true hlt]
    refine iteT ⟨fun σ4 H4 => Same H H4 ∧ Env X.K H4 σ4 (st (j + 1)), fun σ4 H4 p => ⟨n - (j + 1), by omega, j + 1, hlt, rfl, p.1, p.2⟩, ?_⟩
    exact hb j hlt W σ2 H3 _ tk (E2.mono s3) fun σ4 H4 s4 E4 => ⟨(s2.trans s3).trans s4, E4⟩
  · rw [decide_eq_false hlt]
    have ej : j = n := by omega
    subst ej
    exact iteF (q σ2 H3 (s2.trans s3) (E2.mono s3))
end

/-! ### a def of the text: from its body to its promise -/
section
variable {P : Program} {w : World} {K : PySem.W.Frag} {mg : Str → Option Value} {base : Heap}
theorem xok_of {CX : CXT} {N : List Str} {qual : Str} {scope : Scope} {f : Addr} {cd : Value} {A : Around} {outer : List PySem.Env} {s : Shared} {H : Hp} {E : XK} (nd : N.Nodup) : XOk (cxOf CX P w K mg base N qual scope f cd A outer s H E) :=
  ⟨rfl, nd, passes_of rfl⟩
/-- a def or a method at f: F what the head says of it; each entry's body by big steps -/
theorem fnok_mk {x qual : Str} {params : Arguments} {body : List Stmt} {scope : Scope} {f : Addr} {fd : FuncData} {N ps : List Str} {k : Nat} {R : List DV → Rs → Prop} (F : FunD K x qual params body scope [] [] f fd) (S : FnScope N ps scope)
    (hbody : ∀ (X : Cx) (cdv : Value) (A : Around) (outer : List PySem.Env) (s : Shared) (H : Hp) (E : XK), X = cxOf (L2.CX P w) P w K mg base N qual scope f cdv A outer s H E → Room k X.A → XOk X → ∀ xs r, xs.length = ps.length → R xs r →
      ∃ ρ', Bs X body (xs.map some ++ List.replicate (N.length - xs.length) none) (match r with | .ok y => .rt y | .ex y => .ex y ρ')) : FnOk P w K mg base (L2.CX P w) (k + 1) f fd ps (spD K ps.length R) := by
  refine F.ok S (fun vs H Q E h => by obtain ⟨xs, r, hl, _⟩ := h; exact hl) (fun cdv A outer s H vs Q E hr h => ?_)
  obtain ⟨xs, r, hl, dr, hR, q⟩ := h
  obtain ⟨ρ', hb'⟩ := hbody _ cdv A outer s H E rfl hr (xok_of S.nd) xs r (by rw [← dr.length]; exact hl) hR
  have tk : Takes (cxOf (L2.CX P w) P w K mg base N qual scope f cdv A outer s H E) (fun cls d _ H => E cls d H) := takes_of rfl rfl rfl rfl
  refine ⟨_, pss_w, hb' _ _ H _ tk (env_start dr N) ?_⟩
  cases r with
  | ok y => exact fun v H' sm d => q v H' sm d
  | ex y => exact fun cls d σ' H' sm _ xd => q cls d H' sm xd
theorem fn_mk {x qual : Str} {params : Arguments} {body : List Stmt} {scope : Scope} {fd : FuncData} {N ps : List Str} {k : Nat} {R : List DV → Rs → Prop} (hm : mg x = some (.ref (He.ga K x))) (F : FunD K x qual params body scope [] [] (He.ga K x) fd) (S : FnScope N ps scope)
    (hb : ∀ (kV doc pm : Value) (an : Option Addr) (cdv ct : Value) (us : List Value), us.length = ps.length → bindArgs (PySem.W.fnOf x qual params body scope .none kV doc pm an cdv ct) ⟨us, []⟩ = pure (ps.zip us))
    (hbody : ∀ (X : Cx) (cdv : Value) (A : Around) (outer : List PySem.Env) (s : Shared) (H : Hp) (E : XK), X = cxOf (L2.CX P w) P w K mg base N qual scope (He.ga K x) cdv A outer s H E → Room k X.A → XOk X → ∀ xs r, xs.length = ps.length → R xs r →
      ∃ ρ', Bs X body (xs.map some ++ List.replicate (N.length - xs.length) none) (match r with | .ok y => .rt y | .ex y => .ex y ρ')) : Fn P w K mg base x ps (k + 1) (spD K ps.length R) :=
  ⟨hm, F.kp, fd, fnok_mk F S hbody, F.bindsN hb⟩
/-- a method of Sealer -/
def Fm (P : Program) (w : World) (K : PySem.W.Frag) (mg : Str → Option Value) (base : Heap) (x : Str) (ps : List Str) (k : Nat) (sp : Sp) : Prop :=
  ∃ fd, FnOk P w K mg base (L2.CX P w) k (He.ma K (He.ga K "Sealer") x) fd ps sp ∧ Binds K fd ps []
theorem fm_mk {x qual : Str} {params : Arguments} {body : List Stmt} {scope : Scope} {fd : FuncData} {N ps : List Str} {k : Nat} {R : List DV → Rs → Prop} (F : FunD K x qual params body scope [] [] (He.ma K (He.ga K "Sealer") x) fd) (S : FnScope N ps scope)
    (hb : ∀ (kV doc pm : Value) (an : Option Addr) (cdv ct : Value) (us : List Value), us.length = ps.length → bindArgs (PySem.W.fnOf x qual params body scope .none kV doc pm an cdv ct) ⟨us, []⟩ = pure (ps.zip us))
    (hbody : ∀ (X : Cx) (cdv : Value) (A : Around) (outer : List PySem.Env) (s : Shared) (H : Hp) (E : XK), X = cxOf (L2.CX P w) P w K mg base N qual scope (He.ma K (He.ga K "Sealer") x) cdv A outer s H E → Room k X.A → XOk X → ∀ xs r, xs.length = ps.length → R xs r →
      ∃ ρ', Bs X body (xs.map some ++ List.replicate (N.length - xs.length) none) (match r with | .ok y => .rt y | .ex y => .ex y ρ')) : Fm P w K mg base x ps (k + 1) (spD K ps.length R) :=
  ⟨fd, fnok_mk F S hbody, F.bindsN hb⟩
end
end Sg
/-! # The mirrors, in plain Lean -/
namespace Sg
open PySem
/-- the signs of a name: 0..9 _ a..z -/
def alpha : List Nat := [48, 49, 50, 51, 52, 53, 54, 55, 56, 57, 95, 97, 98, 99, 100, 101, 102, 103, 104, 105, 106, 107, 108, 109, 110, 111, 112, 113, 114, 115, 116, 117, 118, 119, 120, 121, 122]
def code (c : Nat) : Nat := alpha.idxOf c + 1
def digitAt (x : Str) (k : Nat) : Nat := match x.cps.toList[k]? with
  | some c => code c
  | none => 0
/-- the number of a name, the first n of its eight places -/
def numTo (x : Str) : Nat → Nat
  | 0 => 0
  | n + 1 => numTo x n * 64 + digitAt x n
def num (x : Str) : Nat := numTo x 8
def IsNm (x : Str) : Prop := 1 ≤ x.length ∧ x.length ≤ 8 ∧ ∀ c ∈ x.cps.toList, c ∈ alpha
structure Sm where
  sv : Int
  cnt : Int
  sums : List Int
  lo : Str
  hi : Str
inductive Tr where
  | leaf (n : Str) (ws ns : List Int)
  | br (l r : Tr)
  | cut (s : Sm)
/-! ### as data -/
def dI (ns : List Int) : PyData := .tuple (ns.map .int)
def dSm (s : Sm) : PyData := .tuple [.int s.sv, .int s.cnt, dI s.sums, .str s.lo, .str s.hi]
def dTr : Tr → PyData
  | .leaf n ws ns => .tuple [.str "leaf", .str n, dI ws, dI ns]
  | .br l r => .tuple [.str "branch", dTr l, dTr r]
  | .cut s => .tuple [.str "cut", dSm s]
/-! ### rows, seals, summaries -/
def sealF (m : Int) (row : List Int) : Int := (row ++ [(row.length : Int)]).foldl (fun v n => (v * v * v + 5 * v + 3 * n + 1) % m) 1
def leafRow (n : Str) (ws ns : List Int) : List Int := [0, (num n : Int), (ws.length : Int)] ++ ws ++ ns
def smNums (s : Sm) : List Int := [s.sv, s.cnt] ++ s.sums ++ [(num s.lo : Int), (num s.hi : Int)]
def brRow (l r : Sm) : List Int := [1, (l.sums.length : Int)] ++ smNums l ++ smNums r
def addL (xs ys : List Int) : List Int := List.zipWith (· + ·) xs ys
def brSm (m : Int) (l r : Sm) : Sm := ⟨sealF m (brRow l r), l.cnt + r.cnt, addL l.sums r.sums, l.lo, r.hi⟩
def summ (m : Int) : Tr → Sm
  | .leaf n ws ns => ⟨sealF m (leafRow n ws ns), 1, ws, n, n⟩
  | .br l r => brSm m (summ m l) (summ m r)
  | .cut s => s
def rowOf (m : Int) : Tr → List Int
  | .leaf n ws ns => leafRow n ws ns
  | .br l r => brRow (summ m l) (summ m r)
  | .cut _ => []
def topRow (m : Int) (t : Tr) : List Int := [3, ((summ m t).sums.length : Int)] ++ smNums (summ m t)
def rootOf (m : Int) (t : Tr) : Int := sealF m (topRow m t)
def loOf : Tr → Str
  | .leaf n _ _ => n
  | .br l _ => loOf l
  | .cut s => s.lo
def hiOf : Tr → Str
  | .leaf n _ _ => n
  | .br _ r => hiOf r
  | .cut s => s.hi
def depth : Tr → Nat
  | .br l r => max (depth l) (depth r) + 1
  | _ => 0
/-- what holds of every summary, of every tree here: k kinds -/
structure SmOk (k : Nat) (s : Sm) : Prop where
  len : s.sums.length = k
  lo : IsNm s.lo
  hi : IsNm s.hi
def TrOk (k : Nat) : Tr → Prop
  | .leaf n ws ns => IsNm n ∧ ws.length = k ∧ ns.length ≤ 12
  | .br l r => TrOk k l ∧ TrOk k r
  | .cut s => SmOk k s
theorem summ_ok {m : Int} {k : Nat} : ∀ {t : Tr}, TrOk k t → SmOk k (summ m t)
  | .leaf n ws ns, h => ⟨h.2.1, h.1, h.1⟩
  | .br l r, h => by
    have a := summ_ok (m := m) h.1
    have b := summ_ok (m := m) h.2
    refine ⟨?_, a.lo, b.hi⟩
    show (addL _ _).length = k
    unfold addL
    rw [List.length_zipWith, a.len, b.len, Nat.min_self]
  | .cut s, h => h
theorem summ_lo (m : Int) : ∀ t : Tr, (summ m t).lo = loOf t
  | .leaf _ _ _ => rfl
  | .br l _ => summ_lo m l
  | .cut _ => rfl
theorem summ_hi (m : Int) : ∀ t : Tr, (summ m t).hi = hiOf t
  | .leaf _ _ _ => rfl
  | .br _ r => summ_hi m r
  | .cut _ => rfl
/-! ### bits and partings -/
/-- the bit at a place, from the highest of 48 -/
def bitAt (x : Str) (p : Nat) : Int := (num x : Int) / 2 ^ (47 - p) % 2
def part (x y : Str) : Option Int := if num x ^^^ num y = 0 then none else some (48 - ((num x ^^^ num y).log2 + 1 : Nat))
def dOI : Option Int → PyData
  | none => .none
  | some k => .int k
/-! ### questions -/
inductive Qn where
  | leaf (n : Str)
  | several (ns : List Str)
  | count
  | total
  | range (a b : Str)
  | rank (n : Str)
  | place (k : Int)
  | next (n : Str)
def dQ : Qn → PyData
  | .leaf n => .tuple [.str "leaf", .str n]
  | .several ns => .tuple [.str "several", .tuple (ns.map .str)]
  | .count => .tuple [.str "count"]
  | .total => .tuple [.str "total"]
  | .range a b => .tuple [.str "range", .str a, .str b]
  | .rank n => .tuple [.str "rank", .str n]
  | .place k => .tuple [.str "place", .int k]
  | .next n => .tuple [.str "next", .str n]
def dQo : Option Qn → PyData
  | none => .none
  | some q => dQ q
def QnOk : Qn → Prop
  | .leaf n => IsNm n
  | .several ns => ns.length ≤ 10 ∧ ∀ n ∈ ns, IsNm n
  | .count => True
  | .total => True
  | .range a b => IsNm a ∧ IsNm b
  | .rank n => IsNm n
  | .place k => 0 ≤ k
  | .next n => IsNm n
/-- no question for several -/
def Qn.one : Qn → Bool
  | .several _ => false
  | _ => true
inductive An where
  | non
  | i (n : Int)
  | nm (s : Str)
  | tot (ws : List Int)
  | rng (c : Int) (s : Option (List Int))
  | lf (ws ns : List Int)
def dOL : Option (List Int) → PyData
  | none => .none
  | some ws => dI ws
def dA : An → PyData
  | .non => .none
  | .i n => .int n
  | .nm s => .str s
  | .tot ws => dI ws
  | .rng c s => .tuple [.int c, dOL s]
  | .lf ws ns => .tuple [dI ws, dI ns]
def dT : Option An → PyData
  | none => .none
  | some a => .tuple [.str "told", dA a]
def leafTold (n : Str) (s : Sm) : Option An := if num s.lo ≤ num n ∧ num n ≤ num s.hi then none else some .non
def rangeTold (a b : Str) (s : Sm) : Option An :=
  if num s.hi < num a ∨ num b < num s.lo ∨ num b < num a then some (.rng 0 none) else if num a ≤ num s.lo ∧ num s.hi ≤ num b then some (.rng s.cnt (some s.sums)) else none
def rankTold (n : Str) (s : Sm) : Option An := if num n ≤ num s.lo then some (.i 0) else if num s.hi < num n then some (.i s.cnt) else none
def placeTold (k : Int) (s : Sm) : Option An := if s.cnt ≤ k then some .non else if k = 0 then some (.nm s.lo) else if k = s.cnt - 1 then some (.nm s.hi) else none
def nextTold (n : Str) (s : Sm) : Option An := if num n < num s.lo then some (.nm s.lo) else if num s.hi ≤ num n then some .non else none
def toldM (q : Qn) (s : Sm) : Option An := match q with
  | .leaf n => leafTold n s
  | .several _ => none
  | .count => some (.i s.cnt)
  | .total => some (.tot s.sums)
  | .range a b => rangeTold a b s
  | .rank n => rankTold n s
  | .place k => placeTold k s
  | .next n => nextTold n s
def sideQ (q : Qn) (l r : Sm) : Option Qn × Option Qn := match q with
  | .place k => if k < l.cnt then (some (.place k), none) else (none, some (.place (k - l.cnt)))
  | .next n => if num n < num l.hi then (some (.next n), none) else (none, some (.next n))
  | .leaf n => if num n ≤ num l.hi then (some (.leaf n), none) else (none, some (.leaf n))
  | q => (some q, some q)
def joinR : Int → Option (List Int) → Int → Option (List Int) → An
  | c, s, c', s' => if c = 0 then .rng c' s' else if c' = 0 then .rng c s else .rng (c + c') (some (addL (s.getD []) (s'.getD [])))
def joinA (q : Qn) (a b : An) : An := match q, a, b with
  | .range _ _, .rng c s, .rng c' s' => joinR c s c' s'
  | _, .i n, .i n' => .i (n + n')
  | _, _, _ => .non
def ansM (m : Int) : Tr → Qn → Except Str An
  | .cut s, q => match toldM q s with
    | some a => .ok a
    | none => .error s.lo
  | .leaf n ws ns, q => match toldM q (summ m (.leaf n ws ns)) with
    | some a => .ok a
    | none => .ok (.lf ws ns)
  | .br l r, q => match toldM q (summ m (.br l r)) with
    | some a => .ok a
    | none => match sideQ q (summ m l) (summ m r) with
      | (some ql, none) => ansM m l ql
      | (none, some qr) => ansM m r qr
      | (some ql, some qr) => match ansM m l ql with
        | .error e => .error e
        | .ok a => match ansM m r qr with
          | .error e => .error e
          | .ok b => .ok (joinA q a b)
      | (none, none) => .ok .non
def sevM (m : Int) (t : Tr) : List Str → Except Str (List An)
  | [] => .ok []
  | n :: ns => match ansM m t (.leaf n) with
    | .error e => .error e
    | .ok a => match sevM m t ns with
      | .error e => .error e
      | .ok as => .ok (a :: as)
def askM (m : Int) (t : Tr) (q : Qn) : Except Str PyData := match q with
  | .several ns => match sevM m t ns with
    | .error e => .error e
    | .ok as => .ok (.tuple (as.map dA))
  | q => match ansM m t q with
    | .error e => .error e
    | .ok a => .ok (dA a)
/-! ### collisions -/
def walkM (m : Int) : Tr → Tr → Option (List Int × List Int)
  | .cut _, _ => none
  | .leaf n ws ns, b => match b with
    | .cut _ => none
    | b => if leafRow n ws ns = rowOf m b then none else some (leafRow n ws ns, rowOf m b)
  | .br l r, b => match b with
    | .cut _ => none
    | .leaf n ws ns => if brRow (summ m l) (summ m r) = leafRow n ws ns then none else some (brRow (summ m l) (summ m r), leafRow n ws ns)
    | .br l' r' => if brRow (summ m l) (summ m r) = brRow (summ m l') (summ m r') then (match walkM m l l' with
        | some p => some p
        | none => walkM m r r') else some (brRow (summ m l) (summ m r), brRow (summ m l') (summ m r'))
def findM (m : Int) (a b : Tr) : Option (List Int × List Int) := if rootOf m a = rootOf m b then (if topRow m a = topRow m b then walkM m a b else some (topRow m a, topRow m b)) else none
def dW : Option (List Int × List Int) → PyData
  | none => .none
  | some (x, y) => .tuple [dI x, dI y]
def unionM : Tr → Tr → Tr
  | .cut _, b => b
  | .br l r, .br l' r' => .br (unionM l l') (unionM r r')
  | .leaf n ws ns, _ => .leaf n ws ns
  | .br l r, .leaf _ _ _ => .br l r
  | .br l r, .cut _ => .br l r
def cutP : Tr → Bool
  | .cut _ => true
  | _ => false
/-! ### well-formed trees -/
def Inside (t : Tr) (p : Nat) (b : Int) : Prop := bitAt (loOf t) p = b ∧ bitAt (hiOf t) p = b ∧ ∀ q, part (loOf t) (hiOf t) = some q → (p : Int) < q
def Sides (l r : Tr) : Prop := ∃ p : Nat, p < 48 ∧ part (loOf l) (hiOf r) = some (p : Int) ∧ Inside l p 0 ∧ Inside r p 1
structure SmV (m : Int) (k : Nat) (s : Sm) : Prop where
  ok : SmOk k s
  sv0 : 0 ≤ s.sv
  sv1 : s.sv < m
  c0 : 1 ≤ s.cnt
  c1 : s.cnt ≤ 1000000000000000000000000
  am : ∀ a ∈ s.sums, 0 ≤ a ∧ a ≤ 1000000000000000000000000
  one : s.cnt = 1 → s.lo = s.hi
  two : s.cnt ≠ 1 → num s.lo < num s.hi
def Lf (k : Nat) (n : Str) (ws ns : List Int) : Prop := IsNm n ∧ ws.length = k ∧ (∀ w ∈ ws, 0 ≤ w ∧ w ≤ 1000000000000000) ∧ ns.length ≤ 12 ∧ ∀ x ∈ ns, 0 ≤ x ∧ x ≤ 2305843009213693952
def WfT (m : Int) (k : Nat) : Tr → Prop
  | .leaf n ws ns => Lf k n ws ns
  | .br l r => WfT m k l ∧ WfT m k r ∧ Sides l r
  | .cut s => SmV m k s
theorem WfT.ok {m : Int} {k : Nat} : ∀ {t : Tr}, WfT m k t → TrOk k t
  | .leaf _ _ _, h => ⟨h.1, h.2.1, h.2.2.2.1⟩
  | .br _ _, h => ⟨WfT.ok h.1, WfT.ok h.2.1⟩
  | .cut _, h => SmV.ok h
theorem lo_nm {k : Nat} : ∀ {t : Tr}, TrOk k t → IsNm (loOf t)
  | .leaf _ _ _, h => h.1
  | .br l _, h => lo_nm (t := l) h.1
  | .cut _, h => h.lo
theorem hi_nm {k : Nat} : ∀ {t : Tr}, TrOk k t → IsNm (hiOf t)
  | .leaf _ _ _, h => h.1
  | .br _ r, h => hi_nm (t := r) h.2
  | .cut _, h => h.hi
end Sg
namespace Sg
open PySem PySem.Spec L2
/-! ### the text -/
def top (i : Nat) : Stmt := PySem.Challenge.pw_sumgrove_k11_whole_two_answers_hand_out.main.body.getD i (.Pass ⟨0, 0, 0, 0⟩)
abbrev s_is_name : Stmt := top 12
abbrev s_number_of : Stmt := top 13
abbrev s_bit_at : Stmt := top 14
abbrev s_parting : Stmt := top 15
abbrev s_least_of : Stmt := top 23
abbrev s_greatest_of : Stmt := top 24
abbrev s_leaf_row : Stmt := top 25
abbrev s_summary_numbers : Stmt := top 26
abbrev s_branch_row : Stmt := top 27
abbrev s_branch_summary : Stmt := top 28
abbrev s_summary_of : Stmt := top 29
abbrev s_row_of : Stmt := top 30
abbrev s_top_row : Stmt := top 31
abbrev s_root_of : Stmt := top 32
abbrev s_are_worths : Stmt := top 33
abbrev s_are_notes : Stmt := top 34
abbrev s_is_leaf : Stmt := top 35
abbrev s_is_summary : Stmt := top 36
abbrev s_are_sides : Stmt := top 37
abbrev s_is_inside : Stmt := top 38
abbrev s_kinds_of : Stmt := top 39
abbrev s_has_valid_parts : Stmt := top 40
abbrev s_has_order : Stmt := top 41
abbrev s_is_well_formed : Stmt := top 42
abbrev s_leaf_told : Stmt := top 44
abbrev s_range_told : Stmt := top 45
abbrev s_rank_told : Stmt := top 46
abbrev s_place_told : Stmt := top 47
abbrev s_next_told : Stmt := top 48
abbrev s_told : Stmt := top 49
abbrev s_side_questions : Stmt := top 50
abbrev s_joined_ranges : Stmt := top 51
abbrev s_part_answer : Stmt := top 52
abbrev s_branch_answer : Stmt := top 53
abbrev s_ask : Stmt := top 55
abbrev s_answer : Stmt := top 57
abbrev s_is_collision : Stmt := top 62
abbrev s_walk : Stmt := top 64
abbrev s_find_collision : Stmt := top 65
abbrev s_union : Stmt := top 67
abbrev s_check_alike : Stmt := top 68
abbrev s_join_trees : Stmt := top 69
abbrev s__law_cell : Stmt := top 71
abbrev s__law_name : Stmt := top 72
abbrev s__law_number : Stmt := top 73
abbrev s__law_bits : Stmt := top 74
abbrev s__law_leaves : Stmt := top 76
abbrev s__law_seal : Stmt := top 77
abbrev s__law_numbers : Stmt := top 78
abbrev s__law_row : Stmt := top 79
abbrev s__law_summary : Stmt := top 80
abbrev s__law_top : Stmt := top 81
abbrev s__law_root : Stmt := top 82
abbrev s__law_built : Stmt := top 83
abbrev s__law_split : Stmt := top 84
abbrev s__law_cut : Stmt := top 85
abbrev s__law_question : Stmt := top 90
abbrev s__law_with_notes : Stmt := top 93
abbrev s__law_second : Stmt := top 94
abbrev s__law_checked : Stmt := top 95
abbrev s__law_joined : Stmt := top 96
abbrev s_law : Stmt := top 97
def mkD (x : String) (s : Stmt) : He.DefD := ⟨(x, none), x, x, defArgs s, defBody s, defScope s, [], []⟩
abbrev s_Sealer_init : Stmt := inClass (top 61) 0
def d_Sealer_init : He.DefD := ⟨("Sealer", some "__init__"), "__init__", "Sealer.__init__", defArgs s_Sealer_init, defBody s_Sealer_init, defScope s_Sealer_init, [], []⟩
abbrev s_Sealer_modulus : Stmt := inClass (top 61) 1
def d_Sealer_modulus : He.DefD := ⟨("Sealer", some "modulus"), "modulus", "Sealer.modulus", defArgs s_Sealer_modulus, defBody s_Sealer_modulus, defScope s_Sealer_modulus, [], []⟩
abbrev s_Sealer_seal : Stmt := inClass (top 61) 2
def d_Sealer_seal : He.DefD := ⟨("Sealer", some "seal"), "seal", "Sealer.seal", defArgs s_Sealer_seal, defBody s_Sealer_seal, defScope s_Sealer_seal, [], []⟩
def fn0 : List He.DefD := [mkD "is_name" s_is_name, mkD "number_of" s_number_of, mkD "bit_at" s_bit_at, mkD "parting" s_parting, mkD "least_of" s_least_of, mkD "greatest_of" s_greatest_of, mkD "leaf_row" s_leaf_row, mkD "summary_numbers" s_summary_numbers, mkD "branch_row" s_branch_row, mkD "branch_summary" s_branch_summary, mkD "summary_of" s_summary_of, mkD "row_of" s_row_of, mkD "top_row" s_top_row, mkD "root_of" s_root_of, mkD "are_worths" s_are_worths, mkD "are_notes" s_are_notes, mkD "is_leaf" s_is_leaf, mkD "is_summary" s_is_summary, mkD "are_sides" s_are_sides, mkD "is_inside" s_is_inside, mkD "kinds_of" s_kinds_of, mkD "has_valid_parts" s_has_valid_parts, mkD "has_order" s_has_order, mkD "is_well_formed" s_is_well_formed, mkD "leaf_told" s_leaf_told, mkD "range_told" s_range_told, mkD "rank_told" s_rank_told, mkD "place_told" s_place_told, mkD "next_told" s_next_told, mkD "told" s_told]
def fn1 : List He.DefD := [mkD "side_questions" s_side_questions, mkD "joined_ranges" s_joined_ranges, mkD "part_answer" s_part_answer, mkD "branch_answer" s_branch_answer, mkD "ask" s_ask, mkD "answer" s_answer, mkD "is_collision" s_is_collision, mkD "walk" s_walk, mkD "find_collision" s_find_collision, mkD "union" s_union, mkD "check_alike" s_check_alike, mkD "join_trees" s_join_trees, mkD "_law_cell" s__law_cell, mkD "_law_name" s__law_name, mkD "_law_number" s__law_number, mkD "_law_bits" s__law_bits, mkD "_law_leaves" s__law_leaves, mkD "_law_seal" s__law_seal, mkD "_law_numbers" s__law_numbers, mkD "_law_row" s__law_row, mkD "_law_summary" s__law_summary, mkD "_law_top" s__law_top, mkD "_law_root" s__law_root, mkD "_law_built" s__law_built, mkD "_law_split" s__law_split, mkD "_law_cut" s__law_cut, mkD "_law_question" s__law_question, mkD "_law_with_notes" s__law_with_notes, mkD "_law_second" s__law_second, mkD "_law_checked" s__law_checked]
def fn2 : List He.DefD := [mkD "_law_joined" s__law_joined, mkD "law" s_law, d_Sealer_init, d_Sealer_modulus, d_Sealer_seal]
def fn : List He.DefD := fn0 ++ fn1 ++ fn2
def gloN0 : List Str := ["is_name", "number_of", "bit_at", "parting", "least_of", "greatest_of", "leaf_row", "summary_numbers", "branch_row", "branch_summary", "summary_of", "row_of", "top_row", "root_of", "are_worths", "are_notes", "is_leaf", "is_summary", "are_sides", "is_inside", "kinds_of", "has_valid_parts", "has_order", "is_well_formed", "leaf_told", "range_told", "rank_told", "place_told", "next_told", "told"]
def gloN1 : List Str := ["side_questions", "joined_ranges", "part_answer", "branch_answer", "ask", "answer", "is_collision", "walk", "find_collision", "union", "check_alike", "join_trees", "_law_cell", "_law_name", "_law_number", "_law_bits", "_law_leaves", "_law_seal", "_law_numbers", "_law_row", "_law_summary", "_law_top", "_law_root", "_law_built", "_law_split", "_law_cut", "_law_question", "_law_with_notes", "_law_second", "_law_checked"]
def gloN2 : List Str := ["_law_joined", "law", "Sealer", "NotShown", "Unlike", "InvalidTree", "WrongRoot", "InvalidSealer", "GroveError"]
def gloN : List Str := gloN0 ++ gloN1 ++ gloN2
def freeN : List Str := ["len", "range", "int", "tuple", "list", "all", "zip", "abs", "dict", "sorted", "super", "ValueError"]
def intN : List (Str × Int) := [("NAME_LIMIT", 8), ("PLACES", 48), ("AMOUNT_LIMIT", 1000000000000000), ("KIND_LIMIT", 3), ("NOTE_LIMIT", 12), ("NOTE_GREATEST", 2305843009213693952), ("CUT_LIMIT", 1000000000000000000000000), ("LEAST_MODULUS", 3), ("GREATEST_MODULUS", 2305843009213693951)]
def fa : List He.Fa := gloN.map He.Fa.glo ++ (freeN.map He.Fa.free ++ (intN.map (fun p => He.Fa.int p.1 p.2) ++ [.str "ALPHABET" "0123456789_abcdefghijklmnopqrstuvwxyz", .cls "Sealer", .noat "Sealer" "_modulus", .meth "Sealer" "seal", .meth "Sealer" "modulus", .mkr "Sealer"]))
/-! ### what the top has written -/
structure Wd (K : PySem.W.Frag) (mg : Str → Option Value) : Prop where
  glo : ∀ x : Str, gloN.contains x = true → mg x = some (.ref (He.ga K x))
  free : ∀ x : Str, freeN.contains x = true → mg x = none
  int : ∀ (x : Str) (v : Int), intN.lookup x = some v → ∃ t, mg x = some (.int v t)
  alph : ∃ t, mg "ALPHABET" = some (.str "0123456789_abcdefghijklmnopqrstuvwxyz" t)
  defs : ∀ (i : Nat) (d : He.DefD), fn[i]? = some d → ∃ fd, FunD K d.name d.qual d.params d.body d.scope [] [] (He.fAd K d.at_) fd
  cls : Cls K (He.ga K "Sealer")
  noat : NoAttr K (He.ga K "Sealer") "_modulus"
  methS : Meth K (He.ga K "Sealer") "seal" (He.ma K (He.ga K "Sealer") "seal")
  methM : Meth K (He.ga K "Sealer") "modulus" (He.ma K (He.ga K "Sealer") "modulus")
  mkr : Mk K (He.ga K "Sealer") (He.ma K (He.ga K "Sealer") "__init__")
/-! ### more rules, by data -/
section
variable {X : Cx} {ρ : Rho} {e a b c : Expr} {es : List Expr} {x y z : DV} {pos p : Pos} {i j : Int} {s t : Str} {ds : List PyData}
def findN : List Str → Str → Nat → Option Nat
  | [], _, _ => none
  | a :: r, x, k => if a = x then some k else findN r x (k + 1)
theorem findN_get : ∀ {l : List Str} {x : Str} {k j : Nat}, findN l x k = some j → k ≤ j ∧ l[j - k]? = some x
  | [], _, _, _, h => by cases h
  | a :: r, x, k, j, h => by
    unfold findN at h
    split at h
    · rename_i e
      cases h
      exact ⟨Nat.le_refl _, by simp [e]⟩
    · obtain ⟨h1, h2⟩ := findN_get h
      refine ⟨by omega, ?_⟩
      rw [show j - k = (j - (k + 1)) + 1 by omega]
      simpa using h2
theorem ev_name {k : Nat} {n : Str} (hk : findN X.N n 0 = some k) (hρ : ρ[k]? = some (some x)) (hv : Vis X.env.scope n) (hd : (n == ("__debug__" : Str)) = false) (hcd : (n == ("__classdict__" : Str)) = false) : Ev X (.Name n pos) ρ x :=
  ev_var hρ (by simpa using (findN_get hk).2) hv hd hcd
/-- an operator on data -/
def OpD (X : Cx) (op : Operator) (x y z : DV) : Prop := ∃ r, OpR X (binaryOp op) r ∧ R2V X.K r x y z
theorem ev_bin {op : Operator} (ha : Ev X a ρ x) (hb : Ev X b ρ y) (h : OpD X op x y z) : Ev X (.BinOp a op b pos) ρ z := let ⟨_, h1, h2⟩ := h; ev_op h1 ha hb h2
theorem od_add : OpD X .Add (.d (.int i)) (.d (.int j)) (.d (.int (i + j))) := ⟨_, op_add, r_I0 (gd := fun i j => .int (i + j)) fun _ _ _ => .int _⟩
theorem od_sub : OpD X .Sub (.d (.int i)) (.d (.int j)) (.d (.int (i - j))) := ⟨_, op_sub, r_I0 (gd := fun i j => .int (i - j)) fun _ _ _ => .int _⟩
theorem od_mul (hc : CMul i j) : OpD X .Mult (.d (.int i)) (.d (.int j)) (.d (.int (i * j))) := ⟨_, op_mul, r_I (gd := fun i j => .int (i * j)) hc fun _ _ _ => .int _⟩
theorem od_div (hc : CDiv i j) : OpD X .FloorDiv (.d (.int i)) (.d (.int j)) (.d (.int (i / j))) := ⟨_, op_fdiv, r_I (gd := fun i j => .int (i / j)) hc fun _ _ _ => .int _⟩
theorem od_mod (hc : 0 < j) : OpD X .Mod (.d (.int i)) (.d (.int j)) (.d (.int (i % j))) := ⟨_, op_mod, r_I (C := fun _ j => 0 < j) (gd := fun i j => .int (i % j)) hc fun _ _ _ => .int _⟩
theorem od_shr (hc : 0 ≤ j) : OpD X .RShift (.d (.int i)) (.d (.int j)) (.d (.int (i / 2 ^ j.toNat))) := ⟨_, op_shr, r_I (C := fun _ j => 0 ≤ j) (gd := fun i j => .int (i / 2 ^ j.toNat)) hc fun _ _ _ => .int _⟩
theorem od_xor : OpD X .BitXor (.d (.int i)) (.d (.int j)) (.d (.int (Builtin.bitXor i j))) := ⟨_, op_xor, r_I0 (gd := fun i j => .int (Builtin.bitXor i j)) fun _ _ _ => .int _⟩
theorem od_adds (hc : s.length + t.length ≤ sizeLine) : OpD X .Add (.d (.str s)) (.d (.str t)) (.d (.str (s ++ t))) := ⟨_, op_add_str, fun v u H Q d1 d2 q => by
  have d1 : Dp X.K H v (.str s) := d1
  have d2 : Dp X.K H u (.str t) := d2
  cases d1; cases d2
  exact ⟨s, t, rfl, rfl, hc, q _ H (Same.refl H) (Dp.str _)⟩⟩
theorem od_addt {ds es : List PyData} (hc : ds.length + es.length ≤ 1000) : OpD X .Add (.d (.tuple ds)) (.d (.tuple es)) (.d (.tuple (ds ++ es))) := ⟨_, op_catA, fun v u H Q d1 d2 q => by
  have d1 : Dp X.K H v (.tuple ds) := d1
  have d2 : Dp X.K H u (.tuple es) := d2
  cases d1 with
  | tup h1 a1 =>
    cases d2 with
    | tup h2 a2 =>
      refine ⟨_, _, _, _, rfl, rfl, h1, h2, by rw [dpAll_length a1, dpAll_length a2]; exact Nat.le_of_lt (small1000 hc), fun e => ?_, fun n e => ?_, fun n1 n2 p hp => ?_⟩
      · refine q _ H (Same.refl H) ?_
        subst e
        cases a1
        exact .tup h2 a2
      · refine q _ H (Same.refl H) ?_
        subst e
        cases a2
        rw [List.append_nil]
        exact .tup h1 a1
      · have sm := fun o => same_new hp o
        exact q _ _ (sm _) (.tup (SqT.of upd_same) (dpAll_append (dpAll_mono (sm _) _ _ a1) (dpAll_mono (sm _) _ _ a2)))⟩
/-- a comparison on data -/
def CmD (X : Cx) (op : CmpOp) (x y : DV) (k : Bool) : Prop := ∃ r, OpR X (compareOp op) r ∧ R2V X.K r x y (.d (.bool k))
theorem ev_cm {op : CmpOp} {k : Bool} (ha : Ev X a ρ x) (hb : Ev X b ρ y) (h : CmD X op x y k) (hm : behindInMarks op b = false) : Ev X (.Compare a [op] [b] pos) ρ (.d (.bool k)) := let ⟨_, h1, h2⟩ := h; ev_cmp h1 ha hb h2 hm
theorem vt_cm {op : CmpOp} {k : Bool} (ha : Ev X a ρ x) (hb : Ev X b ρ y) (h : CmD X op x y k) (hm : behindInMarks op b = false) : Vt X (.Compare a [op] [b] pos) ρ k := let ⟨_, h1, h2⟩ := h; vt_cmp h1 ha hb h2 hm
theorem ev_cm2 {op op' : CmpOp} {k l : Bool} (ha : Ev X a ρ x) (hb : Ev X b ρ y) (hc : Ev X c ρ z) (h : CmD X op x y k) (h' : CmD X op' y z l) (hm : lastMarks [op, op'] [b, c] = false) : Ev X (.Compare a [op, op'] [b, c] pos) ρ (.d (.bool (k && l))) :=
  let ⟨_, h1, h2⟩ := h; let ⟨_, g1, g2⟩ := h'; ev_chain (w := x) h1 g1 ha hb hc h2 g2 hm
theorem vt_cm2 {op op' : CmpOp} {k l : Bool} (ha : Ev X a ρ x) (hb : Ev X b ρ y) (hc : Ev X c ρ z) (h : CmD X op x y k) (h' : CmD X op' y z l) (hm : lastMarks [op, op'] [b, c] = false) : Vt X (.Compare a [op, op'] [b, c] pos) ρ (k && l) :=
  let ⟨_, h1, h2⟩ := h; let ⟨_, g1, g2⟩ := h'; vt_chain (w := x) h1 g1 ha hb hc h2 g2 hm
theorem cd_lt : CmD X .Lt (.d (.int i)) (.d (.int j)) (decide (i < j)) := ⟨_, op_lt, r_lt⟩
theorem cd_le : CmD X .LtE (.d (.int i)) (.d (.int j)) (decide (i ≤ j)) := ⟨_, op_le, r_le⟩
theorem cd_gt : CmD X .Gt (.d (.int i)) (.d (.int j)) (decide (j < i)) := ⟨_, op_gt, r_gt⟩
theorem cd_ge : CmD X .GtE (.d (.int i)) (.d (.int j)) (decide (j ≤ i)) := ⟨_, op_ge, r_ge⟩
theorem cd_eqI : CmD X .Eq (.d (.int i)) (.d (.int j)) (decide (i = j)) := ⟨_, op_eq, r_eqI⟩
theorem cd_eqS : CmD X .Eq (.d (.str s)) (.d (.str t)) (decide (s = t)) := ⟨_, op_eq, r_eqS⟩
theorem cd_neI : CmD X .NotEq (.d (.int i)) (.d (.int j)) (!decide (i = j)) := ⟨_, op_ne, r_neI⟩
theorem cd_neS : CmD X .NotEq (.d (.str s)) (.d (.str t)) (!decide (s = t)) := ⟨_, op_ne, r_neS⟩
theorem cd_isN {d : PyData} : CmD X .Is (.d d) (.d .none) (isN d) := ⟨_, op_isN, r_isN⟩
theorem cd_notN {d : PyData} : CmD X .IsNot (.d d) (.d .none) (!isN d) := ⟨_, op_notN, r_notN⟩
theorem cd_in {c : Nat} : CmD X .In (.d (.str ⟨#[c]⟩)) (.d (.str s)) (decide (c ∈ s.cps.toList)) := ⟨_, op_in_sign, r_inS⟩
theorem cd_neD {d e : PyData} {k : Nat} (hr : Room k X.A) (h1 : SeqAt.shaped d = true) (h2 : SeqAt.shaped e = true) : CmD X .NotEq (.d d) (.d e) (!PyData.eqv d e) := ⟨_, op_neD hr.units, r_neD h1 h2⟩
theorem cd_eqD {d e : PyData} {k : Nat} (hr : Room k X.A) (h1 : SeqAt.shaped d = true) (h2 : SeqAt.shaped e = true) : CmD X .Eq (.d d) (.d e) (PyData.eqv d e) := ⟨_, op_eqD hr.units, r_eqD h1 h2⟩
theorem CmD.is {op : CmpOp} {k l : Bool} (h : CmD X op x y k) (e : k = l) : CmD X op x y l := e ▸ h
theorem ev_orB {k l : Bool} {rest : List Expr} (h : Ev X a ρ (.d (.bool k))) (g : k = false → Ev X (.BoolOp .Or (b :: rest) pos) ρ (.d (.bool l))) : Ev X (.BoolOp .Or (a :: b :: rest) pos) ρ (.d (.bool (k || l))) :=
  ev_of_pe (pe_or pe_w pe_w) fun σ H Q E q => h σ H _ E fun v H1 s1 d1 => by
    have d1 : Dp X.K H1 v (.bool k) := d1
    cases d1
    refine ⟨k, rfl, ?_⟩
    cases k with
    | false => exact g rfl σ H1 Q (E.mono s1) fun v H2 s2 d2 => q v H2 (s1.trans s2) d2
    | true => exact q _ H1 s1 (Dp.bl _)
/-- a subscript on data -/
def IxD (X : Cx) (x y z : DV) : Prop := ∃ r, IxR X r ∧ R2V X.K r x y z
theorem ev_ix (ha : Ev X a ρ x) (hb : Ev X b ρ y) (h : IxD X x y z) (hp : PlainIx b) : Ev X (.Subscript a b pos) ρ z := by
  obtain ⟨r, h1, h2⟩ := h
  exact ev_of_pe (pe_ix h1 pe_w pe_w hp) fun σ H Q E q => ha σ H _ E fun v H1 s1 d1 => hb σ H1 _ (E.mono s1) fun u H2 s2 d2 => h2 v u H2 Q (d1.mono s2) d2 fun w H3 s3 d3 => q w H3 ((s1.trans s2).trans s3) d3
theorem xd_tup {d : PyData} (hi : atI ds i = some d) : IxD X (.d (.tuple ds)) (.d (.int i)) (.d d) := ⟨_, ix_tup, fun v u H Q d1 d2 q => by
  have d1 : Dp X.K H v (.tuple ds) := d1
  have d2 : Dp X.K H u (.int i) := d2
  cases d2
  cases d1 with
  | tup h1 a1 =>
    obtain ⟨w, e1, e2⟩ := atI_map a1 hi
    exact ⟨_, _, i, w, rfl, rfl, h1, e1, q _ _ (Same.refl H) e2⟩⟩
theorem xd_lst {d : PyData} (hi : atI ds i = some d) : IxD X (.d (.list ds)) (.d (.int i)) (.d d) := ⟨_, ix_list, fun v u H Q d1 d2 q => by
  have d1 : Dp X.K H v (.list ds) := d1
  have d2 : Dp X.K H u (.int i) := d2
  cases d2
  cases d1 with
  | lst h1 a1 =>
    obtain ⟨w, e1, e2⟩ := atI_map a1 hi
    exact ⟨_, _, i, w, rfl, rfl, h1, e1, q _ _ (Same.refl H) e2⟩⟩
theorem xd_str {k : Nat} (hl : s.length ≤ sizeLine) (hi : atI s.cps.toList i = some k) : IxD X (.d (.str s)) (.d (.int i)) (.d (.str ⟨#[k]⟩)) := ⟨_, ix_str, fun v u H Q d1 d2 q => by
  have d1 : Dp X.K H v (.str s) := d1
  have d2 : Dp X.K H u (.int i) := d2
  cases d1; cases d2
  exact ⟨s, i, k, rfl, rfl, hl, hi, q _ _ (Same.refl H) (Dp.str _)⟩⟩
theorem drs1 {K : PySem.W.Frag} {H : Hp} {vs : List V} {d : PyData} (h : DRs K H vs [.d d]) : ∃ v, vs = [v] ∧ Dp K H v d := by
  cases h with
  | cons h1 h2 => cases h2; exact ⟨_, rfl, h1⟩
/-! built-ins by data -/
def lenD : PyData → Option Nat
  | .str s => if s.length ≤ sizeLine then some s.length else none
  | .list ds => some ds.length
  | .tuple ds => some ds.length
  | _ => none
theorem ev_len {k : Nat} {d : PyData} (C : Wd X.K X.mg) (hg : Gl X "len") (ha : Ev X e ρ (.d d)) (hl : lenD d = some k) (he : starEach [e] X.env = (false, eval e X.env) :: starEach [] X.env) (hpl : (backTo pos (starEach [] X.env)).any (·.1) = false) : Ev X (.Call (.Name "len" p) [e] [] pos) ρ (.d (.int (k : Nat))) :=
  ev_callB call_len hg (C.free _ (by decide +kernel)) PySem.boot_len (ea_cons ha ea_nil he) (fun vs H Q dr q => by
    obtain ⟨v, rfl, dv⟩ := drs1 dr
    refine ⟨v, k, rfl, ?_, q _ H (Same.refl H) (Dp.int _)⟩
    cases d <;> simp only [lenD] at hl <;> first | (cases hl; done) | skip
    · split at hl
      · rename_i hz
        cases hl
        cases dv
        exact ⟨hz, rfl⟩
      · cases hl
    · cases hl
      cases dv with
      | lst hs hd => exact .inl ⟨_, hs, (dpAll_length hd).symm⟩
    · cases hl
      cases dv with
      | tup hs hd => exact .inr ⟨_, hs, (dpAll_length hd).symm⟩) (by decide +kernel) (by decide +kernel) he hpl
theorem ev_toint (C : Wd X.K X.mg) (hg : Gl X "int") (ha : Ev X e ρ (.d (.int i))) (he : starEach [e] X.env = (false, eval e X.env) :: starEach [] X.env) (hpl : (backTo pos (starEach [] X.env)).any (·.1) = false) : Ev X (.Call (.Name "int" p) [e] [] pos) ρ (.d (.int i)) :=
  ev_callTy call_int1 hg (C.free _ (by decide +kernel)) (by decide +kernel) (ea_cons ha ea_nil he) (fun vs H Q dr q => by
    obtain ⟨v, rfl, dv⟩ := drs1 dr
    cases dv
    exact .inl ⟨i, rfl, q _ H (Same.refl H) (Dp.int _)⟩) (by decide +kernel) (by decide +kernel) he hpl
theorem ev_abs (C : Wd X.K X.mg) (hg : Gl X "abs") (ha : Ev X e ρ (.d (.int i))) (he : starEach [e] X.env = (false, eval e X.env) :: starEach [] X.env) (hpl : (backTo pos (starEach [] X.env)).any (·.1) = false) : Ev X (.Call (.Name "abs" p) [e] [] pos) ρ (.d (.int (i.natAbs : Nat))) :=
  ev_callB call_abs hg (C.free _ (by decide +kernel)) (by decide +kernel) (ea_cons ha ea_nil he) (fun vs H Q dr q => by
    obtain ⟨v, rfl, dv⟩ := drs1 dr
    cases dv
    refine ⟨i, rfl, q _ H (Same.refl H) ?_⟩
    rw [show (if i < 0 then -i else i) = (i.natAbs : Int) by split <;> omega]
    exact Dp.int _) (by decide +kernel) (by decide +kernel) he hpl
theorem ev_totup (C : Wd X.K X.mg) (hg : Gl X "tuple") (ha : Ev X e ρ (.d (.list ds))) (he : starEach [e] X.env = (false, eval e X.env) :: starEach [] X.env) (hpl : (backTo pos (starEach [] X.env)).any (·.1) = false) : Ev X (.Call (.Name "tuple" p) [e] [] pos) ρ (.d (.tuple ds)) :=
  ev_callTy call_tuple_of hg (C.free _ (by decide +kernel)) (by decide +kernel) (ea_cons ha ea_nil he) (fun vs H Q dr q => by
    obtain ⟨v, rfl, dv⟩ := drs1 dr
    cases dv with
    | lst hs hd => exact ⟨_, _, rfl, .inl ⟨hs, fun l hl => q _ _ (same_new hl _) (Dp.tup (SqT.of upd_same) (dpAll_mono (same_new hl _) _ _ hd))⟩⟩) (by decide +kernel) (by decide +kernel) he hpl
theorem ev_all {bs : List Bool} (c : XOk X) (C : Wd X.K X.mg) (hg : Gl X "all") (ha : Ev X e ρ (.d (.list (bs.map .bool)))) (he : starEach [e] X.env = (false, eval e X.env) :: starEach [] X.env) (hpl : (backTo pos (starEach [] X.env)).any (·.1) = false) : Ev X (.Call (.Name "all" p) [e] [] pos) ρ (.d (.bool (bs.all id))) :=
  ev_callB (cr_all c.calm) hg (C.free _ (by decide +kernel)) (by decide +kernel) (ea_cons ha ea_nil he) (fun vs H Q dr q => by
    obtain ⟨v, rfl, dv⟩ := drs1 dr
    cases dv with
    | lst hs hd =>
      rw [dpAll_bools hd] at hs
      exact ⟨_, bs, rfl, hs, q _ H (Same.refl H) (Dp.bl _)⟩) (by decide +kernel) (by decide +kernel) he hpl
theorem ev_gc {n : Str} (C : Wd X.K X.mg) (hl : intN.lookup n = some i) (hg : Gl X n) (hd : (n == ("__debug__" : Str)) = false) : Ev X (.Name n pos) ρ (.d (.int i)) := ev_gint hg (C.int n i hl) hd
theorem ev_ga (C : Wd X.K X.mg) (hg : Gl X "ALPHABET") : Ev X (.Name "ALPHABET" pos) ρ (.d (.str "0123456789_abcdefghijklmnopqrstuvwxyz")) := ev_gstr hg C.alph (by decide +kernel)
theorem bs_ret (h : Ev X e ρ x) (q : x = y) : Bs X [.Return (some e) pos] ρ (.rt y) := q ▸ bs_one (b1_ret h)
end
end Sg
namespace Sg
open PySem PySem.Spec L2
section
variable {X : Cx} {ρ ρ1 ρ2 : Rho} {e a b c o : Expr} {es : List Expr} {x y z : DV} {pos p apos : Pos} {i j m : Int} {s t : Str} {ds es' : List PyData} {d : PyData}
def EvDs (X : Cx) (es : List Expr) (ρ : Rho) (ds : List PyData) : Prop := EvA X es ρ (ds.map DV.d)
theorem ed_nil : EvDs X [] ρ [] := ea_nil
theorem ed_cons (h : Ev X e ρ (.d d)) (g : EvDs X es ρ ds) (hs : starEach (e :: es) X.env = (false, eval e X.env) :: starEach es X.env) : EvDs X (e :: es) ρ (d :: ds) := ea_cons h g hs
theorem ev_tupd {k} (h : EvDs X es ρ ds) (hl : ds.length ≤ 1000) : Ev X (.Tuple es k pos) ρ (.d (.tuple ds)) := ev_tup h hl
theorem ev_lstd (h : EvDs X es ρ ds) (hl : ds.length ≤ 1000) : Ev X (.List es pos) ρ (.d (.list ds)) := ev_lst h hl
/-- fewer slots known -/
inductive Wkr : Rho → Rho → Prop
  | nil : Wkr [] []
  | same {o : Option DV} {r r' : Rho} : Wkr r r' → Wkr (o :: r) (o :: r')
  | non {o : Option DV} {r r' : Rho} : Wkr r r' → Wkr (o :: r) (none :: r')
theorem Wkr.env {K : PySem.W.Frag} {H : Hp} {σ : L2.St} (w : Wkr ρ1 ρ2) (E : Env K H σ ρ1) : Env K H σ ρ2 := by
  have key : ∀ {r r' : Rho}, Wkr r r' → r'.length = r.length ∧ ∀ (i : Nat) (x : DV), r'[i]? = some (some x) → r[i]? = some (some x) := by
    intro r r' w
    induction w with
    | nil => exact ⟨rfl, fun _ _ h => h⟩
    | same _ ih =>
      refine ⟨by simp [ih.1], fun i x h => ?_⟩
      cases i with
      | zero => exact h
      | succ i => simpa using ih.2 i x (by simpa using h)
    | non _ ih =>
      refine ⟨by simp [ih.1], fun i x h => ?_⟩
      cases i with
      | zero => cases h
      | succ i => simpa using ih.2 i x (by simpa using h)
  exact E.weak (key w).1 (key w).2
theorem bs_weak {ss : List Stmt} (h : Bs X ss ρ (.nx ρ1)) (w : Wkr ρ1 ρ2) : Bs X ss ρ (.nx ρ2) := fun W σ H D tk E q => h W σ H D tk E fun σ' H' sm E' => q σ' H' sm (w.env E')
theorem b1_weak {st : Stmt} (h : B1 X st ρ (.nx ρ1)) (w : Wkr ρ1 ρ2) : B1 X st ρ (.nx ρ2) := fun W σ H D tk E q => h W σ H D tk E fun σ' H' sm E' => q σ' H' sm (w.env E')
theorem bs_pre {ss : List Stmt} {fl : Fl} (w : Wkr ρ ρ1) (h : Bs X ss ρ1 fl) : Bs X ss ρ fl := fun W σ H D tk E q => h W σ H D tk (w.env E) q
/-! a new list -/
def EvF (X : Cx) (e : Expr) (ρ : Rho) (ds : List PyData) : Prop := ∀ (σ : L2.St) (H : Hp) (Q : VK), Env X.K H σ ρ → (∀ q xs H', Same H H' → H q = none → H' q = some (.lst xs) → DpAll X.K H' xs ds → Q (.ref q) H') → wE X e σ H Q
theorem EvF.ev (h : EvF X e ρ ds) : Ev X e ρ (.d (.list ds)) := fun σ H Q E q => h σ H Q E fun p xs H' sm _ hp dp => q _ H' sm (.lst (SqL.of hp) dp)
theorem evf_lst (h : EvDs X es ρ ds) (hl : ds.length ≤ 1000) : EvF X (.List es pos) ρ ds := fun σ H Q E q =>
  ⟨_, pe_lst pa_w, h σ H _ E fun vs H1 s1 d1 => by
    have da := dpAll_of_drs d1
    have hz : vs.length ≤ 1000 := by rw [dpAll_length da]; exact hl
    exact ⟨Nat.le_of_lt (small1000 hz), fun p hp => q p vs _ (s1.trans (same_new hp _)) (s1.free hp) upd_same (dpAll_mono (same_new hp _) _ _ da)⟩⟩
theorem evf_tolist (C : Wd X.K X.mg) (hg : Gl X "list") (ha : Ev X e ρ (.d (.tuple ds))) (he : starEach [e] X.env = (false, eval e X.env) :: starEach [] X.env) (hpl : (backTo pos (starEach [] X.env)).any (·.1) = false) : EvF X (.Call (.Name "list" p) [e] [] pos) ρ ds := fun σ H Q E q =>
  ⟨_, pe_callTy call_list_of hg (C.free _ (by decide +kernel)) (by decide +kernel) pa_w (by decide +kernel) (by decide +kernel) he hpl, ea_cons ha ea_nil he σ H _ E fun vs H1 s1 d1 => by
    obtain ⟨v, rfl, dv⟩ := drs1 d1
    cases dv with
    | tup hs hd => exact ⟨_, _, rfl, .inr hs, fun l hl => q l _ _ (s1.trans (same_new hl _)) (s1.free hl) upd_same (dpAll_mono (same_new hl _) _ _ hd)⟩⟩
theorem evf_cat (ha : EvF X a ρ ds) (hb : EvF X b ρ es') (hl : ds.length + es'.length ≤ 1000) : EvF X (.BinOp a .Add b pos) ρ (ds ++ es') := fun σ H Q E q =>
  ⟨_, pe_op op_cat pe_w pe_w, ha σ H _ E fun p xs H1 s1 n1 h1 d1 => hb σ H1 _ (E.mono s1) fun r ys H2 s2 n2 h2 d2 => by
    have d1' := dpAll_mono s2 _ _ d1
    exact ⟨p, r, xs, ys, rfl, rfl, s2 p _ h1, h2, by rw [dpAll_length d1', dpAll_length d2]; exact Nat.le_of_lt (small1000 hl), fun t ht => q t _ _ ((s1.trans s2).trans (same_new ht _)) ((s1.trans s2).free ht) upd_same (dpAll_append (dpAll_mono (same_new ht _) _ _ d1') (dpAll_mono (same_new ht _) _ _ d2))⟩⟩
/-! the sealer -/
theorem ev_mod_fld (C : Wd X.K X.mg) (ha : Ev X o ρ (.sl m)) (hb : attributeBase o "_modulus" X.env (eval o X.env) = eval o X.env) : Ev X (.Attribute o "_modulus" pos) ρ (.d (.int m)) :=
  ev_of_pe (pe_fld pe_w hb) fun σ H Q E q => ha σ H _ E fun v H1 s1 d1 => by
    obtain ⟨a, dx, rfl, h⟩ := d1
    exact ⟨a, _, dx, _, _, rfl, h, C.cls, C.noat, rfl, q _ H1 s1 (Dp.int _)⟩
def isSeal (n : Nat) : List DV → Rs → Prop := fun xs r => ∃ m row, xs = [.sl m, .d (dI row)] ∧ 0 < m ∧ m < 1000 ∧ row.length ≤ n ∧ r = .ok (.d (.int (sealF m row)))
theorem ev_sealer {row : List Int} {k k' : Nat} {pl : Sem Bool} (C : Wd X.K X.mg) (F : Fm X.prog X.w X.K X.mg X.base "seal" ["self", "row"] k (spD X.K 2 (isSeal 300))) (hr : Room k' X.A) (hk : k ≤ k') (ho : Ev X o ρ (.sl m)) (ha : Ev X e ρ (.d (dI row))) (hm : 0 < m) (hm2 : m < 1000) (hl : row.length ≤ 300)
    (hst : starEach [e] X.env = (false, eval e X.env) :: starEach [] X.env) (hpl : (backTo pos (starEach [] X.env)).any (·.1) = false)
    (ht : eval (.Call (.Attribute o "seal" apos) [e] [] pos) X.env = (do
      let ov ← eval o X.env
      standAt apos.atName
      let (f, first) ← holding [ov] (getMethod ov "seal" pl)
      callWith pos f first (backTo pos (starEach [e] X.env)) (backToKw pos (keywordEach [] X.env)))) : Ev X (.Call (.Attribute o "seal" apos) [e] [] pos) ρ (.d (.int (sealF m row))) := by
  obtain ⟨fd, F, hb⟩ := F
  refine ev_of_pe (pe_meth (E := E0) pe_w C.cls C.methS F (hr.mono hk) hb .nil passL pa_w hst hpl ht) fun σ H Q E q => ho σ H _ E fun v H1 s1 d1 => ?_
  obtain ⟨ad, dx, rfl, h⟩ := d1
  refine ⟨ad, dx, _, rfl, h, rfl, ea_cons ha ea_nil hst σ H1 _ (E.mono s1) fun vs H2 s2 d2 => ?_⟩
  obtain ⟨u, rfl, du⟩ := drs1 d2
  exact ⟨[.sl m, .d (dI row)], _, rfl, .cons ⟨ad, dx, rfl, s2 ad _ h⟩ (.cons du .nil), ⟨m, row, rfl, hm, hm2, hl, rfl⟩, fun v H3 s3 d3 => q v H3 (s1.trans (s2.trans s3)) d3⟩
def isModulus : List DV → Rs → Prop := fun xs r => ∃ m, xs = [.sl m] ∧ r = .ok (.d (.int m))
theorem ev_modulus {k k' : Nat} {pl : Sem Bool} (C : Wd X.K X.mg) (F : Fm X.prog X.w X.K X.mg X.base "modulus" ["self"] k (spD X.K 1 isModulus)) (hr : Room k' X.A) (hk : k ≤ k') (ho : Ev X o ρ (.sl m))
    (ht : eval (.Call (.Attribute o "modulus" apos) [] [] pos) X.env = (do
      let ov ← eval o X.env
      standAt apos.atName
      let (f, first) ← holding [ov] (getMethod ov "modulus" pl)
      callWith pos f first (backTo pos (starEach [] X.env)) (backToKw pos (keywordEach [] X.env)))) : Ev X (.Call (.Attribute o "modulus" apos) [] [] pos) ρ (.d (.int m)) := by
  obtain ⟨fd, F, hb⟩ := F
  refine ev_of_pe (pe_meth0 (E := E0) pe_w C.cls C.methM F (hr.mono hk) hb .nil passL ht) fun σ H Q E q => ho σ H _ E fun v H1 s1 d1 => ?_
  obtain ⟨ad, dx, rfl, h⟩ := d1
  exact ⟨ad, dx, _, rfl, h, rfl, [.sl m], _, rfl, .cons ⟨ad, dx, rfl, h⟩ .nil, ⟨m, rfl, rfl⟩, fun v H3 s3 d3 => q v H3 (s1.trans s3) d3⟩
/-! texts -/
abbrev ALPH : Str := "0123456789_abcdefghijklmnopqrstuvwxyz"
theorem alph_list : ALPH.cps.toList = alpha := by decide +kernel
theorem alph_ix : ∀ k ∈ alpha, ∃ rest, Builtin.Str.occurrences ALPH ⟨#[k]⟩ 0 ALPH.length 1 = alpha.idxOf k :: rest := by
  have h : ∀ k ∈ alpha, Builtin.Str.occurrences ALPH ⟨#[k]⟩ 0 ALPH.length 1 = [alpha.idxOf k] := by decide +kernel
  exact fun k hk => ⟨[], h k hk⟩
theorem ev_alpha {k : Nat} (ho : Ev X o ρ (.d (.str ALPH))) (ha : Ev X e ρ (.d (.str ⟨#[k]⟩))) (hk : k ∈ alpha) (hbase : attributeBase o "index" X.env (eval o X.env) = eval o X.env)
    (hfew : ((backTo pos (starEach [e] X.env)).all (fun x => !x.1) && (backToKw pos (keywordEach [] X.env)).all (fun x => x.1.isSome) && decide ([e].length + ([] : List Keyword).length + (if ([] : List Keyword).isEmpty then 0 else 1) < 30)) = true)
    (hline : (apos.endLine == pos.line) = true) (hs : starEach [e] X.env = (false, eval e X.env) :: starEach [] X.env) (hplain : (backTo pos (starEach [] X.env)).any (·.1) = false) :
    Ev X (.Call (.Attribute o "index" apos) [e] [] pos) ρ (.d (.int (alpha.idxOf k : Nat))) :=
  ev_of_pe (pe_bm PySem.F.plainAttrs_str PySem.F.slot_str_index PySem.F.type_str_index mt_sindex pe_w pa_w hbase hfew hline hs hplain) fun σ H Q E q => ho σ H _ E fun v H1 s1 d1 => by
    have d1 : Dp X.K H1 v (.str ALPH) := d1
    cases d1
    refine ⟨rfl, ea_cons ha ea_nil hs σ H1 _ (E.mono s1) fun vs H2 s2 d2 => ?_⟩
    obtain ⟨u, rfl, du⟩ := drs1 d2
    cases du
    obtain ⟨rest, hr⟩ := alph_ix k hk
    exact ⟨ALPH, _, _, rest, rfl, rfl, hr, q _ H2 (s1.trans s2) (Dp.int _)⟩
theorem ev_bits (ho : Ev X o ρ (.d (.int i))) (hbase : attributeBase o "bit_length" X.env (eval o X.env) = eval o X.env) (hline : (apos.endLine == pos.line) = true) : Ev X (.Call (.Attribute o "bit_length" apos) [] [] pos) ρ (.d (.int (Builtin.Int.intBits i : Nat))) :=
  ev_of_pe (pe_bits pe_w hbase hline) fun σ H Q E q => ho σ H _ E fun v H1 s1 d1 => by
    have d1 : Dp X.K H1 v (.int i) := d1
    cases d1
    exact ⟨i, rfl, q _ H1 s1 (Dp.int _)⟩
/-! x op= e -/
theorem b1_add {k : Nat} {n : Str} {p' : Pos} (c : XOk X) (hk : findN X.N n 0 = some k) (hρ : ρ[k]? = some (some (.d (.int i)))) (h : Ev X e ρ (.d (.int j))) (hx : Loc X.env.scope n) (hf : X.fn n = true ∨ X.env.scope.names.lookup n = some .local) :
    B1 X (.AugAssign (.Name n p') .Add e pos) ρ (.nx (ρ.set k (some (.d (.int (i + j)))))) :=
  b1_aug c hρ h ip_add (fun v u H Q d1 d2 q => by
    have d1 : Dp X.K H v (.int i) := d1
    have d2 : Dp X.K H u (.int j) := d2
    cases d1; cases d2
    exact ⟨i, j, rfl, rfl, q _ H (Same.refl H) (Dp.int _)⟩) (by simpa using (findN_get hk).2) hx hf
theorem b1_setn {i : Nat} {n : Str} {p' : Pos} (k : XOk X) (h : Ev X e ρ x) (hi : findN X.N n 0 = some i) (hx : Loc X.env.scope n) (hs : swapsWith e (some (.Name n p')) pos.line X.env = pure false) (hf : X.fn n = true ∨ X.env.scope.names.lookup n = some .local) :
    B1 X (.Assign [.Name n p'] e pos) ρ (.nx (ρ.set i (some x))) := b1_set k h (by simpa using (findN_get hi).2) hx hs hf
theorem b1_parn {i j : Nat} {n m : Str} {a b : Expr} {y : DV} {px py pt : Pos} {kt k2 pt2} (k : XOk X) (ha : Ev X a ρ x) (hb : Ev X b ρ y) (hi : findN X.N n 0 = some i) (hj : findN X.N m 0 = some j) (hij : i ≠ j) (hx : X.env.scope.names.lookup n = some .local) (hy : X.env.scope.names.lookup m = some .local)
    (s1 : starEach [a, b] X.env = (false, eval a X.env) :: starEach [b] X.env) (s2 : starEach [b] X.env = (false, eval b X.env) :: starEach [] X.env)
    (hw : swappedStores [.Tuple [.Name n px, .Name m py] kt pt] (.Tuple [a, b] k2 pt2) X.env = pure (some [n, m])) (hs : swapsWithSole [.Tuple [.Name n px, .Name m py] kt pt] (.Tuple [a, b] k2 pt2) pos.line X.env = pure false) :
    B1 X (.Assign [.Tuple [.Name n px, .Name m py] kt pt] (.Tuple [a, b] k2 pt2) pos) ρ (.nx ((ρ.set i (some x)).set j (some y))) :=
  b1_par k ha hb (by simpa using (findN_get hi).2) (by simpa using (findN_get hj).2) hij hx hy s1 s2 hw hs
theorem evi_r1 {tg : Expr} (C : Wd X.K X.mg) (hg : Gl X "range") (h : Ev X a ρ (.d (.int j))) (h1 : -(2 ^ 62) ≤ j) (h2 : j < 2 ^ 62) (hs : starEach [a] X.env = (false, eval a X.env) :: starEach [] X.env) : EvI X tg (.Call (.Name "range" p) [a] [] pos) ρ j.toNat (fun i => .int i) := evi_range1 hg (C.free _ (by decide +kernel)) h h1 h2 hs
theorem evi_r2 {tg : Expr} (C : Wd X.K X.mg) (hg : Gl X "range") (h : Ev X a ρ (.d (.int i))) (h' : Ev X b ρ (.d (.int j))) (hb : -(2 ^ 62) ≤ i ∧ i < 2 ^ 62 ∧ -(2 ^ 62) ≤ j ∧ j < 2 ^ 62) (hs : starEach [a, b] X.env = (false, eval a X.env) :: starEach [b] X.env) (hs2 : starEach [b] X.env = (false, eval b X.env) :: starEach [] X.env) :
    EvI X tg (.Call (.Name "range" p) [a, b] [] pos) ρ (j - i).toNat (fun k => .int (i + k)) := evi_range2 hg (C.free _ (by decide +kernel)) h h' hb hs hs2
theorem evi_z {elts : List Expr} {kk : Nat} {tpos : Pos} (C : Wd X.K X.mg) (hg : Gl X "zip") (h : Ev X a ρ (.d (.tuple ds))) (h' : Ev X b ρ (.d (.tuple es'))) (hl : es'.length = ds.length) (hs : starEach [a, b] X.env = (false, eval a X.env) :: starEach [b] X.env) (hs2 : starEach [b] X.env = (false, eval b X.env) :: starEach [] X.env)
    (hpl : (backTo pos (starEach [b] X.env)).any (·.1) = false) :
    EvI X (.Tuple elts kk tpos) (.Call (.Name "zip" p) [a, b] [] pos) ρ ds.length (fun k => .tuple [ds.getD k .none, es'.getD k .none]) := evi_zipT hg (C.free _ (by decide +kernel)) h h' hl hs hs2 hpl
/-- for name in .. -/
theorem b1_forn {iter : Expr} {n m i : Nat} {x : Str} {px : Pos} {f : Nat → PyData} {st : Nat → Rho} {body : List Stmt} {fl : Fl} (k : XOk X) (hi : EvI X (.Name x px) iter ρ n f) (hx : findN X.N x 0 = some i) (hg : PG X (.Name x px) (gName i)) (h0 : Wkr ρ (st 0))
    (hb : ∀ j, j < m → j < n → Bs X body ((st j).set i (some (.d (f j)))) (.nx (st (j + 1)))) (he : (m = n ∧ fl = .nx (st n)) ∨ (m < n ∧ fl.term = true ∧ (∀ ρ, fl ≠ .bk ρ ∧ fl ≠ .ct ρ) ∧ Bs X body ((st m).set i (some (.d (f m)))) fl))
    (hs : ∀ x, foldedSetIterable iter X.env x = pure x) : B1 X (.For (.Name x px) iter body [] pos) ρ fl :=
  b1_for (ts := fun j => (st j).set i (some (.d (f j)))) k hi (fun K H σ E => h0.env E) (fun j hj => ⟨_, hg, fun v σ H Q E dp q => q _ (E.set i (x := .d _) dp)⟩) hb he hs
theorem atI_z {α : Type} {x : α} {xs : List α} : atI (x :: xs) (0 : Int) = some x := by
  have e := atI_nat (xs := x :: xs) (j := 0) (show (x :: xs)[0]? = some x from rfl)
  exact e
/-- what can be walked -/
def itN : PyData → Nat
  | .str s => s.cps.size
  | .list ds => ds.length
  | .tuple ds => ds.length
  | _ => 0
def itF : PyData → Nat → PyData
  | .str s => fun i => .str ⟨#[s.cps.getD i 0]⟩
  | .list ds => fun i => ds.getD i .none
  | .tuple ds => fun i => ds.getD i .none
  | _ => fun _ => .none
def itB : PyData → Bool
  | .str _ => true
  | .list _ => true
  | .tuple _ => true
  | _ => false
theorem evi_d {tg : Expr} (h : Ev X e ρ (.d d)) (hb : itB d = true) : EvI X tg e ρ (itN d) (itF d) := by
  cases d with
  | str s => exact evi_str h
  | list ds => exact evi_list h
  | tuple ds => exact evi_tup h
  | _ => cases hb
theorem wipe1 {i : Nat} {o : Option DV} : (wipeR ρ [i]).set i o = ρ.set i o := by
  show (ρ.set i none).set i o = _
  rw [List.set_set]
/-- [elt for x in iter if ..] -/
theorem ev_lc1 {iter elt : Expr} {ifs : List Expr} {scope : Scope} {n i : Nat} {f g : Nat → PyData} {pk : Nat → Bool} {v : Str} {px : Pos} (hx : findN X.N v 0 = some i) (c : XOk X) (ok : BlkOk X.N X.env.scope scope [(v, i)]) (hi : EvI X (.Name v px) iter ρ n f) (hn : n ≤ 1000) (hg : Blk X scope fun Y => PG Y (.Name v px) (gName i))
    (ht : Blk X scope fun Y => ∀ k, k < n → VtI Y ifs (ρ.set i (some (.d (f k)))) (pk k)) (he : Blk X scope fun Y => ∀ k, k < n → pk k = true → Ev Y elt (ρ.set i (some (.d (f k)))) (.d (g k))) (hL : ∀ k, k < n → pk k = true → noL (g k) = true)
    (hs : ∀ x, foldedSetIterable iter X.env x = pure x) : Ev X (.ListComp elt [⟨.Name v px, iter, ifs, 0⟩] scope pos) ρ (.d (.list (pick n pk g))) :=
  ev_lc (own := [(v, i)]) (ρt := fun k => ρ.set i (some (.d (f k)))) c ok hi hn (fun s H C cl fp k hk => by
    have z := tg_name (d := f k) (ρ := wipeR ρ [i]) (hg s H C cl fp)
    rw [wipe1] at z
    exact z) ht he hL hs
theorem pick_all {n : Nat} {g : Nat → PyData} : pick n (fun _ => true) g = (List.range n).map g := by
  unfold pick
  rw [List.filter_eq_self.mpr (fun _ _ => rfl)]
theorem ev_lcm {iter elt : Expr} {scope : Scope} {n i : Nat} {f g : Nat → PyData} {v : Str} {px : Pos} (hx : findN X.N v 0 = some i) (c : XOk X) (ok : BlkOk X.N X.env.scope scope [(v, i)]) (hi : EvI X (.Name v px) iter ρ n f) (hn : n ≤ 1000) (hg : Blk X scope fun Y => PG Y (.Name v px) (gName i))
    (he : Blk X scope fun Y => ∀ k, k < n → Ev Y elt (ρ.set i (some (.d (f k)))) (.d (g k))) (hL : ∀ k, k < n → noL (g k) = true)
    (hs : ∀ x, foldedSetIterable iter X.env x = pure x) : Ev X (.ListComp elt [⟨.Name v px, iter, [], 0⟩] scope pos) ρ (.d (.list ((List.range n).map g))) := by
  have z := ev_lc1 (ifs := []) (pk := fun _ => true) (pos := pos) hx c ok hi hn hg (fun _ _ _ _ _ _ _ => vti_nil) (fun s H C cl fp k hk _ => he s H C cl fp k hk) (fun k hk _ => hL k hk) hs
  rw [pick_all] at z
  exact z
theorem ev_alltrue {iter elt : Expr} {scope : Scope} {n i : Nat} {f : Nat → PyData} {v : Str} {px q : Pos} (hx : findN X.N v 0 = some i) (c : XOk X) (C : Wd X.K X.mg) (hgA : Gl X "all") (ok : BlkOk X.N X.env.scope scope [(v, i)]) (hi : EvI X (.Name v px) iter ρ n f) (hn : n ≤ 1000) (hg : Blk X scope fun Y => PG Y (.Name v px) (gName i))
    (he : Blk X scope fun Y => ∀ k, k < n → Ev Y elt (ρ.set i (some (.d (f k)))) (.d (.bool true))) (hs : ∀ x, foldedSetIterable iter X.env x = pure x)
    (h1 : starEach [.ListComp elt [⟨.Name v px, iter, [], 0⟩] scope q] X.env = (false, eval (.ListComp elt [⟨.Name v px, iter, [], 0⟩] scope q) X.env) :: starEach [] X.env) (hpl : (backTo pos (starEach [] X.env)).any (·.1) = false) :
    Ev X (.Call (.Name "all" p) [.ListComp elt [⟨.Name v px, iter, [], 0⟩] scope q] [] pos) ρ (.d (.bool true)) := by
  have z := ev_lcm (g := fun _ => .bool true) (pos := q) hx c ok hi hn hg he (fun _ _ => rfl) hs
  have e : ((List.range n).map fun _ => PyData.bool true) = ((List.range n).map fun _ => true).map PyData.bool := by simp
  rw [e] at z
  have y := ev_all (p := p) (pos := pos) c C hgA z h1 hpl
  have e2 : ((List.range n).map fun _ => true).all id = true := by simp
  rw [e2] at y
  exact y
theorem evi_f {tg : Expr} (h : EvF X e ρ ds) : EvI X tg e ρ ds.length (fun i => ds.getD i .none) := evi_list h.ev
theorem EvI.is {tg : Expr} {n n' : Nat} {f f' : Nat → PyData} (h : EvI X tg e ρ n f) (hn : n = n') (hf : f = f') : EvI X tg e ρ n' f' := by
  subst hn
  subst hf
  exact h
theorem lenD_dI {ns : List Int} : lenD (dI ns) = some ns.length := by simp [lenD, dI]
end
end Sg
/-! # What each def promises: from which data which data -/
namespace Sg
open PySem PySem.Spec L2
def rNumber : List DV → Rs → Prop := fun xs r => ∃ x, xs = [.d (.str x)] ∧ IsNm x ∧ r = .ok (.d (.int (num x)))
def rBit : List DV → Rs → Prop := fun xs r => ∃ x, ∃ p : Nat, xs = [.d (.str x), .d (.int p)] ∧ IsNm x ∧ p < 48 ∧ r = .ok (.d (.int (bitAt x p)))
def rParting : List DV → Rs → Prop := fun xs r => ∃ x y, xs = [.d (.str x), .d (.str y)] ∧ IsNm x ∧ IsNm y ∧ r = .ok (.d (dOI (part x y)))
def rIsName : List DV → Rs → Prop := fun xs r => ∃ x, xs = [.d (.str x)] ∧ IsNm x ∧ r = .ok (.d (.bool true))
def rLeast : List DV → Rs → Prop := fun xs r => ∃ t, xs = [.d (dTr t)] ∧ r = .ok (.d (.str (loOf t)))
def rGreatest : List DV → Rs → Prop := fun xs r => ∃ t, xs = [.d (dTr t)] ∧ r = .ok (.d (.str (hiOf t)))
def rLeafRow : List DV → Rs → Prop := fun xs r => ∃ n ws ns, xs = [.d (dTr (.leaf n ws ns))] ∧ IsNm n ∧ ws.length ≤ 100 ∧ ns.length ≤ 100 ∧ r = .ok (.d (dI (leafRow n ws ns)))
def rSmNums : List DV → Rs → Prop := fun xs r => ∃ k s, xs = [.d (dSm s)] ∧ SmOk k s ∧ k ≤ 3 ∧ r = .ok (.d (dI (smNums s)))
def rBrRow : List DV → Rs → Prop := fun xs r => ∃ k s t, xs = [.d (dSm s), .d (dSm t)] ∧ SmOk k s ∧ SmOk k t ∧ k ≤ 3 ∧ r = .ok (.d (dI (brRow s t)))
/-- a small modulus -/
def Md (m : Int) : Prop := 0 < m ∧ m < 1000
def rBrSm : List DV → Rs → Prop := fun xs r => ∃ m k s t, xs = [.sl m, .d (dSm s), .d (dSm t)] ∧ Md m ∧ SmOk k s ∧ SmOk k t ∧ k ≤ 3 ∧ r = .ok (.d (dSm (brSm m s t)))
def rSummary (n : Nat) : List DV → Rs → Prop := fun xs r => ∃ m k t, xs = [.sl m, .d (dTr t)] ∧ Md m ∧ TrOk k t ∧ k ≤ 3 ∧ depth t ≤ n ∧ r = .ok (.d (dSm (summ m t)))
def rRowOf (n : Nat) : List DV → Rs → Prop := fun xs r => ∃ m k t, xs = [.sl m, .d (dTr t)] ∧ Md m ∧ TrOk k t ∧ k ≤ 3 ∧ depth t ≤ n ∧ cutP t = false ∧ r = .ok (.d (dI (rowOf m t)))
def rTop (n : Nat) : List DV → Rs → Prop := fun xs r => ∃ m k t, xs = [.sl m, .d (dTr t)] ∧ Md m ∧ TrOk k t ∧ k ≤ 3 ∧ depth t ≤ n ∧ r = .ok (.d (dI (topRow m t)))
def rRoot (n : Nat) : List DV → Rs → Prop := fun xs r => ∃ m k t, xs = [.sl m, .d (dTr t)] ∧ Md m ∧ TrOk k t ∧ k ≤ 3 ∧ depth t ≤ n ∧ r = .ok (.d (.int (rootOf m t)))
theorem rNumber_mk {x : Str} (h : IsNm x) : rNumber [.d (.str x)] (.ok (.d (.int (num x)))) := ⟨x, rfl, h, rfl⟩
theorem rBit_mk {x : Str} {p : Nat} (h : IsNm x) (hp : p < 48) : rBit [.d (.str x), .d (.int p)] (.ok (.d (.int (bitAt x p)))) := ⟨x, p, rfl, h, hp, rfl⟩
theorem rParting_mk {x y : Str} (h : IsNm x) (h' : IsNm y) : rParting [.d (.str x), .d (.str y)] (.ok (.d (dOI (part x y)))) := ⟨x, y, rfl, h, h', rfl⟩
theorem rIsName_mk {x : Str} (h : IsNm x) : rIsName [.d (.str x)] (.ok (.d (.bool true))) := ⟨x, rfl, h, rfl⟩
theorem rLeast_mk {t : Tr} : rLeast [.d (dTr t)] (.ok (.d (.str (loOf t)))) := ⟨t, rfl, rfl⟩
theorem rGreatest_mk {t : Tr} : rGreatest [.d (dTr t)] (.ok (.d (.str (hiOf t)))) := ⟨t, rfl, rfl⟩
theorem rLeafRow_mk {n : Str} {ws ns : List Int} (h : IsNm n) (h1 : ws.length ≤ 100) (h2 : ns.length ≤ 100) : rLeafRow [.d (dTr (.leaf n ws ns))] (.ok (.d (dI (leafRow n ws ns)))) := ⟨n, ws, ns, rfl, h, h1, h2, rfl⟩
theorem rSmNums_mk {k : Nat} {s : Sm} (h : SmOk k s) (hk : k ≤ 3) : rSmNums [.d (dSm s)] (.ok (.d (dI (smNums s)))) := ⟨k, s, rfl, h, hk, rfl⟩
theorem rBrRow_mk {k : Nat} {s t : Sm} (h : SmOk k s) (h' : SmOk k t) (hk : k ≤ 3) : rBrRow [.d (dSm s), .d (dSm t)] (.ok (.d (dI (brRow s t)))) := ⟨k, s, t, rfl, h, h', hk, rfl⟩
theorem rBrSm_mk {m : Int} {k : Nat} {s t : Sm} (hm : Md m) (h : SmOk k s) (h' : SmOk k t) (hk : k ≤ 3) : rBrSm [.sl m, .d (dSm s), .d (dSm t)] (.ok (.d (dSm (brSm m s t)))) := ⟨m, k, s, t, rfl, hm, h, h', hk, rfl⟩
theorem rSummary_mk {n : Nat} {m : Int} {k : Nat} {t : Tr} (hm : Md m) (h : TrOk k t) (hk : k ≤ 3) (hd : depth t ≤ n) : rSummary n [.sl m, .d (dTr t)] (.ok (.d (dSm (summ m t)))) := ⟨m, k, t, rfl, hm, h, hk, hd, rfl⟩
theorem rRowOf_mk {n : Nat} {m : Int} {k : Nat} {t : Tr} (hm : Md m) (h : TrOk k t) (hk : k ≤ 3) (hd : depth t ≤ n) (hc : cutP t = false) : rRowOf n [.sl m, .d (dTr t)] (.ok (.d (dI (rowOf m t)))) := ⟨m, k, t, rfl, hm, h, hk, hd, hc, rfl⟩
theorem rTop_mk {n : Nat} {m : Int} {k : Nat} {t : Tr} (hm : Md m) (h : TrOk k t) (hk : k ≤ 3) (hd : depth t ≤ n) : rTop n [.sl m, .d (dTr t)] (.ok (.d (dI (topRow m t)))) := ⟨m, k, t, rfl, hm, h, hk, hd, rfl⟩
theorem rRoot_mk {n : Nat} {m : Int} {k : Nat} {t : Tr} (hm : Md m) (h : TrOk k t) (hk : k ≤ 3) (hd : depth t ≤ n) : rRoot n [.sl m, .d (dTr t)] (.ok (.d (.int (rootOf m t)))) := ⟨m, k, t, rfl, hm, h, hk, hd, rfl⟩
/-! ### validity: true where it holds -/
abbrev tru : Rs := .ok (.d (.bool true))
def rWorths : List DV → Rs → Prop := fun xs r => ∃ ws, xs = [.d (dI ws)] ∧ 1 ≤ ws.length ∧ ws.length ≤ 3 ∧ (∀ w ∈ ws, 0 ≤ w ∧ w ≤ 1000000000000000) ∧ r = tru
def rNotes : List DV → Rs → Prop := fun xs r => ∃ ns, xs = [.d (dI ns)] ∧ ns.length ≤ 12 ∧ (∀ w ∈ ns, 0 ≤ w ∧ w ≤ 2305843009213693952) ∧ r = tru
def rIsLeaf : List DV → Rs → Prop := fun xs r => ∃ k n ws ns, xs = [.d (dTr (.leaf n ws ns))] ∧ Lf k n ws ns ∧ 1 ≤ k ∧ k ≤ 3 ∧ r = tru
def rIsSummary : List DV → Rs → Prop := fun xs r => ∃ m k s, xs = [.sl m, .d (dSm s)] ∧ SmV m k s ∧ 1 ≤ k ∧ k ≤ 3 ∧ r = tru
def rAreSides : List DV → Rs → Prop := fun xs r => ∃ k l t, xs = [.d (dTr l), .d (dTr t)] ∧ TrOk k l ∧ TrOk k t ∧ Sides l t ∧ r = tru
def rIsInside : List DV → Rs → Prop := fun xs r => ∃ k t, ∃ p : Nat, ∃ b, xs = [.d (dTr t), .d (.int p), .d (.int b)] ∧ TrOk k t ∧ p < 48 ∧ Inside t p b ∧ r = tru
def rKinds (n : Nat) : List DV → Rs → Prop := fun xs r => ∃ k t, xs = [.d (dTr t)] ∧ TrOk k t ∧ depth t ≤ n ∧ r = .ok (.d (.int (k : Nat)))
def rValid (n : Nat) : List DV → Rs → Prop := fun xs r => ∃ m k t, xs = [.sl m, .d (dTr t)] ∧ WfT m k t ∧ 1 ≤ k ∧ k ≤ 3 ∧ depth t ≤ n ∧ r = tru
def rOrder (n : Nat) : List DV → Rs → Prop := fun xs r => ∃ m k t, xs = [.d (dTr t)] ∧ WfT m k t ∧ depth t ≤ n ∧ r = tru
theorem rWorths_mk {ws : List Int} (h : 1 ≤ ws.length) (h1 : ws.length ≤ 3) (h2 : ∀ w ∈ ws, 0 ≤ w ∧ w ≤ 1000000000000000) : rWorths [.d (dI ws)] tru := ⟨ws, rfl, h, h1, h2, rfl⟩
theorem rNotes_mk {ws : List Int} (h1 : ws.length ≤ 12) (h2 : ∀ w ∈ ws, 0 ≤ w ∧ w ≤ 2305843009213693952) : rNotes [.d (dI ws)] tru := ⟨ws, rfl, h1, h2, rfl⟩
theorem rIsLeaf_mk {k : Nat} {n : Str} {ws ns : List Int} (h : Lf k n ws ns) (h1 : 1 ≤ k) (h2 : k ≤ 3) : rIsLeaf [.d (dTr (.leaf n ws ns))] tru := ⟨k, n, ws, ns, rfl, h, h1, h2, rfl⟩
theorem rIsSummary_mk {m : Int} {k : Nat} {s : Sm} (h : SmV m k s) (h1 : 1 ≤ k) (h2 : k ≤ 3) : rIsSummary [.sl m, .d (dSm s)] tru := ⟨m, k, s, rfl, h, h1, h2, rfl⟩
theorem rAreSides_mk {k : Nat} {l t : Tr} (h : TrOk k l) (h1 : TrOk k t) (h2 : Sides l t) : rAreSides [.d (dTr l), .d (dTr t)] tru := ⟨k, l, t, rfl, h, h1, h2, rfl⟩
theorem rIsInside_mk {k : Nat} {t : Tr} {p : Nat} {b : Int} (h : TrOk k t) (h1 : p < 48) (h2 : Inside t p b) : rIsInside [.d (dTr t), .d (.int p), .d (.int b)] tru := ⟨k, t, p, b, rfl, h, h1, h2, rfl⟩
theorem rKinds_mk {n k : Nat} {t : Tr} (h : TrOk k t) (h1 : depth t ≤ n) : rKinds n [.d (dTr t)] (.ok (.d (.int (k : Nat)))) := ⟨k, t, rfl, h, h1, rfl⟩
theorem rValid_mk {n k : Nat} {m : Int} {t : Tr} (h : WfT m k t) (h1 : 1 ≤ k) (h2 : k ≤ 3) (h3 : depth t ≤ n) : rValid n [.sl m, .d (dTr t)] tru := ⟨m, k, t, rfl, h, h1, h2, h3, rfl⟩
theorem rOrder_mk {n k : Nat} {m : Int} {t : Tr} (h : WfT m k t) (h3 : depth t ≤ n) : rOrder n [.d (dTr t)] tru := ⟨m, k, t, rfl, h, h3, rfl⟩
/-! ### questions -/
def rLeafTold : List DV → Rs → Prop := fun xs r => ∃ k n s, xs = [.d (.str n), .d (dSm s)] ∧ IsNm n ∧ SmOk k s ∧ r = .ok (.d (dT (leafTold n s)))
def rRangeTold : List DV → Rs → Prop := fun xs r => ∃ k a b s, xs = [.d (.str a), .d (.str b), .d (dSm s)] ∧ IsNm a ∧ IsNm b ∧ SmOk k s ∧ r = .ok (.d (dT (rangeTold a b s)))
def rRankTold : List DV → Rs → Prop := fun xs r => ∃ k n s, xs = [.d (.str n), .d (dSm s)] ∧ IsNm n ∧ SmOk k s ∧ r = .ok (.d (dT (rankTold n s)))
def rPlaceTold : List DV → Rs → Prop := fun xs r => ∃ n s, xs = [.d (.int n), .d (dSm s)] ∧ r = .ok (.d (dT (placeTold n s)))
def rNextTold : List DV → Rs → Prop := fun xs r => ∃ k n s, xs = [.d (.str n), .d (dSm s)] ∧ IsNm n ∧ SmOk k s ∧ r = .ok (.d (dT (nextTold n s)))
def rTold : List DV → Rs → Prop := fun xs r => ∃ k q s, xs = [.d (dQ q), .d (dSm s)] ∧ QnOk q ∧ q.one = true ∧ SmOk k s ∧ r = .ok (.d (dT (toldM q s)))
def rSide : List DV → Rs → Prop := fun xs r => ∃ k q s t, xs = [.d (dQ q), .d (dSm s), .d (dSm t)] ∧ QnOk q ∧ q.one = true ∧ SmOk k s ∧ r = .ok (.d (.tuple [dQo (sideQ q s t).1, dQo (sideQ q s t).2]))
/-- a range's answer of k kinds -/
def RgOk (k : Nat) (c : Int) (s : Option (List Int)) : Prop := c ≠ 0 → ∃ ws, s = some ws ∧ ws.length = k
def rJoin : List DV → Rs → Prop := fun xs r => ∃ k c s c' s', xs = [.d (dA (.rng c s)), .d (dA (.rng c' s'))] ∧ RgOk k c s ∧ RgOk k c' s' ∧ k ≤ 3 ∧ r = .ok (.d (dA (joinR c s c' s')))
theorem rLeafTold_mk {k : Nat} {n : Str} {s : Sm} (h : IsNm n) (h1 : SmOk k s) : rLeafTold [.d (.str n), .d (dSm s)] (.ok (.d (dT (leafTold n s)))) := ⟨k, n, s, rfl, h, h1, rfl⟩
theorem rRangeTold_mk {k : Nat} {a b : Str} {s : Sm} (h : IsNm a) (h0 : IsNm b) (h1 : SmOk k s) : rRangeTold [.d (.str a), .d (.str b), .d (dSm s)] (.ok (.d (dT (rangeTold a b s)))) := ⟨k, a, b, s, rfl, h, h0, h1, rfl⟩
theorem rRankTold_mk {k : Nat} {n : Str} {s : Sm} (h : IsNm n) (h1 : SmOk k s) : rRankTold [.d (.str n), .d (dSm s)] (.ok (.d (dT (rankTold n s)))) := ⟨k, n, s, rfl, h, h1, rfl⟩
theorem rPlaceTold_mk {n : Int} {s : Sm} : rPlaceTold [.d (.int n), .d (dSm s)] (.ok (.d (dT (placeTold n s)))) := ⟨n, s, rfl, rfl⟩
theorem rNextTold_mk {k : Nat} {n : Str} {s : Sm} (h : IsNm n) (h1 : SmOk k s) : rNextTold [.d (.str n), .d (dSm s)] (.ok (.d (dT (nextTold n s)))) := ⟨k, n, s, rfl, h, h1, rfl⟩
theorem rTold_mk {k : Nat} {q : Qn} {s : Sm} (h : QnOk q) (h0 : q.one = true) (h1 : SmOk k s) : rTold [.d (dQ q), .d (dSm s)] (.ok (.d (dT (toldM q s)))) := ⟨k, q, s, rfl, h, h0, h1, rfl⟩
theorem rSide_mk {k : Nat} {q : Qn} {s t : Sm} (h : QnOk q) (h0 : q.one = true) (h1 : SmOk k s) : rSide [.d (dQ q), .d (dSm s), .d (dSm t)] (.ok (.d (.tuple [dQo (sideQ q s t).1, dQo (sideQ q s t).2]))) := ⟨k, q, s, t, rfl, h, h0, h1, rfl⟩
theorem rJoin_mk {k : Nat} {c c' : Int} {s s' : Option (List Int)} (h : RgOk k c s) (h0 : RgOk k c' s') (h1 : k ≤ 3) : rJoin [.d (dA (.rng c s)), .d (dA (.rng c' s'))] (.ok (.d (dA (joinR c s c' s')))) := ⟨k, c, s, c', s', rfl, h, h0, h1, rfl⟩
end Sg
/-! # Own errors whose __init__ says super().__init__(text) -/
namespace Sg
open PySem PySem.W PySem.Calls PyProof.Rows PySem.HandSPX
def exSup (m : Str) (k : Nat) (p0 p1 p2 p3 p4 p5 : Pos) : Stmt := .Expr (.Call (.Attribute (.Call (.Name "super" p0) [] [] p1) "__init__" p2) [.Constant (.str m) k p3] [] p4) p5
/-- what the top has written of such a class (at C; its __init__ at fI) -/
structure ExT (P : Program) (K : Frag) (mg : Str → Option Value) (x qual : Str) (params : Arguments) (body : List Stmt) (scope : Scope) (flds : List Str) (C fI : Addr) : Prop where
  gC : mg x = some (.ref C)
  cls : ∃ nm q N bs bm sn sub ab col dd k0 k1 k2 k3 k5, K.lookup C = some (excClassObj nm q C N bs bm true sn sub ab col dd k0 k1 k2 k3 k5 "ValueError.__new__") ∧ refsVE bm = true ∧ alongIn K "__init__" bm = some (some (.builtin "ValueError.__init__"))
  sa : findIn K (.ref C) "__setattr__" = some (some (.builtin "object.__setattr__"))
  ga : findIn K (.ref C) "__getattribute__" = some (some (.builtin "BaseException.__getattribute__"))
  gg : findIn K (.ref C) "__getattr__" = some none
  noN : ∀ f ∈ flds, findIn K (.ref C) f = some none
  iC : findIn K (.ref C) "__init__" = some (some (.ref fI))
  tC : typeIn K (.ref fI) = some (.type "function")
  kC : keepIn K (.ref C) = true
  exC : subIn K (.ref C) (.type "BaseException") = some true
  veC : subIn K (.ref C) (.type "ValueError") = some true
  tyC : typeIn K (.ref C) = some (.type "type")
  hdC : hasDictIn K C = true
  cst : nsIn K cStatics "thirdparty.any" = some none
  sup : mg "super" = none
  fn : ∃ (oc : Value) (od : Option Addr) (doc pm : Value) (an : Option Addr) (cda cc : Addr) (ct : Value) (osl : Array (Option Value)) (ccl : Value) (cdd : Option Addr) (vs : Array Value) (ccs : Array (Option Value)) (file : Str) (tf : Tok) (cl : Value) (cld : Option Addr) (csl : Array (Option Value)),
    K.lookup fI = some ⟨oc, od, .func (ksFn "__init__" qual params body scope .none .none doc pm an (.ref cda) ct cc), osl⟩ ∧ codeIn K (.ref cda) qual = true ∧
    K.lookup cda = some ⟨ccl, cdd, .fields vs, ccs⟩ ∧ vs[2]? = some (.str file tf) ∧ ((P.main.file : Str) == file) = true ∧ K.lookup cc = some ⟨cl, cld, .cell (some (.ref C)), csl⟩
/-- its scope -/
structure ExS (P : Program) (ps : List Str) (scope : Scope) : Prop where
  hk : scope.kind = .function
  co : scope.isCoroutine = false
  gen : scope.isGenerator = false
  cell : ∀ x ∈ scope.names, x.2 ≠ .cell
  ks : scope.names.lookup ("super" : Str) = some .globalImplicit
  kc : scope.names.lookup ("__class__" : Str) = some .free
  loc : ∀ x ∈ ps, scope.names.lookup x = some .local
  top : (P.main.scope.names.lookup ("super" : Str)).isSome = false
/-- a made one: at e, with the dict d -/
structure ExMade (h h' : Heap) (e C d : Addr) (mA : Str → Option Value) : Prop where
  keep : ∀ b o, h.get? b = some o → h'.get? b = some o
  new : h.objs.size ≤ e
  obj : ∃ oe vs, h'.get? e = some oe ∧ oe.cls = .ref C ∧ oe.dict = some d ∧ oe.data = .fields vs ∧ vs[1]? = some .none
  dbig : h.objs.size ≤ d
  dne : d ≠ e
  ns : h'.Ns1 d mA
/-- what __init__ leaves of a fresh one at x -/
structure ExEnd (h h' : Heap) (x C dx t1 : Addr) (mA : Str → Option Value) : Prop where
  keep : ∀ b o, b ≠ x → h.get? b = some o → h'.get? b = some o
  obj : h'.get? x = some { cls := .ref C, dict := some dx, data := .fields #[.ref t1, .none, .none, .none, .bool false, .none] }
  dbig : h.objs.size ≤ dx
  dne : dx ≠ x
  ns : h'.Ns1 dx mA
section
variable {prog : Program} {w : World} {A : Around} {E : Value → Shared → Prop} {R : Result → Shared → Prop} {s : Shared} {K : Frag} {mg : Str → Option Value} {x qual : Str} {params : Arguments} {scope : Scope} {flds ps : List Str} {C fI : Addr}
theorem ex_super {e t0 : Addr} {m : Str} {k : Nat} {p0 p1 p2 p3 p4 p5 : Pos} {rest : List Stmt} {ar : Arg} {us : List Value} {pl : PySem.Env → Sem Bool} (T : ExT prog K mg x qual params (exSup m k p0 p1 p2 p3 p4 p5 :: rest) scope flds C fI) (S : ExS prog ps scope) (X : K.In s.heap)
    (hG : s.heap.Ns mainGlobals mg) (hB : ∃ mb, s.heap.Ns builtinsNs mb ∧ ∀ x : Str, x ≠ "__name__" → mb x = bootBuiltins x) (hlim : s.heap.NoLimit) (hx : s.heap.get? e = some (excO C t0)) (hroom : A.depth < recursionLimit)
    (hbind : ∀ (doc pm : Value) (an : Option Addr) (cdv ct : Value) (cc : Addr), bindArgs (ksFn "__init__" qual params (exSup m k p0 p1 p2 p3 p4 p5 :: rest) scope .none .none doc pm an cdv ct cc) ⟨us, []⟩ = pure (ps.zip us))
    (hp : (params.posonlyargs ++ params.args).head? = some ar) (har : ar.arg ∈ ps) (hself : (ps.zip us).reverse.lookup ar.arg = some (.ref e))
    (he : ∀ env : PySem.Env, eval (.Call (.Attribute (.Call (.Name "super" p0) [] [] p1) "__init__" p2) [.Constant (.str m) k p3] [] p4) env = (do
      let ov ← attributeBase (.Call (.Name "super" p0) [] [] p1) "__init__" env (eval (.Call (.Name "super" p0) [] [] p1) env)
      standAt p2.atName
      let (f, first) ← holding [ov] (getMethod ov "__init__" (pl env))
      callWith p4 f first (backTo p4 (starEach [.Constant (.str m) k p3] env)) []))
    (hq : ∀ (cda cc L : Addr) h₁ tk t1, h₁.Ns L (fun y => (ps.zip us).reverse.lookup y) → L ≠ e → s.heap.objs.size ≤ L → (∀ b o, b ≠ e → s.heap.get? b = some o → h₁.get? b = some o) → h₁.get? e = some (excO C t1) →
      wpAny (model prog w) (A.deeper (ksEnv qual scope L fI (.ref cda) cc)) (execs rest (ksEnv qual scope L fI (.ref cda) cc)) (fun fl s' => R (.ok (.ret (match fl with | .ret v => v | _ => .none))) s')
        (fun er s' => wpAny (model prog w) (A.deeper (ksEnv qual scope L fI (.ref cda) cc)) (leaving (ksEnv qual scope L fI (.ref cda) cc) er) (fun _ s'' => R (.error er) s'') (fun e' s'' => R (.error e') s'') s') { s with heap := h₁, toks := tk }) :
    codeAny (model prog w) A (.call (.ref fI) ⟨us, []⟩) R s := by
  obtain ⟨oc, od, doc, pm, an, cda, cc, ct, osl, ccl, cdd, vs, ccs, file, tf, cl, cld, csl, ho, hcd, hcode, hvs, hfile, hcell⟩ := T.fn
  obtain ⟨nm, q, N, bs, bm, sn, sub, ab, col, dd, k0, k1, k2, k3, k5, hC, hbm, hal⟩ := T.cls
  have hcl : clsIn K C = some { name := nm, bases := bs, mro := .ref C :: bm, ns := N, qualname := q, hasDict := true, slotNames := sn, subclasses := sub, abstract := ab, collection := col, hasDel := false } := by unfold clsIn; rw [hC] <;> rfl
  refine ks_codeAny_call_defAt (fd := ksFn "__init__" qual params (exSup m k p0 p1 p2 p3 p4 p5 :: rest) scope .none .none doc pm an (.ref cda) ct cc) (body := exSup m k p0 p1 p2 p3 p4 p5 :: rest) (binds := ps.zip us) hroom (X _ _ ho) rfl hlim (codeRec_of X hcd) rfl
    (.of_eq (hbind _ _ _ _ _ _)) S.cell (fun y hy => S.loc _ (List.of_mem_zip hy).1) (fun h₀ hn k₀ => ?_) S.co S.gen S.hk
  obtain ⟨hh, g, d, t, os⟩ := s
  have X₀ : K.In h₀ := X.keeps k₀
  have hx₀ := k₀ _ _ hx
  have hLe : hh.objs.size ≠ e := Nat.ne_of_gt (Heap.lt_size hx)
  have hG0 : h₀.Ns mainGlobals mg := hG.keeps k₀
  obtain ⟨mb, hB1, hB2⟩ := hB
  have hB0 : h₀.Ns builtinsNs mb := hB1.keeps k₀
  refine ks_wpAt_execs_cons (ks_wpAt_Expr_any (ks_wpAt_MethodCall ?_ (he _)) (by unfold interactive; rw [show (callEnv (ksFn "__init__" qual params (exSup m k p0 p1 p2 p3 p4 p5 :: rest) scope .none .none doc pm an (.ref cda) ct cc) hh.objs.size fI).scope.kind = .function from S.hk]; rfl))
  · refine ks_wpAt_super_base (env := ksEnv qual scope hh.objs.size fI (.ref cda) cc) S.ks S.kc (by decide) rfl (X₀ _ _ ho) rfl hp rfl (X₀ _ _ hcode) rfl hvs hfile S.top ?_
    refine ks_loadName_global S.hk S.ks (loadGlobal_builtin (env := ksEnv qual scope hh.objs.size fI (.ref cda) cc) hG0 T.sup hB0 ((hB2 _ (by decide)).trans (show bootBuiltins "super" = some (.type "super") by kernel_rfl)) ⟨rfl, ?_⟩)
    refine wpAny_loadName_free S.hk S.kc rfl ⟨_, X₀ _ _ hcell, rfl⟩ ?_
    refine wpAny_loadName_local S.hk (S.loc _ har) hn hself ?_
    refine ks_wpAny_isType_cls (X₀ _ _ hC) rfl ⟨rfl, ?_⟩
    refine ks_wpAny_call_super (X₀ _ _ hC) rfl hx₀ rfl (fun c z => by cases z) ((looks_mroIn X₀ (show mroIn K C (.ref C) = some true from ?_))) (fun h' e1 k1 => ?_)
    · unfold mroIn
      rw [hcl, Option.bind_some]
      simp
    · have X₁ : K.In h' := X₀.keeps k1
      have I1 : InstAt h' e (excO C t0) C none := ⟨k1 _ _ hx₀, rfl, rfl, trivial⟩
      refine kxs_getMethod kxs_ValueError e1 (looks_opaque X₁ T.cst) (l₀ := .ref C :: bm) (l := bm) ?_ ?_ X₁ hal (I1.type.andThen (looks_subIn X₁ T.veC)) (ks_ne X₁ I1 hcl) (by decide) ?_
      · exact fun A Q E s k q => wpAny_bind ((looks_clsIn X₁ hcl) A _ E s k (wpAny_pure q))
      · simp [List.dropWhile_cons]
      · have hu : (h'.push (kxs_mw "ValueError.__init__" e)).get? h'.objs.size = some (kxs_mw "ValueError.__init__" e) := Heap.get?_push_at rfl rfl
        refine kxs_callWith (i := "ValueError.__init__") (x := e) rfl ?_
        refine evalArgs_plain ?_
        refine spliced_cons (wpAny_Constant_str (k := k) (pos := p3) ?_)
        refine spliced_nil ⟨hu, ?_⟩
        refine wpAny_call (codeAny_of_tree ?_)
        show wpAny _ _ (callAny (.ref h'.objs.size) ⟨_, []⟩) _ _ _
        simp only [callAny]
        refine wpAny_bind (wpAny_load hu ?_)
        simp only [kxs_mw, show (Value.type "method-wrapper" == Value.type "method" || Value.type "method-wrapper" == Value.type "builtin_function_or_method" || Value.type "method-wrapper" == Value.type "method-wrapper") = true by decide, if_true]
        refine KFB.if_so (by decide) ?_
        have X₂ : K.In (h'.push (kxs_mw "ValueError.__init__" e)) := X₁.keeps fun b o z => Heap.get?_push_of_some _ z
        have hx₂ : (h'.push (kxs_mw "ValueError.__init__" e)).get? e = some (excO C t0) := Heap.get?_push_of_some _ (k1 _ _ hx₀)
        refine wpAny_bind (check_bound_init F.excBase_ValueError.toExcCallFacts (X₂ _ _ hC) hx₂ rfl ?_)
        refine wpAny_bind (wpAny_pure (wpAny_pure ?_))
        refine ⟨plainId_quiet F.excBase_ValueError.init.plain _, codeAny_builtin F.excBase_ValueError.initEntry ?_⟩
        refine exc_init_tree (cls := .ref C) (t0 := t0) (dv := none) (c2 := .none) (c3 := .none) (b4 := .bool false) hx₂ (by show 1 ≤ sizeLine; rw [sizeLine_eq]; omega) (fun h₃ k₃ e₃ _ => ?_)
        refine wpAt_of_wpAny (hq cda cc hh.objs.size h₃ _ _ ?_ hLe (Nat.le_refl _) (fun b o hb z => k₃ b o hb (Heap.get?_push_of_some _ (k1 _ _ (k₀ _ _ z)))) e₃)
        obtain ⟨oD, es, ep, hL, hr⟩ := hn
        exact ⟨oD, es, ep, k₃ _ _ hLe (Heap.get?_push_of_some _ (k1 _ _ hL)), hr⟩
/-- self.f = a, the first field -/
theorem ex_set1 {h : Heap} {g : Array GenState} {d : Drawn} {tk : Nat} {os : OsState} {Q : Flow → Shared → Prop} {e t1 : Addr} {L : Addr} {m : Str → Option Value} {f a sf : Str} {q1 q2 q3 q4 : Pos} {cda cc : Addr} {v : Value} {body : List Stmt} {rest : List Stmt} (T : ExT prog K mg x qual params body scope flds C fI) (S : ExS prog ps scope) (X : K.In h)
    (hn : h.Ns L m) (he : h.get? e = some (excO C t1)) (hLe : L ≠ e) (hf : f ∈ flds) (hs : m sf = some (.ref e)) (hsp : sf ∈ ps) (ha : m a = some v) (hap : a ∈ ps) (hd1 : (sf == ("__debug__" : Str)) = false) (hd2 : (a == ("__debug__" : Str)) = false)
    (hq : ∀ h' tk' dx, (∀ b o, b ≠ e → h.get? b = some o → h'.get? b = some o) → h'.Ns L m → h.objs.size ≤ dx → dx ≠ e → h'.get? e = some { cls := .ref C, dict := some dx, data := .fields #[.ref t1, .none, .none, .none, .bool false, .none] } →
      h'.Ns1 dx (fun y => if y = f then some v else none) → wpAny (model prog w) A (execs rest (ksEnv qual scope L fI (.ref cda) cc)) Q E ⟨h', g, d, tk', os⟩) :
    wpAny (model prog w) A (execs (.Assign [.Attribute (.Name sf q1) f q2] (.Name a q3) q4 :: rest) (ksEnv qual scope L fI (.ref cda) cc)) Q E ⟨h, g, d, tk, os⟩ := by
  obtain ⟨nm, q, N, bs, bm, sn, sub, ab, col, dd, k0, k1, k2, k3, k5, hC, hbm, hal⟩ := T.cls
  have hcl : clsIn K C = some { name := nm, bases := bs, mro := .ref C :: bm, ns := N, qualname := q, hasDict := true, slotNames := sn, subclasses := sub, abstract := ab, collection := col, hasDel := false } := by unfold clsIn; rw [hC] <;> rfl
  refine wpAny_execs_cons (plainObj_wpAny_Assign_Attribute ?_)
  refine wpAny_Name (wpAny_loadName_local S.hk (S.loc _ hap) hn ha ?_) hd2
  refine wpAny_Name (wpAny_loadName_local S.hk (S.loc _ hsp) hn hs ?_) hd1
  refine set_plain X (ox := excO C t1) (od := none) ⟨he, rfl, rfl, trivial⟩ T.sa ?_
  refine exc_osa X he hcl (show refsVE (.ref C :: bm) = true from hbm) rfl (T.noN _ hf) (fun h₃ tk₃ dx k₃ dn dne hx₃ hn₃ => ?_)
  obtain ⟨oD, es, ep, hL, hr⟩ := hn
  exact hq h₃ tk₃ dx k₃ ⟨oD, es, ep, k₃ _ _ hLe hL, hr⟩ dn dne hx₃ hn₃
/-- self.f = a, a further field -/
theorem ex_set2 {h : Heap} {g : Array GenState} {d : Drawn} {tk : Nat} {os : OsState} {Q : Flow → Shared → Prop} {e t1 dx : Addr} {L : Addr} {m m0 : Str → Option Value} {f a sf : Str} {q1 q2 q3 q4 : Pos} {cda cc : Addr} {v : Value} {body : List Stmt} {rest : List Stmt} {nl : List Str} (T : ExT prog K mg x qual params body scope flds C fI) (S : ExS prog ps scope) (X : K.In h)
    (hn : h.Ns L m) (he : h.get? e = some { cls := .ref C, dict := some dx, data := .fields #[.ref t1, .none, .none, .none, .bool false, .none] }) (hn1 : h.Ns1 dx m0) (hw : Within m0 nl) (hz : nl.length ≤ 1000) (hLd : L ≠ dx) (hde : dx ≠ e) (hf : f ∈ flds) (hs : m sf = some (.ref e)) (hsp : sf ∈ ps) (ha : m a = some v) (hap : a ∈ ps) (hd1 : (sf == ("__debug__" : Str)) = false) (hd2 : (a == ("__debug__" : Str)) = false)
    (hq : ∀ h' tk', (∀ b o, b ≠ dx → h.get? b = some o → h'.get? b = some o) → h'.Ns L m → h'.get? e = some { cls := .ref C, dict := some dx, data := .fields #[.ref t1, .none, .none, .none, .bool false, .none] } →
      h'.Ns1 dx (fun y => if y = f then some v else m0 y) → wpAny (model prog w) A (execs rest (ksEnv qual scope L fI (.ref cda) cc)) Q E ⟨h', g, d, tk', os⟩) :
    wpAny (model prog w) A (execs (.Assign [.Attribute (.Name sf q1) f q2] (.Name a q3) q4 :: rest) (ksEnv qual scope L fI (.ref cda) cc)) Q E ⟨h, g, d, tk, os⟩ := by
  obtain ⟨nm, q, N, bs, bm, sn, sub, ab, col, dd, k0, k1, k2, k3, k5, hC, hbm, hal⟩ := T.cls
  have hcl : clsIn K C = some { name := nm, bases := bs, mro := .ref C :: bm, ns := N, qualname := q, hasDict := true, slotNames := sn, subclasses := sub, abstract := ab, collection := col, hasDel := false } := by unfold clsIn; rw [hC] <;> rfl
  refine wpAny_execs_cons (plainObj_wpAny_Assign_Attribute ?_)
  refine wpAny_Name (wpAny_loadName_local S.hk (S.loc _ hap) hn ha ?_) hd2
  refine wpAny_Name (wpAny_loadName_local S.hk (S.loc _ hsp) hn hs ?_) hd1
  obtain ⟨oX, esX, epX, hX, _⟩ := hn1.count hw
  refine set_plain X (od := some oX) ⟨he, rfl, rfl, hX⟩ T.sa ?_
  refine PySem.OEX.osa_old X he hn1 hw hz hcl (show refsVE (.ref C :: bm) = true from hbm) rfl (T.noN _ hf) (fun h₃ tk₃ k₃ hn₃ => ?_)
  obtain ⟨oD, es, ep, hL, hr⟩ := hn
  exact hq h₃ tk₃ k₃ ⟨oD, es, ep, k₃ _ _ hLd hL, hr⟩ (k₃ _ _ (Ne.symm hde) he) hn₃
theorem ex_made {body : List Stmt} {vs : List Value} {mA : Str → Option Value} (T : ExT prog K mg x qual params body scope flds C fI) (X : K.In s.heap) (hz : vs.length ≤ sizeLine) (hroom : A.depth + 1 < recursionLimit)
    (hi : ∀ (A' : Around) (s' : Shared) (e t0 : Addr) (R' : Result → Shared → Prop), A'.depth < recursionLimit → (∀ b o, s.heap.get? b = some o → s'.heap.get? b = some o) → s'.heap.get? e = some (excO C t0) → K.lookup e = none →
      (∀ h' tk dx t1, ExEnd s'.heap h' e C dx t1 mA → R' (.ok (.ret .none)) { s' with heap := h', toks := tk }) → codeAny (model prog w) A' (.call (.ref fI) ⟨.ref e :: vs, []⟩) R' s')
    (hq : ∀ h' tk e d, ExMade s.heap h' e C d mA → R (.ok (.ret (.ref e))) { s with heap := h', toks := tk }) :
    codeAny (model prog w) A (.call (.ref C) ⟨vs, []⟩) R s := by
  obtain ⟨nm, q, N, bs, bm, sn, sub, ab, col, dd, k0, k1, k2, k3, k5, hC, hbm, hal⟩ := T.cls
  obtain ⟨hp, g, dr, tk, os⟩ := s
  have k : ∀ b o, hp.get? b = some o → ((hp.push (kdv_tup vs)).push (excO C hp.objs.size)).get? b = some o := fun b o e => Heap.get?_push_of_some _ (Heap.get?_push_of_some _ e)
  have hget : ((hp.push (kdv_tup vs)).push (excO C hp.objs.size)).get? (hp.objs.size + 1) = some (excO C hp.objs.size) := by heap_get
  have hnx : K.lookup (hp.objs.size + 1) = none := by
    cases e : K.lookup (hp.objs.size + 1) with
    | none => rfl
    | some o =>
      have z : hp.get? (hp.objs.size + 1) = some o := X _ _ e
      exact absurd (Nat.lt_of_succ_lt (Heap.lt_size z)) (Nat.lt_irrefl _)
  refine call_own F.excBase_ValueError (fun X => refsVE_contains X bm hbm) (X _ _ hC) (looks_findIn X T.iC) (fun self => bind_fn X self T.tC) hz ?_
  refine hi _ ⟨(hp.push (kdv_tup vs)).push (excO C hp.objs.size), g, dr, tk, os⟩ _ _ _ ?_ k hget hnx fun h' tk' dx t1 ⟨k', hx, dn, dne, hns⟩ => ?_
  · show A.depth + 1 < recursionLimit
    exact hroom
  · have old : ∀ b o, hp.get? b = some o → h'.get? b = some o := fun b o e => k' b o (Nat.ne_of_lt (Nat.lt_succ_of_lt (Heap.lt_size e))) (k b o e)
    have z : hp.objs.size + 1 + 1 ≤ dx := by
      first
        | (simpa only [Heap.size_push] using dn)
        | exact dn
        | (have q := dn; rw [Heap.size_push, Heap.size_push] at q; exact q)
    exact ⟨rfl, hq h' tk' (hp.objs.size + 1) dx ⟨old, Nat.le_succ _, ⟨_, _, hx, rfl, rfl, rfl, rfl⟩, Nat.le_trans (Nat.le_trans (Nat.le_succ _) (Nat.le_succ _)) z, dne, hns⟩⟩
end
end Sg
namespace Sg
open PySem PySem.Spec L2
/-- such a class, called with n values: the fields fs -/
def ExMk (P : Program) (w : World) (K : PySem.W.Frag) (mg : Str → Option Value) (C : Addr) (n : Nat) (fs : List V → List (Str × V)) : Prop :=
  ∀ (A : Around) (R : Result → Shared → Prop) (s : Shared) (us : List Value), us.length = n → K.In s.heap → s.heap.Ns mainGlobals mg → (∃ mb, s.heap.Ns builtinsNs mb ∧ ∀ x : Str, x ≠ "__name__" → mb x = bootBuiltins x) → s.heap.NoLimit → A.depth + 1 < recursionLimit →
    (∀ h' tk e d mA, ExMade s.heap h' e C d mA → (∀ vs, Vals vs us → ∀ f, RelO (List.lookup f (fs vs)) (mA f)) → R (.ok (.ret (.ref e))) { s with heap := h', toks := tk }) → codeAny (model P w) A (.call (.ref C) ⟨us, []⟩) R s
/-- what a raise of it needs -/
structure ExOk (P : Program) (w : World) (K : PySem.W.Frag) (mg : Str → Option Value) (x : Str) (n : Nat) (fs : List V → List (Str × V)) : Prop where
  gC : mg x = some (.ref (He.ga K x))
  kC : PySem.W.keepIn K (.ref (He.ga K x)) = true
  exC : PySem.W.subIn K (.ref (He.ga K x)) (.type "BaseException") = some true
  tyC : PySem.W.typeIn K (.ref (He.ga K x)) = some (.type "type")
  made : ExMk P w K mg (He.ga K x) n fs
section
variable {X : Cx} {x : Str} {n : Nat} {fs : List V → List (Str × V)}
def tMkEx (C : Addr) (n : Nat) (fs : List V → List (Str × V)) (ta : TA) : L2.St → Hp → XK → Prop := fun σ H Q => ta σ H fun vs H1 => vs.length = n ∧ ∀ d, H1 d = none → Q (.ref C) (some d) (upd H1 d (.xd (fs vs)))
theorem pmk_ex {e : Expr} {es : List Expr} {ta : TA} {p pos : Pos} {k : Nat} (T : ExOk X.prog X.w X.K X.mg x n fs) (hr : Room k X.A) (ha : PA X (e :: es) ta) (hg : Gl X x) (hdb : (x == ("__debug__" : Str)) = false)
    (he : starEach (e :: es) X.env = (false, eval e X.env) :: starEach es X.env) (hpl : (backTo pos (starEach es X.env)).any (·.1) = false) :
    PMk X (.Call (.Name x p) (e :: es) [] pos) (tMkEx (He.ga X.K x) n fs ta) := by
  intro pins s σ H Q I h
  refine wpAny_Call_Name_kw (ld_glob I hg T.gC ?_ hdb)
  refine PySem.W.callWith_K (h₀ := X.base) I.ok.mod.kin T.kC (thn (ha.run pos pins s σ H _ I h) fun us s1 hh => ?_) he hpl
  obtain ⟨vs, H1, I1, r1, ev, q1⟩ := hh
  refine ⟨I1.kIn, ?_⟩
  show wpAny _ _ (call (.ref (He.ga X.K x)) us) _ _ _
  have hlim := I1.nolimit
  have hGl : s1.heap.Ns mainGlobals X.mg := I1.ok.mod.glob.keeps I1.bk
  have hBl : ∃ mb, s1.heap.Ns builtinsNs mb ∧ ∀ x : Str, x ≠ "__name__" → mb x = bootBuiltins x := by
    obtain ⟨mb, h1, h2⟩ := I1.ok.mod.blt
    exact ⟨mb, h1.keeps I1.bk, h2⟩
  obtain ⟨hp, g, dr, tk, os⟩ := s1
  refine wpAny_call (T.made _ _ _ us (by rw [← r1.length]; exact ev) I1.kIn hGl hBl hlim (by have := hr.dp; omega) fun h' tk' e d mA M rm => ?_)
  show MkP X pins σ Q (.ref e) ⟨h', g, dr, tk', os⟩
  obtain ⟨oe, fv, hoe, hc, hd, hdat, h1⟩ := M.obj
  have hns := M.ns
  obtain ⟨G', g1, g2⟩ := restrict h' fun b => decide (b ≠ e)
  have gk : ∀ b, b ≠ e → G'.get? b = h'.get? b := fun b hb => g1 b (decide_eq_true hb)
  have ge : G'.get? e = none := g2 e (by simp)
  have old : ∀ b o, hp.get? b = some o → G'.get? b = some o := fun b o q => (gk b (Nat.ne_of_lt (Nat.lt_of_lt_of_le (Heap.lt_size q) M.new))).trans (M.keep b o q)
  have ob : ObjOk X.prog X.w (upd H1 d (.xd (fs vs))) G' d (.xd (fs vs)) := ⟨_, hns.at (fun o q => (gk d M.dne).trans q), fun f => rm vs r1 f⟩
  have J : Inv X pins σ (upd H1 d (.xd (fs vs))) ⟨G', g, dr, tk', os⟩ := I1.laid (t' := tk') old M.dbig ob
  refine ⟨e, oe, fv, ⟨G', g, dr, tk', os⟩, _, .ref (He.ga X.K x), some d, rfl, J, fun b o q => ?_, ge, hoe, ⟨hc, hd⟩, hdat, h1, ?_, rfl, I1.bare, raises_own T.exC T.tyC, q1 d (I1.hok.fresh M.dbig)⟩
  · by_cases hb : b = e
    · have q' : G'.get? b = some o := q
      rw [hb, ge] at q'; cases q'
    · exact (gk b hb).symm.trans q
  · rw [upd_ne (Ne.symm M.dne)]
    exact I1.hok.fresh M.new
/-- raise X(e, ..) -/
theorem b1_raise {ρ : Rho} {e : Expr} {es : List Expr} {p pos pos2 : Pos} {k : Nat} {ds : List PyData} {fd : List (Str × PyData)} (T : ExOk X.prog X.w X.K X.mg x n fs) (c : XOk X) (hr : Room k X.A) (ha : EvA X (e :: es) ρ (ds.map DV.d)) (hl : ds.length = n)
    (hf : ∀ (H : Hp) (vs : List V), DpAll X.K H vs ds → FldsR X.K H (fs vs) fd) (hg : Gl X x) (hdb : (x == ("__debug__" : Str)) = false)
    (he : starEach (e :: es) X.env = (false, eval e X.env) :: starEach es X.env) (hpl : (backTo pos (starEach es X.env)).any (·.1) = false) :
    B1 X (.Raise (some (.Call (.Name x p) (e :: es) [] pos)) none pos2) ρ (.ex ⟨x, fd⟩ ρ) := fun W σ H D tk E q =>
  ⟨_, ps_raise c.calm tk (pmk_ex T hr pa_w hg hdb he hpl), ha σ H _ E fun vs H1 s1 d1 => by
    have da := dpAll_of_drs d1
    refine ⟨(dpAll_length da).trans hl, fun d hd => ?_⟩
    have sm : Same H1 (upd H1 d (.xd (fs vs))) := same_new hd _
    exact q _ _ _ _ (s1.trans sm) (E.mono (s1.trans sm)) ⟨rfl, d, _, rfl, upd_same, hf _ _ (dpAll_mono sm _ _ da)⟩⟩
end
end Sg
namespace Sg
open PySem PySem.Spec L2
abbrev s_NotShown_init : Stmt := inClass (top 4) 0
abbrev s_Unlike_init : Stmt := inClass (top 6) 0
abbrev ExT1 (P : Program) (K : PySem.W.Frag) (mg : Str → Option Value) (fI : Addr) : Prop := ExT P K mg "NotShown" "NotShown.__init__" (defArgs s_NotShown_init) (defBody s_NotShown_init) (defScope s_NotShown_init) ["name"] (He.ga K "NotShown") fI
abbrev ExT2 (P : Program) (K : PySem.W.Frag) (mg : Str → Option Value) (fI : Addr) : Prop := ExT P K mg "Unlike" "Unlike.__init__" (defArgs s_Unlike_init) (defBody s_Unlike_init) (defScope s_Unlike_init) ["first", "second"] (He.ga K "Unlike") fI
def fs1 : List V → List (Str × V)
  | [v] => [("name", v)]
  | _ => []
def fs2 : List V → List (Str × V)
  | [u, v] => [("second", v), ("first", u)]
  | _ => []
section
variable {P : Program} {w : World} {K : PySem.W.Frag} {mg : Str → Option Value} {fI : Addr}
theorem sz_le {n : Nat} (h : n ≤ 1000) : n ≤ sizeLine := Nat.le_of_lt (small1000 h)
theorem exs1 (ht : (P.main.scope.names.lookup ("super" : Str)).isSome = false) : ExS P ["self", "name"] (defScope s_NotShown_init) := ⟨rfl, rfl, rfl, by decide +kernel, by decide +kernel, by decide +kernel, by decide +kernel, ht⟩
theorem exs2 (ht : (P.main.scope.names.lookup ("super" : Str)).isSome = false) : ExS P ["self", "first", "second"] (defScope s_Unlike_init) := ⟨rfl, rfl, rfl, by decide +kernel, by decide +kernel, by decide +kernel, by decide +kernel, ht⟩
theorem relO_fs {fs : List (Str × V)} {mA : Str → Option Value} (h : ∀ f, RelO (fs.lookup f) (mA f)) {f0 : Str} {v : V} {u : Value} (r : RelV v u) : ∀ f, RelO (List.lookup f ((f0, v) :: fs)) (if f = f0 then some u else mA f) := fun f => relO_put r h f
theorem exk1 (T : ExT1 P K mg fI) (S : ExS P ["self", "name"] (defScope s_NotShown_init)) : ExMk P w K mg (He.ga K "NotShown") 1 fs1 := by
  intro A R s us hl X hG hB hlim hroom hq
  match us, hl with
  | [v], _ =>
    refine ex_made (mA := fun y => if y = "name" then some v else none) T X (sz_le (show 1 ≤ 1000 by decide)) hroom (fun A' s' e t0 R' hr k hx hnx hi => ?_) (fun h' tk e d M => hq h' tk e d _ M fun vs r f => ?_)
    · refine ex_super (ps := ["self", "name"]) T S (X.keeps k) (hG.keeps k) ?_ (hlim.keeps k) hx hr (fun _ _ _ _ _ _ => rfl) rfl (by decide) rfl (fun env => rfl) (fun cda cc L h₁ tk t1 hn hLe hL k1 he => ?_)
      · obtain ⟨mb, h1, h2⟩ := hB
        exact ⟨mb, h1.keeps k, h2⟩
      obtain ⟨hp, g, d, t, os⟩ := s'
      have X1 : K.In h₁ := fun b o z => k1 b o (fun q => by rw [q, hnx] at z; cases z) (k b o (X b o z))
      refine ex_set1 T S X1 hn he hLe (by decide) (show List.lookup _ _ = _ from rfl) (by decide) (show List.lookup _ _ = _ from rfl) (by decide) (by decide) (by decide) (fun h' tk' dx k2 hn2 hb hd ho hns => ?_)
      show wpAny _ _ (execs [] _) _ _ _
      have hbig : hp.objs.size ≤ dx := Nat.le_trans (Nat.le_trans hL (Nat.le_of_lt hn.lt)) hb
      exact wpAny_execs_nil (hi h' tk' dx t1 ⟨fun b o hb z => k2 b o hb (k1 b o hb z), ho, hbig, hd, hns⟩)
    · cases r with
      | cons r1 r2 =>
        cases r2
        exact relO_fs (fs := []) (mA := fun _ => none) (fun _ => True.intro) r1 f
theorem exk2 (T : ExT2 P K mg fI) (S : ExS P ["self", "first", "second"] (defScope s_Unlike_init)) : ExMk P w K mg (He.ga K "Unlike") 2 fs2 := by
  intro A R s us hl X hG hB hlim hroom hq
  match us, hl with
  | [u, v], _ =>
    refine ex_made (mA := fun y => if y = "second" then some v else if y = "first" then some u else none) T X (sz_le (show 2 ≤ 1000 by decide)) hroom (fun A' s' e t0 R' hr k hx hnx hi => ?_) (fun h' tk e d M => hq h' tk e d _ M fun vs r f => ?_)
    · refine ex_super (ps := ["self", "first", "second"]) T S (X.keeps k) (hG.keeps k) ?_ (hlim.keeps k) hx hr (fun _ _ _ _ _ _ => rfl) rfl (by decide) rfl (fun env => rfl) (fun cda cc L h₁ tk t1 hn hLe hL k1 he => ?_)
      · obtain ⟨mb, h1, h2⟩ := hB
        exact ⟨mb, h1.keeps k, h2⟩
      obtain ⟨hp, g, d, t, os⟩ := s'
      have X1 : K.In h₁ := fun b o z => k1 b o (fun q => by rw [q, hnx] at z; cases z) (k b o (X b o z))
      refine ex_set1 T S X1 hn he hLe (by decide) (show List.lookup _ _ = _ from rfl) (by decide) (show List.lookup _ _ = _ from rfl) (by decide) (by decide) (by decide) (fun h' tk' dx k2 hn2 hb hd ho hns => ?_)
      have X2 : K.In h' := fun b o z => k2 b o (fun q => by rw [q, hnx] at z; cases z) (X1 b o z)
      have hbig : hp.objs.size ≤ dx := Nat.le_trans (Nat.le_trans hL (Nat.le_of_lt hn.lt)) hb
      have hw : Within (fun y => if y = ("first" : Str) then some u else none) ["first"] := Within.cons "first" u Within.nil
      refine ex_set2 T S X2 hn2 ho hns hw (by decide) (Nat.ne_of_lt (Nat.lt_of_lt_of_le hn.lt hb)) hd (by decide) (show List.lookup _ _ = _ from rfl) (by decide) (show List.lookup _ _ = _ from rfl) (by decide) (by decide) (by decide) (fun h3 tk3 k3 hn3 ho3 hns3 => ?_)
      show wpAny _ _ (execs [] _) _ _ _
      refine wpAny_execs_nil (hi h3 tk3 dx t1 ⟨fun b o hb' z => k3 b o (fun q => ?_) (k2 b o hb' (k1 b o hb' z)), ho3, hbig, hd, hns3⟩)
      rw [q] at z
      exact absurd (Heap.lt_size z) (Nat.not_lt.mpr hbig)
    · cases r with
      | cons r1 r2 =>
        cases r2 with
        | cons r2 r3 =>
          cases r3
          exact relO_fs (relO_fs (fs := []) (mA := fun _ => none) (fun _ => True.intro) r1) r2 f
theorem exo1 (C : Wd K mg) (T : ExT1 P K mg fI) (ht : (P.main.scope.names.lookup ("super" : Str)).isSome = false) : ExOk P w K mg "NotShown" 1 fs1 := ⟨C.glo _ (by decide +kernel), T.kC, T.exC, T.tyC, exk1 T (exs1 ht)⟩
theorem exo2 (C : Wd K mg) (T : ExT2 P K mg fI) (ht : (P.main.scope.names.lookup ("super" : Str)).isSome = false) : ExOk P w K mg "Unlike" 2 fs2 := ⟨C.glo _ (by decide +kernel), T.kC, T.exC, T.tyC, exk2 T (exs2 ht)⟩
end
/-- what the top has written of the two errors -/
structure We (P : Program) (w : World) (K : PySem.W.Frag) (mg : Str → Option Value) : Prop where
  ns : ExOk P w K mg "NotShown" 1 fs1
  un : ExOk P w K mg "Unlike" 2 fs2
  ga : PySem.W.findIn K (.ref (He.ga K "Unlike")) "__getattribute__" = some (some (.builtin "BaseException.__getattribute__"))
  gg : PySem.W.findIn K (.ref (He.ga K "Unlike")) "__getattr__" = some none
  hd : PySem.W.hasDictIn K (He.ga K "Unlike") = true
  n1 : PySem.W.findIn K (.ref (He.ga K "Unlike")) "first" = some none
  n2 : PySem.W.findIn K (.ref (He.ga K "Unlike")) "second" = some none
  te1 : PySem.W.exmOne K (.ref (He.ga K "NotShown")) (.ref (He.ga K "NotShown")) = some true
  te2 : PySem.W.exmOne K (.ref (He.ga K "Unlike")) (.ref (He.ga K "Unlike")) = some true
theorem b1_notshown {X : Cx} {ρ : Rho} {e : Expr} {p pos pos2 : Pos} {k : Nat} {d : PyData} (T : We X.prog X.w X.K X.mg) (c : XOk X) (hr : Room k X.A) (ha : Ev X e ρ (.d d)) (hg : Gl X "NotShown")
    (he : starEach [e] X.env = (false, eval e X.env) :: starEach [] X.env) (hpl : (backTo pos (starEach [] X.env)).any (·.1) = false) :
    B1 X (.Raise (some (.Call (.Name "NotShown" p) [e] [] pos)) none pos2) ρ (.ex ⟨"NotShown", [("name", d)]⟩ ρ) :=
  b1_raise (ds := [d]) T.ns c hr (ea_cons ha ea_nil he) rfl (fun H vs h => by cases h with | cons h1 h2 => cases h2; exact .cons h1 .nil) hg (by decide) he hpl
theorem b1_unlike {X : Cx} {ρ : Rho} {e f : Expr} {p pos pos2 : Pos} {k : Nat} {d d' : PyData} (T : We X.prog X.w X.K X.mg) (c : XOk X) (hr : Room k X.A) (ha : Ev X e ρ (.d d)) (hb : Ev X f ρ (.d d')) (hg : Gl X "Unlike")
    (he : starEach [e, f] X.env = (false, eval e X.env) :: starEach [f] X.env) (he2 : starEach [f] X.env = (false, eval f X.env) :: starEach [] X.env) (hpl : (backTo pos (starEach [f] X.env)).any (·.1) = false) :
    B1 X (.Raise (some (.Call (.Name "Unlike" p) [e, f] [] pos)) none pos2) ρ (.ex ⟨"Unlike", [("second", d'), ("first", d)]⟩ ρ) :=
  b1_raise (ds := [d, d']) T.un c hr (ea_cons ha (ea_cons hb ea_nil he2) he) rfl (fun H vs h => by cases h with | cons h1 h2 => cases h2 with | cons h2 h3 => cases h3; exact .cons h2 (.cons h1 .nil)) hg (by decide) he hpl
end Sg
/-! # The head: the module's top, what it leaves -/
namespace Sg
open PySem PySem.W PySem.Calls PyProof.Rows PySem.HandSPX
/-! ### the two errors' classes, looked at -/
abbrev FnE : Type := Option (Str × Str × Arguments × FuncBody × Scope × Addr × Value × Value × Addr)
def fnE (K : Frag) (x : Str) : FnE := match K.lookup (He.ma K (He.ga K x) "__init__") with
  | some ⟨_, _, .func fd, _⟩ => some (fd.name, fd.qualname, fd.params, fd.body, fd.scope, fd.globals, fd.defaults, fd.kwdefaults, fd.builtins)
  | _ => none
def valF (qual : Str) (params : Arguments) (body : List Stmt) (scope : Scope) : FnE := some ("__init__", qual, params, .stmts body, scope, mainGlobals, .none, .none, builtinsNs)
/-- the class: its object -/
def clsB (K : Frag) (C : Addr) : Bool := match K.lookup C with
  | some ⟨.type c, _, .cls cd, sl⟩ => decide (c = "type") && (match cd.mro, sl.toList with
    | .ref C' :: bm, [_, _, _, _, some (.builtin n), _] => decide (C' = C) && (decide (n = "ValueError.__new__") && (!cd.hasDel && (cd.hasDict && (refsVE bm && He.eqO (alongIn K "__init__" bm) (some (some (.builtin "ValueError.__init__")))))))
    | _, _ => false)
  | _ => false
theorem clsB_ok {K : Frag} {C : Addr} (h : clsB K C = true) : ∃ nm q N bs bm sn sub ab col dd k0 k1 k2 k3 k5, K.lookup C = some (excClassObj nm q C N bs bm true sn sub ab col dd k0 k1 k2 k3 k5 "ValueError.__new__") ∧ refsVE bm = true ∧ alongIn K "__init__" bm = some (some (.builtin "ValueError.__init__")) := by
  unfold clsB at h
  split at h
  · rename_i c dd cd sl ho
    obtain ⟨h0, h⟩ := He.ba h
    split at h
    · rename_i C' bm k0 k1 k2 k3 n k5 hm hs
      obtain ⟨h1, h⟩ := He.ba h
      obtain ⟨h2, h⟩ := He.ba h
      obtain ⟨h3, h⟩ := He.ba h
      obtain ⟨h4, h⟩ := He.ba h
      obtain ⟨h5, h6⟩ := He.ba h
      have e0 := of_decide_eq_true h0
      have e1 := of_decide_eq_true h1
      have e2 := of_decide_eq_true h2
      subst e0 e1 e2
      obtain ⟨nm, bs, mro, ns, qn, hd, sn, sub, ab, col, del⟩ := cd
      dsimp only at hm h3 h4
      subst hm h4
      have h3 : del = false := by simpa using h3
      subst h3
      have hsl : sl = #[k0, k1, k2, k3, some (.builtin "ValueError.__new__"), k5] := by
        obtain ⟨l⟩ := sl
        simp only at hs
        rw [hs]
      subst hsl
      exact ⟨nm, qn, ns, bs, bm, sn, sub, ab, col, dd, k0, k1, k2, k3, k5, ho, h5, He.eqO_ok h6⟩
    · cases h
  · cases h
def cellB (K : Frag) (C cc : Addr) : Bool := match K.lookup cc with
  | some ⟨_, _, .cell (some (.ref C')), _⟩ => decide (C' = C)
  | _ => false
def codB (K : Frag) (P : Program) (cda : Addr) : Bool := match K.lookup cda with
  | some ⟨_, _, .fields vs, _⟩ => (match (vs[2]? : Option Value) with
    | some (Value.str file _) => (P.main.file : Str) == file
    | _ => false)
  | _ => false
/-- its __init__: code and cell -/
def iniB (K : Frag) (P : Program) (C fI : Addr) (qual : Str) : Bool := match K.lookup fI with
  | some ⟨_, _, .func fd, _⟩ => (match fd.code, fd.closure with
    | .ref cda, [(x, cc)] => decide (x = "__class__") && (codeIn K (.ref cda) qual && (codB K P cda && cellB K C cc))
    | _, _ => false)
  | _ => false
def excB (P : Program) (x qual : Str) (flds : List Str) (K : Frag) : Bool :=
  clsB K (He.ga K x) && (He.eqO (findIn K (.ref (He.ga K x)) "__setattr__") (some (some (.builtin "object.__setattr__"))) && (He.eqO (findIn K (.ref (He.ga K x)) "__getattribute__") (some (some (.builtin "BaseException.__getattribute__"))) &&
  (He.eqO (findIn K (.ref (He.ga K x)) "__getattr__") (some none) && ((flds.all fun f => He.eqO (findIn K (.ref (He.ga K x)) f) (some none)) && (He.eqO (findIn K (.ref (He.ga K x)) "__init__") (some (some (.ref (He.ma K (He.ga K x) "__init__")))) &&
  (decide (typeIn K (.ref (He.ma K (He.ga K x) "__init__")) = some (.type "function")) && (keepIn K (.ref (He.ga K x)) && (decide (subIn K (.ref (He.ga K x)) (.type "BaseException") = some true) && (decide (subIn K (.ref (He.ga K x)) (.type "ValueError") = some true) &&
  (decide (typeIn K (.ref (He.ga K x)) = some (.type "type")) && (hasDictIn K (He.ga K x) && (He.eqO (nsIn K cStatics "thirdparty.any") (some none) && (decide (exmOne K (.ref (He.ga K x)) (.ref (He.ga K x)) = some true) && iniB K P (He.ga K x) (He.ma K (He.ga K x) "__init__") qual)))))))))))))
theorem iniB_ok {K : Frag} {P : Program} {x qual : Str} {params : Arguments} {body : List Stmt} {scope : Scope} {C : Addr} (h : iniB K P C (He.ma K (He.ga K x) "__init__") qual = true) (e : fnE K x = valF qual params body scope) :
    ∃ (oc : Value) (od : Option Addr) (doc pm : Value) (an : Option Addr) (cda cc : Addr) (ct : Value) (osl : Array (Option Value)) (ccl : Value) (cdd : Option Addr) (vs : Array Value) (ccs : Array (Option Value)) (file : Str) (tf : Tok) (cl : Value) (cld : Option Addr) (csl : Array (Option Value)),
    K.lookup (He.ma K (He.ga K x) "__init__") = some ⟨oc, od, .func (ksFn "__init__" qual params body scope .none .none doc pm an (.ref cda) ct cc), osl⟩ ∧ codeIn K (.ref cda) qual = true ∧
    K.lookup cda = some ⟨ccl, cdd, .fields vs, ccs⟩ ∧ vs[2]? = some (.str file tf) ∧ ((P.main.file : Str) == file) = true ∧ K.lookup cc = some ⟨cl, cld, .cell (some (.ref C)), csl⟩ := by
  unfold iniB at h
  unfold fnE at e
  split at h
  · rename_i oc od fd osl ho
    rw [ho] at e
    split at h
    · rename_i cda y cc hcd hcl
      obtain ⟨h0, h⟩ := He.ba h
      obtain ⟨h1, h⟩ := He.ba h
      obtain ⟨h2, h3⟩ := He.ba h
      have h0 := of_decide_eq_true h0
      subst h0
      obtain ⟨n1, n2, n3, n4, n5, n6, n7, n8, n9, n10, n11, n12, n13, n14, n15⟩ := fd
      dsimp only at hcd hcl
      subst hcd hcl
      have e2 : some (n1, n2, n3, n4, n5, n6, n8, n9, n15) = (some ("__init__", qual, params, FuncBody.stmts body, scope, mainGlobals, Value.none, Value.none, builtinsNs) : FnE) := e
      simp only [Option.some.injEq, Prod.mk.injEq] at e2
      obtain ⟨g1, g2, g3, g4, g5, g6, g7, g8, g9⟩ := e2
      subst g1 g2 g3 g4 g5 g6 g7 g8 g9
      unfold codB at h2
      split at h2
      · rename_i ccl cdd vs ccs hc
        split at h2
        · rename_i file tf hf
          unfold cellB at h3
          split at h3
          · rename_i cl cld C' csl hx
            have h3 := of_decide_eq_true h3
            subst h3
            exact ⟨oc, od, _, _, _, _, _, _, osl, ccl, cdd, vs, ccs, file, tf, cl, cld, csl, ho, h1, hc, hf, h2, hx⟩
          · cases h3
        · cases h2
      · cases h2
    · cases h
  · cases h
theorem excB_ok {K : Frag} {P : Program} {mg : Str → Option Value} {x qual : Str} {params : Arguments} {body : List Stmt} {scope : Scope} {flds : List Str} (hg : mg x = some (.ref (He.ga K x))) (hs : mg "super" = none) (h : excB P x qual flds K = true) (e : fnE K x = valF qual params body scope) :
    ExT P K mg x qual params body scope flds (He.ga K x) (He.ma K (He.ga K x) "__init__") ∧ exmOne K (.ref (He.ga K x)) (.ref (He.ga K x)) = some true := by
  unfold excB at h
  obtain ⟨h1, h⟩ := He.ba h
  obtain ⟨h2, h⟩ := He.ba h
  obtain ⟨h3, h⟩ := He.ba h
  obtain ⟨h4, h⟩ := He.ba h
  obtain ⟨h5, h⟩ := He.ba h
  obtain ⟨h6, h⟩ := He.ba h
  obtain ⟨h7, h⟩ := He.ba h
  obtain ⟨h8, h⟩ := He.ba h
  obtain ⟨h9, h⟩ := He.ba h
  obtain ⟨h10, h⟩ := He.ba h
  obtain ⟨h11, h⟩ := He.ba h
  obtain ⟨h12, h⟩ := He.ba h
  obtain ⟨h13, h⟩ := He.ba h
  obtain ⟨h14, h15⟩ := He.ba h
  exact ⟨⟨hg, clsB_ok h1, He.eqO_ok h2, He.eqO_ok h3, He.eqO_ok h4, fun f hf => He.eqO_ok (List.all_eq_true.mp h5 f hf), He.eqO_ok h6, of_decide_eq_true h7, h8, of_decide_eq_true h9, of_decide_eq_true h10, of_decide_eq_true h11, h12, He.eqO_ok h13, hs, iniB_ok h15 e⟩, of_decide_eq_true h14⟩
/-! ### the Hook -/
abbrev R : OpenRow := OpenLaw.row PySem.Challenge.rw_sumgrove_k11_whole_two_answers_hand_out
abbrev PP : Program := PySem.Challenge.pw_sumgrove_k11_whole_two_answers_hand_out
abbrev qv : Program := view R.prog [97]
abbrev AlS : Type := He.AlD × Bool × FnE × FnE
def obsS (K : Frag) : AlS := (He.obsD fa fn K, excB PP "NotShown" "NotShown.__init__" ["name"] K && excB PP "Unlike" "Unlike.__init__" ["first", "second"] K, fnE K "NotShown", fnE K "Unlike")
def valS : AlS := (He.valD fn, true, valF "NotShown.__init__" (L2.defArgs s_NotShown_init) (L2.defBody s_NotShown_init) (L2.defScope s_NotShown_init), valF "Unlike.__init__" (L2.defArgs s_Unlike_init) (L2.defBody s_Unlike_init) (L2.defScope s_Unlike_init))
/-- a dict's objects; a class's dict; a def's code and cells -/
def valsD (g : Addr → Option Obj) (a : Addr) : List Addr := match g a with
  | some ⟨_, _, .dict es _, _⟩ => es.toList.flatMap fun e => He.refV e.val
  | _ => []
def partsD (g : Addr → Option Obj) (a : Addr) : List Addr := match g a with
  | some ⟨_, _, .func fd, _⟩ => He.refV fd.code ++ fd.closure.map (·.2)
  | some ⟨_, _, .cls cd, _⟩ => [cd.ns]
  | _ => []
/-- the globals; their codes and dicts; the methods; their codes and cells -/
def asS (g : Addr → Option Obj) : List Addr :=
  let a1 := valsD g mainGlobals
  let a2 := a1.flatMap (partsD g)
  let a3 := a2.flatMap (valsD g)
  mainGlobals :: cStatics :: (a1 ++ (a2 ++ (a3 ++ a3.flatMap (partsD g))))
def obsSG (g : Addr → Option Obj) : AlS := obsS (He.frG g (asS g))
def hk : PySem.W.Hook where
  α := AlS
  obs := fun s => obsSG s.heap.get?
  val := fun _ => valS
  says := fun _ h => ∃ K : Frag, K.In h ∧ obsS K = valS
  of := fun _ _ e => ⟨_, He.frG_in, e⟩
  keeps := fun _ _ _ ⟨K, hK, c⟩ k => ⟨K, PySem.W.Frag.In.keeps hK k, c⟩
def ob (s : SharedT) : hk.α := obsSG (HandSHeadRun.getT s)
theorem ob_eq (s : SharedT) : ob s = hk.obs s.abs := by
  have e : HandSHeadRun.getT s = s.abs.heap.get? := funext (HandSHeadRun.getT_eq s)
  show obsSG (HandSHeadRun.getT s) = obsSG s.abs.heap.get?
  rw [e]
def names0 : List PySem.Str := ["GroveError", "InvalidSealer", "InvalidTree", "NotShown", "WrongRoot", "Unlike", "ALPHABET", "NAME_LIMIT", "CODE_BITS", "PLACES", "is_name", "number_of", "bit_at", "parting", "AMOUNT_LIMIT", "KIND_LIMIT", "NOTE_LIMIT", "NOTE_GREATEST", "CUT_LIMIT", "EMPTY_ROW", "least_of", "greatest_of", "leaf_row", "summary_numbers", "branch_row", "branch_summary", "summary_of", "row_of", "top_row", "root_of"]
def names1 : List PySem.Str := ["are_worths", "are_notes", "is_leaf", "is_summary", "are_sides", "is_inside", "kinds_of", "has_valid_parts", "has_order", "is_well_formed", "leaf_told", "range_told", "rank_told", "place_told", "next_told", "told", "side_questions", "joined_ranges", "part_answer", "branch_answer", "empty_answer", "ask", "answer", "LEAST_MODULUS", "GREATEST_MODULUS", "Sealer", "is_collision", "walk", "find_collision", "union"]
def names2 : List PySem.Str := ["check_alike", "join_trees", "_law_cell", "_law_name", "_law_number", "_law_bits", "_law_modulus", "_law_leaves", "_law_seal", "_law_numbers", "_law_row", "_law_summary", "_law_top", "_law_root", "_law_built", "_law_split", "_law_cut", "_law_open", "_law_matches", "_law_span", "_law_goes_into", "_law_question", "_law_sums", "_law_answer", "_law_with_notes", "_law_second", "_law_checked", "_law_joined"]
def names : List PySem.Str := names0 ++ names1 ++ names2
set_option maxHeartbeats 0 in
theorem run (w : World) : HandSHeadRun.RunEq R qv hk ob 6000 names w := by
  intro os
  kernel_rfl
end Sg
namespace Sg
open PySem PySem.Spec L2
/-! ### what the walk leans on -/
theorem mem_of_lk {x : Str} {v : Int} : ∀ {l : List (Str × Int)}, l.lookup x = some v → (x, v) ∈ l
  | [], h => by cases h
  | (y, u) :: r, h => by
    have h2 : (match x == y with | true => some u | false => r.lookup x) = some v := h
    cases q : (x == y) with
    | true =>
      rw [q] at h2
      have e : u = v := Option.some.inj h2
      rw [eq_of_beq q, e]
      exact List.mem_cons_self ..
    | false =>
      rw [q] at h2
      exact List.mem_cons_of_mem _ (mem_of_lk h2)
theorem fn_bare : (fn.all fun d => d.dfl.isEmpty && d.kwd.isEmpty) = true := by kernel_rfl
theorem fn_none {d : He.DefD} (h : d ∈ fn) (K : PySem.W.Frag) : d.dvs K = [] ∧ d.kws K = [] := by
  obtain ⟨h1, h2⟩ := He.ba (List.all_eq_true.mp fn_bare d h)
  have e1 : d.dfl = [] := List.isEmpty_iff.mp h1
  have e2 : d.kwd = [] := List.isEmpty_iff.mp h2
  unfold He.DefD.dvs He.DefD.kws
  rw [e1, e2]
  exact ⟨rfl, rfl⟩
section
variable {K : PySem.W.Frag} {h : Heap} {mg : Str → Option Value}
theorem says_D (c : obsS K = valS) : He.SaysD fa fn K := congrArg (fun z : AlS => z.1) c
theorem says_B (c : obsS K = valS) : (excB PP "NotShown" "NotShown.__init__" ["name"] K && excB PP "Unlike" "Unlike.__init__" ["first", "second"] K) = true := congrArg (fun z : AlS => z.2.1) c
theorem says_1 (c : obsS K = valS) : fnE K "NotShown" = valF "NotShown.__init__" (defArgs s_NotShown_init) (defBody s_NotShown_init) (defScope s_NotShown_init) := congrArg (fun z : AlS => z.2.2.1) c
theorem says_2 (c : obsS K = valS) : fnE K "Unlike" = valF "Unlike.__init__" (defArgs s_Unlike_init) (defBody s_Unlike_init) (defScope s_Unlike_init) := congrArg (fun z : AlS => z.2.2.2) c
theorem said {f : He.Fa} (c : He.SaysD fa fn K) (hf : f ∈ fa) : f.ok K = true := by
  rcases List.mem_iff_getElem?.mp hf with ⟨i, hi⟩
  exact c.fact i hi
theorem wd_of (X : K.In h) (G : h.Ns mainGlobals mg) (c : He.SaysD fa fn K) : Wd K mg := by
  have hm1 : ∀ x ∈ gloN, He.Fa.glo x ∈ fa := fun x hx => List.mem_append_left _ (List.mem_map.mpr ⟨x, hx, rfl⟩)
  have hm2 : ∀ x ∈ freeN, He.Fa.free x ∈ fa := fun x hx => List.mem_append_right _ (List.mem_append_left _ (List.mem_map.mpr ⟨x, hx, rfl⟩))
  have hm3 : ∀ p ∈ intN, He.Fa.int p.1 p.2 ∈ fa := fun p hp => List.mem_append_right _ (List.mem_append_right _ (List.mem_append_left _ (List.mem_map.mpr ⟨p, hp, rfl⟩)))
  have hm4 : ∀ f ∈ [He.Fa.str "ALPHABET" "0123456789_abcdefghijklmnopqrstuvwxyz", .cls "Sealer", .noat "Sealer" "_modulus", .meth "Sealer" "seal", .meth "Sealer" "modulus", .mkr "Sealer"], f ∈ fa := fun f hf => List.mem_append_right _ (List.mem_append_right _ (List.mem_append_right _ hf))
  refine ⟨fun x hx => He.glo_ok X G (said c (hm1 x (List.contains_iff_mem.mp hx))), fun x hx => He.free_ok X G (said c (hm2 x (List.contains_iff_mem.mp hx))), fun x v hx => He.int_ok X G (said c (hm3 (x, v) (mem_of_lk hx))), He.str_ok X G (said c (hm4 _ (List.mem_cons_self ..))), fun i d hd => ?_, He.cls_ok (said c (hm4 _ (.tail _ (.head _)))), He.noat_ok (said c (hm4 _ (.tail _ (.tail _ (.head _))))),
    He.meth_ok (said c (hm4 _ (.tail _ (.tail _ (.tail _ (.head _)))))), He.meth_ok (said c (hm4 _ (.tail _ (.tail _ (.tail _ (.tail _ (.head _))))))), He.mkr_ok (said c (hm4 _ (.tail _ (.tail _ (.tail _ (.tail _ (.tail _ (.head _))))))))⟩
  obtain ⟨fd, F⟩ := c.def_ i hd
  obtain ⟨e1, e2⟩ := fn_none (List.mem_of_getElem? hd) K
  rw [e1, e2] at F
  exact ⟨fd, F⟩
theorem sup_free : (PP.main.scope.names.lookup ("super" : Str)).isSome = false := by kernel_rfl
theorem we_of {w : World} (C : Wd K mg) (c : obsS K = valS) : We PP w K mg := by
  obtain ⟨b1, b2⟩ := He.ba (says_B c)
  have hs : mg "super" = none := C.free _ (by decide +kernel)
  obtain ⟨T1, x1⟩ := excB_ok (C.glo _ (by decide +kernel)) hs b1 (says_1 c)
  obtain ⟨T2, x2⟩ := excB_ok (C.glo _ (by decide +kernel)) hs b2 (says_2 c)
  exact ⟨exo1 C T1 sup_free, exo2 C T2 sup_free, T2.ga, T2.gg, T2.hdC, T2.noN _ (by decide), T2.noN _ (by decide), x1, x2⟩
end
end Sg
namespace Sg
open PySem PySem.W PySem.Calls PyProof.Rows
/-- the law holds if its call, behind the top, does what is asked -/
theorem head_on (hc : WalkO qv names (XL qv []) hk.says R.toRowW (HandSHeadRun.topDef R.prog 97) [] fun f vs => PySem.call f vs) : PySem.Challenge.rw_sumgrove_k11_whole_two_answers_hand_out.Holds := by
  w_on; o_law
  refine HandSHeadRun.head_any (r := R) (q := qv) (H := hk) (ob := ob) (M := 6000) (loose := names) (d := HandSHeadRun.topDef R.prog 97) (kwd := []) ob_eq (by kernel_rfl) (fun s => by kernel_rfl) run (by kernel_rfl) (by kernel_rfl) (by kernel_rfl) (by rfl) (by first | assumption | decide +kernel) (by decide +kernel) ⟨rfl, rfl, rfl, rfl, rfl, by decide +kernel⟩ ?hw hc
  case hw => w_witness2
end Sg
/-! # What the defs that raise promise -/
namespace Sg
open PySem PySem.Spec L2
theorem b1_setnX {X : Cx} {ρ : Rho} {e : Expr} {pos : Pos} {i : Nat} {n : Str} {p' : Pos} {y : Xn} (k : XOk X) (h : EvX X e ρ y) (hi : findN X.N n 0 = some i) (hx : Loc X.env.scope n) (hs : swapsWith e (some (.Name n p')) pos.line X.env = pure false) (hf : X.fn n = true ∨ X.env.scope.names.lookup n = some .local) :
    B1 X (.Assign [.Name n p'] e pos) ρ (.ex y ρ) := b1_setX k h (by simpa using (findN_get hi).2) hx hs hf
def xNs (x : Str) : Xn := ⟨"NotShown", [("name", .str x)]⟩
def resA : Except Str An → Rs
  | .ok a => .ok (.d (dA a))
  | .error x => .ex (xNs x)
def resD : Except Str PyData → Rs
  | .ok d => .ok (.d d)
  | .error x => .ex (xNs x)
/-- the inner part of ansM -/
def ansB (m : Int) (l r : Tr) (q : Qn) : Except Str An := match sideQ q (summ m l) (summ m r) with
  | (some ql, none) => ansM m l ql
  | (none, some qr) => ansM m r qr
  | (some ql, some qr) => match ansM m l ql with
    | .error e => .error e
    | .ok a => match ansM m r qr with
      | .error e => .error e
      | .ok b => .ok (joinA q a b)
  | (none, none) => .ok .non
theorem ansM_br {m : Int} {l r : Tr} {q : Qn} : ansM m (.br l r) q = match toldM q (summ m (.br l r)) with
    | some a => .ok a
    | none => ansB m l r q := rfl
/-- the questions that a branch hands on -/
theorem side_ok {q : Qn} {s t : Sm} (h : QnOk q) (h1 : q.one = true) : (∀ q', (sideQ q s t).1 = some q' → QnOk q' ∧ q'.one = true) ∧ ∀ q', (sideQ q s t).2 = some q' → QnOk q' ∧ q'.one = true := by
  cases q with
  | several ns => cases h1
  | place k =>
    have hk : 0 ≤ k := h
    by_cases c : k < s.cnt
    · rw [show sideQ (.place k) s t = (some (.place k), none) from if_pos c]
      exact ⟨fun q' e => by cases e; exact ⟨h, rfl⟩, fun q' e => by cases e⟩
    · rw [show sideQ (.place k) s t = (none, some (.place (k - s.cnt))) from if_neg c]
      exact ⟨fun q' e => by (cases e), fun q' e => by cases e; exact ⟨show 0 ≤ k - s.cnt by omega, rfl⟩⟩
  | next n =>
    by_cases c : num n < num s.hi
    · rw [show sideQ (.next n) s t = (some (.next n), none) from if_pos c]
      exact ⟨fun q' e => by cases e; exact ⟨h, rfl⟩, fun q' e => by cases e⟩
    · rw [show sideQ (.next n) s t = (none, some (.next n)) from if_neg c]
      exact ⟨fun q' e => by (cases e), fun q' e => by cases e; exact ⟨h, rfl⟩⟩
  | leaf n =>
    by_cases c : num n ≤ num s.hi
    · rw [show sideQ (.leaf n) s t = (some (.leaf n), none) from if_pos c]
      exact ⟨fun q' e => by cases e; exact ⟨h, rfl⟩, fun q' e => by cases e⟩
    · rw [show sideQ (.leaf n) s t = (none, some (.leaf n)) from if_neg c]
      exact ⟨fun q' e => by (cases e), fun q' e => by cases e; exact ⟨h, rfl⟩⟩
  | count => exact ⟨fun q' e => by cases e; exact ⟨h, rfl⟩, fun q' e => by cases e; exact ⟨h, rfl⟩⟩
  | total => exact ⟨fun q' e => by cases e; exact ⟨h, rfl⟩, fun q' e => by cases e; exact ⟨h, rfl⟩⟩
  | range a b => exact ⟨fun q' e => by cases e; exact ⟨h, rfl⟩, fun q' e => by cases e; exact ⟨h, rfl⟩⟩
  | rank n => exact ⟨fun q' e => by cases e; exact ⟨h, rfl⟩, fun q' e => by cases e; exact ⟨h, rfl⟩⟩
/-- a range's answer, a rank's -/
theorem addL_len {k : Nat} {xs ys : List Int} (h : xs.length = k) (h' : ys.length = k) : (addL xs ys).length = k := by
  unfold addL
  rw [List.length_zipWith, h, h', Nat.min_self]
theorem ans_range {m : Int} {k : Nat} {x y : Str} : ∀ {t : Tr} {a : An}, TrOk k t → ansM m t (.range x y) = .ok a → ∃ c s, a = .rng c s ∧ RgOk k c s := by
  have told : ∀ {s : Sm} {a : An}, s.sums.length = k → rangeTold x y s = some a → ∃ c s', a = .rng c s' ∧ RgOk k c s' := by
    intro s a hl h
    unfold rangeTold at h
    split at h
    · cases h
      exact ⟨0, none, rfl, fun z => absurd rfl z⟩
    · split at h
      · cases h
        exact ⟨_, _, rfl, fun _ => ⟨_, rfl, hl⟩⟩
      · cases h
  intro t
  induction t with
  | cut s =>
    intro a ht h
    have h : (match rangeTold x y s with | some a => Except.ok a | none => Except.error s.lo) = .ok a := h
    cases e : rangeTold x y s with
    | some b =>
      rw [e] at h
      cases h
      exact told ht.len e
    | none => rw [e] at h; cases h
  | leaf n ws ns =>
    intro a ht h
    have h : (match rangeTold x y (summ m (.leaf n ws ns)) with | some a => Except.ok a | none => Except.ok (.lf ws ns)) = .ok a := h
    cases e : rangeTold x y (summ m (.leaf n ws ns)) with
    | some b =>
      rw [e] at h
      cases h
      exact told ht.2.1 e
    | none =>
      unfold rangeTold at e
      have h1 : (summ m (.leaf n ws ns)).lo = n := rfl
      have h2 : (summ m (.leaf n ws ns)).hi = n := rfl
      rw [h1, h2] at e
      split at e
      · cases e
      · split at e
        · cases e
        · omega
  | br l r ihl ihr =>
    intro a ht h
    have tl := ht.1
    have tr := ht.2
    rw [ansM_br] at h
    cases e : toldM (.range x y) (summ m (.br l r)) with
    | some b =>
      rw [e] at h
      cases h
      exact told (summ_ok (m := m) (t := .br l r) ht).len e
    | none =>
      rw [e] at h
      have h : (match ansM m l (.range x y) with | .error e => Except.error e | .ok a => match ansM m r (.range x y) with | .error e => .error e | .ok b => .ok (joinA (.range x y) a b)) = .ok a := h
      cases el : ansM m l (.range x y) with
      | error z => rw [el] at h; cases h
      | ok b =>
        rw [el] at h
        cases er : ansM m r (.range x y) with
        | error z => rw [er] at h; cases h
        | ok c =>
          rw [er] at h
          cases h
          obtain ⟨c1, s1, rfl, r1⟩ := ihl tl el
          obtain ⟨c2, s2, rfl, r2⟩ := ihr tr er
          show ∃ c s, joinR c1 s1 c2 s2 = .rng c s ∧ RgOk k c s
          rw [show joinR c1 s1 c2 s2 = (if c1 = 0 then .rng c2 s2 else if c2 = 0 then .rng c1 s1 else .rng (c1 + c2) (some (addL (s1.getD []) (s2.getD [])))) from rfl]
          by_cases h1 : c1 = 0
          · rw [if_pos h1]
            exact ⟨_, _, rfl, r2⟩
          · rw [if_neg h1]
            by_cases h2 : c2 = 0
            · rw [if_pos h2]
              exact ⟨_, _, rfl, r1⟩
            · rw [if_neg h2]
              obtain ⟨w1, rfl, l1⟩ := r1 h1
              obtain ⟨w2, rfl, l2⟩ := r2 h2
              exact ⟨_, _, rfl, fun _ => ⟨_, rfl, addL_len l1 l2⟩⟩
theorem ans_rank {m : Int} {x : Str} : ∀ {t : Tr} {a : An}, ansM m t (.rank x) = .ok a → ∃ i, a = .i i := by
  have told : ∀ {s : Sm} {a : An}, rankTold x s = some a → ∃ i, a = .i i := by
    intro s a h
    unfold rankTold at h
    split at h
    · cases h
      exact ⟨_, rfl⟩
    · split at h
      · cases h
        exact ⟨_, rfl⟩
      · cases h
  intro t
  induction t with
  | cut s =>
    intro a h
    have h : (match rankTold x s with | some a => Except.ok a | none => Except.error s.lo) = .ok a := h
    cases e : rankTold x s with
    | some b =>
      rw [e] at h
      cases h
      exact told e
    | none => rw [e] at h; cases h
  | leaf n ws ns =>
    intro a h
    have h : (match rankTold x (summ m (.leaf n ws ns)) with | some a => Except.ok a | none => Except.ok (.lf ws ns)) = .ok a := h
    cases e : rankTold x (summ m (.leaf n ws ns)) with
    | some b =>
      rw [e] at h
      cases h
      exact told e
    | none =>
      unfold rankTold at e
      have h1 : (summ m (.leaf n ws ns)).lo = n := rfl
      have h2 : (summ m (.leaf n ws ns)).hi = n := rfl
      rw [h1, h2] at e
      split at e
      · cases e
      · split at e
        · cases e
        · omega
  | br l r ihl ihr =>
    intro a h
    rw [ansM_br] at h
    cases e : toldM (.rank x) (summ m (.br l r)) with
    | some b =>
      rw [e] at h
      cases h
      exact told e
    | none =>
      rw [e] at h
      have h : (match ansM m l (.rank x) with | .error e => Except.error e | .ok a => match ansM m r (.rank x) with | .error e => .error e | .ok b => .ok (joinA (.rank x) a b)) = .ok a := h
      cases el : ansM m l (.rank x) with
      | error z => rw [el] at h; cases h
      | ok b =>
        rw [el] at h
        cases er : ansM m r (.rank x) with
        | error z => rw [er] at h; cases h
        | ok c =>
          rw [er] at h
          cases h
          obtain ⟨c1, rfl⟩ := ihl el
          obtain ⟨c2, rfl⟩ := ihr er
          exact ⟨_, rfl⟩
def rPart (n : Nat) : List DV → Rs → Prop := fun xs r => ∃ m k t q, xs = [.sl m, .d (dTr t), .d (dQ q)] ∧ Md m ∧ TrOk k t ∧ k ≤ 3 ∧ depth t ≤ n ∧ QnOk q ∧ q.one = true ∧ r = resA (ansM m t q)
def rBranch (n : Nat) : List DV → Rs → Prop := fun xs rs => ∃ m k l r q, xs = [.sl m, .d (dTr (.br l r)), .d (dQ q)] ∧ Md m ∧ TrOk k l ∧ TrOk k r ∧ k ≤ 3 ∧ depth l ≤ n ∧ depth r ≤ n ∧ QnOk q ∧ q.one = true ∧ toldM q (summ m (.br l r)) = none ∧ rs = resA (ansB m l r q)
theorem rPart_mk {n k : Nat} {m : Int} {t : Tr} {q : Qn} {a : An} (hm : Md m) (h : TrOk k t) (hk : k ≤ 3) (hd : depth t ≤ n) (hq : QnOk q) (h1 : q.one = true) (e : ansM m t q = .ok a) : rPart n [.sl m, .d (dTr t), .d (dQ q)] (.ok (.d (dA a))) := ⟨m, k, t, q, rfl, hm, h, hk, hd, hq, h1, by rw [e]; rfl⟩
theorem rPart_mkX {n k : Nat} {m : Int} {t : Tr} {q : Qn} {x : Str} (hm : Md m) (h : TrOk k t) (hk : k ≤ 3) (hd : depth t ≤ n) (hq : QnOk q) (h1 : q.one = true) (e : ansM m t q = .error x) : rPart n [.sl m, .d (dTr t), .d (dQ q)] (.ex (xNs x)) := ⟨m, k, t, q, rfl, hm, h, hk, hd, hq, h1, by rw [e]; rfl⟩
theorem rBranch_mk {n k : Nat} {m : Int} {l r : Tr} {q : Qn} {a : An} (hm : Md m) (h : TrOk k l) (h' : TrOk k r) (hk : k ≤ 3) (hd : depth l ≤ n) (hd' : depth r ≤ n) (hq : QnOk q) (h1 : q.one = true) (ht : toldM q (summ m (.br l r)) = none) (e : ansB m l r q = .ok a) : rBranch n [.sl m, .d (dTr (.br l r)), .d (dQ q)] (.ok (.d (dA a))) := ⟨m, k, l, r, q, rfl, hm, h, h', hk, hd, hd', hq, h1, ht, by rw [e]; rfl⟩
theorem rBranch_mkX {n k : Nat} {m : Int} {l r : Tr} {q : Qn} {x : Str} (hm : Md m) (h : TrOk k l) (h' : TrOk k r) (hk : k ≤ 3) (hd : depth l ≤ n) (hd' : depth r ≤ n) (hq : QnOk q) (h1 : q.one = true) (ht : toldM q (summ m (.br l r)) = none) (e : ansB m l r q = .error x) : rBranch n [.sl m, .d (dTr (.br l r)), .d (dQ q)] (.ex (xNs x)) := ⟨m, k, l, r, q, rfl, hm, h, h', hk, hd, hd', hq, h1, ht, by rw [e]; rfl⟩
end Sg
/-! # A comprehension whose element may raise -/
namespace Sg
open PySem PySem.Spec L2
theorem blk_out {X : Cx} {W : WX} {ce : PySem.Env} {u : Value} {s' : Shared} {m : Str → Option Value} (tk : Takes X W) (hs : X.stack = X.env :: X.outer) (hf : X.env.frame = some X.env.locals) (hcf : ce.frame = X.env.frame) (hn : s'.heap.Ns ce.locals m)
    (c1 : ce.locals ≠ X.env.locals) (c2 : ce.locals ∉ X.fs) (c3 : X.s_0.heap.objs.size ≤ ce.locals) (c4 : ∀ x c, X.env.cells.lookup x = some c → c ≠ ce.locals) (c5 : ∀ p ∈ X.pn, p.1 ≠ ce.locals) (x : XE X (fun cls d σ H => W cls d σ H ∧ H ce.locals = none) u s') :
    notedBy (model X.prog X.w) X.A ce (CompFails (model X.prog X.w) X.A X.xe ce) u s' := by
  obtain ⟨a, B, sI, pins, σ, H, cls, d, rfl, I, nb, up, sky, na, os, ag, w, nC⟩ := x
  have hfr : X.A.frames = some (X.env :: X.outer) := by rw [I.ok.frames, hs]
  rw [hs] at sky
  show wpAny _ _ (noteFrame (.ref a) ce) _ _ s'
  rw [noteFrame_env _ hcf]
  have fin : ∀ h1, HandSPX.HeldZ B (X.env :: X.outer) a (Zc cls d) X.env.locals h1 → s'.heap.UpToSlots h1 → CompFails (model X.prog X.w) X.A X.xe ce (.ref a) { s' with heap := h1 } := by
    rintro h1 ⟨b1, b0, f1, oe, vs, T, oT, ts, he, hz, hd, h1v, hnT, hTe, hT, hdT, h3⟩ up1
    have hn1 : h1.Ns ce.locals m := up1.ns hn
    refine ⟨m, hn1, fun h2 m2 hn2 sb => ?_⟩
    have notC : ∀ b o vs, h1.get? b = some o → o.data = .fields vs → b ≠ ce.locals := fun b o vs e ed z => by
      obtain ⟨oD, es, ep, e1, e2, _⟩ := hn1
      rw [z, e1] at e
      cases e
      rw [e2] at ed
      cases ed
    have haC := notC a oe vs he hd
    have hTC := notC T oT ts hT hdT
    have k2 : ∀ b, b ≠ ce.locals → h2.get? b = h1.get? b := fun b hb => sb.2 b hb
    obtain ⟨B2, B2a, B2b⟩ := restrict B fun b => decide (b ≠ ce.locals)
    have B2k : ∀ b o, B2.get? b = some o → b ≠ ce.locals ∧ B.get? b = some o := fun b o e => by
      by_cases hb : b = ce.locals
      · rw [B2b b (by simp [hb])] at e; cases e
      · exact ⟨hb, by rw [← B2a b (by simp [hb])]; exact e⟩
    have B2n : ∀ b, B.get? b = none → B2.get? b = none := fun b e => by
      cases q : B2.get? b with
      | none => rfl
      | some o => rw [(B2k b o q).2] at e; cases e
    have st2 : B2.StaysIn h2 := fun b o e => (k2 b (B2k b o e).1).trans (b1 b o (B2k b o e).2)
    have fB : h2.FunFrames B (X.env :: X.outer) := Heap.FunFrames.sameBut sb hn2 f1
    have f2 : h2.FunFrames B2 (X.env :: X.outer) := funFrames_none fB fun L hL => B2n L (fB.mem hL).1
    unfold passOn
    refine wpAny_bind (wpAny_field ((k2 a haC).trans he) hd h1v ?_)
    rw [if_neg (show ¬ ((Value.ref T == Value.none) = true) from by simp)]
    rw [hcf, hf]
    refine wpAny_bind (HandSPX.setFlight_anyZ (base := B2) (l := X.env :: X.outer) (fr := some X.env.locals) st2 f2 ⟨oe, vs, T, oT, ts, (k2 a haC).trans he, hz, hd, h1v, B2n T hnT, hTe, (k2 T hTC).trans hT, hdT, h3⟩ fun h4 st4 f4 t4 up4 => ?_)
    refine wpAny_throw (tk _ _ ?_)
    obtain ⟨G, Ga, Gb⟩ := restrict sI.heap fun b => decide (b ≠ ce.locals)
    have Gk : ∀ b o, G.get? b = some o → b ≠ ce.locals ∧ sI.heap.get? b = some o := fun b o e => by
      by_cases hb : b = ce.locals
      · rw [Gb b (by simp [hb])] at e; cases e
      · exact ⟨hb, by rw [← Ga b (by simp [hb])]; exact e⟩
    have I1 : Inv X [] σ H sI := Inv.unpinned (pins := []) (pl := pins) I
    have I2 : Inv X [] σ H { sI with heap := G, toks := sI.toks } := I1.turned (it := ce.locals) (h' := G) (t' := sI.toks) (fun b o hb e => by rw [Ga b (by simp [hb])]; exact e) nC c1 (.inr c3) c4 (fun p hp => c5 p (by rw [List.append_nil] at hp; exact hp))
    refine ⟨a, B2, { sI with heap := G, toks := sI.toks }, [], σ, H, cls, d, rfl, I2, fun b o e hb => ?_, fun b o e hnf => ?_, ?_, na, os, ag, w⟩
    · obtain ⟨hbC, e'⟩ := Gk b o e
      rw [B2a b (by simp [hbC])]
      exact nb b o e' hb
    · obtain ⟨hbC, e'⟩ := Gk b o e
      obtain ⟨sl, e1⟩ := up b o e' hnf
      obtain ⟨sl2, e2⟩ := up1 b _ e1 hnf
      have e3 := (k2 b hbC).trans e2
      obtain ⟨sl3, e4⟩ := up4 b _ e3 hnf
      exact ⟨sl3, e4⟩
    · rw [hs]
      exact .inr (.inr ⟨st4, B2n a b0, f4, t4⟩)
  rcases sky with ⟨hB, hn', hl, oe, vs, he, hz, hd, h1⟩ | fl | hh
  · exact HandSPX.look_newZ Zc.steady hfr hl hf he hB hn' hd h1 hz fin
  · exact HandSPX.looks_onZ Zc.steady hfr hf fl fin
  · exact HandSPX.againZ hf hh.2.2.2 (fin s'.heap hh (Heap.UpToSlots.refl _))
/-- what an element of the block may let out -/
abbrev Cx.blx (X : Cx) (s : Shared) (H : Hp) (scope : Scope) (ce : PySem.Env) (fp : List Addr) : Cx := (X.blk s H scope ce fp).wish (notedBy (model X.prog X.w) X.A ce (CompFails (model X.prog X.w) X.A X.xe ce))
def PassX (Y : Cx) (E : XK) : Prop := ∀ σ, PassesAt (L2.CX Y.prog Y.w) Y σ E
theorem lcx_core {X : Cx} {W : WX} {pins : List (Addr × Obj)} {s : Shared} {σ : L2.St} {H : Hp} {Q : VK} {elt tg iter : Expr} {scope : Scope} {own : List (Str × Nat)} {pos : Pos} {wi : TI} {g : TG} {te : TE} (hc : X.calm = true) (hN : X.N.Nodup) (hs : X.stack = X.env :: X.outer) (hf : X.env.frame = some X.env.locals) (hpn : X.pn = []) (tk : Takes X W)
    (I : Inv X pins σ H s) (hi : PI X tg iter wi) (ok : BlkOk X.N X.env.scope scope own) (hg : ∀ (s : Shared) (H : Hp) (C : Addr) (cl : List (Str × Addr)) (fp : List Addr), PG (X.blk s H scope (compEnvC scope cl C X.env) fp) tg g)
    (he : ∀ (s : Shared) (H : Hp) (C : Addr) (cl : List (Str × Addr)) (fp : List Addr), PassX (Cx.blx X s H scope (compEnvC scope cl C X.env) fp) (fun cls d H' => W cls d σ H') → PE (Cx.blx X s H scope (compEnvC scope cl C X.env) fp) elt te) (hfs : ∀ x, foldedSetIterable iter X.env x = pure x)
    (h : tLc wi g tYes te (own.map (·.2)) σ H Q) : wpAny (model X.prog X.w) X.A (eval (.ListComp elt [⟨tg, iter, [], 0⟩] scope pos) X.env) (EP X pins σ Q) X.xe s := by
  have hfree : ∀ y ∈ scope.names, y.2 = .free → ∃ c, X.env.cells.lookup y.1 = some c := fun y hy e => (ok.free y hy e).elim (fun k => I.ok.has _ (.inl k)) fun k => I.ok.has _ (.inr k)
  rw [eval_ListComp]
  refine comprehension_at (use := none) rfl hfs (closure_ok hfree) ok.kind (fun y hy e => by rw [ok.uniq y hy, e]) (thn (hi.run pins s σ H _ I h) fun xv s1 hx => thn hx fun itv s2 h2 => ?_)
  obtain ⟨it, fp, tn, J, H2, e, I2, T, st2, f2, q⟩ := h2
  subst e
  refine wpAny_newObj_type (newEnv_comp ?_) (by show 0 ≤ sizeLine; decide)
  generalize hD : s2.heap.objs.size = D
  have hDn : H2 D = none := I2.hok.fresh (Nat.le_of_eq hD)
  obtain ⟨WW, ⟨m0, w0⟩, turn⟩ := q D hDn
  generalize hs3 : ({ s2 with heap := s2.heap.push { cls := .type "list", data := .seq ([] : List Value).toArray } } : Shared) = s3
  have h3 : s3.heap = s2.heap.push { cls := .type "list", data := .seq ([] : List Value).toArray } := by rw [← hs3]
  have I3 : Inv X pins σ (upd H2 D (.lst [])) s3 := by
    rw [← hs3]
    refine I2.laid (t' := s2.toks) (fun b o e => Heap.get?_push_of_some _ e) (Nat.le_of_eq hD) ⟨Nat.zero_le _, [], 0, .nil, ?_⟩
    rw [← hD]
    exact Heap.get?_push_size _ rfl
  have sz : ∀ b ∈ fp, b < s2.heap.objs.size := fun b hb => let ⟨o, e, _⟩ := T.obj _ _ st2 b hb; Heap.lt_size e
  have f3 : ∀ b ∈ fp, FpOk X pins (upd H2 D (.lst [])) b ∧ b < s3.heap.objs.size := fun b hb => by
    have hlt := sz b hb
    refine ⟨⟨?_, (f2 b hb).2⟩, by rw [h3, Heap.size_push]; exact Nat.lt_succ_of_lt hlt⟩
    rw [upd_ne (by rw [← hD]; exact Nat.ne_of_lt hlt)]
    exact (f2 b hb).1
  have st3 : tn 0 s3.heap := T.keep _ _ _ st2 fun b _ o e => by rw [h3]; exact Heap.get?_push_of_some _ e
  have I4 := block_start I3 ok hN f3
  show codeAny _ _ (.compStart (.ListComp elt [⟨tg, iter, [], 0⟩] scope pos) 0 (.ref it) (.ref D) (compEnvC scope (cellsFrom (s3.heap.objs.size + 1) scope.names (cloFrom X.env.cells scope.names [])) s3.heap.objs.size X.env))
    (compEnds (model X.prog X.w) X.A X.xe none (EP X pins σ Q) (.ref D) (compEnvC scope (cellsFrom (s3.heap.objs.size + 1) scope.names (cloFrom X.env.cells scope.names [])) s3.heap.objs.size X.env)) { s3 with heap := pushCells (s3.heap.push { cls := .type "dict", data := .dict #[] }) scope.names }
  have pg := hg s3 (upd H2 D (.lst [])) s3.heap.objs.size (cellsFrom (s3.heap.objs.size + 1) scope.names (cloFrom X.env.cells scope.names [])) fp
  have pe := he s3 (upd H2 D (.lst [])) s3.heap.objs.size (cellsFrom (s3.heap.objs.size + 1) scope.names (cloFrom X.env.cells scope.names [])) fp
  have nfp : ∀ b ∈ fp, (upd H2 D (.lst [])) b = none := fun b hb => (f3 b hb).1.1
  have cF : (compEnvC scope (cellsFrom (s3.heap.objs.size + 1) scope.names (cloFrom X.env.cells scope.names [])) s3.heap.objs.size X.env).frame = X.env.frame := rfl
  generalize hce : compEnvC scope (cellsFrom (s3.heap.objs.size + 1) scope.names (cloFrom X.env.cells scope.names [])) s3.heap.objs.size X.env = ce at I4 pg pe cF ⊢
  have cL : ce.locals = s3.heap.objs.size := by subst hce; rfl
  generalize hH3 : upd H2 D (.lst []) = H3 at I3 I4 pg pe w0 nfp f3
  generalize hs4 : ({ s3 with heap := pushCells (s3.heap.push { cls := .type "dict", data := .dict #[] }) scope.names } : Shared) = s4 at I4 ⊢
  have st4 : tn 0 s4.heap := T.keep _ _ _ st3 fun b _ o e => by rw [← hs4]; exact pushCells_keeps _ _ _ _ (Heap.get?_push_of_some _ e)
  -- a state of the block is one of the def
  have back : ∀ {pins' : List (Addr × Obj)} {σ' : L2.St} {H' : Hp} {s' : Shared}, Inv (X.blk s3 H3 scope ce fp) pins' σ' H' s' → Inv X pins σ H' s' := fun {pins' σ' H' s'} I6 =>
    I3.call' (ch := fp) I6.os I6.base I6.hok I6.bare fun b hb => ⟨(f3 b hb).1.2.2.2.1, (f3 b hb).1.2.1, (f3 b hb).1.2.2.2.2.1, (f3 b hb).1.2.2.2.2.2⟩
  have fC : FpOk X pins (fun _ => none) ce.locals := by rw [cL]; exact I3.fpOk (Nat.le_refl _) rfl
  have stat : ∀ {σ' : L2.St} {H' : Hp} {s' : Shared}, Inv (X.blk s3 H3 scope ce fp) [] σ' H' s' → (∀ b ∈ fp, H' b = none) → ∀ b ∈ fp, FpOk (X.blk s3 H3 scope ce fp) [] H' b := fun {σ' H' s'} I' hn b hb =>
    ⟨hn b hb, (I'.ok.exf b hb).1, I'.ok.exfs b hb, .inl hb, fun x c e => (I'.ok.exf b hb).2 x c e, fun p hp => absurd (show p ∈ ([] : List (Addr × Obj)) ++ [] from hp) (by simp)⟩
  -- what a call in the element lets out
  have pass : PassX (Cx.blx X s3 H3 scope ce fp) (fun cls d H' => W cls d σ H') := by
    intro σ' pins' H6 s6 e s' I6 c
    have I6' : Inv (X.blk s3 H3 scope ce fp) pins' σ' H6 s6 := I6.unwish
    obtain ⟨a, B, H', cls, d, eu, fl, hok, ub, na, os, ag, w⟩ := c
    have nC : H6 ce.locals = none := I6'.free
    obtain ⟨m, hn, _⟩ := I6'.loc
    have hn : s6.heap.Ns ce.locals m := hn
    have nCs : ce.locals ∉ frs X.stack := fun z => by
      rcases List.mem_cons.mp (I3.stkSub _ z) with z | z
      · exact fC.2.1 z
      · exact fC.2.2.1 z
    have hn' : s'.heap.Ns ce.locals m := by
      obtain ⟨oD, es, ep, e1, r⟩ := hn
      exact ⟨oD, es, ep, fl.1 _ _ (ub.keep _ _ e1 nC nCs), r⟩
    have nC' : H' ce.locals = none := by
      obtain ⟨oD, es, ep, e1, r⟩ := hn
      exact ub.free _ _ e1 nC
    have c2 : L2.CX X.prog X.w X.stack H6 s6 (fun cls d H' => W cls d σ H' ∧ H' ce.locals = none) e s' := ⟨a, B, H', cls, d, eu, fl, hok, ub, na, os, ag, w, nC'⟩
    have x2 : XE X (fun cls d σ H => W cls d σ H ∧ H ce.locals = none) e s' := XE.of_call (back I6') (fun _ _ _ h => h) c2
    exact blk_out tk hs hf cF hn' fC.2.1 fC.2.2.1 (by rw [cL]; exact I3.sz) fC.2.2.2.2.1 (fun p hp => by rw [hpn] at hp; cases hp) x2
  have pe := pe pass
  have loop : codeAny (model X.prog X.w) X.A (.compLoop (.ListComp elt [⟨tg, iter, [], 0⟩] scope pos) 0 (.ref it) (.ref D) ce) (compEnds (model X.prog X.w) X.A X.xe none (EP X pins σ Q) (.ref D) ce) s4 := by
    refine compLoop_any (fun n s' => ∃ i H', Inv (X.blk s3 H3 scope ce fp) [] (wipe σ (own.map (·.2))) H' s' ∧ tn i s'.heap ∧ (∀ b ∈ fp, H' b = none) ∧ WW i n H') ?_ m0 ⟨0, H3, I4, st4, nfp, w0⟩
    rintro n s5 ⟨i, H5, I5, st5, n5, w5⟩
    rcases turn i n H5 w5 with ⟨stop, qq⟩ | ⟨go, Nx, hNx, step⟩
    · refine thnF (T.done (X.blk s3 H3 scope ce fp) rfl rfl rfl hc i [] s5 _ H5 (fun _ _ => False) I5 (stat I5 n5) st5 stop) fun r s6 ⟨hr, I6⟩ => ?_
      subst hr
      have I7 : Inv X pins σ H5 s6 := back I6
      have nC : H5 ce.locals = none := I6.free
      obtain ⟨m, hn, _⟩ := I6.loc
      refine ⟨m, hn, fun h'' sb => ?_⟩
      exact ⟨.ref D, H5, I7.turned (t' := s6.toks) (fun b o hb e => (sb.2 b hb).trans e) nC fC.2.1 fC.2.2.2.1 fC.2.2.2.2.1 fC.2.2.2.2.2, rfl, qq⟩
    · refine thnF (T.item (X.blk s3 H3 scope ce fp) rfl rfl rfl hc i [] s5 _ H5 (fun _ _ => False) I5 (stat I5 n5) st5 go) fun r s6 ⟨u, hr, h6⟩ => ?_
      subst hr
      refine thnF h6 fun _ s7 ⟨x, H7, I7, r7, y7, st7, n7⟩ => ?_
      have I7' := I7.pinned (stat I7 n7) (T.obj _ _ st7)
      refine thnF (pg.run _ s7 _ H7 x u _ I7' r7 (step x H7 y7)) fun _ s8 ⟨σ8, H8, I8, hw8, q8⟩ => ?_
      have fin : ∀ {s' : Shared} {H' : Hp}, Inv (X.blk s3 H3 scope ce fp) ([] ++ pinsAt fp s7.heap) σ8 H' s' → Nx H' → ∃ m, m < n ∧ ∃ i H', Inv (X.blk s3 H3 scope ce fp) [] (wipe σ (own.map (·.2))) H' s' ∧ tn i s'.heap ∧ (∀ b ∈ fp, H' b = none) ∧ WW i m H' := fun {s' H'} I' nx => by
        obtain ⟨m', hm, w'⟩ := hNx H' nx
        have pin' : ∀ b ∈ fp, ∀ o, s7.heap.get? b = some o → s'.heap.get? b = some o ∧ H' b = none := fun b hb o e =>
          let z := I'.pin (b, o) (List.mem_append_right _ (List.mem_append_right _ (mem_pinsAt hb e)))
          ⟨z.1, z.2.1⟩
        have hl : (wipe σ (own.map (·.2))).length = σ8.length := by rw [← hw8, wipe_length]
        refine ⟨m', hm, i + 1, H', (I'.unpinned (pins := [])).weak hl (fun j v e => ?_), T.keep _ _ _ st7 fun b hb o e => (pin' b hb o e).1, fun b hb => ?_, w'⟩
        · rw [← hw8] at e
          exact (wipe_some e).1
        · obtain ⟨o, e, _⟩ := T.obj _ _ st7 b hb
          exact (pin' b hb o e).2
      refine wpAny_tests_nil ?_
      rw [if_pos rfl]
      refine wpAny_mono (pe.run _ s8 σ8 H8 (fun yv H10 => ∃ acc, H10 D = some (.lst acc) ∧ acc.length < sizeLine ∧ Nx (upd H10 D (.lst (acc ++ [yv])))) (I8.wish _) ?_) (fun z s10 ⟨yv, H10, I10, r10, acc, hD10, hz10, nx⟩ => ?_) fun e s' z => z
      · have q9 := q8
        simp only [tYes, if_true] at q9
        exact q9
      · exact app_ok (X := X.blk s3 H3 scope ce fp) I10.unwish hD10 hz10 r10 fun s11 I11 => fin I11 nx
  exact codeAny_compStart_list loop (T.self X.A 0 _ _ _ st4 loop)
/-- an element that raises, by what a call may let out -/
def EvP (X : Cx) (e : Expr) (ρ : Rho) (x : Xn) : Prop := ∀ (E : XK) (σ : L2.St) (H : Hp) (Q : VK), PassX X E → Env X.K H σ ρ → (∀ cls dct H', Same H H' → XD X.K H' cls dct x → E cls dct H') → wE X e σ H Q
theorem evp_call {X : Cx} {ρ : Rho} {e : Expr} {es : List Expr} {n : Str} {ps : List Str} {k k' : Nat} {R : List DV → Rs → Prop} {xs : List DV} {p pos : Pos} {x : Xn} (F : Fn X.prog X.w X.K X.mg X.base n ps k (spD X.K ps.length R)) (hr : Room k' X.A) (hk : k ≤ k') (ha : EvA X (e :: es) ρ xs) (hR : R xs (.ex x)) (hl : xs.length = ps.length) (hg : Gl X n) (hdb : (n == ("__debug__" : Str)) = false)
    (he : starEach (e :: es) X.env = (false, eval e X.env) :: starEach es X.env) (hpl : (backTo pos (starEach es X.env)).any (·.1) = false) : EvP X (.Call (.Name n p) (e :: es) [] pos) ρ x := by
  obtain ⟨hm, kp, fd, F, hb⟩ := F
  refine fun E σ H Q px EE q => ⟨_, pe_callS (E := fun _ => E) F (hr.mono hk) hg hm kp hb px pa_w hdb he hpl, ha σ H _ EE fun vs H1 s1 d1 => ?_⟩
  exact ⟨xs, .ex x, by rw [d1.length]; exact hl, d1, hR, fun cls dct H2 s2 d2 => q cls dct H2 (s1.trans s2) d2⟩
theorem wipe_wc : ∀ (us : List Nat) (v : Nat) (σ : L2.St), wipe (σ.set v none) us = (wipe σ us).set v none
  | [], _, _ => rfl
  | u :: us, v, σ => by
    show (wipe (σ.set v none) us).set u none = ((wipe σ us).set u none).set v none
    rw [wipe_wc us v σ]
    by_cases h : v = u
    · subst h; rfl
    · rw [List.set_comm _ _ h]
theorem wipe_idem : ∀ (vs : List Nat) (σ : L2.St), wipe (wipe σ vs) vs = wipe σ vs
  | [], _ => rfl
  | v :: vs, σ => by
    show (wipe ((wipe σ vs).set v none) vs).set v none = (wipe σ vs).set v none
    rw [wipe_wc, wipe_idem, List.set_set]
def bX (X : Cx) (scope : Scope) (W : WX) (σ : L2.St) (elt : Expr) : TE := fun σ1 H1 Q1 => ∀ s H0 C cl fp, PassX (Cx.blx X s H0 scope (compEnvC scope cl C X.env) fp) (fun cls d H' => W cls d σ H') → wE (Cx.blx X s H0 scope (compEnvC scope cl C X.env) fp) elt σ1 H1 Q1
/-- [elt for v in iter], the j-th element raises -/
theorem evx_lc1 {X : Cx} {ρ : Rho} {iter elt : Expr} {scope : Scope} {pos px : Pos} {n i j : Nat} {f g : Nat → PyData} {v : Str} {y : Xn} (hx : findN X.N v 0 = some i) (c : XOk X) (hst : X.stack = X.env :: X.outer) (hfr : X.env.frame = some X.env.locals) (hpn : X.pn = []) (ok : BlkOk X.N X.env.scope scope [(v, i)]) (hi : EvI X (.Name v px) iter ρ n f) (hn : n ≤ 1000) (hj : j < n)
    (hg : Blk X scope fun Y => PG Y (.Name v px) (gName i)) (he : Blk X scope fun Y => ∀ k, k < j → Ev Y elt (ρ.set i (some (.d (f k)))) (.d (g k))) (hL : ∀ k, k < j → noL (g k) = true)
    (hX : ∀ (s : Shared) (H : Hp) (C : Addr) (cl : List (Str × Addr)) (fp : List Addr), EvP (Cx.blx X s H scope (compEnvC scope cl C X.env) fp) elt (ρ.set i (some (.d (f j)))) y) (hs : ∀ x, foldedSetIterable iter X.env x = pure x) : EvX X (.ListComp elt [⟨.Name v px, iter, [], 0⟩] scope pos) ρ y := by
  intro W σ H Q tk E q
  refine ⟨fun σ' H' _ => σ' = σ ∧ H' = H, ⟨fun pins s σ' H' Q' I h => ?_⟩, rfl, rfl⟩
  obtain ⟨rfl, rfl⟩ := h
  refine lcx_core (wi := wI X (.Name v px) iter) (g := bG X scope (.Name v px)) (te := bX X scope W σ' elt)
    (own := [(v, i)]) c.calm c.nd hst hfr hpn tk I pi_w ok (lc_terms (tg := .Name v px) (elt := elt) (ifs := [])).1 (fun s H C cl fp px => ⟨fun pins s' σ1 H1 Q1 I1 h1 => pe_w.run pins s' σ1 H1 Q1 I1 (h1 s H C cl fp px)⟩) hs ?_
  refine hi σ' H' _ E fun J H1 s1 wk D hD => ?_
  obtain ⟨G, Y, w, hG, hY⟩ := wk.ex
  have sD : ∀ o, Same H1 (upd H1 D o) := fun o => same_new hD o
  refine lc_it w (g := bG X scope (.Name v px)) (tt := tYes) (te := bX X scope W σ' elt) (vs := [i]) (σ := σ') (Qd := fun H => Q' (.ref D) H) (fun k H2 => k ≤ j ∧ Same H1 H2 ∧ ∃ acc, H2 D = some (.lst acc) ∧ DpAll X.K H2 acc ((List.range k).map g)) ⟨Nat.zero_le _, sD _, [], upd_same, .nil⟩ (fun k H2 _ p => hG H2 p.2.1) ?_ ?_
  · rintro k x H2 H3 hk ⟨hkj, s2, acc, hacc, dacc⟩ y1
    obtain ⟨s3, dx, _⟩ := hY k H2 x H3 hk s2 y1
    have E3 : Env X.K H3 (wipe σ' [i]) (wipeR ρ [i]) := (((E.mono s1).mono s2).mono s3).wipe [i]
    intro s0 H0 C cl fp
    refine ⟨_, hg s0 H0 C cl fp, ?_⟩
    have E4 : Env X.K H3 ((wipe σ' [i]).set i (some x)) (ρ.set i (some (.d (f k)))) := by
      have z := E3.set i (x := .d _) dx
      rw [wipe1] at z
      exact z
    refine ⟨?_, ?_⟩
    · show wipe ((wipe σ' [i]).set i (some x)) [i] = wipe σ' [i]
      rw [wipe_set1, wipe_idem]
    · simp only [tYes, if_true]
      intro s5 H5 C5 cl5 fp5 px5
      rcases Nat.lt_or_ge k j with hlt | hge
      · obtain ⟨t, p, h⟩ := he s5 H5 C5 cl5 fp5 k hlt _ H3 (fun y H4 => ∃ acc, H4 D = some (.lst acc) ∧ acc.length < sizeLine ∧ (k + 1 ≤ j ∧ Same H1 (upd H4 D (.lst (acc ++ [y]))) ∧ ∃ acc', (upd H4 D (.lst (acc ++ [y]))) D = some (.lst acc') ∧ DpAll X.K (upd H4 D (.lst (acc ++ [y]))) acc' ((List.range (k + 1)).map g))) E4 (fun z H6 s6 d6 => by
          have hacc6 : H6 D = some (.lst acc) := s6 D _ (s3 D _ hacc)
          have dacc6 := dpAll_mono s6 _ _ (dpAll_mono s3 _ _ dacc)
          have hlen : acc.length < 1001 := by
            rw [dpAll_length dacc6, List.length_map, List.length_range]
            omega
          refine ⟨acc, hacc6, Nat.lt_of_lt_of_le hlen (by decide), hlt, fun b o qb => ?_, acc ++ [z], upd_same, ?_⟩
          · rw [upd_ne (ne_of_none qb hD)]
            exact s6 b o (s3 b o (s2 b o qb))
          · rw [List.range_succ, List.map_append]
            have kk : ∀ b o, b ≠ D → H6 b = some o → upd H6 D (.lst (acc ++ [z])) b = some o := fun b o hb e => by rw [upd_ne hb]; exact e
            have d6' : Dp X.K H6 z (g k) := d6
            refine dpAll_append (dpAll_swap hacc6 kk _ _ ?_ dacc6) (.cons (dp_swap hacc6 kk _ _ (hL k hlt) d6') .nil)
            rw [noLs_iff]
            intro u hu
            obtain ⟨m, hm, rfl⟩ := List.mem_map.mp hu
            exact hL m (Nat.lt_trans (List.mem_range.mp hm) hlt))
        exact ⟨t, PE.nox p, h⟩
      · have ek : k = j := by omega
        subst ek
        exact hX s5 H5 C5 cl5 fp5 _ _ H3 _ px5 E4 fun cls dct H6 s6 xd => q cls dct H6 (((s1.trans s2).trans s3).trans s6) xd
  · rintro H2 ⟨hjn, _⟩
    omega
end Sg
/-! # ask, answer, walks: what they promise -/
namespace Sg
open PySem PySem.Spec L2
def rAsk1 (n : Nat) : List DV → Rs → Prop := fun xs r => ∃ m k t q, xs = [.sl m, .d (dTr t), .d (dQ q)] ∧ Md m ∧ TrOk k t ∧ k ≤ 3 ∧ depth t ≤ n ∧ QnOk q ∧ q.one = true ∧ r = resA (ansM m t q)
def rAsk (n : Nat) : List DV → Rs → Prop := fun xs r => ∃ m k t q, xs = [.sl m, .d (dTr t), .d (dQ q)] ∧ Md m ∧ TrOk k t ∧ k ≤ 3 ∧ depth t ≤ n ∧ QnOk q ∧ r = resD (askM m t q)
def rAnswer (n : Nat) : List DV → Rs → Prop := fun xs r => ∃ m k t q, xs = [.sl m, .d (.int (rootOf m t)), .d (dTr t), .d (dQ q)] ∧ Md m ∧ WfT m k t ∧ 1 ≤ k ∧ k ≤ 3 ∧ depth t ≤ n ∧ QnOk q ∧ r = resD (askM m t q)
theorem rAsk1_mk {n k : Nat} {m : Int} {t : Tr} {x : Str} {a : An} (hm : Md m) (h : TrOk k t) (hk : k ≤ 3) (hd : depth t ≤ n) (hq : IsNm x) (e : ansM m t (.leaf x) = .ok a) : rAsk1 n [.sl m, .d (dTr t), .d (.tuple [.str "leaf", .str x])] (.ok (.d (dA a))) := ⟨m, k, t, .leaf x, rfl, hm, h, hk, hd, hq, rfl, by rw [e]; rfl⟩
theorem rAsk1_mkX {n k : Nat} {m : Int} {t : Tr} {x y : Str} (hm : Md m) (h : TrOk k t) (hk : k ≤ 3) (hd : depth t ≤ n) (hq : IsNm x) (e : ansM m t (.leaf x) = .error y) : rAsk1 n [.sl m, .d (dTr t), .d (.tuple [.str "leaf", .str x])] (.ex (xNs y)) := ⟨m, k, t, .leaf x, rfl, hm, h, hk, hd, hq, rfl, by rw [e]; rfl⟩
theorem rAsk_mk {n k : Nat} {m : Int} {t : Tr} {q : Qn} {d : PyData} (hm : Md m) (h : TrOk k t) (hk : k ≤ 3) (hd : depth t ≤ n) (hq : QnOk q) (e : askM m t q = .ok d) : rAsk n [.sl m, .d (dTr t), .d (dQ q)] (.ok (.d d)) := ⟨m, k, t, q, rfl, hm, h, hk, hd, hq, by rw [e]; rfl⟩
theorem rAsk_mkX {n k : Nat} {m : Int} {t : Tr} {q : Qn} {x : Str} (hm : Md m) (h : TrOk k t) (hk : k ≤ 3) (hd : depth t ≤ n) (hq : QnOk q) (e : askM m t q = .error x) : rAsk n [.sl m, .d (dTr t), .d (dQ q)] (.ex (xNs x)) := ⟨m, k, t, q, rfl, hm, h, hk, hd, hq, by rw [e]; rfl⟩
theorem rAnswer_mk {n k : Nat} {m : Int} {t : Tr} {q : Qn} {d : PyData} {r : Int} (hm : Md m) (h : WfT m k t) (h1 : 1 ≤ k) (hk : k ≤ 3) (hd : depth t ≤ n) (hq : QnOk q) (hr : r = rootOf m t) (e : askM m t q = .ok d) : rAnswer n [.sl m, .d (.int r), .d (dTr t), .d (dQ q)] (.ok (.d d)) := ⟨m, k, t, q, by rw [hr], hm, h, h1, hk, hd, hq, by rw [e]; rfl⟩
theorem rAnswer_mkX {n k : Nat} {m : Int} {t : Tr} {q : Qn} {x : Str} {r : Int} (hm : Md m) (h : WfT m k t) (h1 : 1 ≤ k) (hk : k ≤ 3) (hd : depth t ≤ n) (hq : QnOk q) (hr : r = rootOf m t) (e : askM m t q = .error x) : rAnswer n [.sl m, .d (.int r), .d (dTr t), .d (dQ q)] (.ex (xNs x)) := ⟨m, k, t, q, by rw [hr], hm, h, h1, hk, hd, hq, by rw [e]; rfl⟩
/-- the answers to several, one by one -/
def gAns (m : Int) (t : Tr) (ns : List Str) (k : Nat) : PyData := match ansM m t (.leaf (ns.getD k ⟨#[]⟩)) with
  | .ok a => dA a
  | .error _ => .none
theorem sev_ok {m : Int} {t : Tr} : ∀ {ns : List Str} {as : List An}, sevM m t ns = .ok as → as.map dA = (List.range ns.length).map (gAns m t ns) ∧ ∀ k, k < ns.length → ∃ a, ansM m t (.leaf (ns.getD k ⟨#[]⟩)) = .ok a
  | [], as, h => by
    cases h
    exact ⟨rfl, fun k hk => by simp at hk⟩
  | n :: ns, as, h => by
    have h : (match ansM m t (.leaf n) with | .error e => Except.error e | .ok a => match sevM m t ns with | .error e => .error e | .ok as => .ok (a :: as)) = .ok as := h
    cases e : ansM m t (.leaf n) with
    | error z => rw [e] at h; cases h
    | ok a =>
      rw [e] at h
      cases e2 : sevM m t ns with
      | error z => rw [e2] at h; cases h
      | ok as' =>
        rw [e2] at h
        cases h
        obtain ⟨i1, i2⟩ := sev_ok e2
        refine ⟨?_, fun k hk => ?_⟩
        · rw [List.length_cons, List.range_succ_eq_map, List.map_cons, List.map_cons, i1, List.map_map]
          congr 1
          show dA a = match ansM m t (.leaf n) with | .ok a => dA a | .error _ => .none
          rw [e]
        · cases k with
          | zero => exact ⟨a, e⟩
          | succ k => exact i2 k (by simpa using hk)
theorem sev_er {m : Int} {t : Tr} {x : Str} : ∀ {ns : List Str}, sevM m t ns = .error x → ∃ j, j < ns.length ∧ (∀ k, k < j → ∃ a, ansM m t (.leaf (ns.getD k ⟨#[]⟩)) = .ok a) ∧ ansM m t (.leaf (ns.getD j ⟨#[]⟩)) = .error x
  | [], h => by cases h
  | n :: ns, h => by
    have h : (match ansM m t (.leaf n) with | .error e => Except.error e | .ok a => match sevM m t ns with | .error e => .error e | .ok as => .ok (a :: as)) = .error x := h
    cases e : ansM m t (.leaf n) with
    | error z =>
      rw [e] at h
      cases h
      exact ⟨0, by simp, fun k hk => by omega, e⟩
    | ok a =>
      rw [e] at h
      cases e2 : sevM m t ns with
      | error z =>
        rw [e2] at h
        cases h
        obtain ⟨j, h1, h2, h3⟩ := sev_er e2
        refine ⟨j + 1, by simpa using h1, fun k hk => ?_, h3⟩
        cases k with
        | zero => exact ⟨a, e⟩
        | succ k => exact h2 k (by omega)
      | ok as' => rw [e2] at h; cases h
theorem noL_dI (ns : List Int) : noL (dI ns) = true := by
  show noLs _ = true
  rw [noLs_iff]
  intro x hx
  obtain ⟨i, _, rfl⟩ := List.mem_map.mp hx
  rfl
theorem noL_dA (a : An) : noL (dA a) = true := by
  cases a with
  | non => rfl
  | i n => rfl
  | nm s => rfl
  | tot ws => exact noL_dI ws
  | rng c s =>
    cases s with
    | none => rfl
    | some ws =>
      show (true && (noL (dI ws) && true)) = true
      rw [noL_dI]
      rfl
  | lf ws ns =>
    show (noL (dI ws) && (noL (dI ns) && true)) = true
    rw [noL_dI, noL_dI]
    rfl
theorem noL_gAns {m : Int} {t : Tr} {ns : List Str} {k : Nat} : noL (gAns m t ns k) = true := by
  unfold gAns
  cases ansM m t (.leaf (ns.getD k ⟨#[]⟩)) with
  | ok a => exact noL_dA a
  | error _ => rfl
/-- tuple(e), e raises -/
theorem evx_totup {X : Cx} {ρ : Rho} {e : Expr} {p pos : Pos} {y : Xn} (C : Wd X.K X.mg) (hg : Gl X "tuple") (h : EvX X e ρ y) (he : starEach [e] X.env = (false, eval e X.env) :: starEach [] X.env) (hpl : (backTo pos (starEach [] X.env)).any (·.1) = false) : EvX X (.Call (.Name "tuple" p) [e] [] pos) ρ y := fun W σ H Q tk E q =>
  ⟨_, pe_callTy call_tuple_of hg (C.free _ (by decide +kernel)) (by decide +kernel) (pa_cons pe_w pa_nil he) (by decide +kernel) (by decide +kernel) he hpl, h W σ H _ tk E q⟩
theorem askM_one {m : Int} {t : Tr} {q : Qn} (h : q.one = true) : askM m t q = match ansM m t q with | .error e => .error e | .ok a => .ok (dA a) := by
  cases q with
  | several ns => cases h
  | _ => rfl
end Sg
/-! # Data that may be compared -/
namespace Sg
open PySem PySem.Spec L2
theorem clAll_iff : ∀ {xs : List PyData}, PyData.canLayAll0 xs = true ↔ ∀ x ∈ xs, x.canLay0 = true
  | [] => by simp [PyData.canLayAll0]
  | x :: xs => by simp [PyData.canLayAll0, clAll_iff (xs := xs)]
theorem dpAllD_le {n : Nat} : ∀ {xs : List PyData}, (∀ x ∈ xs, x.depth ≤ n) → PyData.depthAll xs ≤ n
  | [], _ => by simp [PyData.depthAll]
  | x :: xs, h => by
    have h1 := h x (List.mem_cons_self ..)
    have h2 := dpAllD_le (xs := xs) fun y hy => h y (List.mem_cons_of_mem _ hy)
    rw [PyData.depthAll]
    omega
/-- what may be compared: no dict, and at most n deep -/
def Shp (n : Nat) (d : PyData) : Prop := d.canLay0 = true ∧ d.depth ≤ n
theorem Shp.sh {n : Nat} {d : PyData} (h : Shp n d) (hn : n ≤ 64) : SeqAt.shaped d = true := by
  unfold SeqAt.shaped
  rw [h.1, decide_eq_true (Nat.le_trans h.2 hn)]
  rfl
theorem Shp.mono {n m : Nat} {d : PyData} (h : Shp n d) (hn : n ≤ m) : Shp m d := ⟨h.1, Nat.le_trans h.2 hn⟩
theorem shp_tup {n : Nat} {xs : List PyData} (h : ∀ x ∈ xs, Shp n x) : Shp (n + 1) (.tuple xs) := ⟨by
  rw [PyData.canLay0, clAll_iff]
  exact fun x hx => (h x hx).1, by
  rw [PyData.depth]
  exact Nat.succ_le_succ (dpAllD_le fun x hx => (h x hx).2)⟩
theorem shp_int {n : Nat} (i : Int) : Shp n (.int i) := ⟨rfl, by simp [PyData.depth]⟩
theorem shp_non {n : Nat} : Shp n .none := ⟨rfl, by simp [PyData.depth]⟩
theorem shp_bool {n : Nat} (b : Bool) : Shp n (.bool b) := ⟨rfl, by simp [PyData.depth]⟩
theorem alpha_small : ∀ c ∈ alpha, c < 1000 := by decide +kernel
theorem strOk_nm {x : Str} (h : IsNm x) : PyData.strOk x = true := by
  obtain ⟨_, _, h⟩ := h
  unfold PyData.strOk
  rw [← Array.all_toList, List.all_eq_true]
  intro c hc
  have := alpha_small c (h c hc)
  simp only [decide_eq_true_eq]
  omega
theorem shp_str {n : Nat} {x : Str} (h : PyData.strOk x = true) : Shp n (.str x) := ⟨by rw [PyData.canLay0]; exact h, by simp [PyData.depth]⟩
theorem shp_dI {n : Nat} (ns : List Int) : Shp (n + 1) (dI ns) := shp_tup fun x hx => by
  obtain ⟨i, _, rfl⟩ := List.mem_map.mp hx
  exact shp_int i
theorem shp_dSm {n k : Nat} {s : Sm} (h : SmOk k s) : Shp (n + 2) (dSm s) := shp_tup fun x hx => by
  simp only [List.mem_cons, List.not_mem_nil, or_false] at hx
  rcases hx with rfl | rfl | rfl | rfl | rfl
  · exact shp_int _
  · exact shp_int _
  · exact shp_dI _
  · exact shp_str (strOk_nm h.lo)
  · exact shp_str (strOk_nm h.hi)
theorem shp_dTr {k : Nat} : ∀ {t : Tr}, TrOk k t → Shp (depth t + 3) (dTr t)
  | .leaf n ws ns, h => shp_tup fun x hx => by
    simp only [List.mem_cons, List.not_mem_nil, or_false] at hx
    rcases hx with rfl | rfl | rfl | rfl
    · exact shp_str (by decide +kernel)
    · exact shp_str (strOk_nm h.1)
    · exact shp_dI _
    · exact shp_dI _
  | .br l r, h => by
    have a := shp_dTr h.1
    have b := shp_dTr h.2
    refine shp_tup (n := max (depth l) (depth r) + 1 + 2) fun x hx => ?_
    simp only [List.mem_cons, List.not_mem_nil, or_false] at hx
    rcases hx with rfl | rfl | rfl
    · exact shp_str (by decide +kernel)
    · exact a.mono (by omega)
    · exact b.mono (by omega)
  | .cut s, h => shp_tup fun x hx => by
    simp only [List.mem_cons, List.not_mem_nil, or_false] at hx
    rcases hx with rfl | rfl
    · exact shp_str (by decide +kernel)
    · exact shp_dSm h
theorem eqvAll_ints : ∀ (a b : List Int), PyData.eqvAll (a.map .int) (b.map .int) = decide (a = b)
  | [], [] => by simp [PyData.eqvAll]
  | [], b :: bs => by simp [PyData.eqvAll]
  | a :: as, [] => by simp [PyData.eqvAll]
  | a :: as, b :: bs => by
    rw [List.map_cons, List.map_cons, PyData.eqvAll, eqvAll_ints as bs]
    simp only [PyData.eqv]
    by_cases h : a = b
    · subst h; simp
    · simp [h]
theorem eqv_dI (a b : List Int) : PyData.eqv (dI a) (dI b) = decide (a = b) := by
  unfold dI
  rw [PyData.eqv]
  exact eqvAll_ints a b
/-! ### a body that ends without a return -/
section
variable {P : Program} {w : World} {K : PySem.W.Frag} {mg : Str → Option Value} {base : Heap}
/-- how a body may end for the result r -/
def FlEnd (r : Rs) (fl : Fl) : Prop := match r with
  | .ok y => fl = .rt y ∨ (y = .d .none ∧ ∃ ρ, fl = .nx ρ)
  | .ex y => ∃ ρ, fl = .ex y ρ
theorem fn_mk2 {x qual : Str} {params : Arguments} {body : List Stmt} {scope : Scope} {fd : FuncData} {N ps : List Str} {k : Nat} {R : List DV → Rs → Prop} (hm : mg x = some (.ref (He.ga K x))) (F : FunD K x qual params body scope [] [] (He.ga K x) fd) (S : FnScope N ps scope)
    (hb : ∀ (kV doc pm : Value) (an : Option Addr) (cdv ct : Value) (us : List Value), us.length = ps.length → bindArgs (PySem.W.fnOf x qual params body scope .none kV doc pm an cdv ct) ⟨us, []⟩ = pure (ps.zip us))
    (hbody : ∀ (X : Cx) (cdv : Value) (A : Around) (outer : List PySem.Env) (s : Shared) (H : Hp) (E : XK), X = cxOf (L2.CX P w) P w K mg base N qual scope (He.ga K x) cdv A outer s H E → Room k X.A → XOk X → ∀ xs r, xs.length = ps.length → R xs r →
      ∃ fl, FlEnd r fl ∧ Bs X body (xs.map some ++ List.replicate (N.length - xs.length) none) fl) : Fn P w K mg base x ps (k + 1) (spD K ps.length R) := by
  refine ⟨hm, F.kp, fd, F.ok S (fun vs H Q E h => by obtain ⟨xs, r, hl, _⟩ := h; exact hl) (fun cdv A outer s H vs Q E hr h => ?_), F.bindsN hb⟩
  obtain ⟨xs, r, hl, dr, hR, q⟩ := h
  obtain ⟨fl, hfl, hb'⟩ := hbody _ cdv A outer s H E rfl hr (xok_of S.nd) xs r (by rw [← dr.length]; exact hl) hR
  have tk : Takes (cxOf (L2.CX P w) P w K mg base N qual scope (He.ga K x) cdv A outer s H E) (fun cls d _ H => E cls d H) := takes_of rfl rfl rfl rfl
  refine ⟨_, pss_w, hb' _ _ H _ tk (env_start dr N) ?_⟩
  cases r with
  | ok y =>
    rcases hfl with rfl | ⟨rfl, ρ, rfl⟩
    · exact fun v H' sm d => q v H' sm d
    · exact fun σ' H' sm _ => q _ H' sm Dp.non
  | ex y =>
    obtain ⟨ρ, rfl⟩ := hfl
    exact fun cls d σ' H' sm _ xd => q cls d H' sm xd
end
end Sg
/-! # Walks: what they promise -/
namespace Sg
open PySem PySem.Spec L2
def xUn (x y : List Int) : Xn := ⟨"Unlike", [("second", dI y), ("first", dI x)]⟩
def resU (d : PyData) : Option (List Int × List Int) → Rs
  | none => .ok (.d d)
  | some (x, y) => .ex (xUn x y)
def rCollision : List DV → Rs → Prop := fun xs r => ∃ m x y, xs = [.sl m, .d (dI x), .d (dI y)] ∧ Md m ∧ x.length ≤ 200 ∧ y.length ≤ 200 ∧ r = .ok (.d (.bool (!decide (x = y) && decide (sealF m x = sealF m y))))
def rWalk (n : Nat) : List DV → Rs → Prop := fun xs r => ∃ m k a b, xs = [.sl m, .d (dTr a), .d (dTr b)] ∧ Md m ∧ TrOk k a ∧ TrOk k b ∧ k ≤ 3 ∧ depth a ≤ n ∧ depth b ≤ n ∧ r = .ok (.d (dW (walkM m a b)))
def rAlike (n : Nat) : List DV → Rs → Prop := fun xs r => ∃ m k a b, xs = [.sl m, .d (dTr a), .d (dTr b)] ∧ Md m ∧ TrOk k a ∧ TrOk k b ∧ k ≤ 3 ∧ depth a ≤ n ∧ depth b ≤ n ∧ r = resU .none (walkM m a b)
def rFind (n : Nat) : List DV → Rs → Prop := fun xs r => ∃ m k a b, xs = [.sl m, .d (dTr a), .d (dTr b)] ∧ Md m ∧ TrOk k a ∧ TrOk k b ∧ k ≤ 3 ∧ depth a ≤ n ∧ depth b ≤ n ∧ rootOf m a = rootOf m b ∧ r = .ok (.d (dW (findM m a b)))
def rUnion (n : Nat) : List DV → Rs → Prop := fun xs r => ∃ a b, xs = [.d (dTr a), .d (dTr b)] ∧ depth a ≤ n ∧ r = .ok (.d (dTr (unionM a b)))
def rJoinT (n : Nat) : List DV → Rs → Prop := fun xs r => ∃ m k a b, xs = [.sl m, .d (dTr a), .d (dTr b)] ∧ Md m ∧ TrOk k a ∧ TrOk k b ∧ k ≤ 3 ∧ depth a ≤ n ∧ depth b ≤ n ∧ rootOf m a = rootOf m b ∧ r = resU (dTr (unionM a b)) (findM m a b)
theorem rCollision_mk {m : Int} {x y : List Int} (hm : Md m) (h : x.length ≤ 200) (h1 : y.length ≤ 200) : rCollision [.sl m, .d (dI x), .d (dI y)] (.ok (.d (.bool (!decide (x = y) && decide (sealF m x = sealF m y))))) := ⟨m, x, y, rfl, hm, h, h1, rfl⟩
theorem rWalk_mk {n k : Nat} {m : Int} {a b : Tr} (hm : Md m) (h : TrOk k a) (h1 : TrOk k b) (hk : k ≤ 3) (hd : depth a ≤ n) (hd1 : depth b ≤ n) : rWalk n [.sl m, .d (dTr a), .d (dTr b)] (.ok (.d (dW (walkM m a b)))) := ⟨m, k, a, b, rfl, hm, h, h1, hk, hd, hd1, rfl⟩
theorem rAlike_mk {n k : Nat} {m : Int} {a b : Tr} (hm : Md m) (h : TrOk k a) (h1 : TrOk k b) (hk : k ≤ 3) (hd : depth a ≤ n) (hd1 : depth b ≤ n) (e : walkM m a b = none) : rAlike n [.sl m, .d (dTr a), .d (dTr b)] (.ok (.d .none)) := ⟨m, k, a, b, rfl, hm, h, h1, hk, hd, hd1, by rw [e]; rfl⟩
theorem rAlike_mkX {n k : Nat} {m : Int} {a b : Tr} {x y : List Int} (hm : Md m) (h : TrOk k a) (h1 : TrOk k b) (hk : k ≤ 3) (hd : depth a ≤ n) (hd1 : depth b ≤ n) (e : walkM m a b = some (x, y)) : rAlike n [.sl m, .d (dTr a), .d (dTr b)] (.ex (xUn x y)) := ⟨m, k, a, b, rfl, hm, h, h1, hk, hd, hd1, by rw [e]; rfl⟩
theorem rFind_mk {n k : Nat} {m : Int} {a b : Tr} (hm : Md m) (h : TrOk k a) (h1 : TrOk k b) (hk : k ≤ 3) (hd : depth a ≤ n) (hd1 : depth b ≤ n) (hr : rootOf m a = rootOf m b) : rFind n [.sl m, .d (dTr a), .d (dTr b)] (.ok (.d (dW (findM m a b)))) := ⟨m, k, a, b, rfl, hm, h, h1, hk, hd, hd1, hr, rfl⟩
theorem rUnion_mk {n : Nat} {a b : Tr} (hd : depth a ≤ n) : rUnion n [.d (dTr a), .d (dTr b)] (.ok (.d (dTr (unionM a b)))) := ⟨a, b, rfl, hd, rfl⟩
theorem rJoinT_mk {n k : Nat} {m : Int} {a b : Tr} (hm : Md m) (h : TrOk k a) (h1 : TrOk k b) (hk : k ≤ 3) (hd : depth a ≤ n) (hd1 : depth b ≤ n) (hr : rootOf m a = rootOf m b) (e : findM m a b = none) : rJoinT n [.sl m, .d (dTr a), .d (dTr b)] (.ok (.d (dTr (unionM a b)))) := ⟨m, k, a, b, rfl, hm, h, h1, hk, hd, hd1, hr, by rw [e]; rfl⟩
theorem rJoinT_mkX {n k : Nat} {m : Int} {a b : Tr} {x y : List Int} (hm : Md m) (h : TrOk k a) (h1 : TrOk k b) (hk : k ≤ 3) (hd : depth a ≤ n) (hd1 : depth b ≤ n) (hr : rootOf m a = rootOf m b) (e : findM m a b = some (x, y)) : rJoinT n [.sl m, .d (dTr a), .d (dTr b)] (.ex (xUn x y)) := ⟨m, k, a, b, rfl, hm, h, h1, hk, hd, hd1, hr, by rw [e]; rfl⟩
theorem br_ne_leaf {l r : Sm} {n : Str} {ws ns : List Int} : brRow l r ≠ leafRow n ws ns := fun h => by
  have z : (1 : Int) = 0 := by
    have := congrArg List.head? h
    simpa [brRow, leafRow] using this
  cases z
theorem b1_exprXn {X : Cx} {ρ : Rho} {e : Expr} {pos : Pos} {y : Xn} (h : EvX X e ρ y) (hs : swapsWith e none pos.line X.env = pure false) : B1 X (.Expr e pos) ρ (.ex y ρ) := b1_exprX h hs
end Sg
open PySem PySem.Spec L2 Sg
local macro_rules | `(tactic| wtm_at "g_side") => `(tactic| first | assumption | (exact rfl) | (exact True.intro) | omega | decide +kernel)
local macro_rules | `(tactic| wtm_at "g_od") => `(tactic| first
  | exact od_add | exact od_sub | exact od_xor
  | (refine' od_addt ?l; (case l => (simp only [List.length_append, List.length_cons, List.length_nil, List.length_map]; wtm_at "g_side")))
  | (refine' od_mul ?l; (case l => wtm_at "g_mul"))
  | (refine' od_div ?l; (case l => wtm_at "g_div"))
  | (refine' od_mod ?l; (case l => wtm_at "g_side"))
  | (refine' od_shr ?l; (case l => wtm_at "g_side"))
  | (refine' od_adds ?l; (case l => wtm_at "g_side")))
local macro_rules | `(tactic| wtm_at "g_mul") => `(tactic| first | (refine .inl ⟨?_, ?_⟩ <;> omega) | (refine .inr ⟨?_, ?_⟩ <;> omega))
local macro_rules | `(tactic| wtm_at "g_div") => `(tactic| (refine ⟨?_, ?_⟩ <;> omega))
local macro_rules | `(tactic| wtm_at "g_cd") => `(tactic| first
  | exact cd_eqS | exact cd_eqI | exact cd_lt | exact cd_le | exact cd_gt | exact cd_ge | exact cd_neI | exact cd_neS | exact cd_isN | exact cd_notN | exact cd_in
  | (refine' cd_neD ?r ?a ?b; (case r => assumption); (case a => wtm_at "g_side"); (case b => wtm_at "g_side")))
local macro_rules | `(tactic| wtm_at "g_xd") => `(tactic| first
  | (refine' xd_tup ?h; (case h => first | exact rfl | exact atI_z | wtm_at "g_side")) | (refine' xd_lst ?h; (case h => first | exact rfl | wtm_at "g_side")) | (refine' xd_str ?l ?h; (case l => wtm_at "g_side"); (case h => wtm_at "g_side")))
local macro_rules | `(tactic| wtm_at "g_vis") => `(tactic| first | exact Or.inl rfl | exact Or.inr (Or.inl rfl) | exact Or.inr (Or.inr rfl))
local macro_rules | `(tactic| wtm_at "g_ea") => `(tactic| first | exact ea_nil | (refine' ea_cons ?h ?g ?s; (case h => wtm_at "g_ev"); (case g => wtm_at "g_ea"); (case s => exact rfl)))
local macro_rules | `(tactic| wtm_at "g_ed") => `(tactic| first | exact ed_nil | (refine' ed_cons ?h ?g ?s; (case h => wtm_at "g_ev"); (case g => wtm_at "g_ed"); (case s => exact rfl)))
local macro_rules | `(tactic| wtm_at "g_call") => `(tactic| first
  | (refine' ev_call ?F ?hr ?hk ?ha ?hR ?hl ?hg ?hd ?he ?hp; (case F => assumption); (case hr => assumption); (case hk => first | decide | omega); (case hg => exact rfl); (case he => exact rfl); (case hp => exact rfl); (case hd => decide +kernel); (case ha => wtm_at "g_ea"); (case hl => exact rfl); (case hR => wtm_at "g_R"))
  | (refine' ev_len ?C ?hg ?ha ?hl ?he ?hp; (case C => assumption); (case hg => exact rfl); (case he => exact rfl); (case hp => exact rfl); (case ha => wtm_at "g_ev"); (case hl => first | exact rfl | wtm_at "g_len"))
  | (refine' ev_toint ?C ?hg ?ha ?he ?hp; (case C => assumption); (case hg => exact rfl); (case he => exact rfl); (case hp => exact rfl); (case ha => wtm_at "g_ev"))
  | (refine' ev_abs ?C ?hg ?ha ?he ?hp; (case C => assumption); (case hg => exact rfl); (case he => exact rfl); (case hp => exact rfl); (case ha => wtm_at "g_ev"))
  | (refine' ev_totup ?C ?hg ?ha ?he ?hp; (case C => assumption); (case hg => exact rfl); (case he => exact rfl); (case hp => exact rfl); (case ha => wtm_at "g_ev")))
local macro_rules | `(tactic| wtm_at "g_ev") => `(tactic| first
  | exact ev_int | exact ev_str | exact ev_non | exact ev_bl
  | (refine' ev_name ?k ?r ?v ?d1 ?d2; (case k => exact rfl); (case r => exact rfl); (case v => wtm_at "g_vis"); (case d1 => decide +kernel); (case d2 => decide +kernel))
  | (refine' ev_bin ?a ?b ?o; (case a => wtm_at "g_ev"); (case b => wtm_at "g_ev"); (case o => wtm_at "g_od"))
  | (refine' ev_ix ?a ?b ?o ?p; (case a => wtm_at "g_ev"); (case b => wtm_at "g_ev"); (case o => wtm_at "g_xd"); (case p => exact fun _ _ => rfl))
  | (refine' ev_tupd ?a ?l; (case a => wtm_at "g_ed"); (case l => exact Nat.le_of_ble_eq_true rfl))
  | (refine' ev_lstd ?a ?l; (case a => wtm_at "g_ed"); (case l => exact Nat.le_of_ble_eq_true rfl))
  | (refine' ev_cm ?a ?b ?o ?p; (case a => wtm_at "g_ev"); (case b => wtm_at "g_ev"); (case o => wtm_at "g_cd"); (case p => exact rfl))
  | (refine' ev_cm2 ?a ?b ?c ?o ?o2 ?p; (case a => wtm_at "g_ev"); (case b => wtm_at "g_ev"); (case c => wtm_at "g_ev"); (case o => wtm_at "g_cd"); (case o2 => wtm_at "g_cd"); (case p => with_unfolding_all rfl))
  | (refine' ev_gc ?C ?l ?g ?d; (case C => assumption); (case l => exact rfl); (case g => exact rfl); (case d => decide +kernel))
  | (refine' ev_ga ?C ?g; (case C => assumption); (case g => exact rfl))
  | wtm_at "g_meth"
  | wtm_at "g_call")
local macro_rules | `(tactic| wtm_at "g_vt") => `(tactic| first
  | (refine' vt_cm ?a ?b ?o ?p; (case a => wtm_at "g_ev"); (case b => wtm_at "g_ev"); (case o => wtm_at "g_cd"); (case p => exact rfl))
  | (refine' vt_not ?a; (case a => wtm_at "g_vt"))
  | (refine' vt_cm2 ?a ?b ?c ?o ?o2 ?p; (case a => wtm_at "g_ev"); (case b => wtm_at "g_ev"); (case c => wtm_at "g_ev"); (case o => wtm_at "g_cd"); (case o2 => wtm_at "g_cd"); (case p => with_unfolding_all rfl))
  | (refine' Vw.vt ?a; (case a => wtm_at "g_vw"))
  | (refine' vt_val ?a ?b; (case a => wtm_at "g_ev"); (case b => intro _; rfl)))
local macro_rules | `(tactic| wtm_at "g_vw") => `(tactic| first
  | (refine' vw_and ?a ?b; (case a => wtm_at "g_vt"); (case b => intro _; wtm_at "g_vw"))
  | (refine' vw_or ?a ?b; (case a => wtm_at "g_vt"); (case b => intro _; wtm_at "g_vw"))
  | (refine' vw_and1 ?a; (case a => wtm_at "g_vt")) | (refine' vw_or1 ?a; (case a => wtm_at "g_vt")))
local macro_rules | `(tactic| wtm_at "g_set") => `(tactic| (refine' bs_cons (b1_set ?c ?e ?i ?x ?s ?f) ?_; (case c => assumption); (case i => exact rfl); (case x => first | exact Or.inl rfl | exact Or.inr rfl); (case s => exact rfl); (case f => first | exact Or.inl rfl | exact Or.inr rfl); (case e => wtm_at "g_ev")))
local macro_rules | `(tactic| wtm_at "g_ret") => `(tactic| (refine' bs_ret ?e ?q; (case e => wtm_at "g_ev")))
local macro_rules | `(tactic| wtm_at "g_setn") => `(tactic| (refine' bs_cons (b1_setn ?c ?e ?i ?x ?s ?f) ?_; (case c => assumption); (case i => exact rfl); (case x => first | exact Or.inl rfl | exact Or.inr rfl); (case s => exact rfl); (case f => first | exact Or.inl rfl | exact Or.inr rfl); (case e => wtm_at "g_ev")))
local macro_rules | `(tactic| wtm_at "g_par") => `(tactic| (refine' bs_cons (b1_parn ?c ?e ?e2 ?i ?j ?ij ?x ?y ?s ?s2 ?w ?ss) ?_; (case c => assumption); (case i => exact rfl); (case j => exact rfl); (case ij => decide); (case x => exact rfl); (case y => exact rfl); (case s => exact rfl); (case s2 => exact rfl); (case w => exact rfl); (case ss => exact rfl); (case e => wtm_at "g_ev"); (case e2 => wtm_at "g_ev")))
local macro_rules | `(tactic| wtm_at "g_add") => `(tactic| (refine' bs_cons (b1_add ?c ?i ?r ?e ?x ?f) ?_; (case c => assumption); (case i => exact rfl); (case r => exact rfl); (case x => first | exact Or.inl rfl | exact Or.inr rfl); (case f => first | exact Or.inl rfl | exact Or.inr rfl); (case e => wtm_at "g_ev")))
local macro_rules | `(tactic| wtm_at "g_wk") => `(tactic| repeat (first | exact Wkr.nil | refine Wkr.same ?_ | refine Wkr.non ?_))
local macro_rules | `(tactic| wtm_at "g_meth") => `(tactic| first
  | (refine' ev_alpha ?o ?a ?k ?b ?f ?l ?s ?p; (case b => exact rfl); (case f => exact rfl); (case l => exact rfl); (case s => exact rfl); (case p => exact rfl); (case o => wtm_at "g_ev"); (case a => wtm_at "g_ev"); (case k => wtm_at "g_side"))
  | (refine' ev_bits ?o ?b ?l; (case b => exact rfl); (case l => exact rfl); (case o => wtm_at "g_ev"))
  | (refine' ev_sealer ?C ?F ?hr ?hk ?o ?a ?m ?m2 ?l ?s ?p ?t; (case C => assumption); (case F => assumption); (case hr => assumption); (case hk => first | decide | omega); (case s => exact rfl); (case p => exact rfl); (case t => exact rfl); (case o => wtm_at "g_ev"); (case a => wtm_at "g_ev"); (case m => wtm_at "g_side"); (case m2 => wtm_at "g_side"); (case l => wtm_at "g_side"))
  | (refine' ev_modulus ?C ?F ?hr ?hk ?o ?t; (case C => assumption); (case F => assumption); (case hr => assumption); (case hk => first | decide | omega); (case t => exact rfl); (case o => wtm_at "g_ev"))
  | (refine' ev_mod_fld ?C ?o ?b; (case C => assumption); (case b => exact rfl); (case o => wtm_at "g_ev")))
local macro_rules | `(tactic| wtm_at "g_evi") => `(tactic| first
  | (refine' evi_r1 ?C ?g ?h ?h1 ?h2 ?s; (case C => assumption); (case g => exact rfl); (case s => exact rfl); (case h => wtm_at "g_ev"); (case h1 => wtm_at "g_side"); (case h2 => wtm_at "g_side"))
  | (refine' evi_r2 ?C ?g ?h ?h' ?b ?s ?s2; (case C => assumption); (case g => exact rfl); (case s => exact rfl); (case s2 => exact rfl); (case h => wtm_at "g_ev"); (case h' => wtm_at "g_ev"); (case b => wtm_at "g_side"))
  | (refine' evi_z ?C ?g ?h ?h' ?l ?s ?s2 ?p; (case C => assumption); (case g => exact rfl); (case s => exact rfl); (case s2 => exact rfl); (case p => exact rfl); (case h => wtm_at "g_ev"); (case h' => wtm_at "g_ev"); (case l => wtm_at "g_side"))
  | (refine' evi_d ?h ?b; (case h => wtm_at "g_ev"); (case b => exact rfl)))
local macro_rules | `(tactic| wtm_at "g_fors") => `(tactic| ((case k => assumption); (case hx => exact rfl); (case hg => refine pg_name ?nd rfl ?lc <;> first | exact Or.inl rfl | exact Or.inr rfl | (have z := XOk.nd (by assumption); exact z)); (case hs => intro _; rfl); (case hi => wtm_at "g_evi")))
local macro_rules | `(tactic| wtm_at "g_len") => `(tactic| first | assumption | exact lenD_dI)
local macro_rules | `(tactic| wtm_at "g_lcm") => `(tactic| (refine' ev_lcm ?hx ?c ?ok ?hi ?hn ?hg ?he ?hL ?hs; (case hx => exact rfl); (case c => assumption); (case ok => exact blkOk_by (by kernel_rfl)); (case hg => intro _ _ _ _ _; refine pg_name ?nd rfl ?lc <;> first | exact Or.inl rfl | exact Or.inr rfl | (have z := XOk.nd (by assumption); exact z)); (case hs => intro _; rfl); (case hi => wtm_at "g_evi")))
local macro_rules | `(tactic| wtm_at "g_evf") => `(tactic| first
  | (refine' evf_tolist ?C ?g ?a ?e ?p; (case C => assumption); (case g => exact rfl); (case e => exact rfl); (case p => exact rfl); (case a => wtm_at "g_ev"))
  | (refine' evf_lst ?a ?l; (case a => wtm_at "g_ed"); (case l => exact Nat.le_of_ble_eq_true rfl))
  | (refine' evf_cat ?a ?b ?l; (case a => wtm_at "g_evf"); (case b => wtm_at "g_evf"); (case l => (simp only [List.length_append, List.length_cons, List.length_nil, List.length_map]; wtm_at "g_side"))))
local macro_rules | `(tactic| wtm_at "g_all") => `(tactic| (refine' ev_alltrue ?hx ?c ?C ?hgA ?ok ?hi ?hn ?hg ?he ?hs ?h1 ?hp; (case hx => exact rfl); (case c => assumption); (case C => assumption); (case hgA => exact rfl); (case ok => exact blkOk_by (by kernel_rfl)); (case hg => intro _ _ _ _ _; refine pg_name ?nd rfl ?lc <;> first | exact Or.inl rfl | exact Or.inr rfl | (have z := XOk.nd (by assumption); exact z)); (case hs => intro _; rfl); (case h1 => exact rfl); (case hp => exact rfl); (case hi => wtm_at "g_evi")))
local macro_rules | `(tactic| wtm_at "g_callx") => `(tactic| (refine' evx_call ?F ?hr ?hk ?ha ?hR ?hl ?hg ?hd ?he ?hp; (case F => assumption); (case hr => assumption); (case hk => first | decide | omega); (case hg => exact rfl); (case he => exact rfl); (case hp => exact rfl); (case hd => decide +kernel); (case ha => wtm_at "g_ea"); (case hl => exact rfl); (case hR => wtm_at "g_R")))
local macro_rules | `(tactic| wtm_at "g_retx") => `(tactic| (refine' bs_stop (b1_retX ?ex) ?tx; (case tx => exact rfl); (case ex => wtm_at "g_callx")))
local macro_rules | `(tactic| wtm_at "g_setx") => `(tactic| (refine' bs_stop (b1_setnX ?c ?ex ?i ?x ?s ?f) ?tx; (case tx => exact rfl); (case c => assumption); (case i => exact rfl); (case x => first | exact Or.inl rfl | exact Or.inr rfl); (case s => exact rfl); (case f => first | exact Or.inl rfl | exact Or.inr rfl); (case ex => wtm_at "g_callx")))
local macro_rules | `(tactic| wtm_at "g_exprx") => `(tactic| (refine' bs_stop (b1_exprXn ?ex ?sx) ?tx; (case tx => exact rfl); (case sx => exact rfl); (case ex => wtm_at "g_callx")))
local macro_rules | `(tactic| wtm_at "g_expr") => `(tactic| (refine' bs_cons (b1_expr ?e ?s) ?_; (case s => exact rfl); (case e => wtm_at "g_ev")))
local macro_rules | `(tactic| wtm_at "g_R") => `(tactic| (with_reducible refine' rNumber_mk ?z0; (case z0 => wtm_at "g_side")))
local macro_rules | `(tactic| wtm_at "g_R") => `(tactic| (with_reducible refine' rBit_mk ?z0 ?z1; (case z0 => wtm_at "g_side"); (case z1 => wtm_at "g_side")))
local macro_rules | `(tactic| wtm_at "g_R") => `(tactic| (with_reducible refine' rParting_mk ?z0 ?z1; (case z0 => wtm_at "g_side"); (case z1 => wtm_at "g_side")))
local macro_rules | `(tactic| wtm_at "g_R") => `(tactic| (with_reducible refine' rIsName_mk ?z0; (case z0 => wtm_at "g_side")))
local macro_rules | `(tactic| wtm_at "g_R") => `(tactic| with_reducible exact rLeast_mk)
local macro_rules | `(tactic| wtm_at "g_R") => `(tactic| with_reducible exact rGreatest_mk)
local macro_rules | `(tactic| wtm_at "g_R") => `(tactic| (with_reducible refine' rLeafRow_mk ?z0 ?z1 ?z2; (case z0 => wtm_at "g_side"); (case z1 => wtm_at "g_side"); (case z2 => wtm_at "g_side")))
local macro_rules | `(tactic| wtm_at "g_R") => `(tactic| (with_reducible refine' rSmNums_mk ?z0 ?z1; (case z0 => wtm_at "g_side"); (case z1 => wtm_at "g_side")))
local macro_rules | `(tactic| wtm_at "g_R") => `(tactic| (with_reducible refine' rBrRow_mk ?z0 ?z1 ?z2; (case z0 => wtm_at "g_side"); (case z1 => wtm_at "g_side"); (case z2 => wtm_at "g_side")))
local macro_rules | `(tactic| wtm_at "g_R") => `(tactic| (with_reducible refine' rBrSm_mk ?z0 ?z1 ?z2 ?z3; (case z0 => wtm_at "g_side"); (case z1 => wtm_at "g_side"); (case z2 => wtm_at "g_side"); (case z3 => wtm_at "g_side")))
local macro_rules | `(tactic| wtm_at "g_R") => `(tactic| (with_reducible refine' rSummary_mk ?z0 ?z1 ?z2 ?z3; (case z0 => wtm_at "g_side"); (case z1 => wtm_at "g_side"); (case z2 => wtm_at "g_side"); (case z3 => wtm_at "g_side")))
local macro_rules | `(tactic| wtm_at "g_R") => `(tactic| (with_reducible refine' rRowOf_mk ?z0 ?z1 ?z2 ?z3 ?z4; (case z0 => wtm_at "g_side"); (case z1 => wtm_at "g_side"); (case z2 => wtm_at "g_side"); (case z3 => wtm_at "g_side"); (case z4 => wtm_at "g_side")))
local macro_rules | `(tactic| wtm_at "g_R") => `(tactic| (with_reducible refine' rTop_mk ?z0 ?z1 ?z2 ?z3; (case z0 => wtm_at "g_side"); (case z1 => wtm_at "g_side"); (case z2 => wtm_at "g_side"); (case z3 => wtm_at "g_side")))
local macro_rules | `(tactic| wtm_at "g_R") => `(tactic| (with_reducible refine' rRoot_mk ?z0 ?z1 ?z2 ?z3; (case z0 => wtm_at "g_side"); (case z1 => wtm_at "g_side"); (case z2 => wtm_at "g_side"); (case z3 => wtm_at "g_side")))
local macro_rules | `(tactic| wtm_at "g_R") => `(tactic| (with_reducible refine' rWorths_mk ?z0 ?z1 ?z2; (case z0 => wtm_at "g_side"); (case z1 => wtm_at "g_side"); (case z2 => wtm_at "g_side")))
local macro_rules | `(tactic| wtm_at "g_R") => `(tactic| (with_reducible refine' rNotes_mk ?z0 ?z1; (case z0 => wtm_at "g_side"); (case z1 => wtm_at "g_side")))
local macro_rules | `(tactic| wtm_at "g_R") => `(tactic| (with_reducible refine' rIsLeaf_mk ?z0 ?z1 ?z2; (case z0 => wtm_at "g_side"); (case z1 => wtm_at "g_side"); (case z2 => wtm_at "g_side")))
local macro_rules | `(tactic| wtm_at "g_R") => `(tactic| (with_reducible refine' rIsSummary_mk ?z0 ?z1 ?z2; (case z0 => wtm_at "g_side"); (case z1 => wtm_at "g_side"); (case z2 => wtm_at "g_side")))
local macro_rules | `(tactic| wtm_at "g_R") => `(tactic| (with_reducible refine' rAreSides_mk ?z0 ?z1 ?z2; (case z0 => wtm_at "g_side"); (case z1 => wtm_at "g_side"); (case z2 => wtm_at "g_side")))
local macro_rules | `(tactic| wtm_at "g_R") => `(tactic| (with_reducible refine' rIsInside_mk ?z0 ?z1 ?z2; (case z0 => wtm_at "g_side"); (case z1 => wtm_at "g_side"); (case z2 => wtm_at "g_side")))
local macro_rules | `(tactic| wtm_at "g_R") => `(tactic| (with_reducible refine' rKinds_mk ?z0 ?z1; (case z0 => wtm_at "g_side"); (case z1 => wtm_at "g_side")))
local macro_rules | `(tactic| wtm_at "g_R") => `(tactic| (with_reducible refine' rValid_mk ?z0 ?z1 ?z2 ?z3; (case z0 => wtm_at "g_side"); (case z1 => wtm_at "g_side"); (case z2 => wtm_at "g_side"); (case z3 => wtm_at "g_side")))
local macro_rules | `(tactic| wtm_at "g_R") => `(tactic| (with_reducible refine' rOrder_mk ?z0 ?z1; (case z0 => wtm_at "g_side"); (case z1 => wtm_at "g_side")))
local macro_rules | `(tactic| wtm_at "g_R") => `(tactic| (with_reducible refine' rLeafTold_mk ?z0 ?z1; (case z0 => wtm_at "g_side"); (case z1 => wtm_at "g_side")))
local macro_rules | `(tactic| wtm_at "g_R") => `(tactic| (with_reducible refine' rRangeTold_mk ?z0 ?z1 ?z2; (case z0 => wtm_at "g_side"); (case z1 => wtm_at "g_side"); (case z2 => wtm_at "g_side")))
local macro_rules | `(tactic| wtm_at "g_R") => `(tactic| (with_reducible refine' rRankTold_mk ?z0 ?z1; (case z0 => wtm_at "g_side"); (case z1 => wtm_at "g_side")))
local macro_rules | `(tactic| wtm_at "g_R") => `(tactic| with_reducible exact rPlaceTold_mk)
local macro_rules | `(tactic| wtm_at "g_R") => `(tactic| (with_reducible refine' rNextTold_mk ?z0 ?z1; (case z0 => wtm_at "g_side"); (case z1 => wtm_at "g_side")))
local macro_rules | `(tactic| wtm_at "g_R") => `(tactic| (with_reducible refine' rTold_mk ?z0 ?z1 ?z2; (case z0 => wtm_at "g_side"); (case z1 => wtm_at "g_side"); (case z2 => wtm_at "g_side")))
local macro_rules | `(tactic| wtm_at "g_R") => `(tactic| (with_reducible refine' rSide_mk ?z0 ?z1 ?z2; (case z0 => wtm_at "g_side"); (case z1 => wtm_at "g_side"); (case z2 => wtm_at "g_side")))
local macro_rules | `(tactic| wtm_at "g_R") => `(tactic| (with_reducible refine' rJoin_mk ?z0 ?z1 ?z2; (case z0 => wtm_at "g_side"); (case z1 => wtm_at "g_side"); (case z2 => wtm_at "g_side")))
local macro_rules | `(tactic| wtm_at "g_R") => `(tactic| (with_reducible refine' rPart_mk ?z0 ?z1 ?z2 ?z3 ?z4 ?z5 ?z6; (case z0 => wtm_at "g_side"); (case z1 => wtm_at "g_side"); (case z2 => wtm_at "g_side"); (case z3 => wtm_at "g_side"); (case z4 => wtm_at "g_side"); (case z5 => wtm_at "g_side"); (case z6 => wtm_at "g_side")))
local macro_rules | `(tactic| wtm_at "g_R") => `(tactic| (with_reducible refine' rPart_mkX ?z0 ?z1 ?z2 ?z3 ?z4 ?z5 ?z6; (case z0 => wtm_at "g_side"); (case z1 => wtm_at "g_side"); (case z2 => wtm_at "g_side"); (case z3 => wtm_at "g_side"); (case z4 => wtm_at "g_side"); (case z5 => wtm_at "g_side"); (case z6 => wtm_at "g_side")))
local macro_rules | `(tactic| wtm_at "g_R") => `(tactic| (with_reducible refine' rBranch_mk ?z0 ?z1 ?z2 ?z3 ?z4 ?z5 ?z6 ?z7 ?z8 ?z9; (case z0 => wtm_at "g_side"); (case z1 => wtm_at "g_side"); (case z2 => wtm_at "g_side"); (case z3 => wtm_at "g_side"); (case z4 => wtm_at "g_side"); (case z5 => wtm_at "g_side"); (case z6 => wtm_at "g_side"); (case z7 => wtm_at "g_side"); (case z8 => wtm_at "g_side"); (case z9 => wtm_at "g_side")))
local macro_rules | `(tactic| wtm_at "g_R") => `(tactic| (with_reducible refine' rBranch_mkX ?z0 ?z1 ?z2 ?z3 ?z4 ?z5 ?z6 ?z7 ?z8 ?z9; (case z0 => wtm_at "g_side"); (case z1 => wtm_at "g_side"); (case z2 => wtm_at "g_side"); (case z3 => wtm_at "g_side"); (case z4 => wtm_at "g_side"); (case z5 => wtm_at "g_side"); (case z6 => wtm_at "g_side"); (case z7 => wtm_at "g_side"); (case z8 => wtm_at "g_side"); (case z9 => wtm_at "g_side")))
local macro_rules | `(tactic| wtm_at "g_R") => `(tactic| (with_reducible refine' rAsk1_mk ?z0 ?z1 ?z2 ?z3 ?z4 ?z5; (case z0 => wtm_at "g_side"); (case z1 => wtm_at "g_side"); (case z2 => wtm_at "g_side"); (case z3 => wtm_at "g_side"); (case z4 => wtm_at "g_side"); (case z5 => wtm_at "g_side")))
local macro_rules | `(tactic| wtm_at "g_R") => `(tactic| (with_reducible refine' rAsk1_mkX ?z0 ?z1 ?z2 ?z3 ?z4 ?z5; (case z0 => wtm_at "g_side"); (case z1 => wtm_at "g_side"); (case z2 => wtm_at "g_side"); (case z3 => wtm_at "g_side"); (case z4 => wtm_at "g_side"); (case z5 => wtm_at "g_side")))
local macro_rules | `(tactic| wtm_at "g_R") => `(tactic| (with_reducible refine' rAsk_mk ?z0 ?z1 ?z2 ?z3 ?z4 ?z5; (case z0 => wtm_at "g_side"); (case z1 => wtm_at "g_side"); (case z2 => wtm_at "g_side"); (case z3 => wtm_at "g_side"); (case z4 => wtm_at "g_side"); (case z5 => wtm_at "g_side")))
local macro_rules | `(tactic| wtm_at "g_R") => `(tactic| (with_reducible refine' rAsk_mkX ?z0 ?z1 ?z2 ?z3 ?z4 ?z5; (case z0 => wtm_at "g_side"); (case z1 => wtm_at "g_side"); (case z2 => wtm_at "g_side"); (case z3 => wtm_at "g_side"); (case z4 => wtm_at "g_side"); (case z5 => wtm_at "g_side")))
local macro_rules | `(tactic| wtm_at "g_R") => `(tactic| (with_reducible refine' rAnswer_mk ?z0 ?z1 ?z2 ?z3 ?z4 ?z5 ?z6 ?z7; (case z0 => wtm_at "g_side"); (case z1 => wtm_at "g_side"); (case z2 => wtm_at "g_side"); (case z3 => wtm_at "g_side"); (case z4 => wtm_at "g_side"); (case z5 => wtm_at "g_side"); (case z6 => wtm_at "g_side"); (case z7 => wtm_at "g_side")))
local macro_rules | `(tactic| wtm_at "g_R") => `(tactic| (with_reducible refine' rAnswer_mkX ?z0 ?z1 ?z2 ?z3 ?z4 ?z5 ?z6 ?z7; (case z0 => wtm_at "g_side"); (case z1 => wtm_at "g_side"); (case z2 => wtm_at "g_side"); (case z3 => wtm_at "g_side"); (case z4 => wtm_at "g_side"); (case z5 => wtm_at "g_side"); (case z6 => wtm_at "g_side"); (case z7 => wtm_at "g_side")))
local macro_rules | `(tactic| wtm_at "g_R") => `(tactic| (with_reducible refine' rCollision_mk ?z0 ?z1 ?z2; (case z0 => wtm_at "g_side"); (case z1 => wtm_at "g_side"); (case z2 => wtm_at "g_side")))
local macro_rules | `(tactic| wtm_at "g_R") => `(tactic| (with_reducible refine' rWalk_mk ?z0 ?z1 ?z2 ?z3 ?z4 ?z5; (case z0 => wtm_at "g_side"); (case z1 => wtm_at "g_side"); (case z2 => wtm_at "g_side"); (case z3 => wtm_at "g_side"); (case z4 => wtm_at "g_side"); (case z5 => wtm_at "g_side")))
local macro_rules | `(tactic| wtm_at "g_R") => `(tactic| (with_reducible refine' rAlike_mk ?z0 ?z1 ?z2 ?z3 ?z4 ?z5 ?z6; (case z0 => wtm_at "g_side"); (case z1 => wtm_at "g_side"); (case z2 => wtm_at "g_side"); (case z3 => wtm_at "g_side"); (case z4 => wtm_at "g_side"); (case z5 => wtm_at "g_side"); (case z6 => wtm_at "g_side")))
local macro_rules | `(tactic| wtm_at "g_R") => `(tactic| (with_reducible refine' rAlike_mkX ?z0 ?z1 ?z2 ?z3 ?z4 ?z5 ?z6; (case z0 => wtm_at "g_side"); (case z1 => wtm_at "g_side"); (case z2 => wtm_at "g_side"); (case z3 => wtm_at "g_side"); (case z4 => wtm_at "g_side"); (case z5 => wtm_at "g_side"); (case z6 => wtm_at "g_side")))
local macro_rules | `(tactic| wtm_at "g_R") => `(tactic| (with_reducible refine' rFind_mk ?z0 ?z1 ?z2 ?z3 ?z4 ?z5 ?z6; (case z0 => wtm_at "g_side"); (case z1 => wtm_at "g_side"); (case z2 => wtm_at "g_side"); (case z3 => wtm_at "g_side"); (case z4 => wtm_at "g_side"); (case z5 => wtm_at "g_side"); (case z6 => wtm_at "g_side")))
local macro_rules | `(tactic| wtm_at "g_R") => `(tactic| (with_reducible refine' rUnion_mk ?z0; (case z0 => wtm_at "g_side")))
local macro_rules | `(tactic| wtm_at "g_R") => `(tactic| (with_reducible refine' rJoinT_mk ?z0 ?z1 ?z2 ?z3 ?z4 ?z5 ?z6 ?z7; (case z0 => wtm_at "g_side"); (case z1 => wtm_at "g_side"); (case z2 => wtm_at "g_side"); (case z3 => wtm_at "g_side"); (case z4 => wtm_at "g_side"); (case z5 => wtm_at "g_side"); (case z6 => wtm_at "g_side"); (case z7 => wtm_at "g_side")))
local macro_rules | `(tactic| wtm_at "g_R") => `(tactic| (with_reducible refine' rJoinT_mkX ?z0 ?z1 ?z2 ?z3 ?z4 ?z5 ?z6 ?z7; (case z0 => wtm_at "g_side"); (case z1 => wtm_at "g_side"); (case z2 => wtm_at "g_side"); (case z3 => wtm_at "g_side"); (case z4 => wtm_at "g_side"); (case z5 => wtm_at "g_side"); (case z6 => wtm_at "g_side"); (case z7 => wtm_at "g_side")))
namespace Sg
section
variable {P : Program} {w : World} {K : PySem.W.Frag} {mg : Str → Option Value} {base : Heap}
/-! ### number_of -/
theorem sc_number_of : FnScope ["name", "number", "k"] ["name"] (defScope s_number_of) := ⟨rfl, rfl, rfl, by decide +kernel, rfl, by decide +kernel, by decide +kernel⟩
theorem nm_line {x : Str} (h : IsNm x) : x.length ≤ sizeLine := Nat.le_trans h.2.1 (by decide)
theorem nm_at {x : Str} {k : Nat} (h : IsNm x) (hk : k < x.length) : ∃ c, x.cps.toList[k]? = some c ∧ c ∈ alpha ∧ atI x.cps.toList (k : Int) = some c := by
  have hl : x.cps.toList.length = x.length := by simp [Str.length]
  have e : x.cps.toList[k]? = some (x.cps.toList[k]'(by omega)) := by simp [hl, hk]
  exact ⟨_, e, h.2.2 _ (List.mem_of_getElem? e), atI_nat e⟩
theorem len_str {x : Str} (h : x.length ≤ sizeLine) : lenD (.str x) = some x.length := by simp [lenD, h]
theorem fn_number_of (C : Wd K mg) : Fn P w K mg base "number_of" ["name"] 2 (spD K 1 rNumber) := by
  obtain ⟨fd, F⟩ := C.defs 1 (mkD "number_of" s_number_of) rfl
  refine fn_mk (C.glo _ (by decide +kernel)) F sc_number_of (fun _ _ _ _ _ _ us hl => match us, hl with | [_], _ => rfl) fun X cdv A outer s H E hX hr xk xs r hl hR => ⟨[], ?_⟩
  obtain ⟨x, rfl, hx, rfl⟩ := hR
  subst hX
  wtm_at "g_setn"
  refine' bs_cons (b1_forn (m := 8) (st := fun j => [some (.d (.str x)), some (.d (.int (numTo x j))), none]) ?k ?hi ?hx ?hg ?h0 ?hb ?he ?hs) ?_
  wtm_at "g_fors"
  case h0 => wtm_at "g_wk"
  case he => exact .inl ⟨rfl, rfl⟩
  case hb =>
    intro j hj _
    wtm_at "g_setn"
    have hd : digitAt x j = if j < x.length then (match x.cps.toList[j]? with | some c => alpha.idxOf c + 1 | none => 0) else 0 := by
      unfold digitAt
      by_cases h : j < x.length
      · rw [if_pos h]
        cases x.cps.toList[j]? <;> rfl
      · rw [if_neg h]
        have : x.cps.toList[j]? = none := by simp [Str.length] at h ⊢; omega
        rw [this]
    have hlen := len_str (nm_line hx)
    refine bs_one (b1_if (b := decide ((j : Int) < (x.length : Nat))) (by wtm_at "g_vt") (fun hb => ?_) (fun hb => ?_))
    · have hlt : j < x.length := by simpa using hb
      obtain ⟨c, e1, e2, e3⟩ := nm_at hx hlt
      have hz := nm_line hx
      rw [if_pos hlt, e1] at hd
      have hd : digitAt x j = alpha.idxOf c + 1 := hd
      wtm_at "g_add"
      refine bs_weak bs_nil ?_
      have e : ((numTo x (j + 1) : Nat) : Int) = (numTo x j : Int) * 64 + ((alpha.idxOf c : Nat) + 1) := by
        show ((numTo x j * 64 + digitAt x j : Nat) : Int) = _
        rw [hd]
        omega
      rw [e]
      wtm_at "g_wk"
    · have hlt : ¬ j < x.length := by simpa using hb
      rw [if_neg hlt] at hd
      refine bs_weak bs_nil ?_
      have e : ((numTo x (j + 1) : Nat) : Int) = (numTo x j : Int) * 64 := by
        show ((numTo x j * 64 + digitAt x j : Nat) : Int) = _
        rw [hd]
        omega
      rw [e]
      wtm_at "g_wk"
  · wtm_at "g_ret"
    rfl
/-! ### bit_at, parting -/
theorem sc_bit_at : FnScope ["name", "place"] ["name", "place"] (defScope s_bit_at) := ⟨rfl, rfl, rfl, by decide +kernel, rfl, by decide +kernel, by decide +kernel⟩
theorem fn_bit_at (C : Wd K mg) : Fn P w K mg base "bit_at" ["name", "place"] 3 (spD K 2 rBit) := by
  obtain ⟨fd, F⟩ := C.defs 2 (mkD "bit_at" s_bit_at) rfl
  have F1 := fn_number_of (P := P) (w := w) (base := base) C
  refine fn_mk (C.glo _ (by decide +kernel)) F sc_bit_at (fun _ _ _ _ _ _ us hl => match us, hl with | [_, _], _ => rfl) fun X cdv A outer s H E hX hr xk xs r hl hR => ⟨[], ?_⟩
  obtain ⟨x, p, rfl, hx, hp, rfl⟩ := hR
  subst hX
  wtm_at "g_ret"
  have e : (48 - 1 - (p : Int)).toNat = 47 - p := by omega
  rw [e]
  rfl
theorem sc_parting : FnScope ["first", "second", "unlike"] ["first", "second"] (defScope s_parting) := ⟨rfl, rfl, rfl, by decide +kernel, rfl, by decide +kernel, by decide +kernel⟩
theorem fn_parting (C : Wd K mg) : Fn P w K mg base "parting" ["first", "second"] 3 (spD K 2 rParting) := by
  obtain ⟨fd, F⟩ := C.defs 3 (mkD "parting" s_parting) rfl
  have F1 := fn_number_of (P := P) (w := w) (base := base) C
  refine fn_mk (C.glo _ (by decide +kernel)) F sc_parting (fun _ _ _ _ _ _ us hl => match us, hl with | [_, _], _ => rfl) fun X cdv A outer s H E hX hr xk xs r hl hR => ⟨[], ?_⟩
  obtain ⟨x, y, rfl, hx, hy, rfl⟩ := hR
  subst hX
  wtm_at "g_setn"
  have e : Builtin.bitXor (num x : Int) (num y : Int) = ((num x ^^^ num y : Nat) : Int) := by
    rw [Bits.bitXor_pp (Int.natCast_nonneg _) (Int.natCast_nonneg _), Int.toNat_natCast, Int.toNat_natCast]
  rw [e]
  unfold part
  refine bs_if (by wtm_at "g_vt") (fun hb => ?_) (fun _ => rfl) (fun hb => ?_)
  · rw [if_pos (by simpa using hb)]
    wtm_at "g_ret"
    rfl
  · have hn : ¬ (num x ^^^ num y = 0) := by simpa using hb
    rw [if_neg hn]
    wtm_at "g_ret"
    have hb2 : Builtin.Int.intBits ((num x ^^^ num y : Nat) : Int) = (num x ^^^ num y).log2 + 1 := by
      unfold Builtin.Int.intBits
      rw [if_neg (by simpa using hn), Int.natAbs_natCast]
    rw [hb2]
    rfl
/-! ### is_name -/
theorem sc_is_name : FnScope ["value", "char"] ["value"] (defScope s_is_name) := ⟨rfl, rfl, rfl, by decide +kernel, rfl, by decide +kernel, by decide +kernel⟩
theorem fn_is_name (C : Wd K mg) : Fn P w K mg base "is_name" ["value"] 3 (spD K 1 rIsName) := by
  obtain ⟨fd, F⟩ := C.defs 0 (mkD "is_name" s_is_name) rfl
  refine fn_mk (C.glo _ (by decide +kernel)) F sc_is_name (fun _ _ _ _ _ _ us hl => match us, hl with | [_], _ => rfl) fun X cdv A outer s H E hX hr xk xs r hl hR => ⟨[], ?_⟩
  obtain ⟨x, rfl, hx, rfl⟩ := hR
  subst hX
  have hlen := len_str (nm_line hx)
  have hl1 : decide (1 ≤ ((x.length : Nat) : Int)) = true := decide_eq_true (by have := hx.1; omega)
  have hl2 : decide (((x.length : Nat) : Int) ≤ 8) = true := decide_eq_true (by have := hx.2.1; omega)
  refine' bs_ret (ev_andB (l := true) ?a fun _ => ev_one ?b) ?q
  case a => wtm_at "g_ev"
  case b =>
    refine' Ev.is (ev_all (bs := (List.range (itN (.str x))).map fun _ => true) xk C rfl (Ev.is ?l ?q2) rfl rfl) ?q3
    case l =>
      wtm_at "g_lcm"
      case hn => exact Nat.le_trans hx.2.1 (by decide)
      case he =>
        intro s H C cl fp k hk
        show Ev _ _ _ (.d (.bool true))
        have hk : k < x.cps.size := hk
        have hm : x.cps.getD k 0 ∈ alpha := hx.2.2 _ (by simp [Array.getD_eq_getD_getElem?, hk])
        have hc : decide (x.cps.getD k 0 ∈ ALPH.cps.toList) = true := by rw [alph_list]; exact decide_eq_true hm
        exact Ev.is (by wtm_at "g_ev") (by rw [hc])
      case hL => intro k hk; rfl
    case q2 => simp
    case q3 => simp
  case q => rw [hl1, hl2]; rfl
/-! ### least_of, greatest_of -/
theorem sc_least_of : FnScope ["tree"] ["tree"] (defScope s_least_of) := ⟨rfl, rfl, rfl, by decide +kernel, rfl, by decide +kernel, by decide +kernel⟩
def goL : Tr → Nat → Tr
  | t, 0 => t
  | .br l _, n + 1 => goL l n
  | t, _ + 1 => t
def lenL : Tr → Nat
  | .br l _ => lenL l + 1
  | _ => 0
def isBr : Tr → Bool
  | .br _ _ => true
  | _ => false
theorem goL_br : ∀ (t : Tr) (j : Nat), j ≤ lenL t → isBr (goL t j) = decide (j < lenL t)
  | .leaf _ _ _, 0, _ => rfl
  | .cut _, 0, _ => rfl
  | .br _ _, 0, _ => by simp [goL, isBr, lenL]
  | .leaf _ _ _, j + 1, h => by simp [lenL] at h
  | .cut _, j + 1, h => by simp [lenL] at h
  | .br l r, j + 1, h => by
    have h' : j ≤ lenL l := by simpa [lenL] using h
    rw [goL, goL_br l j h']
    simp [lenL]
theorem goL_succ : ∀ (t : Tr) (j : Nat), j < lenL t → ∃ r, goL t j = .br (goL t (j + 1)) r
  | .leaf _ _ _, _, h => by simp [lenL] at h
  | .cut _, _, h => by simp [lenL] at h
  | .br l r, 0, _ => ⟨r, by simp [goL]⟩
  | .br l r, j + 1, h => by
    have h' : j < lenL l := by simpa [lenL] using h
    exact goL_succ l j h'
theorem goL_lo : ∀ (t : Tr) (j : Nat), loOf (goL t j) = loOf t
  | t, 0 => by cases t <;> rfl
  | .br l _, j + 1 => goL_lo l j
  | .leaf _ _ _, _ + 1 => rfl
  | .cut _, _ + 1 => rfl
def tagOf : Tr → Str
  | .leaf _ _ _ => "leaf"
  | .br _ _ => "branch"
  | .cut _ => "cut"
def tailOf : Tr → List PyData
  | .leaf n ws ns => [.str n, dI ws, dI ns]
  | .br l r => [dTr l, dTr r]
  | .cut s => [dSm s]
theorem dTr_eq (t : Tr) : dTr t = .tuple (.str (tagOf t) :: tailOf t) := by cases t <;> rfl
theorem tag_br (t : Tr) : decide (tagOf t = "branch") = isBr t := by cases t <;> (first | exact decide_eq_true rfl | exact decide_eq_false (show ¬ (("leaf" : Str) = "branch") by decide +kernel) | exact decide_eq_false (show ¬ (("cut" : Str) = "branch") by decide +kernel))
theorem fn_least_of (C : Wd K mg) : Fn P w K mg base "least_of" ["tree"] 2 (spD K 1 rLeast) := by
  obtain ⟨fd, F⟩ := C.defs 4 (mkD "least_of" s_least_of) rfl
  refine fn_mk (C.glo _ (by decide +kernel)) F sc_least_of (fun _ _ _ _ _ _ us hl => match us, hl with | [_], _ => rfl) fun X cdv A outer s H E hX hr xk xs r hl hR => ⟨[], ?_⟩
  obtain ⟨t, rfl, rfl⟩ := hR
  subst hX
  refine bs_cons (b1_while (n := lenL t) (st := fun j => [some (.d (dTr (goL t j)))]) xk (by simp [goL]) (fun j hj => ?_) (fun j hj => ?_)) ?_
  · have e1 := dTr_eq (goL t j)
    rw [e1]
    refine vt_is (by wtm_at "g_vt") ?_
    rw [tag_br, goL_br t j hj]
  · obtain ⟨r, er⟩ := goL_succ t j hj
    rw [er]
    show Bs _ _ [some (.d (.tuple [.str "branch", dTr (goL t (j + 1)), dTr r]))] _
    wtm_at "g_setn"
    exact bs_nil
  · have hb := goL_br t (lenL t) (Nat.le_refl _)
    rw [decide_eq_false (Nat.lt_irrefl _)] at hb
    rw [← goL_lo t (lenL t)]
    generalize goL t (lenL t) = u at hb ⊢
    cases u with
    | br l r => cases hb
    | leaf n ws ns =>
      refine bs_ifT (by wtm_at "g_vt") (by decide +kernel) (by wtm_at "g_ret"; rfl) rfl
    | cut sm =>
      refine bs_ifF (by wtm_at "g_vt") (by decide +kernel) ?_
      wtm_at "g_ret"
      rfl
end
end Sg
namespace Sg
section
variable {P : Program} {w : World} {K : PySem.W.Frag} {mg : Str → Option Value} {base : Heap}
/-! ### greatest_of -/
theorem sc_greatest_of : FnScope ["tree"] ["tree"] (defScope s_greatest_of) := ⟨rfl, rfl, rfl, by decide +kernel, rfl, by decide +kernel, by decide +kernel⟩
def goR : Tr → Nat → Tr
  | t, 0 => t
  | .br _ r, n + 1 => goR r n
  | t, _ + 1 => t
def lenR : Tr → Nat
  | .br _ r => lenR r + 1
  | _ => 0
theorem goR_br : ∀ (t : Tr) (j : Nat), j ≤ lenR t → isBr (goR t j) = decide (j < lenR t)
  | .leaf _ _ _, 0, _ => rfl
  | .cut _, 0, _ => rfl
  | .br _ _, 0, _ => by simp [goR, isBr, lenR]
  | .leaf _ _ _, j + 1, h => by simp [lenR] at h
  | .cut _, j + 1, h => by simp [lenR] at h
  | .br l r, j + 1, h => by
    have h' : j ≤ lenR r := by simpa [lenR] using h
    rw [goR, goR_br r j h']
    simp [lenR]
theorem goR_succ : ∀ (t : Tr) (j : Nat), j < lenR t → ∃ l, goR t j = .br l (goR t (j + 1))
  | .leaf _ _ _, _, h => by simp [lenR] at h
  | .cut _, _, h => by simp [lenR] at h
  | .br l r, 0, _ => ⟨l, by simp [goR]⟩
  | .br l r, j + 1, h => by
    have h' : j < lenR r := by simpa [lenR] using h
    exact goR_succ r j h'
theorem goR_hi : ∀ (t : Tr) (j : Nat), hiOf (goR t j) = hiOf t
  | t, 0 => by cases t <;> rfl
  | .br _ r, j + 1 => goR_hi r j
  | .leaf _ _ _, _ + 1 => rfl
  | .cut _, _ + 1 => rfl
theorem fn_greatest_of (C : Wd K mg) : Fn P w K mg base "greatest_of" ["tree"] 2 (spD K 1 rGreatest) := by
  obtain ⟨fd, F⟩ := C.defs 5 (mkD "greatest_of" s_greatest_of) rfl
  refine fn_mk (C.glo _ (by decide +kernel)) F sc_greatest_of (fun _ _ _ _ _ _ us hl => match us, hl with | [_], _ => rfl) fun X cdv A outer s H E hX hr xk xs r hl hR => ⟨[], ?_⟩
  obtain ⟨t, rfl, rfl⟩ := hR
  subst hX
  refine bs_cons (b1_while (n := lenR t) (st := fun j => [some (.d (dTr (goR t j)))]) xk (by simp [goR]) (fun j hj => ?_) (fun j hj => ?_)) ?_
  · have e1 := dTr_eq (goR t j)
    rw [e1]
    refine vt_is (by wtm_at "g_vt") ?_
    rw [tag_br, goR_br t j hj]
  · obtain ⟨r, er⟩ := goR_succ t j hj
    rw [er]
    show Bs _ _ [some (.d (.tuple [.str "branch", dTr r, dTr (goR t (j + 1))]))] _
    wtm_at "g_setn"
    exact bs_nil
  · have hb := goR_br t (lenR t) (Nat.le_refl _)
    rw [decide_eq_false (Nat.lt_irrefl _)] at hb
    rw [← goR_hi t (lenR t)]
    generalize goR t (lenR t) = u at hb ⊢
    cases u with
    | br l r => cases hb
    | leaf n ws ns =>
      refine bs_ifT (by wtm_at "g_vt") (by decide +kernel) (by wtm_at "g_ret"; rfl) rfl
    | cut sm =>
      refine bs_ifF (by wtm_at "g_vt") (by decide +kernel) ?_
      wtm_at "g_ret"
      rfl
/-! ### rows -/
theorem sc_leaf_row : FnScope ["leaf"] ["leaf"] (defScope s_leaf_row) := ⟨rfl, rfl, rfl, by decide +kernel, rfl, by decide +kernel, by decide +kernel⟩
theorem fn_leaf_row (C : Wd K mg) : Fn P w K mg base "leaf_row" ["leaf"] 3 (spD K 1 rLeafRow) := by
  obtain ⟨fd, F⟩ := C.defs 6 (mkD "leaf_row" s_leaf_row) rfl
  have F1 := fn_number_of (P := P) (w := w) (base := base) C
  refine fn_mk (C.glo _ (by decide +kernel)) F sc_leaf_row (fun _ _ _ _ _ _ us hl => match us, hl with | [_], _ => rfl) fun X cdv A outer s H E hX hr xk xs r hl hR => ⟨[], ?_⟩
  obtain ⟨n, ws, ns, rfl, h1, h2, h3, rfl⟩ := hR
  subst hX
  wtm_at "g_ret"
  simp [dI, leafRow]
theorem sc_summary_numbers : FnScope ["summary", "seal", "count", "sums", "least", "greatest"] ["summary"] (defScope s_summary_numbers) := ⟨rfl, rfl, rfl, by decide +kernel, rfl, by decide +kernel, by decide +kernel⟩
/-- a tuple of five unpacked to slots -/
theorem un5 {X : Cx} {ρ : Rho} {d1 d2 d3 d4 d5 : PyData} {i1 i2 i3 i4 i5 : Nat} (v : V) (σ : L2.St) (H : Hp) (Q : L2.St → Hp → Prop) (E : Env X.K H σ ρ) (dv : Dp X.K H v (.tuple [d1, d2, d3, d4, d5]))
    (q : ∀ σ', Env X.K H σ' (((((ρ.set i1 (some (.d d1))).set i2 (some (.d d2))).set i3 (some (.d d3))).set i4 (some (.d d4))).set i5 (some (.d d5))) → Q σ' H) : gTup X.K 5 (gCons (gName i1) (gCons (gName i2) (gCons (gName i3) (gCons (gName i4) (gCons (gName i5) gNil))))) v σ H Q := by
  cases dv with
  | tup hs ha =>
    cases ha with
    | cons a1 ha =>
      cases ha with
      | cons a2 ha =>
        cases ha with
        | cons a3 ha =>
          cases ha with
          | cons a4 ha =>
            cases ha with
            | cons a5 ha =>
              cases ha
              exact ⟨_, _, rfl, hs, rfl, _, _, rfl, _, _, rfl, _, _, rfl, _, _, rfl, _, _, rfl, rfl, q _ (((((E.set i1 (x := .d _) a1).set i2 (x := .d _) a2).set i3 (x := .d _) a3).set i4 (x := .d _) a4).set i5 (x := .d _) a5)⟩
theorem fn_summary_numbers (C : Wd K mg) : Fn P w K mg base "summary_numbers" ["summary"] 3 (spD K 1 rSmNums) := by
  obtain ⟨fd, F⟩ := C.defs 7 (mkD "summary_numbers" s_summary_numbers) rfl
  have F1 := fn_number_of (P := P) (w := w) (base := base) C
  refine fn_mk (C.glo _ (by decide +kernel)) F sc_summary_numbers (fun _ _ _ _ _ _ us hl => match us, hl with | [_], _ => rfl) fun X cdv A outer s H E hX hr xk xs r hl hR => ⟨[], ?_⟩
  obtain ⟨k, sm, rfl, h1, hk, rfl⟩ := hR
  obtain ⟨h0, h2, h3⟩ := h1
  have hl3 : sm.sums.length ≤ 3 := by omega
  subst hX
  have nd := sc_summary_numbers.nd
  refine' bs_cons (b1_unpack (d := dSm sm) ?e ?g (fun v σ H Q E dv q => un5 (i1 := 1) (i2 := 2) (i3 := 3) (i4 := 4) (i5 := 5) v σ H Q E dv q) ?hs ?hw ?h1) ?_
  case e => wtm_at "g_ev"
  case g => exact pg_tup rfl (pgs_cons (pg_name (i := 1) nd rfl (Or.inl rfl)) (pgs_cons (pg_name (i := 2) nd rfl (Or.inl rfl)) (pgs_cons (pg_name (i := 3) nd rfl (Or.inl rfl)) (pgs_cons (pg_name (i := 4) nd rfl (Or.inl rfl)) (pgs_cons (pg_name (i := 5) nd rfl (Or.inl rfl)) pgs_nil)))))
  case hs => exact rfl
  case hw => exact rfl
  case h1 => exact rfl
  wtm_at "g_ret"
  simp [dI, smNums]
theorem sc_branch_row : FnScope ["left", "right"] ["left", "right"] (defScope s_branch_row) := ⟨rfl, rfl, rfl, by decide +kernel, rfl, by decide +kernel, by decide +kernel⟩
theorem smNums_len {k : Nat} {s : Sm} (h : SmOk k s) : (smNums s).length = k + 4 := by simp [smNums, h.len]
theorem fn_branch_row (C : Wd K mg) : Fn P w K mg base "branch_row" ["left", "right"] 4 (spD K 2 rBrRow) := by
  obtain ⟨fd, F⟩ := C.defs 8 (mkD "branch_row" s_branch_row) rfl
  have F1 := fn_summary_numbers (P := P) (w := w) (base := base) C
  refine fn_mk (C.glo _ (by decide +kernel)) F sc_branch_row (fun _ _ _ _ _ _ us hl => match us, hl with | [_, _], _ => rfl) fun X cdv A outer s H E hX hr xk xs r hl hR => ⟨[], ?_⟩
  obtain ⟨k, l, t, rfl, h1, h2, hk, rfl⟩ := hR
  have hl1 := smNums_len h1
  have hl2 := smNums_len h2
  subst hX
  wtm_at "g_ret"
  simp [dI, brRow]
end
end Sg
namespace Sg
section
variable {P : Program} {w : World} {K : PySem.W.Frag} {mg : Str → Option Value} {base : Heap}
/-! ### seals -/
def sealStep (m : Int) : Int → Int → Int := fun v n => (v * v * v + 5 * v + 3 * n + 1) % m
def sealTo (m : Int) (l : List Int) (j : Nat) : Int := (l.take j).foldl (sealStep m) 1
theorem sealTo_succ {m : Int} {l : List Int} {j : Nat} (h : j < l.length) : sealTo m l (j + 1) = sealStep m (sealTo m l j) l[j] := by
  unfold sealTo
  rw [List.take_add_one, List.getElem?_eq_getElem h, Option.toList_some, List.foldl_append]
  rfl
theorem sealTo_all {m : Int} {row : List Int} : sealTo m (row ++ [(row.length : Int)]) (row.length + 1) = sealF m row := by
  unfold sealTo sealF
  rw [List.take_of_length_le (by simp)]
  rfl
theorem sealTo_bd {m : Int} (hm : Md m) (l : List Int) : ∀ j, 0 ≤ sealTo m l j ∧ sealTo m l j < 1000 := by
  have key : ∀ (xs : List Int) (a : Int), 0 ≤ a ∧ a < 1000 → 0 ≤ xs.foldl (sealStep m) a ∧ xs.foldl (sealStep m) a < 1000 := by
    intro xs
    induction xs with
    | nil => intro a h; exact h
    | cons x r ih =>
      intro a h
      rw [List.foldl_cons]
      refine ih _ ?_
      have h1 := Int.emod_nonneg (a * a * a + 5 * a + 3 * x + 1) (show m ≠ 0 by have := hm.1; omega)
      have h2 := Int.emod_lt_of_pos (a * a * a + 5 * a + 3 * x + 1) hm.1
      have h3 := hm.2
      show 0 ≤ (a * a * a + 5 * a + 3 * x + 1) % m ∧ (a * a * a + 5 * a + 3 * x + 1) % m < 1000
      omega
  exact fun j => key _ 1 (by decide)
theorem getD_ints {l : List Int} {j : Nat} (h : j < l.length) : (l.map PyData.int).getD j .none = .int l[j] := by simp [List.getD, h]
theorem sc_Sealer_seal : FnScope ["self", "row", "value", "number"] ["self", "row"] (defScope s_Sealer_seal) := ⟨rfl, rfl, rfl, by decide +kernel, rfl, by decide +kernel, by decide +kernel⟩
theorem fm_seal (C : Wd K mg) : Fm P w K mg base "seal" ["self", "row"] 2 (spD K 2 (isSeal 300)) := by
  obtain ⟨fd, F⟩ := C.defs 64 d_Sealer_seal rfl
  refine fm_mk F sc_Sealer_seal (fun _ _ _ _ _ _ us hl => match us, hl with | [_, _], _ => rfl) fun X cdv A outer s H E hX hr xk xs r hl hR => ⟨[], ?_⟩
  obtain ⟨m, row, rfl, hm1, hm2, hlen, rfl⟩ := hR
  have hm : Md m := ⟨hm1, hm2⟩
  subst hX
  wtm_at "g_setn"
  have hfl : (row.map PyData.int ++ [PyData.int (row.length : Nat)]) = (row ++ [(row.length : Int)]).map PyData.int := by simp
  refine' bs_cons (b1_forn (n := row.length + 1) (f := fun j => ((row ++ [(row.length : Int)]).map PyData.int).getD j .none) (m := row.length + 1) (st := fun j => [some (.sl m), some (.d (dI row)), some (.d (.int (sealTo m (row ++ [(row.length : Int)]) j))), none]) ?k ?hi ?hx ?hg ?h0 ?hb ?he ?hs) ?_
  case k => assumption
  case hx => exact rfl
  case hg => exact pg_name (i := 3) sc_Sealer_seal.nd rfl (Or.inl rfl)
  case hs => intro _; rfl
  case hi =>
    refine' EvI.is (evi_f ?z) ?n ?f
    case z => wtm_at "g_evf"
    case n => simp
    case f => rw [List.length_map, hfl]
  case h0 => wtm_at "g_wk"
  case he => exact .inl ⟨rfl, rfl⟩
  case hb =>
    intro j hj _
    have hj2 : j < (row ++ [(row.length : Int)]).length := by simpa using hj
    rw [getD_ints hj2]
    have bd := sealTo_bd hm (row ++ [(row.length : Int)]) j
    rw [sealTo_succ hj2]
    generalize sealTo m (row ++ [(row.length : Int)]) j = v at bd ⊢
    generalize (row ++ [(row.length : Int)])[j] = q
    wtm_at "g_setn"
    exact bs_weak bs_nil (by wtm_at "g_wk")
  · wtm_at "g_ret"
    show DV.d (.int (sealTo m _ _)) = _
    rw [sealTo_all]
/-! ### modulus -/
theorem sc_Sealer_modulus : FnScope ["self"] ["self"] (defScope s_Sealer_modulus) := ⟨rfl, rfl, rfl, by decide +kernel, rfl, by decide +kernel, by decide +kernel⟩
theorem fm_modulus (C : Wd K mg) : Fm P w K mg base "modulus" ["self"] 1 (spD K 1 isModulus) := by
  obtain ⟨fd, F⟩ := C.defs 63 d_Sealer_modulus rfl
  refine fm_mk F sc_Sealer_modulus (fun _ _ _ _ _ _ us hl => match us, hl with | [_], _ => rfl) fun X cdv A outer s H E hX hr xk xs r hl hR => ⟨[], ?_⟩
  obtain ⟨m, rfl, rfl⟩ := hR
  subst hX
  wtm_at "g_ret"
  rfl
/-! ### summaries -/
theorem sc_branch_summary : FnScope ["sealer", "left", "right", "sums", "one", "other"] ["sealer", "left", "right"] (defScope s_branch_summary) := ⟨rfl, rfl, rfl, by decide +kernel, rfl, by decide +kernel, by decide +kernel⟩
theorem brRow_len {k : Nat} {l r : Sm} (h : SmOk k l) (h' : SmOk k r) : (brRow l r).length = 2 * k + 10 := by
  have a := smNums_len h
  have b := smNums_len h'
  simp [brRow, a, b]
  omega
theorem addL_map {xs ys : List Int} {k : Nat} (h : xs.length = k) (h' : ys.length = k) : (List.range k).map (fun j => PyData.int (xs.getD j 0 + ys.getD j 0)) = (addL xs ys).map PyData.int := by
  apply List.ext_getElem
  · simp [addL, h, h']
  · intro i h1 h2
    simp [addL] at h1 h2
    simp [addL, List.getD, h, h', h1]
theorem fn_branch_summary (C : Wd K mg) : Fn P w K mg base "branch_summary" ["sealer", "left", "right"] 6 (spD K 3 rBrSm) := by
  obtain ⟨fd, F⟩ := C.defs 9 (mkD "branch_summary" s_branch_summary) rfl
  have F1 := fn_branch_row (P := P) (w := w) (base := base) C
  have F2 := fm_seal (P := P) (w := w) (base := base) C
  refine fn_mk (C.glo _ (by decide +kernel)) F sc_branch_summary (fun _ _ _ _ _ _ us hl => match us, hl with | [_, _, _], _ => rfl) fun X cdv A outer s H E hX hr xk xs r hl hR => ⟨[], ?_⟩
  obtain ⟨m, k, l, t, rfl, hm, h1, h2, hk, rfl⟩ := hR
  obtain ⟨hm1, hm2⟩ := hm
  have hb := brRow_len h1 h2
  have hl1 := h1.len
  have hl2 := h2.len
  subst hX
  have hls : (t.sums.map PyData.int).length = (l.sums.map PyData.int).length := by simp [hl1, hl2]
  have hs : Ev (cxOf (L2.CX P w) P w K mg base ["sealer", "left", "right", "sums", "one", "other"] (mkD "branch_summary" s_branch_summary).qual (mkD "branch_summary" s_branch_summary).scope (He.ga K ("branch_summary" : Str)) cdv A outer s H E) (.Name "left" default) [some (.sl m), some (.d (dSm l)), some (.d (dSm t)), none, none, none] (.d (dSm l)) := by wtm_at "g_ev"
  refine' bs_cons (b1_setn (x := .d (dI (addL l.sums t.sums))) ?c ?e ?i ?x ?s ?f) ?_
  case c => assumption
  case i => exact rfl
  case x => exact Or.inl rfl
  case s => exact rfl
  case f => exact Or.inl rfl
  case e =>
    refine' Ev.is (ev_totup ?C ?hg ?ha ?he ?hp) ?q
    case C => assumption
    case hg => exact rfl
    case he => exact rfl
    case hp => exact rfl
    case ha =>
      have nd := sc_branch_summary.nd
      refine' Ev.is (ev_lc (own := [("one", 4), ("other", 5)]) (n := k) (pk := fun _ => true) (g := fun j => .int (l.sums.getD j 0 + t.sums.getD j 0)) ?c2 ?ok ?hi ?hn ?hg2 ?ht ?he2 ?hL ?hs) ?q2
      case c2 => assumption
      case ok => exact blkOk_by (by kernel_rfl)
      case hi =>
        refine' EvI.is ?z ?n ?f
        case z => wtm_at "g_evi"
        case n => simp [hl1]
        case f => rfl
      case hn => omega
      case hg2 =>
        intro s H C cl fp j hj
        exact tg_pair (by decide) (pg_tup rfl (pgs_cons (pg_name (i := 4) nd rfl (Or.inl rfl)) (pgs_cons (pg_name (i := 5) nd rfl (Or.inl rfl)) pgs_nil)))
      case ht => exact fun _ _ _ _ _ _ _ => vti_nil
      case he2 =>
        intro s H C cl fp j hj _
        have e1 : (l.sums.map PyData.int).getD j .none = .int (l.sums.getD j 0) := by simp [List.getD, hl1, hj]
        have e2 : (t.sums.map PyData.int).getD j .none = .int (t.sums.getD j 0) := by simp [List.getD, hl2, hj]
        rw [e1, e2]
        wtm_at "g_ev"
      case hL => exact fun _ _ _ => rfl
      case hs => intro _; rfl
      case q2 => rw [pick_all, addL_map hl1 hl2]
    case q => rfl
  wtm_at "g_ret"
  rfl
end
end Sg
namespace Sg
section
variable {P : Program} {w : World} {K : PySem.W.Frag} {mg : Str → Option Value} {base : Heap}
theorem sc_summary_of : FnScope ["sealer", "tree"] ["sealer", "tree"] (defScope s_summary_of) := ⟨rfl, rfl, rfl, by decide +kernel, rfl, by decide +kernel, by decide +kernel⟩
theorem leafRow_len {n : Str} {ws ns : List Int} : (leafRow n ws ns).length = 3 + ws.length + ns.length := by simp [leafRow]; omega
theorem st_summary_of (C : Wd K mg) (n : Nat) (IH : ∀ j, n = j + 1 → Fn P w K mg base "summary_of" ["sealer", "tree"] (7 + j) (spD K 2 (rSummary j))) : Fn P w K mg base "summary_of" ["sealer", "tree"] (6 + n + 1) (spD K 2 (rSummary n)) := by
  obtain ⟨fd, F⟩ := C.defs 10 (mkD "summary_of" s_summary_of) rfl
  have F1 := fn_leaf_row (P := P) (w := w) (base := base) C
  have F2 := fm_seal (P := P) (w := w) (base := base) C
  have F3 := fn_branch_summary (P := P) (w := w) (base := base) C
  refine fn_mk (C.glo _ (by decide +kernel)) F sc_summary_of (fun _ _ _ _ _ _ us hl => match us, hl with | [_, _], _ => rfl) fun X cdv A outer s H E hX hr xk xs r hl hR => ⟨[], ?_⟩
  obtain ⟨m, k, t, rfl, hm, ht, hk, hd, rfl⟩ := hR
  have hm1 := hm.1
  have hm2 := hm.2
  subst hX
  cases t with
  | cut sm =>
    refine bs_ifT (by wtm_at "g_vt") (by decide +kernel) (by wtm_at "g_ret"; rfl) rfl
  | leaf nm ws ns =>
    obtain ⟨h1, h2, h3⟩ := ht
    have hw : ws.length ≤ 100 := by omega
    have hn : ns.length ≤ 100 := by omega
    have hlr : (leafRow nm ws ns).length ≤ 300 := by rw [leafRow_len]; omega
    refine bs_ifF (by wtm_at "g_vt") (by decide +kernel) ?_
    refine bs_ifT (by wtm_at "g_vt") (by decide +kernel) ?_ rfl
    wtm_at "g_ret"
    rfl
  | br l r =>
    have hd' : max (depth l) (depth r) + 1 ≤ n := hd
    obtain ⟨j, rfl⟩ : ∃ j, n = j + 1 := ⟨n - 1, by omega⟩
    have F4 := IH j rfl
    have hl1 : depth l ≤ j := by omega
    have hl2 : depth r ≤ j := by omega
    have t1 := ht.1
    have t2 := ht.2
    have s1 := summ_ok (m := m) t1
    have s2 := summ_ok (m := m) t2
    refine bs_ifF (by wtm_at "g_vt") (by decide +kernel) ?_
    refine bs_ifF (by wtm_at "g_vt") (by decide +kernel) ?_
    wtm_at "g_ret"
    rfl
theorem fn_summary_of (C : Wd K mg) : ∀ n, Fn P w K mg base "summary_of" ["sealer", "tree"] (7 + n) (spD K 2 (rSummary n))
  | 0 => st_summary_of C 0 (fun j h => by omega)
  | n + 1 => by
    have z := st_summary_of (P := P) (w := w) (base := base) C (n + 1) (fun j h => by
      have e : j = n := by omega
      subst e
      exact fn_summary_of C j)
    rw [show 7 + (n + 1) = 6 + (n + 1) + 1 by omega]
    exact z
theorem sc_row_of : FnScope ["sealer", "tree"] ["sealer", "tree"] (defScope s_row_of) := ⟨rfl, rfl, rfl, by decide +kernel, rfl, by decide +kernel, by decide +kernel⟩
theorem fn_row_of (C : Wd K mg) (n : Nat) : Fn P w K mg base "row_of" ["sealer", "tree"] (8 + n) (spD K 2 (rRowOf n)) := by
  obtain ⟨fd, F⟩ := C.defs 11 (mkD "row_of" s_row_of) rfl
  have F1 := fn_leaf_row (P := P) (w := w) (base := base) C
  have F2 := fn_branch_row (P := P) (w := w) (base := base) C
  have F3 := fn_summary_of (P := P) (w := w) (base := base) C n
  rw [show 8 + n = 7 + n + 1 by omega]
  refine fn_mk (C.glo _ (by decide +kernel)) F sc_row_of (fun _ _ _ _ _ _ us hl => match us, hl with | [_, _], _ => rfl) fun X cdv A outer s H E hX hr xk xs r hl hR => ⟨[], ?_⟩
  obtain ⟨m, k, t, rfl, hm, ht, hk, hd, hc, rfl⟩ := hR
  subst hX
  cases t with
  | cut sm => cases hc
  | leaf nm ws ns =>
    obtain ⟨h1, h2, h3⟩ := ht
    have hw : ws.length ≤ 100 := by omega
    have hn : ns.length ≤ 100 := by omega
    refine bs_ifT (by wtm_at "g_vt") (by decide +kernel) ?_ rfl
    wtm_at "g_ret"
    rfl
  | br l r =>
    have hd' : max (depth l) (depth r) + 1 ≤ n := hd
    have hl1 : depth l ≤ n := by omega
    have hl2 : depth r ≤ n := by omega
    have t1 := ht.1
    have t2 := ht.2
    have s1 := summ_ok (m := m) t1
    have s2 := summ_ok (m := m) t2
    refine bs_ifF (by wtm_at "g_vt") (by decide +kernel) ?_
    wtm_at "g_ret"
    rfl
theorem sc_top_row : FnScope ["sealer", "tree", "summary"] ["sealer", "tree"] (defScope s_top_row) := ⟨rfl, rfl, rfl, by decide +kernel, rfl, by decide +kernel, by decide +kernel⟩
theorem isN_dTr (t : Tr) : isN (dTr t) = false := by cases t <;> rfl
theorem fn_top_row (C : Wd K mg) (n : Nat) : Fn P w K mg base "top_row" ["sealer", "tree"] (8 + n) (spD K 2 (rTop n)) := by
  obtain ⟨fd, F⟩ := C.defs 12 (mkD "top_row" s_top_row) rfl
  have F1 := fn_summary_numbers (P := P) (w := w) (base := base) C
  have F3 := fn_summary_of (P := P) (w := w) (base := base) C n
  rw [show 8 + n = 7 + n + 1 by omega]
  refine fn_mk (C.glo _ (by decide +kernel)) F sc_top_row (fun _ _ _ _ _ _ us hl => match us, hl with | [_, _], _ => rfl) fun X cdv A outer s H E hX hr xk xs r hl hR => ⟨[], ?_⟩
  obtain ⟨m, k, t, rfl, hm, ht, hk, hd, rfl⟩ := hR
  subst hX
  have s1 := summ_ok (m := m) ht
  have sl := smNums_len s1
  refine bs_ifF (by wtm_at "g_vt") (isN_dTr t) ?_
  wtm_at "g_setn"
  wtm_at "g_ret"
  simp [dI, topRow]
theorem sc_root_of : FnScope ["sealer", "tree"] ["sealer", "tree"] (defScope s_root_of) := ⟨rfl, rfl, rfl, by decide +kernel, rfl, by decide +kernel, by decide +kernel⟩
theorem topRow_len {m : Int} {k : Nat} {t : Tr} (h : TrOk k t) : (topRow m t).length = k + 6 := by
  have a := smNums_len (summ_ok (m := m) h)
  simp [topRow, a]
theorem fn_root_of (C : Wd K mg) (n : Nat) : Fn P w K mg base "root_of" ["sealer", "tree"] (9 + n) (spD K 2 (rRoot n)) := by
  obtain ⟨fd, F⟩ := C.defs 13 (mkD "root_of" s_root_of) rfl
  have F1 := fn_top_row (P := P) (w := w) (base := base) C n
  have F2 := fm_seal (P := P) (w := w) (base := base) C
  rw [show 9 + n = 8 + n + 1 by omega]
  refine fn_mk (C.glo _ (by decide +kernel)) F sc_root_of (fun _ _ _ _ _ _ us hl => match us, hl with | [_, _], _ => rfl) fun X cdv A outer s H E hX hr xk xs r hl hR => ⟨[], ?_⟩
  obtain ⟨m, k, t, rfl, hm, ht, hk, hd, rfl⟩ := hR
  have hm1 := hm.1
  have hm2 := hm.2
  have tl := topRow_len (m := m) ht
  subst hX
  wtm_at "g_ret"
  rfl
end
end Sg
namespace Sg
section
variable {P : Program} {w : World} {K : PySem.W.Frag} {mg : Str → Option Value} {base : Heap}
theorem sc_are_worths : FnScope ["values", "value"] ["values"] (defScope s_are_worths) := ⟨rfl, rfl, rfl, by decide +kernel, rfl, by decide +kernel, by decide +kernel⟩
theorem itF_dI {ns : List Int} {j : Nat} (h : j < itN (dI ns)) : ∃ v, v ∈ ns ∧ itF (dI ns) j = .int v := by
  have h : j < ns.length := by simpa [itN, dI] using h
  exact ⟨ns[j], List.getElem_mem h, by simp [itF, dI, List.getD, h]⟩
theorem fn_are_worths (C : Wd K mg) : Fn P w K mg base "are_worths" ["values"] 1 (spD K 1 rWorths) := by
  obtain ⟨fd, F⟩ := C.defs 14 (mkD "are_worths" s_are_worths) rfl
  refine fn_mk (C.glo _ (by decide +kernel)) F sc_are_worths (fun _ _ _ _ _ _ us hl => match us, hl with | [_], _ => rfl) fun X cdv A outer s H E hX hr xk xs r hl hR => ⟨[], ?_⟩
  obtain ⟨ws, rfl, h1, h2, h3, rfl⟩ := hR
  subst hX
  have d1 : decide (1 ≤ ((ws.length : Nat) : Int)) = true := decide_eq_true (by omega)
  have d2 : decide (((ws.length : Nat) : Int) ≤ 3) = true := decide_eq_true (by omega)
  refine' bs_ret (ev_andB (l := true) ?a fun _ => ev_one ?b) ?q
  case a => wtm_at "g_ev"
  case b =>
    wtm_at "g_all"
    case hn => simp [itN, dI]; omega
    case he =>
      intro s H C cl fp j hj
      obtain ⟨v, hv, ev⟩ := itF_dI hj
      rw [ev]
      have a := h3 v hv
      exact Ev.is (by wtm_at "g_ev") (by rw [decide_eq_true a.1, decide_eq_true a.2]; rfl)
  case q => rw [List.length_map, d1, d2]; rfl
theorem sc_are_notes : FnScope ["values", "value"] ["values"] (defScope s_are_notes) := ⟨rfl, rfl, rfl, by decide +kernel, rfl, by decide +kernel, by decide +kernel⟩
theorem fn_are_notes (C : Wd K mg) : Fn P w K mg base "are_notes" ["values"] 1 (spD K 1 rNotes) := by
  obtain ⟨fd, F⟩ := C.defs 15 (mkD "are_notes" s_are_notes) rfl
  refine fn_mk (C.glo _ (by decide +kernel)) F sc_are_notes (fun _ _ _ _ _ _ us hl => match us, hl with | [_], _ => rfl) fun X cdv A outer s H E hX hr xk xs r hl hR => ⟨[], ?_⟩
  obtain ⟨ws, rfl, h2, h3, rfl⟩ := hR
  subst hX
  have d2 : decide (((ws.length : Nat) : Int) ≤ 12) = true := decide_eq_true (by omega)
  refine' bs_ret (ev_andB (l := true) ?a fun _ => ev_one ?b) ?q
  case a => wtm_at "g_ev"
  case b =>
    wtm_at "g_all"
    case hn => simp [itN, dI]; omega
    case he =>
      intro s H C cl fp j hj
      obtain ⟨v, hv, ev⟩ := itF_dI hj
      rw [ev]
      have a := h3 v hv
      exact Ev.is (by wtm_at "g_ev") (by rw [decide_eq_true a.1, decide_eq_true a.2]; rfl)
  case q => rw [List.length_map, d2]; rfl
theorem sc_is_leaf : FnScope ["leaf"] ["leaf"] (defScope s_is_leaf) := ⟨rfl, rfl, rfl, by decide +kernel, rfl, by decide +kernel, by decide +kernel⟩
theorem fn_is_leaf (C : Wd K mg) : Fn P w K mg base "is_leaf" ["leaf"] 4 (spD K 1 rIsLeaf) := by
  obtain ⟨fd, F⟩ := C.defs 16 (mkD "is_leaf" s_is_leaf) rfl
  have F1 := fn_is_name (P := P) (w := w) (base := base) C
  have F2 := fn_are_worths (P := P) (w := w) (base := base) C
  have F3 := fn_are_notes (P := P) (w := w) (base := base) C
  refine fn_mk (C.glo _ (by decide +kernel)) F sc_is_leaf (fun _ _ _ _ _ _ us hl => match us, hl with | [_], _ => rfl) fun X cdv A outer s H E hX hr xk xs r hl hR => ⟨[], ?_⟩
  obtain ⟨k, n, ws, ns, rfl, ⟨h1, h2, h3, h4, h5⟩, h6, h7, rfl⟩ := hR
  subst hX
  have l1 : 1 ≤ ws.length := by omega
  have l2 : ws.length ≤ 3 := by omega
  refine' bs_ret (ev_andB (l := true && true) ?a fun _ => ev_andB (l := true) ?b fun _ => ev_one ?c) ?q
  case a => wtm_at "g_ev"
  case b => wtm_at "g_ev"
  case c => wtm_at "g_ev"
  case q => rfl
theorem sc_is_summary : FnScope ["sealer", "summary", "seal", "count", "sums", "least", "greatest", "amount"] ["sealer", "summary"] (defScope s_is_summary) := ⟨rfl, rfl, rfl, by decide +kernel, rfl, by decide +kernel, by decide +kernel⟩
theorem fn_is_summary (C : Wd K mg) : Fn P w K mg base "is_summary" ["sealer", "summary"] 4 (spD K 2 rIsSummary) := by
  obtain ⟨fd, F⟩ := C.defs 17 (mkD "is_summary" s_is_summary) rfl
  have F1 := fn_is_name (P := P) (w := w) (base := base) C
  have F2 := fn_number_of (P := P) (w := w) (base := base) C
  have F3 := fm_modulus (P := P) (w := w) (base := base) C
  refine fn_mk (C.glo _ (by decide +kernel)) F sc_is_summary (fun _ _ _ _ _ _ us hl => match us, hl with | [_, _], _ => rfl) fun X cdv A outer s H E hX hr xk xs r hl hR => ⟨[], ?_⟩
  obtain ⟨m, k, sm, rfl, hv, hk1, hk3, rfl⟩ := hR
  obtain ⟨⟨h0, h2, h3⟩, v1, v2, v3, v4, v5, v6, v7⟩ := hv
  subst hX
  have nd := sc_is_summary.nd
  refine' bs_cons (b1_unpack (d := dSm sm) ?e ?g (fun v σ H Q E dv q => un5 (i1 := 2) (i2 := 3) (i3 := 4) (i4 := 5) (i5 := 6) v σ H Q E dv q) ?hs ?hw ?h1) ?_
  case e => wtm_at "g_ev"
  case g => exact pg_tup rfl (pgs_cons (pg_name (i := 2) nd rfl (Or.inl rfl)) (pgs_cons (pg_name (i := 3) nd rfl (Or.inl rfl)) (pgs_cons (pg_name (i := 4) nd rfl (Or.inl rfl)) (pgs_cons (pg_name (i := 5) nd rfl (Or.inl rfl)) (pgs_cons (pg_name (i := 6) nd rfl (Or.inl rfl)) pgs_nil)))))
  case hs => exact rfl
  case hw => exact rfl
  case h1 => exact rfl
  have e1 : decide (0 ≤ sm.sv) = true := decide_eq_true v1
  have e2 : decide (sm.sv < m) = true := decide_eq_true v2
  have e3 : decide (1 ≤ sm.cnt) = true := decide_eq_true v3
  have e4 : decide (sm.cnt ≤ 1000000000000000000000000) = true := decide_eq_true v4
  have e5 : decide (1 ≤ ((sm.sums.length : Nat) : Int)) = true := decide_eq_true (by omega)
  have e6 : decide (((sm.sums.length : Nat) : Int) ≤ 3) = true := decide_eq_true (by omega)
  refine bs_ifF (by wtm_at "g_vt") (by rw [e1, e2, e3, e4, List.length_map, e5, e6]; rfl) ?_
  refine' bs_ifF (Vw.vt (vw_or (k := !true) (vt_not (k := true) (vt_val ?t1 ?t2)) fun _ => vw_or (k := !true) (vt_not (k := true) (vt_val ?t3 ?t4)) fun _ => vw_or1 (k := !true) (vt_not (k := true) (vt_val ?t5 ?t6)))) rfl ?_
  case t2 => intro _; rfl
  case t4 => intro _; rfl
  case t6 => intro _; rfl
  case t1 =>
    wtm_at "g_all"
    case hn => simp [itN, dI]; omega
    case he =>
      intro s H C cl fp j hj
      obtain ⟨v, hv, ev⟩ := itF_dI hj
      rw [ev]
      have a := v5 v hv
      exact Ev.is (by wtm_at "g_ev") (by rw [decide_eq_true a.1, decide_eq_true a.2]; rfl)
  case t3 => wtm_at "g_ev"
  case t5 => wtm_at "g_ev"
  by_cases hc : sm.cnt = 1
  · refine bs_ifT (by wtm_at "g_vt") (decide_eq_true hc) ?_ rfl
    wtm_at "g_ret"
    rw [decide_eq_true (v6 hc)]
  · refine bs_ifF (by wtm_at "g_vt") (decide_eq_false hc) ?_
    wtm_at "g_ret"
    have := v7 hc
    rw [decide_eq_true (by omega)]
end
end Sg
namespace Sg
section
variable {P : Program} {w : World} {K : PySem.W.Frag} {mg : Str → Option Value} {base : Heap}
theorem sc_is_inside : FnScope ["side", "place", "bit", "least", "greatest", "parted"] ["side", "place", "bit"] (defScope s_is_inside) := ⟨rfl, rfl, rfl, by decide +kernel, rfl, by decide +kernel, by decide +kernel⟩
theorem fn_is_inside (C : Wd K mg) : Fn P w K mg base "is_inside" ["side", "place", "bit"] 4 (spD K 3 rIsInside) := by
  obtain ⟨fd, F⟩ := C.defs 19 (mkD "is_inside" s_is_inside) rfl
  have F1 := fn_least_of (P := P) (w := w) (base := base) C
  have F2 := fn_greatest_of (P := P) (w := w) (base := base) C
  have F3 := fn_parting (P := P) (w := w) (base := base) C
  have F4 := fn_bit_at (P := P) (w := w) (base := base) C
  refine fn_mk (C.glo _ (by decide +kernel)) F sc_is_inside (fun _ _ _ _ _ _ us hl => match us, hl with | [_, _, _], _ => rfl) fun X cdv A outer s H E hX hr xk xs r hl hR => ⟨[], ?_⟩
  obtain ⟨k, t, p, b, rfl, ht, hp, ⟨i1, i2, i3⟩, rfl⟩ := hR
  have n1 := lo_nm ht
  have n2 := hi_nm ht
  subst hX
  wtm_at "g_par"
  wtm_at "g_setn"
  have hz : ∀ o : Option Int, (∀ q, o = some q → (p : Int) < q) → isN (dOI o) = false → ∃ q, o = some q ∧ (p : Int) < q := by
    intro o h h2
    cases o with
    | none => cases h2
    | some q => exact ⟨q, rfl, h q rfl⟩
  refine' bs_ret (ev_andB (l := true && true) ?a fun _ => ev_andB (l := true) ?b fun _ => ev_one ?c) ?q
  case a => wtm_at "g_ev"
  case b =>
    refine Ev.is (by wtm_at "g_ev") ?_
    rw [decide_eq_true i2]
  case c =>
    cases e : part (loOf t) (hiOf t) with
    | none => exact Ev.is (ev_orB (k := true) (l := true) (by wtm_at "g_ev") (fun z => by cases z)) rfl
    | some q =>
      have hlt := i3 q e
      exact Ev.is (ev_orB (k := false) (l := true) (by wtm_at "g_ev") (fun _ => ev_one (Ev.is (by wtm_at "g_ev") (by rw [decide_eq_true hlt])))) rfl
  case q => rw [decide_eq_true i1]; rfl
theorem sc_are_sides : FnScope ["left", "right", "place"] ["left", "right"] (defScope s_are_sides) := ⟨rfl, rfl, rfl, by decide +kernel, rfl, by decide +kernel, by decide +kernel⟩
theorem fn_are_sides (C : Wd K mg) : Fn P w K mg base "are_sides" ["left", "right"] 5 (spD K 2 rAreSides) := by
  obtain ⟨fd, F⟩ := C.defs 18 (mkD "are_sides" s_are_sides) rfl
  have F1 := fn_least_of (P := P) (w := w) (base := base) C
  have F2 := fn_greatest_of (P := P) (w := w) (base := base) C
  have F3 := fn_parting (P := P) (w := w) (base := base) C
  have F4 := fn_bit_at (P := P) (w := w) (base := base) C
  have F5 := fn_is_inside (P := P) (w := w) (base := base) C
  refine fn_mk (C.glo _ (by decide +kernel)) F sc_are_sides (fun _ _ _ _ _ _ us hl => match us, hl with | [_, _], _ => rfl) fun X cdv A outer s H E hX hr xk xs r hl hR => ⟨[], ?_⟩
  obtain ⟨k, l, t, rfl, h1, h2, ⟨p, hp, hpart, il, ir⟩, rfl⟩ := hR
  have n1 := lo_nm h1
  have n2 := hi_nm h2
  subst hX
  wtm_at "g_setn"
  rw [hpart, show dOI (some (p : Int)) = PyData.int p from rfl]
  refine bs_ifF (by wtm_at "g_vt") rfl ?_
  refine bs_ifF (by wtm_at "g_vt") (by rw [il.1]; rfl) ?_
  refine' bs_ret (ev_andB (l := true) ?a fun _ => ev_one ?b) ?q
  case a => wtm_at "g_ev"
  case b => wtm_at "g_ev"
  case q => rfl
theorem sc_kinds_of : FnScope ["tree", "left", "right"] ["tree"] (defScope s_kinds_of) := ⟨rfl, rfl, rfl, by decide +kernel, rfl, by decide +kernel, by decide +kernel⟩
theorem st_kinds_of (C : Wd K mg) (n : Nat) (IH : ∀ j, n = j + 1 → Fn P w K mg base "kinds_of" ["tree"] (2 + j) (spD K 1 (rKinds j))) : Fn P w K mg base "kinds_of" ["tree"] (1 + n + 1) (spD K 1 (rKinds n)) := by
  obtain ⟨fd, F⟩ := C.defs 20 (mkD "kinds_of" s_kinds_of) rfl
  refine fn_mk (C.glo _ (by decide +kernel)) F sc_kinds_of (fun _ _ _ _ _ _ us hl => match us, hl with | [_], _ => rfl) fun X cdv A outer s H E hX hr xk xs r hl hR => ⟨[], ?_⟩
  obtain ⟨k, t, rfl, ht, hd, rfl⟩ := hR
  subst hX
  cases t with
  | leaf nm ws ns =>
    refine bs_ifT (by wtm_at "g_vt") (by decide +kernel) ?_ rfl
    wtm_at "g_ret"
    rw [List.length_map, ht.2.1]
  | cut sm =>
    refine bs_ifF (by wtm_at "g_vt") (by decide +kernel) ?_
    refine bs_ifT (by wtm_at "g_vt") (by decide +kernel) ?_ rfl
    have e := ht.len
    wtm_at "g_ret"
    rw [List.length_map, e]
  | br l r =>
    have hd' : max (depth l) (depth r) + 1 ≤ n := hd
    obtain ⟨j, rfl⟩ : ∃ j, n = j + 1 := ⟨n - 1, by omega⟩
    have F4 := IH j rfl
    have hl1 : depth l ≤ j := by omega
    have hl2 : depth r ≤ j := by omega
    have t1 := ht.1
    have t2 := ht.2
    refine bs_ifF (by wtm_at "g_vt") (by decide +kernel) ?_
    refine bs_ifF (by wtm_at "g_vt") (by decide +kernel) ?_
    wtm_at "g_par"
    refine bs_ifF (by wtm_at "g_vt") (by simp) ?_
    wtm_at "g_ret"
    rfl
theorem fn_kinds_of (C : Wd K mg) : ∀ n, Fn P w K mg base "kinds_of" ["tree"] (2 + n) (spD K 1 (rKinds n))
  | 0 => st_kinds_of C 0 (fun j h => by omega)
  | n + 1 => by
    have z := st_kinds_of (P := P) (w := w) (base := base) C (n + 1) (fun j h => by
      have e : j = n := by omega
      subst e
      exact fn_kinds_of C j)
    rw [show 2 + (n + 1) = 1 + (n + 1) + 1 by omega]
    exact z
theorem sc_has_valid_parts : FnScope ["sealer", "tree"] ["sealer", "tree"] (defScope s_has_valid_parts) := ⟨rfl, rfl, rfl, by decide +kernel, rfl, by decide +kernel, by decide +kernel⟩
theorem st_has_valid_parts (C : Wd K mg) (n : Nat) (IH : ∀ j, n = j + 1 → Fn P w K mg base "has_valid_parts" ["sealer", "tree"] (6 + j) (spD K 2 (rValid j))) : Fn P w K mg base "has_valid_parts" ["sealer", "tree"] (5 + n + 1) (spD K 2 (rValid n)) := by
  obtain ⟨fd, F⟩ := C.defs 21 (mkD "has_valid_parts" s_has_valid_parts) rfl
  have F1 := fn_is_leaf (P := P) (w := w) (base := base) C
  have F2 := fn_is_summary (P := P) (w := w) (base := base) C
  refine fn_mk (C.glo _ (by decide +kernel)) F sc_has_valid_parts (fun _ _ _ _ _ _ us hl => match us, hl with | [_, _], _ => rfl) fun X cdv A outer s H E hX hr xk xs r hl hR => ⟨[], ?_⟩
  obtain ⟨m, k, t, rfl, ht, hk1, hk3, hd, rfl⟩ := hR
  subst hX
  refine bs_ifF (by wtm_at "g_vt") (isN_dTr t) ?_
  cases t with
  | leaf nm ws ns =>
    have ht : Lf k nm ws ns := ht
    refine bs_ifT (by wtm_at "g_vt") (by decide +kernel) ?_ rfl
    wtm_at "g_ret"
    rfl
  | cut sm =>
    have ht : SmV m k sm := ht
    refine bs_ifF (by wtm_at "g_vt") (by decide +kernel) ?_
    refine bs_ifT (by wtm_at "g_vt") (by decide +kernel) ?_ rfl
    wtm_at "g_ret"
    rfl
  | br l r =>
    have hd' : max (depth l) (depth r) + 1 ≤ n := hd
    obtain ⟨j, rfl⟩ : ∃ j, n = j + 1 := ⟨n - 1, by omega⟩
    have F4 := IH j rfl
    have hl1 : depth l ≤ j := by omega
    have hl2 : depth r ≤ j := by omega
    have t1 := ht.1
    have t2 := ht.2.1
    refine bs_ifF (by wtm_at "g_vt") (by decide +kernel) ?_
    refine bs_ifF (by wtm_at "g_vt") (by decide +kernel) ?_
    refine' bs_ret (ev_andB (l := true) ?a fun _ => ev_one ?b) ?q
    case a => wtm_at "g_ev"
    case b => wtm_at "g_ev"
    case q => rfl
theorem fn_has_valid_parts (C : Wd K mg) : ∀ n, Fn P w K mg base "has_valid_parts" ["sealer", "tree"] (6 + n) (spD K 2 (rValid n))
  | 0 => st_has_valid_parts C 0 (fun j h => by omega)
  | n + 1 => by
    have z := st_has_valid_parts (P := P) (w := w) (base := base) C (n + 1) (fun j h => by
      have e : j = n := by omega
      subst e
      exact fn_has_valid_parts C j)
    rw [show 6 + (n + 1) = 5 + (n + 1) + 1 by omega]
    exact z
theorem sc_has_order : FnScope ["tree"] ["tree"] (defScope s_has_order) := ⟨rfl, rfl, rfl, by decide +kernel, rfl, by decide +kernel, by decide +kernel⟩
theorem st_has_order (C : Wd K mg) (n : Nat) (IH : ∀ j, n = j + 1 → Fn P w K mg base "has_order" ["tree"] (6 + j) (spD K 1 (rOrder j))) : Fn P w K mg base "has_order" ["tree"] (5 + n + 1) (spD K 1 (rOrder n)) := by
  obtain ⟨fd, F⟩ := C.defs 22 (mkD "has_order" s_has_order) rfl
  have F1 := fn_are_sides (P := P) (w := w) (base := base) C
  refine fn_mk (C.glo _ (by decide +kernel)) F sc_has_order (fun _ _ _ _ _ _ us hl => match us, hl with | [_], _ => rfl) fun X cdv A outer s H E hX hr xk xs r hl hR => ⟨[], ?_⟩
  obtain ⟨m, k, t, rfl, ht, hd, rfl⟩ := hR
  subst hX
  cases t with
  | leaf nm ws ns =>
    refine bs_ifT (by wtm_at "g_vt") (by decide +kernel) ?_ rfl
    wtm_at "g_ret"
    rfl
  | cut sm =>
    refine bs_ifT (by wtm_at "g_vt") (by decide +kernel) ?_ rfl
    wtm_at "g_ret"
    rfl
  | br l r =>
    have hd' : max (depth l) (depth r) + 1 ≤ n := hd
    obtain ⟨j, rfl⟩ : ∃ j, n = j + 1 := ⟨n - 1, by omega⟩
    have F4 := IH j rfl
    have hl1 : depth l ≤ j := by omega
    have hl2 : depth r ≤ j := by omega
    have t1 := ht.1
    have t2 := ht.2.1
    have o1 := t1.ok
    have o2 := t2.ok
    have t3 : Sides l r := ht.2.2
    refine bs_ifF (by wtm_at "g_vt") (by decide +kernel) ?_
    refine' bs_ret (ev_andB (l := true && true) ?a fun _ => ev_andB (l := true) ?b fun _ => ev_one ?c) ?q
    case a => wtm_at "g_ev"
    case b => wtm_at "g_ev"
    case c => wtm_at "g_ev"
    case q => rfl
theorem fn_has_order (C : Wd K mg) : ∀ n, Fn P w K mg base "has_order" ["tree"] (6 + n) (spD K 1 (rOrder n))
  | 0 => st_has_order C 0 (fun j h => by omega)
  | n + 1 => by
    have z := st_has_order (P := P) (w := w) (base := base) C (n + 1) (fun j h => by
      have e : j = n := by omega
      subst e
      exact fn_has_order C j)
    rw [show 6 + (n + 1) = 5 + (n + 1) + 1 by omega]
    exact z
theorem sc_is_well_formed : FnScope ["sealer", "tree"] ["sealer", "tree"] (defScope s_is_well_formed) := ⟨rfl, rfl, rfl, by decide +kernel, rfl, by decide +kernel, by decide +kernel⟩
theorem fn_is_well_formed (C : Wd K mg) (n : Nat) : Fn P w K mg base "is_well_formed" ["sealer", "tree"] (7 + n) (spD K 2 (rValid n)) := by
  obtain ⟨fd, F⟩ := C.defs 23 (mkD "is_well_formed" s_is_well_formed) rfl
  have F1 := fn_has_valid_parts (P := P) (w := w) (base := base) C n
  have F2 := fn_kinds_of (P := P) (w := w) (base := base) C n
  have F3 := fn_has_order (P := P) (w := w) (base := base) C n
  rw [show 7 + n = 6 + n + 1 by omega]
  refine fn_mk (C.glo _ (by decide +kernel)) F sc_is_well_formed (fun _ _ _ _ _ _ us hl => match us, hl with | [_, _], _ => rfl) fun X cdv A outer s H E hX hr xk xs r hl hR => ⟨[], ?_⟩
  obtain ⟨m, k, t, rfl, ht, hk1, hk3, hd, rfl⟩ := hR
  have ho := ht.ok
  subst hX
  refine bs_ifF (by wtm_at "g_vt") (isN_dTr t) ?_
  refine' bs_ret (ev_andB (l := true && true) ?a fun _ => ev_andB (l := true) ?b fun _ => ev_one ?c) ?q
  case a => wtm_at "g_ev"
  case b =>
    refine Ev.is (by wtm_at "g_ev") ?_
    rw [decide_eq_true (by omega)]
  case c => wtm_at "g_ev"
  case q => rfl
end
end Sg
namespace Sg
section
variable {P : Program} {w : World} {K : PySem.W.Frag} {mg : Str → Option Value} {base : Heap}
theorem nle {a b : Nat} : decide ((a : Int) ≤ (b : Int)) = decide (a ≤ b) := decide_eq_decide.mpr (by omega)
theorem nlt {a b : Nat} : decide ((a : Int) < (b : Int)) = decide (a < b) := decide_eq_decide.mpr (by omega)
theorem sc_leaf_told : FnScope ["name", "summary"] ["name", "summary"] (defScope s_leaf_told) := ⟨rfl, rfl, rfl, by decide +kernel, rfl, by decide +kernel, by decide +kernel⟩
theorem fn_leaf_told (C : Wd K mg) : Fn P w K mg base "leaf_told" ["name", "summary"] 3 (spD K 2 rLeafTold) := by
  obtain ⟨fd, F⟩ := C.defs 24 (mkD "leaf_told" s_leaf_told) rfl
  have F1 := fn_number_of (P := P) (w := w) (base := base) C
  refine fn_mk (C.glo _ (by decide +kernel)) F sc_leaf_told (fun _ _ _ _ _ _ us hl => match us, hl with | [_, _], _ => rfl) fun X cdv A outer s H E hX hr xk xs r hl hR => ⟨[], ?_⟩
  obtain ⟨k, n, sm, rfl, h1, ⟨h0, h2, h3⟩, rfl⟩ := hR
  subst hX
  unfold leafTold
  refine bs_if (by wtm_at "g_vt") (fun hb => ?_) (fun _ => rfl) (fun hb => ?_)
  · rw [nle, nle] at hb
    rw [if_pos (by simpa using hb)]
    wtm_at "g_ret"
    rfl
  · rw [nle, nle] at hb
    rw [if_neg (by simpa using hb)]
    wtm_at "g_ret"
    rfl
theorem sc_range_told : FnScope ["low", "high", "summary", "least", "greatest"] ["low", "high", "summary"] (defScope s_range_told) := ⟨rfl, rfl, rfl, by decide +kernel, rfl, by decide +kernel, by decide +kernel⟩
theorem fn_range_told (C : Wd K mg) : Fn P w K mg base "range_told" ["low", "high", "summary"] 3 (spD K 3 rRangeTold) := by
  obtain ⟨fd, F⟩ := C.defs 25 (mkD "range_told" s_range_told) rfl
  have F1 := fn_number_of (P := P) (w := w) (base := base) C
  refine fn_mk (C.glo _ (by decide +kernel)) F sc_range_told (fun _ _ _ _ _ _ us hl => match us, hl with | [_, _, _], _ => rfl) fun X cdv A outer s H E hX hr xk xs r hl hR => ⟨[], ?_⟩
  obtain ⟨k, a, b, sm, rfl, h1, h4, ⟨h0, h2, h3⟩, rfl⟩ := hR
  subst hX
  unfold rangeTold
  wtm_at "g_par"
  refine bs_if (by wtm_at "g_vt") (fun hb => ?_) (fun _ => rfl) (fun hb => ?_)
  · rw [nlt, nlt, nlt] at hb
    rw [if_pos (by simpa [or_assoc] using hb)]
    wtm_at "g_ret"
    rfl
  · rw [nlt, nlt, nlt] at hb
    rw [if_neg (by simpa using hb)]
    refine bs_if (by wtm_at "g_vt") (fun hb => ?_) (fun _ => rfl) (fun hb => ?_)
    · rw [nle, nle] at hb
      rw [if_pos (by simpa using hb)]
      wtm_at "g_ret"
      rfl
    · rw [nle, nle] at hb
      rw [if_neg (by simpa using hb)]
      wtm_at "g_ret"
      rfl
theorem sc_rank_told : FnScope ["name", "summary"] ["name", "summary"] (defScope s_rank_told) := ⟨rfl, rfl, rfl, by decide +kernel, rfl, by decide +kernel, by decide +kernel⟩
theorem fn_rank_told (C : Wd K mg) : Fn P w K mg base "rank_told" ["name", "summary"] 3 (spD K 2 rRankTold) := by
  obtain ⟨fd, F⟩ := C.defs 26 (mkD "rank_told" s_rank_told) rfl
  have F1 := fn_number_of (P := P) (w := w) (base := base) C
  refine fn_mk (C.glo _ (by decide +kernel)) F sc_rank_told (fun _ _ _ _ _ _ us hl => match us, hl with | [_, _], _ => rfl) fun X cdv A outer s H E hX hr xk xs r hl hR => ⟨[], ?_⟩
  obtain ⟨k, n, sm, rfl, h1, ⟨h0, h2, h3⟩, rfl⟩ := hR
  subst hX
  unfold rankTold
  refine bs_if (by wtm_at "g_vt") (fun hb => ?_) (fun _ => rfl) (fun hb => ?_)
  · rw [nle] at hb
    rw [if_pos (by simpa using hb)]
    wtm_at "g_ret"
    rfl
  · rw [nle] at hb
    rw [if_neg (by simpa using hb)]
    refine bs_if (by wtm_at "g_vt") (fun hb => ?_) (fun _ => rfl) (fun hb => ?_)
    · rw [nlt] at hb
      rw [if_pos (by simpa using hb)]
      wtm_at "g_ret"
      rfl
    · rw [nlt] at hb
      rw [if_neg (by simpa using hb)]
      wtm_at "g_ret"
      rfl
theorem sc_place_told : FnScope ["wanted", "summary"] ["wanted", "summary"] (defScope s_place_told) := ⟨rfl, rfl, rfl, by decide +kernel, rfl, by decide +kernel, by decide +kernel⟩
theorem fn_place_told (C : Wd K mg) : Fn P w K mg base "place_told" ["wanted", "summary"] 1 (spD K 2 rPlaceTold) := by
  obtain ⟨fd, F⟩ := C.defs 27 (mkD "place_told" s_place_told) rfl
  refine fn_mk (C.glo _ (by decide +kernel)) F sc_place_told (fun _ _ _ _ _ _ us hl => match us, hl with | [_, _], _ => rfl) fun X cdv A outer s H E hX hr xk xs r hl hR => ⟨[], ?_⟩
  obtain ⟨n, sm, rfl, rfl⟩ := hR
  subst hX
  unfold placeTold
  refine bs_if (by wtm_at "g_vt") (fun hb => ?_) (fun _ => rfl) (fun hb => ?_)
  · rw [if_pos (by simpa using hb)]
    wtm_at "g_ret"
    rfl
  · rw [if_neg (by simpa using hb)]
    refine bs_if (by wtm_at "g_vt") (fun hb => ?_) (fun _ => rfl) (fun hb => ?_)
    · rw [if_pos (by simpa using hb)]
      wtm_at "g_ret"
      rfl
    · rw [if_neg (by simpa using hb)]
      refine bs_if (by wtm_at "g_vt") (fun hb => ?_) (fun _ => rfl) (fun hb => ?_)
      · rw [if_pos (by simpa using hb)]
        wtm_at "g_ret"
        rfl
      · rw [if_neg (by simpa using hb)]
        wtm_at "g_ret"
        rfl
theorem sc_next_told : FnScope ["name", "summary"] ["name", "summary"] (defScope s_next_told) := ⟨rfl, rfl, rfl, by decide +kernel, rfl, by decide +kernel, by decide +kernel⟩
theorem fn_next_told (C : Wd K mg) : Fn P w K mg base "next_told" ["name", "summary"] 3 (spD K 2 rNextTold) := by
  obtain ⟨fd, F⟩ := C.defs 28 (mkD "next_told" s_next_told) rfl
  have F1 := fn_number_of (P := P) (w := w) (base := base) C
  refine fn_mk (C.glo _ (by decide +kernel)) F sc_next_told (fun _ _ _ _ _ _ us hl => match us, hl with | [_, _], _ => rfl) fun X cdv A outer s H E hX hr xk xs r hl hR => ⟨[], ?_⟩
  obtain ⟨k, n, sm, rfl, h1, ⟨h0, h2, h3⟩, rfl⟩ := hR
  subst hX
  unfold nextTold
  refine bs_if (by wtm_at "g_vt") (fun hb => ?_) (fun _ => rfl) (fun hb => ?_)
  · rw [nlt] at hb
    rw [if_pos (by simpa using hb)]
    wtm_at "g_ret"
    rfl
  · rw [nlt] at hb
    rw [if_neg (by simpa using hb)]
    refine bs_if (by wtm_at "g_vt") (fun hb => ?_) (fun _ => rfl) (fun hb => ?_)
    · rw [nle] at hb
      rw [if_pos (by simpa using hb)]
      wtm_at "g_ret"
      rfl
    · rw [nle] at hb
      rw [if_neg (by simpa using hb)]
      wtm_at "g_ret"
      rfl
theorem sc_told : FnScope ["question", "summary"] ["question", "summary"] (defScope s_told) := ⟨rfl, rfl, rfl, by decide +kernel, rfl, by decide +kernel, by decide +kernel⟩
theorem fn_told (C : Wd K mg) : Fn P w K mg base "told" ["question", "summary"] 4 (spD K 2 rTold) := by
  obtain ⟨fd, F⟩ := C.defs 29 (mkD "told" s_told) rfl
  have F1 := fn_leaf_told (P := P) (w := w) (base := base) C
  have F2 := fn_range_told (P := P) (w := w) (base := base) C
  have F3 := fn_rank_told (P := P) (w := w) (base := base) C
  have F4 := fn_place_told (P := P) (w := w) (base := base) C
  have F5 := fn_next_told (P := P) (w := w) (base := base) C
  refine fn_mk (C.glo _ (by decide +kernel)) F sc_told (fun _ _ _ _ _ _ us hl => match us, hl with | [_, _], _ => rfl) fun X cdv A outer s H E hX hr xk xs r hl hR => ⟨[], ?_⟩
  obtain ⟨k, q, sm, rfl, h1, h2, h3, rfl⟩ := hR
  subst hX
  cases q with
  | several ns => cases h2
  | count =>
    refine bs_ifT (by wtm_at "g_vt") (by decide +kernel) ?_ rfl
    wtm_at "g_ret"
    rfl
  | total =>
    refine bs_ifF (by wtm_at "g_vt") (by decide +kernel) ?_
    refine bs_ifT (by wtm_at "g_vt") (by decide +kernel) ?_ rfl
    wtm_at "g_ret"
    rfl
  | leaf n =>
    have h1 : IsNm n := h1
    refine bs_ifF (by wtm_at "g_vt") (by decide +kernel) ?_
    refine bs_ifF (by wtm_at "g_vt") (by decide +kernel) ?_
    refine bs_ifT (by wtm_at "g_vt") (by decide +kernel) ?_ rfl
    wtm_at "g_ret"
    rfl
  | range a b =>
    have h4 : IsNm a := h1.1
    have h5 : IsNm b := h1.2
    refine bs_ifF (by wtm_at "g_vt") (by decide +kernel) ?_
    refine bs_ifF (by wtm_at "g_vt") (by decide +kernel) ?_
    refine bs_ifF (by wtm_at "g_vt") (by decide +kernel) ?_
    refine bs_ifT (by wtm_at "g_vt") (by decide +kernel) ?_ rfl
    wtm_at "g_ret"
    rfl
  | rank n =>
    have h1 : IsNm n := h1
    refine bs_ifF (by wtm_at "g_vt") (by decide +kernel) ?_
    refine bs_ifF (by wtm_at "g_vt") (by decide +kernel) ?_
    refine bs_ifF (by wtm_at "g_vt") (by decide +kernel) ?_
    refine bs_ifF (by wtm_at "g_vt") (by decide +kernel) ?_
    refine bs_ifT (by wtm_at "g_vt") (by decide +kernel) ?_ rfl
    wtm_at "g_ret"
    rfl
  | place n =>
    refine bs_ifF (by wtm_at "g_vt") (by decide +kernel) ?_
    refine bs_ifF (by wtm_at "g_vt") (by decide +kernel) ?_
    refine bs_ifF (by wtm_at "g_vt") (by decide +kernel) ?_
    refine bs_ifF (by wtm_at "g_vt") (by decide +kernel) ?_
    refine bs_ifF (by wtm_at "g_vt") (by decide +kernel) ?_
    refine bs_ifT (by wtm_at "g_vt") (by decide +kernel) ?_ rfl
    wtm_at "g_ret"
    rfl
  | next n =>
    have h1 : IsNm n := h1
    refine bs_ifF (by wtm_at "g_vt") (by decide +kernel) ?_
    refine bs_ifF (by wtm_at "g_vt") (by decide +kernel) ?_
    refine bs_ifF (by wtm_at "g_vt") (by decide +kernel) ?_
    refine bs_ifF (by wtm_at "g_vt") (by decide +kernel) ?_
    refine bs_ifF (by wtm_at "g_vt") (by decide +kernel) ?_
    refine bs_ifF (by wtm_at "g_vt") (by decide +kernel) ?_
    wtm_at "g_ret"
    rfl
theorem sc_side_questions : FnScope ["question", "left", "right"] ["question", "left", "right"] (defScope s_side_questions) := ⟨rfl, rfl, rfl, by decide +kernel, rfl, by decide +kernel, by decide +kernel⟩
theorem fn_side_questions (C : Wd K mg) : Fn P w K mg base "side_questions" ["question", "left", "right"] 3 (spD K 3 rSide) := by
  obtain ⟨fd, F⟩ := C.defs 30 (mkD "side_questions" s_side_questions) rfl
  have F1 := fn_number_of (P := P) (w := w) (base := base) C
  refine fn_mk (C.glo _ (by decide +kernel)) F sc_side_questions (fun _ _ _ _ _ _ us hl => match us, hl with | [_, _, _], _ => rfl) fun X cdv A outer s H E hX hr xk xs r hl hR => ⟨[], ?_⟩
  obtain ⟨k, q, sm, tm, rfl, h1, h2, ⟨h0, h3, h4⟩, rfl⟩ := hR
  subst hX
  cases q with
  | several ns => cases h2
  | place n =>
    refine bs_ifT (by wtm_at "g_vt") (by decide +kernel) ?_ rfl
    refine bs_if (by wtm_at "g_vt") (fun hb => ?_) (fun _ => rfl) (fun hb => ?_)
    · wtm_at "g_ret"
      rw [show sideQ (.place n) sm tm = (some (.place n), none) from if_pos (by simpa using hb)]
      rfl
    · wtm_at "g_ret"
      rw [show sideQ (.place n) sm tm = (none, some (.place (n - sm.cnt))) from if_neg (by simpa using hb)]
      rfl
  | next n =>
    have h1 : IsNm n := h1
    refine bs_ifF (by wtm_at "g_vt") (by decide +kernel) ?_
    refine bs_ifT (by wtm_at "g_vt") (by decide +kernel) ?_ rfl
    refine bs_if (by wtm_at "g_vt") (fun hb => ?_) (fun _ => rfl) (fun hb => ?_)
    · rw [nlt] at hb
      wtm_at "g_ret"
      rw [show sideQ (.next n) sm tm = (some (.next n), none) from if_pos (by simpa using hb)]
      rfl
    · rw [nlt] at hb
      wtm_at "g_ret"
      rw [show sideQ (.next n) sm tm = (none, some (.next n)) from if_neg (by simpa using hb)]
      rfl
  | leaf n =>
    have h1 : IsNm n := h1
    refine bs_ifF (by wtm_at "g_vt") (by decide +kernel) ?_
    refine bs_ifF (by wtm_at "g_vt") (by decide +kernel) ?_
    refine bs_ifT (by wtm_at "g_vt") (by decide +kernel) ?_ rfl
    refine bs_if (by wtm_at "g_vt") (fun hb => ?_) (fun _ => rfl) (fun hb => ?_)
    · rw [nle] at hb
      wtm_at "g_ret"
      rw [show sideQ (.leaf n) sm tm = (some (.leaf n), none) from if_pos (by simpa using hb)]
      rfl
    · rw [nle] at hb
      wtm_at "g_ret"
      rw [show sideQ (.leaf n) sm tm = (none, some (.leaf n)) from if_neg (by simpa using hb)]
      rfl
  | count =>
    refine bs_ifF (by wtm_at "g_vt") (by decide +kernel) ?_
    refine bs_ifF (by wtm_at "g_vt") (by decide +kernel) ?_
    refine bs_ifF (by wtm_at "g_vt") (by decide +kernel) ?_
    wtm_at "g_ret"
    rfl
  | total =>
    refine bs_ifF (by wtm_at "g_vt") (by decide +kernel) ?_
    refine bs_ifF (by wtm_at "g_vt") (by decide +kernel) ?_
    refine bs_ifF (by wtm_at "g_vt") (by decide +kernel) ?_
    wtm_at "g_ret"
    rfl
  | range a b =>
    refine bs_ifF (by wtm_at "g_vt") (by decide +kernel) ?_
    refine bs_ifF (by wtm_at "g_vt") (by decide +kernel) ?_
    refine bs_ifF (by wtm_at "g_vt") (by decide +kernel) ?_
    wtm_at "g_ret"
    rfl
  | rank n =>
    refine bs_ifF (by wtm_at "g_vt") (by decide +kernel) ?_
    refine bs_ifF (by wtm_at "g_vt") (by decide +kernel) ?_
    refine bs_ifF (by wtm_at "g_vt") (by decide +kernel) ?_
    wtm_at "g_ret"
    rfl
theorem sc_joined_ranges : FnScope ["one", "other", "first", "second"] ["one", "other"] (defScope s_joined_ranges) := ⟨rfl, rfl, rfl, by decide +kernel, rfl, by decide +kernel, by decide +kernel⟩
theorem fn_joined_ranges (C : Wd K mg) : Fn P w K mg base "joined_ranges" ["one", "other"] 1 (spD K 2 rJoin) := by
  obtain ⟨fd, F⟩ := C.defs 31 (mkD "joined_ranges" s_joined_ranges) rfl
  refine fn_mk (C.glo _ (by decide +kernel)) F sc_joined_ranges (fun _ _ _ _ _ _ us hl => match us, hl with | [_, _], _ => rfl) fun X cdv A outer s H E hX hr xk xs r hl hR => ⟨[], ?_⟩
  obtain ⟨k, c, s1, c', s2, rfl, h1, h2, hk, rfl⟩ := hR
  subst hX
  rw [show joinR c s1 c' s2 = (if c = 0 then .rng c' s2 else if c' = 0 then .rng c s1 else .rng (c + c') (some (addL (s1.getD []) (s2.getD [])))) from rfl]
  refine bs_if (by wtm_at "g_vt") (fun hb => ?_) (fun _ => rfl) (fun hb => ?_)
  · rw [if_pos (by simpa using hb)]
    wtm_at "g_ret"
    rfl
  · have hc : ¬ c = 0 := by simpa using hb
    rw [if_neg hc]
    refine bs_if (by wtm_at "g_vt") (fun hb => ?_) (fun _ => rfl) (fun hb => ?_)
    · rw [if_pos (by simpa using hb)]
      wtm_at "g_ret"
      rfl
    · have hc' : ¬ c' = 0 := by simpa using hb
      rw [if_neg hc']
      obtain ⟨ws, rfl, hl1⟩ := h1 hc
      obtain ⟨us, rfl, hl2⟩ := h2 hc'
      have hls : (us.map PyData.int).length = (ws.map PyData.int).length := by simp [hl1, hl2]
      refine' bs_ret (ev_tupd (ds := [.int (c + c'), dI (addL ws us)]) (ed_cons ?a (ed_cons ?b ed_nil rfl) rfl) (by simp)) ?q
      case a => wtm_at "g_ev"
      case b =>
        refine' Ev.is (ev_totup ?C ?hg ?ha ?he ?hp) ?q1
        case C => assumption
        case hg => exact rfl
        case he => exact rfl
        case hp => exact rfl
        case ha =>
          have nd := sc_joined_ranges.nd
          refine' Ev.is (ev_lc (own := [("first", 2), ("second", 3)]) (n := k) (pk := fun _ => true) (g := fun j => .int (ws.getD j 0 + us.getD j 0)) ?c2 ?ok ?hi ?hn ?hg2 ?ht ?he2 ?hL ?hs) ?q2
          case c2 => assumption
          case ok => exact blkOk_by (by kernel_rfl)
          case hi =>
            refine' EvI.is ?z ?n ?f
            case z => wtm_at "g_evi"
            case n => simp [hl1]
            case f => rfl
          case hn => omega
          case hg2 =>
            intro s H C cl fp j hj
            exact tg_pair (by decide) (pg_tup rfl (pgs_cons (pg_name (i := 2) nd rfl (Or.inl rfl)) (pgs_cons (pg_name (i := 3) nd rfl (Or.inl rfl)) pgs_nil)))
          case ht => exact fun _ _ _ _ _ _ _ => vti_nil
          case he2 =>
            intro s H C cl fp j hj _
            have e1 : (ws.map PyData.int).getD j .none = .int (ws.getD j 0) := by simp [List.getD, hl1, hj]
            have e2 : (us.map PyData.int).getD j .none = .int (us.getD j 0) := by simp [List.getD, hl2, hj]
            rw [e1, e2]
            wtm_at "g_ev"
          case hL => exact fun _ _ _ => rfl
          case hs => intro _; rfl
          case q2 => rw [pick_all, addL_map hl1 hl2]
        case q1 => rfl
      case q => rfl
end
end Sg
namespace Sg
section
variable {P : Program} {w : World} {K : PySem.W.Frag} {mg : Str → Option Value} {base : Heap}
theorem isN_dT (o : Option An) : isN (dT o) = o.isNone := by cases o <;> rfl
theorem isN_dQo (o : Option Qn) : isN (dQo o) = o.isNone := by cases o with
  | none => rfl
  | some q => cases q <;> rfl
theorem sc_branch_answer : FnScope ["sealer", "tree", "question", "sides", "one", "other"] ["sealer", "tree", "question"] (defScope s_branch_answer) := ⟨rfl, rfl, rfl, by decide +kernel, rfl, by decide +kernel, by decide +kernel⟩
theorem st_branch_answer (C : Wd K mg) (n : Nat) (F4 : Fn P w K mg base "part_answer" ["sealer", "tree", "question"] (8 + 2 * n) (spD K 3 (rPart n))) : Fn P w K mg base "branch_answer" ["sealer", "tree", "question"] (9 + 2 * n) (spD K 3 (rBranch n)) := by
  obtain ⟨fd, F⟩ := C.defs 33 (mkD "branch_answer" s_branch_answer) rfl
  have F1 := fn_side_questions (P := P) (w := w) (base := base) C
  have F2 := fn_summary_of (P := P) (w := w) (base := base) C n
  have F3 := fn_joined_ranges (P := P) (w := w) (base := base) C
  rw [show 9 + 2 * n = 8 + 2 * n + 1 by omega]
  refine fn_mk (C.glo _ (by decide +kernel)) F sc_branch_answer (fun _ _ _ _ _ _ us hl => match us, hl with | [_, _, _], _ => rfl) fun X cdv A outer s H E hX hr xk xs rs hl hR => ?_
  obtain ⟨m, k, l, r, q, rfl, hm, tl, tr, hk, hdl, hdr, hq, hq1, htold, rfl⟩ := hR
  subst hX
  have s1 := summ_ok (m := m) tl
  have s2 := summ_ok (m := m) tr
  have so := side_ok (s := summ m l) (t := summ m r) hq hq1
  rcases hs : sideQ q (summ m l) (summ m r) with ⟨_ | ql, _ | qr⟩
  · cases q with
    | several ns => cases hq1
    | place k =>
      exfalso
      by_cases c : k < (summ m l).cnt
      · rw [show sideQ (.place k) (summ m l) (summ m r) = (some (.place k), none) from if_pos c] at hs; cases hs
      · rw [show sideQ (.place k) (summ m l) (summ m r) = (none, some (.place (k - (summ m l).cnt))) from if_neg c] at hs; cases hs
    | next x =>
      exfalso
      by_cases c : num x < num (summ m l).hi
      · rw [show sideQ (.next x) (summ m l) (summ m r) = (some (.next x), none) from if_pos c] at hs; cases hs
      · rw [show sideQ (.next x) (summ m l) (summ m r) = (none, some (.next x)) from if_neg c] at hs; cases hs
    | leaf x =>
      exfalso
      by_cases c : num x ≤ num (summ m l).hi
      · rw [show sideQ (.leaf x) (summ m l) (summ m r) = (some (.leaf x), none) from if_pos c] at hs; cases hs
      · rw [show sideQ (.leaf x) (summ m l) (summ m r) = (none, some (.leaf x)) from if_neg c] at hs; cases hs
    | count => cases hs
    | total => cases hs
    | range a b => cases hs
    | rank x => cases hs
  · rw [show ansB m l r q = ansM m r qr by unfold ansB; rw [hs]]
    have hq2 := so.2 qr (by rw [hs])
    have hqr := hq2.1
    have hqr1 := hq2.2
    cases ea : ansM m r qr with
    | ok a =>
      refine ⟨[], ?_⟩
      wtm_at "g_setn"
      rw [hs]
      dsimp only [dQo]
      refine bs_ifF (by wtm_at "g_vt") (isN_dQo (some qr)) ?_
      refine bs_ifT (by wtm_at "g_vt") rfl ?_ rfl
      wtm_at "g_ret"
      rfl
    | error x =>
      apply Exists.intro
      wtm_at "g_setn"
      rw [hs]
      dsimp only [dQo]
      refine bs_ifF (by wtm_at "g_vt") (isN_dQo (some qr)) ?_
      refine bs_ifT (by wtm_at "g_vt") rfl ?_ rfl
      wtm_at "g_retx"
  · rw [show ansB m l r q = ansM m l ql by unfold ansB; rw [hs]]
    have hq2 := so.1 ql (by rw [hs])
    have hqr := hq2.1
    have hqr1 := hq2.2
    cases ea : ansM m l ql with
    | ok a =>
      refine ⟨[], ?_⟩
      wtm_at "g_setn"
      rw [hs]
      dsimp only [dQo]
      refine bs_ifT (by wtm_at "g_vt") rfl ?_ rfl
      wtm_at "g_ret"
      rfl
    | error x =>
      apply Exists.intro
      wtm_at "g_setn"
      rw [hs]
      dsimp only [dQo]
      refine bs_ifT (by wtm_at "g_vt") rfl ?_ rfl
      wtm_at "g_retx"
  · have hq2 := so.1 ql (by rw [hs])
    have hq3 := so.2 qr (by rw [hs])
    have ha1 := hq2.1
    have ha2 := hq2.2
    have hb1 := hq3.1
    have hb2 := hq3.2
    cases ea : ansM m l ql with
    | error x =>
      rw [show ansB m l r q = .error x by unfold ansB; rw [hs]; dsimp only; rw [ea]]
      apply Exists.intro
      wtm_at "g_setn"
      rw [hs]
      dsimp only [dQo]
      refine bs_ifF (by wtm_at "g_vt") (isN_dQo (some qr)) ?_
      refine bs_ifF (by wtm_at "g_vt") (isN_dQo (some ql)) ?_
      wtm_at "g_setx"
    | ok a =>
      cases eb : ansM m r qr with
      | error x =>
        rw [show ansB m l r q = .error x by unfold ansB; rw [hs]; dsimp only; rw [ea]; dsimp only; rw [eb]]
        apply Exists.intro
        wtm_at "g_setn"
        rw [hs]
        dsimp only [dQo]
        refine bs_ifF (by wtm_at "g_vt") (isN_dQo (some qr)) ?_
        refine bs_ifF (by wtm_at "g_vt") (isN_dQo (some ql)) ?_
        wtm_at "g_setn"
        wtm_at "g_setx"
      | ok b =>
        rw [show ansB m l r q = .ok (joinA q a b) by unfold ansB; rw [hs]; dsimp only; rw [ea]; dsimp only; rw [eb]]
        refine ⟨[], ?_⟩
        wtm_at "g_setn"
        rw [hs]
        dsimp only [dQo]
        refine bs_ifF (by wtm_at "g_vt") (isN_dQo (some qr)) ?_
        refine bs_ifF (by wtm_at "g_vt") (isN_dQo (some ql)) ?_
        wtm_at "g_setn"
        wtm_at "g_setn"
        cases q with
        | several ns => cases hq1
        | place k =>
          exfalso
          by_cases c : k < (summ m l).cnt
          · rw [show sideQ (.place k) (summ m l) (summ m r) = (some (.place k), none) from if_pos c] at hs; cases hs
          · rw [show sideQ (.place k) (summ m l) (summ m r) = (none, some (.place (k - (summ m l).cnt))) from if_neg c] at hs; cases hs
        | next x =>
          exfalso
          by_cases c : num x < num (summ m l).hi
          · rw [show sideQ (.next x) (summ m l) (summ m r) = (some (.next x), none) from if_pos c] at hs; cases hs
          · rw [show sideQ (.next x) (summ m l) (summ m r) = (none, some (.next x)) from if_neg c] at hs; cases hs
        | leaf x =>
          exfalso
          by_cases c : num x ≤ num (summ m l).hi
          · rw [show sideQ (.leaf x) (summ m l) (summ m r) = (some (.leaf x), none) from if_pos c] at hs; cases hs
          · rw [show sideQ (.leaf x) (summ m l) (summ m r) = (none, some (.leaf x)) from if_neg c] at hs; cases hs
        | count => cases htold
        | total => cases htold
        | range x y =>
          cases hs
          obtain ⟨c1, u1, rfl, r1⟩ := ans_range tl ea
          obtain ⟨c2, u2, rfl, r2⟩ := ans_range tr eb
          refine bs_ifT (by wtm_at "g_vt") (by decide +kernel) ?_ rfl
          wtm_at "g_ret"
          rfl
        | rank x =>
          cases hs
          obtain ⟨c1, rfl⟩ := ans_rank ea
          obtain ⟨c2, rfl⟩ := ans_rank eb
          refine bs_ifF (by wtm_at "g_vt") (by decide +kernel) ?_
          dsimp only [dA]
          wtm_at "g_ret"
          rfl
end
end Sg
namespace Sg
section
variable {P : Program} {w : World} {K : PySem.W.Frag} {mg : Str → Option Value} {base : Heap}
theorem sc_part_answer : FnScope ["sealer", "tree", "question", "found"] ["sealer", "tree", "question"] (defScope s_part_answer) := ⟨rfl, rfl, rfl, by decide +kernel, rfl, by decide +kernel, by decide +kernel⟩
theorem st_part_answer (C : Wd K mg) (C2 : We P w K mg) (n : Nat) (IH : ∀ j, n = j + 1 → Fn P w K mg base "branch_answer" ["sealer", "tree", "question"] (9 + 2 * j) (spD K 3 (rBranch j))) : Fn P w K mg base "part_answer" ["sealer", "tree", "question"] (7 + 2 * n + 1) (spD K 3 (rPart n)) := by
  obtain ⟨fd, F⟩ := C.defs 32 (mkD "part_answer" s_part_answer) rfl
  have F1 := fn_told (P := P) (w := w) (base := base) C
  have F2 := fn_summary_of (P := P) (w := w) (base := base) C n
  have F3 := fn_least_of (P := P) (w := w) (base := base) C
  refine fn_mk (C.glo _ (by decide +kernel)) F sc_part_answer (fun _ _ _ _ _ _ us hl => match us, hl with | [_, _, _], _ => rfl) fun X cdv A outer s H E hX hr xk xs rs hl hR => ?_
  obtain ⟨m, k, t, q, rfl, hm, ht, hk, hd, hq, hq1, rfl⟩ := hR
  have s1 := summ_ok (m := m) ht
  subst hX
  cases htd : toldM q (summ m t) with
  | some a =>
    rw [show ansM m t q = .ok a by
      cases t with
      | cut s => show (match toldM q s with | some a => Except.ok a | none => .error s.lo) = _; rw [show toldM q s = some a from htd]
      | leaf n ws ns => show (match toldM q (summ m (.leaf n ws ns)) with | some a => Except.ok a | none => .ok (.lf ws ns)) = _; rw [htd]
      | br l r => rw [ansM_br, htd]]
    refine ⟨[], ?_⟩
    wtm_at "g_setn"
    rw [htd]
    refine bs_ifT (by wtm_at "g_vt") (by rw [isN_dT]; rfl) ?_ rfl
    dsimp only [dT]
    wtm_at "g_ret"
    rfl
  | none =>
    cases t with
    | cut sm =>
      have htd : toldM q sm = none := htd
      rw [show ansM m (.cut sm) q = .error sm.lo by show (match toldM q sm with | some a => Except.ok a | none => .error sm.lo) = _; rw [htd]]
      apply Exists.intro
      wtm_at "g_setn"
      rw [show summ m (.cut sm) = sm from rfl, htd]
      refine bs_ifF (by wtm_at "g_vt") (by rw [isN_dT]; rfl) ?_
      refine bs_ifT (by wtm_at "g_vt") (by decide +kernel) ?_ rfl
      refine' bs_stop (b1_notshown C2 ?cx hr ?e ?g ?s1 ?s2) rfl
      case cx => assumption
      case g => exact rfl
      case s1 => exact rfl
      case s2 => exact rfl
      case e =>
        show Ev _ _ _ (.d (.str (loOf (.cut sm))))
        wtm_at "g_ev"
    | leaf nm ws ns =>
      rw [show ansM m (.leaf nm ws ns) q = .ok (.lf ws ns) by show (match toldM q (summ m (.leaf nm ws ns)) with | some a => Except.ok a | none => .ok (.lf ws ns)) = _; rw [htd]]
      refine ⟨[], ?_⟩
      wtm_at "g_setn"
      rw [htd]
      refine bs_ifF (by wtm_at "g_vt") (by rw [isN_dT]; rfl) ?_
      refine bs_ifF (by wtm_at "g_vt") (by decide +kernel) ?_
      refine bs_ifT (by wtm_at "g_vt") (by decide +kernel) ?_ rfl
      wtm_at "g_ret"
      rfl
    | br l r =>
      have hd' : max (depth l) (depth r) + 1 ≤ n := hd
      obtain ⟨j, rfl⟩ : ∃ j, n = j + 1 := ⟨n - 1, by omega⟩
      have F4 := IH j rfl
      have hl1 : depth l ≤ j := by omega
      have hl2 : depth r ≤ j := by omega
      have t1 := ht.1
      have t2 := ht.2
      rw [show ansM m (.br l r) q = ansB m l r q by rw [ansM_br, htd]]
      cases ea : ansB m l r q with
      | ok a =>
        refine ⟨[], ?_⟩
        wtm_at "g_setn"
        rw [htd]
        refine bs_ifF (by wtm_at "g_vt") (by rw [isN_dT]; rfl) ?_
        refine bs_ifF (by wtm_at "g_vt") (by decide +kernel) ?_
        refine bs_ifF (by wtm_at "g_vt") (by decide +kernel) ?_
        wtm_at "g_ret"
        rfl
      | error x =>
        apply Exists.intro
        wtm_at "g_setn"
        rw [htd]
        refine bs_ifF (by wtm_at "g_vt") (by rw [isN_dT]; rfl) ?_
        refine bs_ifF (by wtm_at "g_vt") (by decide +kernel) ?_
        refine bs_ifF (by wtm_at "g_vt") (by decide +kernel) ?_
        wtm_at "g_retx"
theorem fn_part_answer (C : Wd K mg) (C2 : We P w K mg) : ∀ n, Fn P w K mg base "part_answer" ["sealer", "tree", "question"] (8 + 2 * n) (spD K 3 (rPart n))
  | 0 => st_part_answer C C2 0 (fun j h => by omega)
  | n + 1 => by
    have z := st_part_answer (P := P) (w := w) (base := base) C C2 (n + 1) (fun j h => by
      have e : j = n := by omega
      subst e
      exact st_branch_answer C j (fn_part_answer C C2 j))
    rw [show 8 + 2 * (n + 1) = 7 + 2 * (n + 1) + 1 by omega]
    exact z
end
end Sg
namespace Sg
section
variable {P : Program} {w : World} {K : PySem.W.Frag} {mg : Str → Option Value} {base : Heap}
theorem sc_ask : FnScope ["sealer", "tree", "question", "name"] ["sealer", "tree", "question"] (defScope s_ask) := ⟨rfl, rfl, rfl, by decide +kernel, rfl, by decide +kernel, by decide +kernel⟩
theorem fn_ask1 (C : Wd K mg) (C2 : We P w K mg) (n : Nat) : Fn P w K mg base "ask" ["sealer", "tree", "question"] (9 + 2 * n) (spD K 3 (rAsk1 n)) := by
  obtain ⟨fd, F⟩ := C.defs 34 (mkD "ask" s_ask) rfl
  have F1 := fn_part_answer (P := P) (w := w) (base := base) C C2 n
  rw [show 9 + 2 * n = 8 + 2 * n + 1 by omega]
  refine fn_mk (C.glo _ (by decide +kernel)) F sc_ask (fun _ _ _ _ _ _ us hl => match us, hl with | [_, _, _], _ => rfl) fun X cdv A outer s H E hX hr xk xs rs hl hR => ?_
  obtain ⟨m, k, t, q, rfl, hm, ht, hk, hd, hq, hq1, rfl⟩ := hR
  subst hX
  cases ea : ansM m t q with
  | ok a =>
    refine ⟨[], ?_⟩
    cases q with
    | several ns => cases hq1
    | _ =>
      refine bs_ifF (by wtm_at "g_vt") (by decide +kernel) ?_
      refine bs_ifF (by wtm_at "g_vt") (isN_dTr t) ?_
      wtm_at "g_ret"
      rfl
  | error x =>
    cases q with
    | several ns => cases hq1
    | _ =>
      apply Exists.intro
      refine bs_ifF (by wtm_at "g_vt") (by decide +kernel) ?_
      refine bs_ifF (by wtm_at "g_vt") (isN_dTr t) ?_
      wtm_at "g_retx"
theorem fn_ask (C : Wd K mg) (C2 : We P w K mg) (n : Nat) : Fn P w K mg base "ask" ["sealer", "tree", "question"] (10 + 2 * n) (spD K 3 (rAsk n)) := by
  obtain ⟨fd, F⟩ := C.defs 34 (mkD "ask" s_ask) rfl
  have F1 := fn_part_answer (P := P) (w := w) (base := base) C C2 n
  have F2 := fn_ask1 (P := P) (w := w) (base := base) C C2 n
  rw [show 10 + 2 * n = 9 + 2 * n + 1 by omega]
  refine fn_mk (C.glo _ (by decide +kernel)) F sc_ask (fun _ _ _ _ _ _ us hl => match us, hl with | [_, _, _], _ => rfl) fun X cdv A outer s H E hX hr xk xs rs hl hR => ?_
  obtain ⟨m, k, t, q, rfl, hm, ht, hk, hd, hq, rfl⟩ := hR
  subst hX
  by_cases hq1 : q.one = true
  · cases ea : ansM m t q with
    | ok a =>
      refine ⟨[], ?_⟩
      rw [askM_one hq1, ea]
      cases q with
      | several ns => cases hq1
      | _ =>
        refine bs_ifF (by wtm_at "g_vt") (by decide +kernel) ?_
        refine bs_ifF (by wtm_at "g_vt") (isN_dTr t) ?_
        wtm_at "g_ret"
        rfl
    | error x =>
      rw [askM_one hq1, ea]
      cases q with
      | several ns => cases hq1
      | _ =>
        apply Exists.intro
        refine bs_ifF (by wtm_at "g_vt") (by decide +kernel) ?_
        refine bs_ifF (by wtm_at "g_vt") (isN_dTr t) ?_
        wtm_at "g_retx"
  cases q with
  | several ns =>
    have hns : ns.length ≤ 10 ∧ ∀ x ∈ ns, IsNm x := hq
    have hget : ∀ k, k < ns.length → (ns.map PyData.str).getD k .none = .str (ns.getD k ⟨#[]⟩) := fun k hk => by simp [List.getD, hk]
    have hnm : ∀ k, k < ns.length → IsNm (ns.getD k ⟨#[]⟩) := fun k hk => hns.2 _ (by simp [List.getD, hk])
    cases ea : sevM m t ns with
    | ok as =>
      refine ⟨[], ?_⟩
      obtain ⟨e1, e2⟩ := sev_ok ea
      rw [show askM m t (.several ns) = .ok (.tuple (as.map dA)) by show (match sevM m t ns with | .error e => Except.error e | .ok as => Except.ok (PyData.tuple (as.map dA))) = _; rw [ea], e1]
      refine bs_ifT (by wtm_at "g_vt") (by decide +kernel) ?_ rfl
      refine' bs_ret (ev_totup ?C ?hg ?ha ?he ?hp) ?q
      case C => assumption
      case hg => exact rfl
      case he => exact rfl
      case hp => exact rfl
      case q => rfl
      case ha =>
        refine' ev_lcm (n := ns.length) ?y1 ?y2 ?y3 ?y4 ?y5 ?y6 ?y7 ?y8 ?y9
        case y1 => exact rfl
        case y2 => assumption
        case y3 => exact blkOk_by (by kernel_rfl)
        case y6 => intro _ _ _ _ _; refine pg_name ?nd rfl ?lc <;> first | exact Or.inl rfl | exact Or.inr rfl | (have z := XOk.nd (by assumption); exact z)
        case y9 => intro _; rfl
        case y4 =>
          refine' EvI.is ?z ?n ?f
          case z => wtm_at "g_evi"
          case n => exact List.length_map ..
          case f => rfl
        case y5 => omega
        case y8 => exact fun k hk => noL_gAns
        case y7 =>
          intro s H C' cl fp k hk
          obtain ⟨a, ha⟩ := e2 k hk
          have hnk := hnm k hk
          rw [show itF (.tuple (ns.map PyData.str)) k = .str (ns.getD k ⟨#[]⟩) from hget k hk]
          rw [show gAns m t ns k = dA a by unfold gAns; rw [ha]]
          wtm_at "g_ev"
    | error x =>
      obtain ⟨j, hj, e1, e2⟩ := sev_er ea
      rw [show askM m t (.several ns) = .error x by show (match sevM m t ns with | .error e => Except.error e | .ok as => Except.ok (PyData.tuple (as.map dA))) = _; rw [ea]]
      apply Exists.intro
      refine bs_ifT (by wtm_at "g_vt") (by decide +kernel) ?_ rfl
      refine' bs_stop (b1_retX (evx_totup ?C ?hg ?ha ?he ?hp)) rfl
      case C => assumption
      case hg => exact rfl
      case he => exact rfl
      case hp => exact rfl
      case ha =>
        refine' evx_lc1 (n := ns.length) (j := j) (g := gAns m t ns) ?y1 ?y2 rfl rfl rfl ?y3 ?y4 ?y5 hj ?y6 ?y7 ?y8 ?yX ?y9
        case y1 => exact rfl
        case y2 => assumption
        case y3 => exact blkOk_by (by kernel_rfl)
        case y6 => intro _ _ _ _ _; refine pg_name ?nd2 rfl ?lc2 <;> first | exact Or.inl rfl | exact Or.inr rfl | (have z := XOk.nd (by assumption); exact z)
        case y9 => intro _; rfl
        case y4 =>
          refine' EvI.is ?z ?n ?f
          case z => wtm_at "g_evi"
          case n => exact List.length_map ..
          case f => rfl
        case y5 => omega
        case y8 => exact fun k hk => noL_gAns
        case y7 =>
          intro s H C' cl fp k hk
          obtain ⟨a, ha⟩ := e1 k hk
          have hnk := hnm k (by omega)
          rw [show itF (.tuple (ns.map PyData.str)) k = .str (ns.getD k ⟨#[]⟩) from hget k (by omega)]
          rw [show gAns m t ns k = dA a by unfold gAns; rw [ha]]
          wtm_at "g_ev"
        case yX =>
          intro s H C' cl fp
          have hnk := hnm j hj
          rw [show itF (.tuple (ns.map PyData.str)) j = .str (ns.getD j ⟨#[]⟩) from hget j hj]
          refine' evp_call ?w1 ?w2 ?w3 ?w4 ?w5 ?w6 ?w7 ?w8 ?w9 ?w0
          case w1 => exact F2
          case w2 => exact hr
          case w3 => omega
          case w4 => wtm_at "g_ea"
          case w6 => exact rfl
          case w7 => exact rfl
          case w8 => decide +kernel
          case w9 => exact rfl
          case w0 => exact rfl
          case w5 => wtm_at "g_R"
  | _ => exact absurd rfl hq1
theorem sc_answer : FnScope ["sealer", "root", "tree", "question"] ["sealer", "root", "tree", "question"] (defScope s_answer) := ⟨rfl, rfl, rfl, by decide +kernel, rfl, by decide +kernel, by decide +kernel⟩
theorem fn_answer (C : Wd K mg) (C2 : We P w K mg) (n : Nat) : Fn P w K mg base "answer" ["sealer", "root", "tree", "question"] (11 + 2 * n) (spD K 4 (rAnswer n)) := by
  obtain ⟨fd, F⟩ := C.defs 35 (mkD "answer" s_answer) rfl
  have F1 := fn_is_well_formed (P := P) (w := w) (base := base) C n
  have F2 := fn_root_of (P := P) (w := w) (base := base) C n
  have F3 := fn_ask (P := P) (w := w) (base := base) C C2 n
  rw [show 11 + 2 * n = 10 + 2 * n + 1 by omega]
  refine fn_mk (C.glo _ (by decide +kernel)) F sc_answer (fun _ _ _ _ _ _ us hl => match us, hl with | [_, _, _, _], _ => rfl) fun X cdv A outer s H E hX hr xk xs rs hl hR => ?_
  obtain ⟨m, k, t, q, rfl, hm, ht, hk1, hk, hd, hq, rfl⟩ := hR
  have ho := ht.ok
  subst hX
  cases ea : askM m t q with
  | ok a =>
    refine ⟨[], ?_⟩
    refine bs_ifF (by wtm_at "g_vt") (by decide +kernel) ?_
    refine bs_ifF (by wtm_at "g_vt") (by simp) ?_
    wtm_at "g_ret"
    rfl
  | error x =>
    apply Exists.intro
    refine bs_ifF (by wtm_at "g_vt") (by decide +kernel) ?_
    refine bs_ifF (by wtm_at "g_vt") (by simp) ?_
    wtm_at "g_retx"
end
end Sg
namespace Sg
section
variable {P : Program} {w : World} {K : PySem.W.Frag} {mg : Str → Option Value} {base : Heap}
theorem sh_dI (ns : List Int) : SeqAt.shaped (dI ns) = true := (shp_dI (n := 0) ns).sh (by decide)
theorem isN_dW (o : Option (List Int × List Int)) : isN (dW o) = o.isNone := by cases o <;> rfl
theorem sc_is_collision : FnScope ["sealer", "first", "second"] ["sealer", "first", "second"] (defScope s_is_collision) := ⟨rfl, rfl, rfl, by decide +kernel, rfl, by decide +kernel, by decide +kernel⟩
theorem fn_is_collision (C : Wd K mg) : Fn P w K mg base "is_collision" ["sealer", "first", "second"] 3 (spD K 3 rCollision) := by
  obtain ⟨fd, F⟩ := C.defs 36 (mkD "is_collision" s_is_collision) rfl
  have F1 := fm_seal (P := P) (w := w) (base := base) C
  refine fn_mk (C.glo _ (by decide +kernel)) F sc_is_collision (fun _ _ _ _ _ _ us hl => match us, hl with | [_, _, _], _ => rfl) fun X cdv A outer s H E hX hr xk xs r hl hR => ⟨[], ?_⟩
  obtain ⟨m, x, y, rfl, ⟨hm1, hm2⟩, h1, h2, rfl⟩ := hR
  have s1 := sh_dI x
  have s2 := sh_dI y
  subst hX
  refine' bs_ret (ev_andB (l := decide (sealF m x = sealF m y)) ?a fun _ => ev_one ?c) ?q
  case a => wtm_at "g_ev"
  case c => wtm_at "g_ev"
  case q => rw [eqv_dI]
theorem sc_walk : FnScope ["sealer", "first", "second", "one", "other", "found"] ["sealer", "first", "second"] (defScope s_walk) := ⟨rfl, rfl, rfl, by decide +kernel, rfl, by decide +kernel, by decide +kernel⟩
theorem st_walk (C : Wd K mg) (n : Nat) (IH : ∀ j, n = j + 1 → Fn P w K mg base "walk" ["sealer", "first", "second"] (9 + j) (spD K 3 (rWalk j))) : Fn P w K mg base "walk" ["sealer", "first", "second"] (8 + n + 1) (spD K 3 (rWalk n)) := by
  obtain ⟨fd, F⟩ := C.defs 37 (mkD "walk" s_walk) rfl
  have F1 := fn_row_of (P := P) (w := w) (base := base) C n
  refine fn_mk (C.glo _ (by decide +kernel)) F sc_walk (fun _ _ _ _ _ _ us hl => match us, hl with | [_, _, _], _ => rfl) fun X cdv A outer s H E hX hr xk xs rs hl hR => ⟨[], ?_⟩
  obtain ⟨m, k, a, b, rfl, hm, ta, tb, hk, hda, hdb, rfl⟩ := hR
  have s1 := sh_dI (rowOf m a)
  have s2 := sh_dI (rowOf m b)
  subst hX
  cases a with
  | cut sm =>
    cases b with
    | _ =>
      refine bs_ifT (by wtm_at "g_vt") (by decide +kernel) ?_ rfl
      wtm_at "g_ret"
      rfl
  | leaf x ws ns =>
    have hc1 : cutP (.leaf x ws ns) = false := rfl
    cases b with
    | cut sm =>
      refine bs_ifT (by wtm_at "g_vt") (by decide +kernel) ?_ rfl
      wtm_at "g_ret"
      rfl
    | leaf y us ms =>
      have hc2 : cutP (.leaf y us ms) = false := rfl
      rw [show walkM m (.leaf x ws ns) (.leaf y us ms) = (if rowOf m (.leaf x ws ns) = rowOf m (.leaf y us ms) then none else some (rowOf m (.leaf x ws ns), rowOf m (.leaf y us ms))) from rfl]
      refine bs_ifF (by wtm_at "g_vt") (by decide +kernel) ?_
      wtm_at "g_par"
      refine bs_if (by wtm_at "g_vt") (fun hb => ?_) (fun _ => rfl) (fun hb => ?_)
      · rw [eqv_dI] at hb
        rw [if_neg (by simpa using hb)]
        wtm_at "g_ret"
        rfl
      · rw [eqv_dI] at hb
        rw [if_pos (by simpa using hb)]
        refine bs_ifT (by wtm_at "g_vt") (by decide +kernel) ?_ rfl
        wtm_at "g_ret"
        rfl
    | br l r =>
      have hc2 : cutP (.br l r) = false := rfl
      rw [show walkM m (.leaf x ws ns) (.br l r) = (if rowOf m (.leaf x ws ns) = rowOf m (.br l r) then none else some (rowOf m (.leaf x ws ns), rowOf m (.br l r))) from rfl]
      refine bs_ifF (by wtm_at "g_vt") (by decide +kernel) ?_
      wtm_at "g_par"
      refine bs_if (by wtm_at "g_vt") (fun hb => ?_) (fun _ => rfl) (fun hb => ?_)
      · rw [eqv_dI] at hb
        rw [if_neg (by simpa using hb)]
        wtm_at "g_ret"
        rfl
      · rw [eqv_dI] at hb
        have hb : rowOf m (.leaf x ws ns) = rowOf m (.br l r) := by simpa using hb
        exact absurd hb.symm br_ne_leaf
  | br l r =>
    have hc1 : cutP (.br l r) = false := rfl
    cases b with
    | cut sm =>
      refine bs_ifT (by wtm_at "g_vt") (by decide +kernel) ?_ rfl
      wtm_at "g_ret"
      rfl
    | leaf y us ms =>
      have hc2 : cutP (.leaf y us ms) = false := rfl
      rw [show walkM m (.br l r) (.leaf y us ms) = (if rowOf m (.br l r) = rowOf m (.leaf y us ms) then none else some (rowOf m (.br l r), rowOf m (.leaf y us ms))) from rfl]
      refine bs_ifF (by wtm_at "g_vt") (by decide +kernel) ?_
      wtm_at "g_par"
      refine bs_if (by wtm_at "g_vt") (fun hb => ?_) (fun _ => rfl) (fun hb => ?_)
      · rw [eqv_dI] at hb
        rw [if_neg (by simpa using hb)]
        wtm_at "g_ret"
        rfl
      · rw [eqv_dI] at hb
        have hb : rowOf m (.br l r) = rowOf m (.leaf y us ms) := by simpa using hb
        exact absurd hb br_ne_leaf
    | br l' r' =>
      have hc2 : cutP (.br l' r') = false := rfl
      have hd' : max (depth l) (depth r) + 1 ≤ n := hda
      have hd2' : max (depth l') (depth r') + 1 ≤ n := hdb
      obtain ⟨j, rfl⟩ : ∃ j, n = j + 1 := ⟨n - 1, by omega⟩
      have F4 := IH j rfl
      have hl1 : depth l ≤ j := by omega
      have hl2 : depth r ≤ j := by omega
      have hl3 : depth l' ≤ j := by omega
      have hl4 : depth r' ≤ j := by omega
      have t1 := ta.1
      have t2 := ta.2
      have t3 := tb.1
      have t4 := tb.2
      rw [show walkM m (.br l r) (.br l' r') = (if rowOf m (.br l r) = rowOf m (.br l' r') then (match walkM m l l' with | some p => some p | none => walkM m r r') else some (rowOf m (.br l r), rowOf m (.br l' r'))) from rfl]
      refine bs_ifF (by wtm_at "g_vt") (by decide +kernel) ?_
      wtm_at "g_par"
      refine bs_if (by wtm_at "g_vt") (fun hb => ?_) (fun _ => rfl) (fun hb => ?_)
      · rw [eqv_dI] at hb
        rw [if_neg (by simpa using hb)]
        wtm_at "g_ret"
        rfl
      · rw [eqv_dI] at hb
        rw [if_pos (by simpa using hb)]
        refine bs_ifF (by wtm_at "g_vt") (by decide +kernel) ?_
        wtm_at "g_setn"
        cases hw : walkM m l l' with
        | some p =>
          refine bs_ifT (by wtm_at "g_vt") (by rw [isN_dW]; rfl) ?_ rfl
          wtm_at "g_ret"
          rfl
        | none =>
          refine bs_ifF (by wtm_at "g_vt") (by rw [isN_dW]; rfl) ?_
          wtm_at "g_ret"
          rfl
theorem fn_walk (C : Wd K mg) : ∀ n, Fn P w K mg base "walk" ["sealer", "first", "second"] (9 + n) (spD K 3 (rWalk n))
  | 0 => st_walk C 0 (fun j h => by omega)
  | n + 1 => by
    have z := st_walk (P := P) (w := w) (base := base) C (n + 1) (fun j h => by
      have e : j = n := by omega
      subst e
      exact fn_walk C j)
    rw [show 9 + (n + 1) = 8 + (n + 1) + 1 by omega]
    exact z
theorem sc_find_collision : FnScope ["sealer", "first", "second", "one", "other"] ["sealer", "first", "second"] (defScope s_find_collision) := ⟨rfl, rfl, rfl, by decide +kernel, rfl, by decide +kernel, by decide +kernel⟩
theorem fn_find_collision (C : Wd K mg) (n : Nat) : Fn P w K mg base "find_collision" ["sealer", "first", "second"] (10 + n) (spD K 3 (rFind n)) := by
  obtain ⟨fd, F⟩ := C.defs 38 (mkD "find_collision" s_find_collision) rfl
  have F1 := fn_root_of (P := P) (w := w) (base := base) C n
  have F2 := fn_top_row (P := P) (w := w) (base := base) C n
  have F3 := fn_walk (P := P) (w := w) (base := base) C n
  rw [show 10 + n = 9 + n + 1 by omega]
  refine fn_mk (C.glo _ (by decide +kernel)) F sc_find_collision (fun _ _ _ _ _ _ us hl => match us, hl with | [_, _, _], _ => rfl) fun X cdv A outer s H E hX hr xk xs rs hl hR => ⟨[], ?_⟩
  obtain ⟨m, k, a, b, rfl, hm, ta, tb, hk, hda, hdb, hroot, rfl⟩ := hR
  have s1 := sh_dI (topRow m a)
  have s2 := sh_dI (topRow m b)
  subst hX
  refine bs_ifF (by wtm_at "g_vt") (by simp [hroot]) ?_
  wtm_at "g_par"
  rw [show findM m a b = (if rootOf m a = rootOf m b then (if topRow m a = topRow m b then walkM m a b else some (topRow m a, topRow m b)) else none) from rfl, if_pos hroot]
  refine bs_if (by wtm_at "g_vt") (fun hb => ?_) (fun _ => rfl) (fun hb => ?_)
  · rw [eqv_dI] at hb
    rw [if_neg (by simpa using hb)]
    wtm_at "g_ret"
    rfl
  · rw [eqv_dI] at hb
    rw [if_pos (by simpa using hb)]
    refine bs_ifF (by wtm_at "g_vt") (isN_dTr a) ?_
    wtm_at "g_ret"
    rfl
end
end Sg
namespace Sg
section
variable {P : Program} {w : World} {K : PySem.W.Frag} {mg : Str → Option Value} {base : Heap}
theorem sc_union : FnScope ["first", "second"] ["first", "second"] (defScope s_union) := ⟨rfl, rfl, rfl, by decide +kernel, rfl, by decide +kernel, by decide +kernel⟩
theorem st_union (C : Wd K mg) (n : Nat) (IH : ∀ j, n = j + 1 → Fn P w K mg base "union" ["first", "second"] (1 + j) (spD K 2 (rUnion j))) : Fn P w K mg base "union" ["first", "second"] (n + 1) (spD K 2 (rUnion n)) := by
  obtain ⟨fd, F⟩ := C.defs 39 (mkD "union" s_union) rfl
  refine fn_mk (C.glo _ (by decide +kernel)) F sc_union (fun _ _ _ _ _ _ us hl => match us, hl with | [_, _], _ => rfl) fun X cdv A outer s H E hX hr xk xs rs hl hR => ⟨[], ?_⟩
  obtain ⟨a, b, rfl, hda, rfl⟩ := hR
  subst hX
  cases a with
  | cut sm =>
    refine bs_ifT (by wtm_at "g_vt") (by decide +kernel) ?_ rfl
    wtm_at "g_ret"
    rfl
  | leaf x ws ns =>
    cases b with
    | _ =>
      refine bs_ifF (by wtm_at "g_vt") (by decide +kernel) ?_
      refine bs_ifT (by wtm_at "g_vt") (by decide +kernel) ?_ rfl
      wtm_at "g_ret"
      rfl
  | br l r =>
    cases b with
    | cut sm =>
      refine bs_ifF (by wtm_at "g_vt") (by decide +kernel) ?_
      refine bs_ifT (by wtm_at "g_vt") (by decide +kernel) ?_ rfl
      wtm_at "g_ret"
      rfl
    | leaf y us ms =>
      refine bs_ifF (by wtm_at "g_vt") (by decide +kernel) ?_
      refine bs_ifT (by wtm_at "g_vt") (by decide +kernel) ?_ rfl
      wtm_at "g_ret"
      rfl
    | br l' r' =>
      have hd' : max (depth l) (depth r) + 1 ≤ n := hda
      obtain ⟨j, rfl⟩ : ∃ j, n = j + 1 := ⟨n - 1, by omega⟩
      have F4 := IH j rfl
      have hl1 : depth l ≤ j := by omega
      have hl2 : depth r ≤ j := by omega
      refine bs_ifF (by wtm_at "g_vt") (by decide +kernel) ?_
      refine bs_ifF (by wtm_at "g_vt") (by decide +kernel) ?_
      wtm_at "g_ret"
      rfl
theorem fn_union (C : Wd K mg) : ∀ n, Fn P w K mg base "union" ["first", "second"] (1 + n) (spD K 2 (rUnion n))
  | 0 => st_union C 0 (fun j h => by omega)
  | n + 1 => by
    have z := st_union (P := P) (w := w) (base := base) C (n + 1) (fun j h => by
      have e : j = n := by omega
      subst e
      exact fn_union C j)
    rw [show 1 + (n + 1) = n + 1 + 1 by omega]
    exact z
theorem fe_nx {X : Cx} {body : List Stmt} {ρ0 ρ : Rho} (h : Bs X body ρ0 (.nx ρ)) : ∃ fl, FlEnd (.ok (.d .none)) fl ∧ Bs X body ρ0 fl := ⟨_, .inr ⟨rfl, _, rfl⟩, h⟩
theorem fe_ex {X : Cx} {body : List Stmt} {ρ0 ρ : Rho} {y : Xn} (h : Bs X body ρ0 (.ex y ρ)) : ∃ fl, FlEnd (.ex y) fl ∧ Bs X body ρ0 fl := ⟨_, ⟨_, rfl⟩, h⟩
theorem fe_rt {X : Cx} {body : List Stmt} {ρ0 : Rho} {y : DV} (h : Bs X body ρ0 (.rt y)) : ∃ fl, FlEnd (.ok y) fl ∧ Bs X body ρ0 fl := ⟨_, .inl rfl, h⟩
theorem sc_check_alike : FnScope ["sealer", "first", "second", "one", "other"] ["sealer", "first", "second"] (defScope s_check_alike) := ⟨rfl, rfl, rfl, by decide +kernel, rfl, by decide +kernel, by decide +kernel⟩
theorem st_check_alike (C : Wd K mg) (C2 : We P w K mg) (n : Nat) (IH : ∀ j, n = j + 1 → Fn P w K mg base "check_alike" ["sealer", "first", "second"] (9 + j) (spD K 3 (rAlike j))) : Fn P w K mg base "check_alike" ["sealer", "first", "second"] (8 + n + 1) (spD K 3 (rAlike n)) := by
  obtain ⟨fd, F⟩ := C.defs 40 (mkD "check_alike" s_check_alike) rfl
  have F1 := fn_row_of (P := P) (w := w) (base := base) C n
  refine fn_mk2 (C.glo _ (by decide +kernel)) F sc_check_alike (fun _ _ _ _ _ _ us hl => match us, hl with | [_, _, _], _ => rfl) fun X cdv A outer s H E hX hr xk xs rs hl hR => ?_
  obtain ⟨m, k, a, b, rfl, hm, ta, tb, hk, hda, hdb, rfl⟩ := hR
  have s1 := sh_dI (rowOf m a)
  have s2 := sh_dI (rowOf m b)
  subst hX
  cases a with
  | cut sm =>
    cases b with
    | _ => exact fe_rt (bs_ifT (by wtm_at "g_vt") (by decide +kernel) (bs_one b1_retN) rfl)
  | leaf x ws ns =>
    have hc1 : cutP (.leaf x ws ns) = false := rfl
    cases b with
    | cut sm => exact fe_rt (bs_ifT (by wtm_at "g_vt") (by decide +kernel) (bs_one b1_retN) rfl)
    | leaf y us ms =>
      have hc2 : cutP (.leaf y us ms) = false := rfl
      rw [show walkM m (.leaf x ws ns) (.leaf y us ms) = (if rowOf m (.leaf x ws ns) = rowOf m (.leaf y us ms) then none else some (rowOf m (.leaf x ws ns), rowOf m (.leaf y us ms))) from rfl]
      by_cases hb : rowOf m (.leaf x ws ns) = rowOf m (.leaf y us ms)
      · rw [if_pos hb]
        apply fe_nx
        refine bs_ifF (by wtm_at "g_vt") (by decide +kernel) ?_
        wtm_at "g_par"
        refine bs_ifF (by wtm_at "g_vt") (by rw [eqv_dI]; simp [hb]) ?_
        exact bs_ifF (by wtm_at "g_vt") (by decide +kernel) bs_nil
      · rw [if_neg hb]
        apply fe_ex
        refine bs_ifF (by wtm_at "g_vt") (by decide +kernel) ?_
        wtm_at "g_par"
        refine bs_ifT (by wtm_at "g_vt") (by rw [eqv_dI]; simp [hb]) ?_ rfl
        refine' bs_one (b1_unlike C2 ?cx hr ?e ?e' ?g ?s1 ?s3 ?s2)
        case cx => assumption
        case g => exact rfl
        case s1 => exact rfl
        case s3 => exact rfl
        case s2 => exact rfl
        case e => wtm_at "g_ev"
        case e' => wtm_at "g_ev"
    | br l r =>
      have hc2 : cutP (.br l r) = false := rfl
      rw [show walkM m (.leaf x ws ns) (.br l r) = (if rowOf m (.leaf x ws ns) = rowOf m (.br l r) then none else some (rowOf m (.leaf x ws ns), rowOf m (.br l r))) from rfl]
      have hb : ¬ rowOf m (.leaf x ws ns) = rowOf m (.br l r) := fun h => br_ne_leaf h.symm
      rw [if_neg hb]
      apply fe_ex
      refine bs_ifF (by wtm_at "g_vt") (by decide +kernel) ?_
      wtm_at "g_par"
      refine bs_ifT (by wtm_at "g_vt") (by rw [eqv_dI]; simp [hb]) ?_ rfl
      refine' bs_one (b1_unlike C2 ?cx hr ?e ?e' ?g ?s1 ?s3 ?s2)
      case cx => assumption
      case g => exact rfl
      case s1 => exact rfl
      case s3 => exact rfl
      case s2 => exact rfl
      case e => wtm_at "g_ev"
      case e' => wtm_at "g_ev"
  | br l r =>
    have hc1 : cutP (.br l r) = false := rfl
    cases b with
    | cut sm => exact fe_rt (bs_ifT (by wtm_at "g_vt") (by decide +kernel) (bs_one b1_retN) rfl)
    | leaf y us ms =>
      have hc2 : cutP (.leaf y us ms) = false := rfl
      rw [show walkM m (.br l r) (.leaf y us ms) = (if rowOf m (.br l r) = rowOf m (.leaf y us ms) then none else some (rowOf m (.br l r), rowOf m (.leaf y us ms))) from rfl]
      have hb : ¬ rowOf m (.br l r) = rowOf m (.leaf y us ms) := br_ne_leaf
      rw [if_neg hb]
      apply fe_ex
      refine bs_ifF (by wtm_at "g_vt") (by decide +kernel) ?_
      wtm_at "g_par"
      refine bs_ifT (by wtm_at "g_vt") (by rw [eqv_dI]; simp [hb]) ?_ rfl
      refine' bs_one (b1_unlike C2 ?cx hr ?e ?e' ?g ?s1 ?s3 ?s2)
      case cx => assumption
      case g => exact rfl
      case s1 => exact rfl
      case s3 => exact rfl
      case s2 => exact rfl
      case e => wtm_at "g_ev"
      case e' => wtm_at "g_ev"
    | br l' r' =>
      have hc2 : cutP (.br l' r') = false := rfl
      have hd' : max (depth l) (depth r) + 1 ≤ n := hda
      have hd2' : max (depth l') (depth r') + 1 ≤ n := hdb
      obtain ⟨j, rfl⟩ : ∃ j, n = j + 1 := ⟨n - 1, by omega⟩
      have F4 := IH j rfl
      have hl1 : depth l ≤ j := by omega
      have hl2 : depth r ≤ j := by omega
      have hl3 : depth l' ≤ j := by omega
      have hl4 : depth r' ≤ j := by omega
      have t1 := ta.1
      have t2 := ta.2
      have t3 := tb.1
      have t4 := tb.2
      rw [show walkM m (.br l r) (.br l' r') = (if rowOf m (.br l r) = rowOf m (.br l' r') then (match walkM m l l' with | some p => some p | none => walkM m r r') else some (rowOf m (.br l r), rowOf m (.br l' r'))) from rfl]
      by_cases hb : rowOf m (.br l r) = rowOf m (.br l' r')
      · rw [if_pos hb]
        cases hw : walkM m l l' with
        | some p =>
          obtain ⟨px, py⟩ := p
          apply fe_ex
          refine bs_ifF (by wtm_at "g_vt") (by decide +kernel) ?_
          wtm_at "g_par"
          refine bs_ifF (by wtm_at "g_vt") (by rw [eqv_dI]; simp [hb]) ?_
          refine' bs_one (b1_if (by wtm_at "g_vt") (fun _ => ?_) (fun h => ?_))
          · wtm_at "g_exprx"
          · exact absurd h (by decide +kernel)
        | none =>
          cases hw2 : walkM m r r' with
          | some p =>
            obtain ⟨px, py⟩ := p
            apply fe_ex
            refine bs_ifF (by wtm_at "g_vt") (by decide +kernel) ?_
            wtm_at "g_par"
            refine bs_ifF (by wtm_at "g_vt") (by rw [eqv_dI]; simp [hb]) ?_
            refine' bs_one (b1_if (by wtm_at "g_vt") (fun _ => ?_) (fun h => ?_))
            · wtm_at "g_expr"
              wtm_at "g_exprx"
            · exact absurd h (by decide +kernel)
          | none =>
            apply fe_nx
            refine bs_ifF (by wtm_at "g_vt") (by decide +kernel) ?_
            wtm_at "g_par"
            refine bs_ifF (by wtm_at "g_vt") (by rw [eqv_dI]; simp [hb]) ?_
            refine' bs_one (b1_if (by wtm_at "g_vt") (fun _ => ?_) (fun h => ?_))
            · wtm_at "g_expr"
              wtm_at "g_expr"
              exact bs_nil
            · exact absurd h (by decide +kernel)
      · rw [if_neg hb]
        apply fe_ex
        refine bs_ifF (by wtm_at "g_vt") (by decide +kernel) ?_
        wtm_at "g_par"
        refine bs_ifT (by wtm_at "g_vt") (by rw [eqv_dI]; simp [hb]) ?_ rfl
        refine' bs_one (b1_unlike C2 ?cx hr ?e ?e' ?g ?s1 ?s3 ?s2)
        case cx => assumption
        case g => exact rfl
        case s1 => exact rfl
        case s3 => exact rfl
        case s2 => exact rfl
        case e => wtm_at "g_ev"
        case e' => wtm_at "g_ev"
theorem fn_check_alike (C : Wd K mg) (C2 : We P w K mg) : ∀ n, Fn P w K mg base "check_alike" ["sealer", "first", "second"] (9 + n) (spD K 3 (rAlike n))
  | 0 => st_check_alike C C2 0 (fun j h => by omega)
  | n + 1 => by
    have z := st_check_alike (P := P) (w := w) (base := base) C C2 (n + 1) (fun j h => by
      have e : j = n := by omega
      subst e
      exact fn_check_alike C C2 j)
    rw [show 9 + (n + 1) = 8 + (n + 1) + 1 by omega]
    exact z
theorem sc_join_trees : FnScope ["sealer", "first", "second", "one", "other"] ["sealer", "first", "second"] (defScope s_join_trees) := ⟨rfl, rfl, rfl, by decide +kernel, rfl, by decide +kernel, by decide +kernel⟩
theorem fn_join_trees (C : Wd K mg) (C2 : We P w K mg) (n : Nat) : Fn P w K mg base "join_trees" ["sealer", "first", "second"] (10 + n) (spD K 3 (rJoinT n)) := by
  obtain ⟨fd, F⟩ := C.defs 41 (mkD "join_trees" s_join_trees) rfl
  have F1 := fn_root_of (P := P) (w := w) (base := base) C n
  have F2 := fn_top_row (P := P) (w := w) (base := base) C n
  have F3 := fn_check_alike (P := P) (w := w) (base := base) C C2 n
  have F5 := fn_union (P := P) (w := w) (base := base) C n
  rw [show 10 + n = 9 + n + 1 by omega]
  refine fn_mk2 (C.glo _ (by decide +kernel)) F sc_join_trees (fun _ _ _ _ _ _ us hl => match us, hl with | [_, _, _], _ => rfl) fun X cdv A outer s H E hX hr xk xs rs hl hR => ?_
  obtain ⟨m, k, a, b, rfl, hm, ta, tb, hk, hda, hdb, hroot, rfl⟩ := hR
  have s1 := sh_dI (topRow m a)
  have s2 := sh_dI (topRow m b)
  subst hX
  rw [show findM m a b = (if rootOf m a = rootOf m b then (if topRow m a = topRow m b then walkM m a b else some (topRow m a, topRow m b)) else none) from rfl, if_pos hroot]
  by_cases hb : topRow m a = topRow m b
  · rw [if_pos hb]
    cases hw : walkM m a b with
    | some p =>
      obtain ⟨px, py⟩ := p
      apply fe_ex
      refine bs_ifF (by wtm_at "g_vt") (by simp [hroot]) ?_
      wtm_at "g_par"
      refine bs_ifF (by wtm_at "g_vt") (by rw [eqv_dI]; simp [hb]) ?_
      refine bs_ifF (by wtm_at "g_vt") (isN_dTr a) ?_
      wtm_at "g_exprx"
    | none =>
      apply fe_rt
      refine bs_ifF (by wtm_at "g_vt") (by simp [hroot]) ?_
      wtm_at "g_par"
      refine bs_ifF (by wtm_at "g_vt") (by rw [eqv_dI]; simp [hb]) ?_
      refine bs_ifF (by wtm_at "g_vt") (isN_dTr a) ?_
      wtm_at "g_expr"
      wtm_at "g_ret"
      rfl
  · rw [if_neg hb]
    apply fe_ex
    refine bs_ifF (by wtm_at "g_vt") (by simp [hroot]) ?_
    wtm_at "g_par"
    refine bs_ifT (by wtm_at "g_vt") (by rw [eqv_dI]; simp [hb]) ?_ rfl
    refine' bs_one (b1_unlike C2 ?cx hr ?e ?e' ?g ?s1 ?s3 ?s2)
    case cx => assumption
    case g => exact rfl
    case s1 => exact rfl
    case s3 => exact rfl
    case s2 => exact rfl
    case e => wtm_at "g_ev"
    case e' => wtm_at "g_ev"
end
end Sg
/-! # Numbers of names, bits, partings: plain -/
namespace Sg
open PySem
theorem alpha_nodup : alpha.Nodup := by decide +kernel
theorem alpha_len : alpha.length = 37 := rfl
theorem code_le {c : Nat} (h : c ∈ alpha) : code c ≤ 37 := by
  have := List.idxOf_lt_length_of_mem h
  rw [alpha_len] at this
  unfold code
  omega
theorem code_inj {c d : Nat} (hc : c ∈ alpha) (hd : d ∈ alpha) (h : code c = code d) : c = d := by
  unfold code at h
  have e : alpha.idxOf c = alpha.idxOf d := by omega
  have h1 := List.getElem_idxOf (List.idxOf_lt_length_of_mem hc)
  have h2 := List.getElem_idxOf (List.idxOf_lt_length_of_mem hd)
  rw [← h1, ← h2]
  congr 1
theorem digit_lt {x : Str} (h : IsNm x) (k : Nat) : digitAt x k < 64 := by
  unfold digitAt
  cases e : x.cps.toList[k]? with
  | none => exact (by decide : (0 : Nat) < 64)
  | some c =>
    have := code_le (h.2.2 c (List.mem_of_getElem? e))
    show code c < 64
    omega
theorem numTo_lt {x : Str} (h : IsNm x) : ∀ n, numTo x n < 64 ^ n
  | 0 => by simp [numTo]
  | n + 1 => by
    have a := numTo_lt h n
    have b := digit_lt h n
    show numTo x n * 64 + digitAt x n < 64 ^ n * 64
    omega
theorem num_lt {x : Str} (h : IsNm x) : num x < 2 ^ 48 := by
  have := numTo_lt h 8
  have e : (64 : Nat) ^ 8 = 2 ^ 48 := by decide
  rw [← e]
  exact this
theorem numTo_inj {x y : Str} (h : IsNm x) (h' : IsNm y) : ∀ n, numTo x n = numTo y n → ∀ k, k < n → digitAt x k = digitAt y k
  | 0, _, k, hk => by omega
  | n + 1, e, k, hk => by
    have e : numTo x n * 64 + digitAt x n = numTo y n * 64 + digitAt y n := e
    have a := digit_lt h n
    have b := digit_lt h' n
    rcases Nat.lt_or_ge k n with hlt | hge
    · exact numTo_inj h h' n (by omega) k hlt
    · have ek : k = n := by omega
      subst ek
      omega
theorem digit_some {x : Str} {k c : Nat} (e : x.cps.toList[k]? = some c) : digitAt x k = code c := by unfold digitAt; rw [e]
theorem digit_none {x : Str} {k : Nat} (e : x.cps.toList[k]? = none) : digitAt x k = 0 := by unfold digitAt; rw [e]
theorem num_inj {x y : Str} (h : IsNm x) (h' : IsNm y) (e : num x = num y) : x = y := by
  have hd := numTo_inj h h' 8 e
  have hlx : x.cps.toList.length ≤ 8 := h.2.1
  have hly : y.cps.toList.length ≤ 8 := h'.2.1
  have el : x.cps.toList = y.cps.toList := by
    apply List.ext_getElem?
    intro k
    by_cases hk : k < 8
    · have := hd k hk
      cases ex : x.cps.toList[k]? with
      | none =>
        cases ey : y.cps.toList[k]? with
        | none => rfl
        | some d =>
          rw [digit_none ex, digit_some ey] at this
          unfold code at this
          omega
      | some c =>
        cases ey : y.cps.toList[k]? with
        | none =>
          rw [digit_some ex, digit_none ey] at this
          unfold code at this
          omega
        | some d =>
          rw [digit_some ex, digit_some ey] at this
          rw [code_inj (h.2.2 c (List.mem_of_getElem? ex)) (h'.2.2 d (List.mem_of_getElem? ey)) this]
    · rw [List.getElem?_eq_none (by omega), List.getElem?_eq_none (by omega)]
  obtain ⟨⟨a⟩⟩ := x
  obtain ⟨⟨b⟩⟩ := y
  have el : a = b := el
  rw [el]
/-! ### bits -/
theorem bitAt_eq (x : Str) (p : Nat) : bitAt x p = if (num x).testBit (47 - p) then 1 else 0 := by
  unfold bitAt
  have e : ((num x : Int) / 2 ^ (47 - p) % 2) = ((num x / 2 ^ (47 - p) % 2 : Nat) : Int) := by
    rw [Int.natCast_emod, Int.natCast_ediv]
    push_cast
    rfl
  rw [e, Nat.testBit, Nat.shiftRight_eq_div_pow]
  have h : num x / 2 ^ (47 - p) % 2 = 0 ∨ num x / 2 ^ (47 - p) % 2 = 1 := by omega
  rcases h with h | h
  · rw [h]
    simp [Nat.one_and_eq_mod_two, h]
  · rw [h]
    simp [Nat.one_and_eq_mod_two, h]
theorem bit_iff {x y : Str} {p : Nat} : bitAt x p = bitAt y p ↔ (num x).testBit (47 - p) = (num y).testBit (47 - p) := by
  rw [bitAt_eq, bitAt_eq]
  cases (num x).testBit (47 - p) <;> cases (num y).testBit (47 - p) <;> simp
theorem bit01 (x : Str) (p : Nat) : bitAt x p = 0 ∨ bitAt x p = 1 := by
  rw [bitAt_eq]
  split
  · exact .inr rfl
  · exact .inl rfl
/-- all bits equal: the same number -/
theorem bits_num {x y : Str} (h : IsNm x) (h' : IsNm y) (e : ∀ p, p < 48 → bitAt x p = bitAt y p) : num x = num y := by
  apply Nat.eq_of_testBit_eq
  intro i
  by_cases hi : i < 48
  · have := bit_iff.mp (e (47 - i) (by omega))
    rw [show 47 - (47 - i) = i by omega] at this
    exact this
  · have a : num x < 2 ^ i := Nat.lt_of_lt_of_le (num_lt h) (Nat.pow_le_pow_right (by decide) (by omega))
    have b : num y < 2 ^ i := Nat.lt_of_lt_of_le (num_lt h') (Nat.pow_le_pow_right (by decide) (by omega))
    rw [Nat.testBit_lt_two_pow a, Nat.testBit_lt_two_pow b]
/-- the first bit that differs -/
theorem part_at {x y : Str} {k : Nat} (h : IsNm x) (h' : IsNm y) (hk : k < 48) (e : ∀ j, j < k → bitAt x j = bitAt y j) (d : bitAt x k ≠ bitAt y k) : part x y = some (k : Int) := by
  have hb : (num x ^^^ num y).testBit (47 - k) = true := by
    rw [Nat.testBit_xor]
    have : ¬ (num x).testBit (47 - k) = (num y).testBit (47 - k) := fun z => d (bit_iff.mpr z)
    revert this
    cases (num x).testBit (47 - k) <;> cases (num y).testBit (47 - k) <;> simp
  have h0 : num x ^^^ num y ≠ 0 := fun z => by rw [z] at hb; simp at hb
  have hlt : num x ^^^ num y < 2 ^ (47 - k + 1) := by
    apply Nat.lt_pow_two_of_testBit
    intro i hi
    rw [Nat.testBit_xor]
    by_cases hi2 : i < 48
    · have := bit_iff.mp (e (47 - i) (by omega))
      rw [show 47 - (47 - i) = i by omega] at this
      rw [this]
      simp
    · have a : num x < 2 ^ i := Nat.lt_of_lt_of_le (num_lt h) (Nat.pow_le_pow_right (by decide) (by omega))
      have b : num y < 2 ^ i := Nat.lt_of_lt_of_le (num_lt h') (Nat.pow_le_pow_right (by decide) (by omega))
      rw [Nat.testBit_lt_two_pow a, Nat.testBit_lt_two_pow b]
      rfl
  have hge : 2 ^ (47 - k) ≤ num x ^^^ num y := Nat.ge_two_pow_of_testBit hb
  have hl : (num x ^^^ num y).log2 = 47 - k := (Nat.log2_eq_iff h0).mpr ⟨hge, hlt⟩
  unfold part
  rw [if_neg h0, hl]
  congr 1
  omega
theorem part_gt {x y : Str} {k : Nat} {q : Int} (h : IsNm x) (h' : IsNm y) (hk : k < 48) (e : ∀ j, j ≤ k → bitAt x j = bitAt y j) (hq : part x y = some q) : (k : Int) < q := by
  unfold part at hq
  split at hq
  · cases hq
  · rename_i h0
    cases hq
    have hlt : num x ^^^ num y < 2 ^ (47 - k) := by
      apply Nat.lt_pow_two_of_testBit
      intro i hi
      rw [Nat.testBit_xor]
      by_cases hi2 : i < 48
      · have := bit_iff.mp (e (47 - i) (by omega))
        rw [show 47 - (47 - i) = i by omega] at this
        rw [this]
        simp
      · have a : num x < 2 ^ i := Nat.lt_of_lt_of_le (num_lt h) (Nat.pow_le_pow_right (by decide) (by omega))
        have b : num y < 2 ^ i := Nat.lt_of_lt_of_le (num_lt h') (Nat.pow_le_pow_right (by decide) (by omega))
        rw [Nat.testBit_lt_two_pow a, Nat.testBit_lt_two_pow b]
        rfl
    have : (num x ^^^ num y).log2 < 47 - k := (Nat.log2_lt h0).mpr hlt
    omega
/-- the higher bits equal, then 0 and 1: less -/
theorem num_lt_of {x y : Str} {k : Nat} (h : IsNm x) (h' : IsNm y) (hk : k < 48) (e : ∀ j, j < k → bitAt x j = bitAt y j) (h0 : bitAt x k = 0) (h1 : bitAt y k = 1) : num x < num y := by
  have hq : num x / 2 ^ (48 - k) = num y / 2 ^ (48 - k) := by
    apply Nat.eq_of_testBit_eq
    intro i
    rw [Nat.testBit_div_two_pow, Nat.testBit_div_two_pow]
    by_cases hi2 : 48 - k + i < 48
    · have := bit_iff.mp (e (47 - (48 - k + i)) (by omega))
      rw [show 47 - (47 - (48 - k + i)) = i + (48 - k) by omega] at this
      exact this
    · have a : num x < 2 ^ (i + (48 - k)) := Nat.lt_of_lt_of_le (num_lt h) (Nat.pow_le_pow_right (by decide) (by omega))
      have b : num y < 2 ^ (i + (48 - k)) := Nat.lt_of_lt_of_le (num_lt h') (Nat.pow_le_pow_right (by decide) (by omega))
      rw [Nat.testBit_lt_two_pow a, Nat.testBit_lt_two_pow b]
  have ep : (2 : Nat) ^ (48 - k) = 2 ^ (47 - k) * 2 := by rw [show 48 - k = (47 - k) + 1 by omega, Nat.pow_succ]
  rw [ep, ← Nat.div_div_eq_div_mul, ← Nat.div_div_eq_div_mul] at hq
  have bx : (num x / 2 ^ (47 - k) % 2 : Nat) = 0 := by
    have z : ((num x : Int) / 2 ^ (47 - k) % 2) = ((num x / 2 ^ (47 - k) % 2 : Nat) : Int) := by
      rw [Int.natCast_emod, Int.natCast_ediv]
      push_cast
      rfl
    unfold bitAt at h0
    rw [z] at h0
    exact_mod_cast h0
  have bY : (num y / 2 ^ (47 - k) % 2 : Nat) = 1 := by
    have z : ((num y : Int) / 2 ^ (47 - k) % 2) = ((num y / 2 ^ (47 - k) % 2 : Nat) : Int) := by
      rw [Int.natCast_emod, Int.natCast_ediv]
      push_cast
      rfl
    unfold bitAt at h1
    rw [z] at h1
    exact_mod_cast h1
  have hlt : num x / 2 ^ (47 - k) < num y / 2 ^ (47 - k) := by omega
  rcases Nat.lt_or_ge (num x) (num y) with hc | hc
  · exact hc
  · exact absurd (Nat.div_le_div_right (c := 2 ^ (47 - k)) hc) (by omega)
end Sg
/-! # Trees, cuts, walks: plain -/
namespace Sg
open PySem
inductive CutOf (m : Int) : Tr → Tr → Prop
  | cut (t : Tr) : CutOf m t (.cut (summ m t))
  | leaf (n : Str) (ws ns : List Int) : CutOf m (.leaf n ws ns) (.leaf n ws ns)
  | br {l r l' r' : Tr} : CutOf m l l' → CutOf m r r' → CutOf m (.br l r) (.br l' r')
theorem cut_summ {m : Int} {t c : Tr} (h : CutOf m t c) : summ m c = summ m t := by
  induction h with
  | cut t => rfl
  | leaf n ws ns => rfl
  | br _ _ ih1 ih2 => show brSm m _ _ = brSm m _ _; rw [ih1, ih2]
theorem cut_lo {m : Int} {t c : Tr} (h : CutOf m t c) : loOf c = loOf t := by rw [← summ_lo m, ← summ_lo m, cut_summ h]
theorem cut_hi {m : Int} {t c : Tr} (h : CutOf m t c) : hiOf c = hiOf t := by rw [← summ_hi m, ← summ_hi m, cut_summ h]
theorem cut_depth {m : Int} {t c : Tr} (h : CutOf m t c) : depth c ≤ depth t := by
  induction h with
  | cut t => exact Nat.zero_le _
  | leaf n ws ns => exact Nat.le_refl _
  | br _ _ ih1 ih2 =>
    show max _ _ + 1 ≤ max _ _ + 1
    omega
def Whole : Tr → Prop
  | .leaf _ _ _ => True
  | .br l r => Whole l ∧ Whole r
  | .cut _ => False
def lvs : Tr → Nat
  | .br l r => lvs l + lvs r
  | _ => 1
theorem seal_rng {m : Int} (hm : 0 < m) (row : List Int) : 0 ≤ sealF m row ∧ sealF m row < m := by
  unfold sealF
  rw [List.foldl_append]
  exact ⟨Int.emod_nonneg _ (by omega), Int.emod_lt_of_pos _ hm⟩
theorem part_bits {x y : Str} {p : Nat} (h : IsNm x) (h' : IsNm y) (hp : p < 48) (e : part x y = some (p : Int)) : ∀ j, j < p → bitAt x j = bitAt y j := by
  intro j hj
  unfold part at e
  split at e
  · cases e
  · rename_i h0
    have e := Option.some.inj e
    have hl : (num x ^^^ num y).log2 = 47 - p := by omega
    rw [bit_iff]
    have hlt : num x ^^^ num y < 2 ^ (47 - j) := (Nat.log2_lt h0).mp (by omega)
    have := Nat.testBit_lt_two_pow hlt
    rw [Nat.testBit_xor] at this
    revert this
    cases (num x).testBit (47 - j) <;> cases (num y).testBit (47 - j) <;> simp
theorem sides_lt {k : Nat} {l r : Tr} (tl : TrOk k l) (tr : TrOk k r) (h : Sides l r) : num (loOf l) < num (hiOf r) := by
  obtain ⟨p, hp, e, i1, i2⟩ := h
  exact num_lt_of (lo_nm tl) (hi_nm tr) hp (part_bits (lo_nm tl) (hi_nm tr) hp e) i1.1 i2.2.1
theorem lvs_pos : ∀ t : Tr, 1 ≤ lvs t
  | .leaf _ _ _ => Nat.le_refl _
  | .cut _ => Nat.le_refl _
  | .br l r => by
    have := lvs_pos l
    show 1 ≤ lvs l + lvs r
    omega
theorem addL_mem {xs ys : List Int} {a : Int} (h : a ∈ addL xs ys) : ∃ x ∈ xs, ∃ y ∈ ys, a = x + y := by
  unfold addL at h
  rw [List.zipWith_eq_zipWith_take_min] at h
  induction xs generalizing ys with
  | nil => simp at h
  | cons x xs ih =>
    cases ys with
    | nil => simp at h
    | cons y ys =>
      rw [← List.zipWith_eq_zipWith_take_min] at h
      rw [List.zipWith_cons_cons] at h
      rcases List.mem_cons.mp h with h | h
      · exact ⟨x, List.mem_cons_self .., y, List.mem_cons_self .., h⟩
      · rw [List.zipWith_eq_zipWith_take_min] at h
        obtain ⟨x', hx, y', hy, e⟩ := ih h
        exact ⟨x', List.mem_cons_of_mem _ hx, y', List.mem_cons_of_mem _ hy, e⟩
theorem whole_cnt {m : Int} {k : Nat} : ∀ {t : Tr}, Whole t → WfT m k t → (summ m t).cnt = lvs t ∧ ∀ a ∈ (summ m t).sums, 0 ≤ a ∧ a ≤ (lvs t : Int) * 1000000000000000
  | .leaf n ws ns, _, h => ⟨rfl, fun a ha => by
    have := h.2.2.1 a ha
    show 0 ≤ a ∧ a ≤ (1 : Nat) * 1000000000000000
    omega⟩
  | .cut s, h, _ => h.elim
  | .br l r, h, g => by
    obtain ⟨a1, a2⟩ := whole_cnt h.1 g.1
    obtain ⟨b1, b2⟩ := whole_cnt h.2 g.2.1
    refine ⟨?_, fun a ha => ?_⟩
    · show (summ m l).cnt + (summ m r).cnt = ((lvs l + lvs r : Nat) : Int)
      rw [a1, b1]
      omega
    · obtain ⟨x, hx, y, hy, rfl⟩ := addL_mem ha
      have p := a2 x hx
      have q := b2 y hy
      show 0 ≤ x + y ∧ x + y ≤ ((lvs l + lvs r : Nat) : Int) * 1000000000000000
      omega
theorem whole_smv {m : Int} {k : Nat} {t : Tr} (hm : 0 < m) (hw : Whole t) (h : WfT m k t) (hl : lvs t ≤ 1000) : SmV m k (summ m t) := by
  obtain ⟨c1, c2⟩ := whole_cnt hw h
  have hp := lvs_pos t
  have sv : 0 ≤ (summ m t).sv ∧ (summ m t).sv < m := by
    cases t with
    | leaf n ws ns => exact seal_rng hm _
    | br l r => exact seal_rng hm _
    | cut s => exact hw.elim
  refine ⟨summ_ok h.ok, sv.1, sv.2, by omega, by omega, fun a ha => ?_, fun e => ?_, fun e => ?_⟩
  · have := c2 a ha
    omega
  · cases t with
    | leaf n ws ns => rfl
    | br l r =>
      have c1 : (summ m (.br l r)).cnt = ((lvs l + lvs r : Nat) : Int) := c1
      have := lvs_pos l
      have := lvs_pos r
      omega
    | cut s => exact hw.elim
  · cases t with
    | leaf n ws ns => exact absurd rfl e
    | br l r =>
      rw [summ_lo, summ_hi]
      show num (loOf l) < num (hiOf r)
      exact sides_lt h.1.ok h.2.1.ok h.2.2
    | cut s => exact hw.elim
theorem cut_wf {m : Int} {k : Nat} {t c : Tr} (hm : 0 < m) (h : CutOf m t c) : Whole t → WfT m k t → lvs t ≤ 1000 → WfT m k c := by
  induction h with
  | cut t => exact fun hw g hl => whole_smv hm hw g hl
  | leaf n ws ns => exact fun _ g _ => g
  | @br l r l' r' c1 c2 ih1 ih2 =>
    intro hw g hl
    have hl : lvs l + lvs r ≤ 1000 := hl
    refine ⟨ih1 hw.1 g.1 (by omega), ih2 hw.2 g.2.1 (by omega), ?_⟩
    have s := g.2.2
    unfold Sides Inside at s ⊢
    rw [cut_lo c1, cut_hi c1, cut_lo c2, cut_hi c2]
    exact s
theorem whole_self {m : Int} : ∀ {t : Tr}, Whole t → CutOf m t t
  | .leaf n ws ns, _ => .leaf n ws ns
  | .br _ _, h => .br (whole_self h.1) (whole_self h.2)
  | .cut _, h => h.elim
/-! ### rows and summaries -/
theorem sm_eq {k : Nat} {s t : Sm} (h : SmOk k s) (h' : SmOk k t) (e : smNums s = smNums t) : s = t := by
  obtain ⟨sv, cnt, sums, lo, hi⟩ := s
  obtain ⟨sv', cnt', sums', lo', hi'⟩ := t
  have e : sv :: cnt :: (sums ++ [(num lo : Int), (num hi : Int)]) = sv' :: cnt' :: (sums' ++ [(num lo' : Int), (num hi' : Int)]) := e
  obtain ⟨e1, e⟩ := List.cons.inj e
  obtain ⟨e2, e⟩ := List.cons.inj e
  have hl : sums.length = sums'.length := h.len.trans h'.len.symm
  obtain ⟨e3, e4⟩ := List.append_inj e hl
  obtain ⟨e5, e6⟩ := List.cons.inj e4
  obtain ⟨e6, _⟩ := List.cons.inj e6
  have e7 : lo = lo' := num_inj h.lo h'.lo (by exact_mod_cast e5)
  have e8 : hi = hi' := num_inj h.hi h'.hi (by exact_mod_cast e6)
  rw [e1, e2, e3, e7, e8]
theorem smNums_length {k : Nat} {s : Sm} (h : SmOk k s) : (smNums s).length = k + 4 := by
  unfold smNums
  simp [h.len]
theorem brRow_inj {k : Nat} {l r l' r' : Sm} (h : SmOk k l) (h1 : SmOk k r) (h2 : SmOk k l') (h3 : SmOk k r') (e : brRow l r = brRow l' r') : l = l' ∧ r = r' := by
  unfold brRow at e
  obtain ⟨e1, e2⟩ := List.append_inj e (by simp [smNums_length h, smNums_length h2])
  obtain ⟨_, e3⟩ := List.append_inj e1 (by simp)
  exact ⟨sm_eq h h2 e3, sm_eq h1 h3 e2⟩
theorem topRow_inj {m : Int} {k : Nat} {a b : Tr} (h : TrOk k a) (h1 : TrOk k b) (e : topRow m a = topRow m b) : summ m a = summ m b := by
  unfold topRow at e
  obtain ⟨_, e2⟩ := List.append_inj e (by simp)
  exact sm_eq (summ_ok h) (summ_ok h1) e2
theorem leafRow_inj {k : Nat} {n n' : Str} {ws ns ws' ns' : List Int} (h : IsNm n) (h' : IsNm n') (hl : ws.length = k) (hl' : ws'.length = k) (e : leafRow n ws ns = leafRow n' ws' ns') : n = n' ∧ ws = ws' ∧ ns = ns' := by
  have e : (0 : Int) :: (num n : Int) :: (ws.length : Int) :: (ws ++ ns) = 0 :: (num n' : Int) :: (ws'.length : Int) :: (ws' ++ ns') := by simpa [leafRow] using e
  obtain ⟨_, e⟩ := List.cons.inj e
  obtain ⟨e1, e⟩ := List.cons.inj e
  obtain ⟨_, e⟩ := List.cons.inj e
  obtain ⟨e2, e3⟩ := List.append_inj e (hl.trans hl'.symm)
  exact ⟨num_inj h h' (by exact_mod_cast e1), e2, e3⟩
theorem brRow_ne {l r : Sm} {n : Str} {ws ns : List Int} : brRow l r ≠ leafRow n ws ns := fun h => by
  have z : (1 : Int) = 0 := by
    have := congrArg List.head? h
    simpa [brRow, leafRow] using this
  cases z
/-! ### walks -/
theorem walk_br {m : Int} {l r l' r' : Tr} : walkM m (.br l r) (.br l' r') = (if rowOf m (.br l r) = rowOf m (.br l' r') then (match walkM m l l' with | some p => some p | none => walkM m r r') else some (rowOf m (.br l r), rowOf m (.br l' r'))) := rfl
theorem walk_lf {m : Int} {n n' : Str} {ws ns ws' ns' : List Int} : walkM m (.leaf n ws ns) (.leaf n' ws' ns') = (if leafRow n ws ns = leafRow n' ws' ns' then none else some (leafRow n ws ns, leafRow n' ws' ns')) := rfl
theorem walk_lb {m : Int} {l r : Tr} {n : Str} {ws ns : List Int} : walkM m (.leaf n ws ns) (.br l r) ≠ none := by
  rw [show walkM m (.leaf n ws ns) (.br l r) = (if leafRow n ws ns = rowOf m (.br l r) then none else some (leafRow n ws ns, rowOf m (.br l r))) from rfl, if_neg (fun h => brRow_ne h.symm)]
  simp
theorem walk_bl {m : Int} {l r : Tr} {n : Str} {ws ns : List Int} : walkM m (.br l r) (.leaf n ws ns) ≠ none := by
  rw [show walkM m (.br l r) (.leaf n ws ns) = (if brRow (summ m l) (summ m r) = leafRow n ws ns then none else some (brRow (summ m l) (summ m r), leafRow n ws ns)) from rfl, if_neg brRow_ne]
  simp
/-- what no walk tells of two branches -/
theorem walk_br_none {m : Int} {k : Nat} {l r l' r' : Tr} (h : TrOk k (.br l r)) (h' : TrOk k (.br l' r')) (e : walkM m (.br l r) (.br l' r') = none) : summ m l = summ m l' ∧ summ m r = summ m r' ∧ walkM m l l' = none ∧ walkM m r r' = none := by
  rw [walk_br] at e
  by_cases hb : rowOf m (.br l r) = rowOf m (.br l' r')
  · rw [if_pos hb] at e
    obtain ⟨e1, e2⟩ := brRow_inj (summ_ok (m := m) h.1) (summ_ok (m := m) h.2) (summ_ok (m := m) h'.1) (summ_ok (m := m) h'.2) hb
    cases hw : walkM m l l' with
    | some p => rw [hw] at e; cases e
    | none =>
      rw [hw] at e
      exact ⟨e1, e2, rfl, e⟩
  · rw [if_neg hb] at e
    cases e
/-- two whole trees of the same summary that no walk tells apart are one -/
theorem walk_eq {m : Int} {k : Nat} : ∀ {a b : Tr}, Whole a → Whole b → TrOk k a → TrOk k b → walkM m a b = none → a = b
  | .leaf n ws ns, .leaf n' ws' ns', _, _, h, h', e => by
    rw [walk_lf] at e
    by_cases hb : leafRow n ws ns = leafRow n' ws' ns'
    · obtain ⟨e1, e2, e3⟩ := leafRow_inj h.1 h'.1 h.2.1 h'.2.1 hb
      rw [e1, e2, e3]
    · rw [if_neg hb] at e; cases e
  | .leaf _ _ _, .br _ _, _, _, _, _, e => absurd e walk_lb
  | .br _ _, .leaf _ _ _, _, _, _, _, e => absurd e walk_bl
  | .br l r, .br l' r', w, w', h, h', e => by
    obtain ⟨_, _, e3, e4⟩ := walk_br_none h h' e
    rw [walk_eq w.1 w'.1 h.1 h'.1 e3, walk_eq w.2 w'.2 h.2 h'.2 e4]
  | .cut _, _, w, _, _, _, _ => w.elim
  | .leaf _ _ _, .cut _, _, w, _, _, _ => w.elim
  | .br _ _, .cut _, _, w, _, _, _ => w.elim
theorem find_none {m : Int} {k : Nat} {a b : Tr} (h : TrOk k a) (h' : TrOk k b) (hr : rootOf m a = rootOf m b) (e : findM m a b = none) : summ m a = summ m b ∧ walkM m a b = none := by
  unfold findM at e
  rw [if_pos hr] at e
  by_cases hb : topRow m a = topRow m b
  · rw [if_pos hb] at e
    exact ⟨topRow_inj h h' hb, e⟩
  · rw [if_neg hb] at e; cases e
/-- the rows that are found are different and have the same seal -/
theorem row_seal {m : Int} {t : Tr} (h : cutP t = false) : sealF m (rowOf m t) = (summ m t).sv := by
  cases t with
  | leaf n ws ns => rfl
  | br l r => rfl
  | cut s => cases h
theorem row_len {m : Int} {k : Nat} {t : Tr} (hk : k ≤ 3) (h : TrOk k t) : (rowOf m t).length ≤ 200 := by
  cases t with
  | leaf n ws ns =>
    have a := h.2.1
    have b := h.2.2
    show ([0, (num n : Int), (ws.length : Int)] ++ ws ++ ns).length ≤ 200
    simp
    omega
  | br l r =>
    show ([1, ((summ m l).sums.length : Int)] ++ smNums (summ m l) ++ smNums (summ m r)).length ≤ 200
    have a := smNums_length (summ_ok (m := m) h.1)
    have b := smNums_length (summ_ok (m := m) h.2)
    simp [a, b]
    omega
  | cut s => exact Nat.zero_le _
theorem walk_some {m : Int} {k : Nat} (hk : k ≤ 3) : ∀ {a b : Tr} {x y : List Int}, TrOk k a → TrOk k b → summ m a = summ m b → walkM m a b = some (x, y) → x ≠ y ∧ sealF m x = sealF m y ∧ x.length ≤ 200 ∧ y.length ≤ 200
  | .cut _, _, _, _, _, _, _, e => by cases e
  | .leaf _ _ _, .cut _, _, _, _, _, _, e => by cases e
  | .br _ _, .cut _, _, _, _, _, _, e => by cases e
  | .leaf n ws ns, .leaf n' ws' ns', x, y, h, h', s, e => by
    rw [walk_lf] at e
    by_cases hb : leafRow n ws ns = leafRow n' ws' ns'
    · rw [if_pos hb] at e; cases e
    · rw [if_neg hb] at e
      cases e
      exact ⟨hb, congrArg Sm.sv s, row_len (m := m) hk (t := .leaf n ws ns) h, row_len (m := m) hk (t := .leaf n' ws' ns') h'⟩
  | .leaf n ws ns, .br l r, x, y, h, h', s, e => by
    rw [show walkM m (.leaf n ws ns) (.br l r) = (if leafRow n ws ns = rowOf m (.br l r) then none else some (leafRow n ws ns, rowOf m (.br l r))) from rfl, if_neg (fun h => brRow_ne h.symm)] at e
    cases e
    exact ⟨fun h => brRow_ne h.symm, congrArg Sm.sv s, row_len (m := m) hk (t := .leaf n ws ns) h, row_len (m := m) hk h'⟩
  | .br l r, .leaf n ws ns, x, y, h, h', s, e => by
    rw [show walkM m (.br l r) (.leaf n ws ns) = (if brRow (summ m l) (summ m r) = leafRow n ws ns then none else some (brRow (summ m l) (summ m r), leafRow n ws ns)) from rfl, if_neg brRow_ne] at e
    cases e
    exact ⟨brRow_ne, congrArg Sm.sv s, row_len (m := m) hk (t := .br l r) h, row_len (m := m) hk (t := .leaf n ws ns) h'⟩
  | .br l r, .br l' r', x, y, h, h', s, e => by
    rw [walk_br] at e
    by_cases hb : rowOf m (.br l r) = rowOf m (.br l' r')
    · rw [if_pos hb] at e
      obtain ⟨e1, e2⟩ := brRow_inj (summ_ok (m := m) h.1) (summ_ok (m := m) h.2) (summ_ok (m := m) h'.1) (summ_ok (m := m) h'.2) hb
      cases hw : walkM m l l' with
      | some p =>
        rw [hw] at e
        cases e
        exact walk_some hk h.1 h'.1 e1 hw
      | none =>
        rw [hw] at e
        exact walk_some hk h.2 h'.2 e2 e
    · rw [if_neg hb] at e
      cases e
      exact ⟨hb, congrArg Sm.sv s, row_len (m := m) hk (t := .br l r) h, row_len (m := m) hk (t := .br l' r') h'⟩
theorem find_some {m : Int} {k : Nat} (hk : k ≤ 3) {a b : Tr} {x y : List Int} (h : TrOk k a) (h' : TrOk k b) (hr : rootOf m a = rootOf m b) (e : findM m a b = some (x, y)) : x ≠ y ∧ sealF m x = sealF m y ∧ x.length ≤ 200 ∧ y.length ≤ 200 := by
  unfold findM at e
  rw [if_pos hr] at e
  by_cases hb : topRow m a = topRow m b
  · rw [if_pos hb] at e
    exact walk_some hk h h' (topRow_inj h h' hb) e
  · rw [if_neg hb] at e
    cases e
    refine ⟨hb, hr, ?_, ?_⟩
    · have := smNums_length (summ_ok (m := m) h)
      show ([3, ((summ m a).sums.length : Int)] ++ smNums (summ m a)).length ≤ 200
      simp [this]
      omega
    · have := smNums_length (summ_ok (m := m) h')
      show ([3, ((summ m b).sums.length : Int)] ++ smNums (summ m b)).length ≤ 200
      simp [this]
      omega
/-- two whole trees of one root, different: a collision is found -/
theorem find_whole {m : Int} {k : Nat} {a b : Tr} (w : Whole a) (w' : Whole b) (h : TrOk k a) (h' : TrOk k b) (hr : rootOf m a = rootOf m b) (hn : a ≠ b) : findM m a b ≠ none := fun e =>
  hn (walk_eq w w' h h' (find_none h h' hr e).2)
theorem root_of_summ {m : Int} {a b : Tr} (e : summ m a = summ m b) : rootOf m a = rootOf m b := by
  unfold rootOf topRow
  rw [e]
/-! ### the answers -/
theorem ans_told {m : Int} {t : Tr} {q : Qn} {a : An} (e : toldM q (summ m t) = some a) : ansM m t q = .ok a := by
  cases t with
  | cut s =>
    show (match toldM q s with | some a => Except.ok a | none => .error s.lo) = _
    rw [show toldM q s = some a from e]
  | leaf n ws ns =>
    show (match toldM q (summ m (.leaf n ws ns)) with | some a => Except.ok a | none => .ok (.lf ws ns)) = _
    rw [e]
  | br l r => rw [ansM_br, e]
theorem ans_cut {m : Int} {s : Sm} {q : Qn} {a : An} (e : ansM m (.cut s) q = .ok a) : toldM q s = some a := by
  have e : (match toldM q s with | some a => Except.ok a | none => .error s.lo) = .ok a := e
  cases h : toldM q s with
  | some b => rw [h] at e; cases e; rfl
  | none => rw [h] at e; cases e
theorem ans_same {m : Int} {k : Nat} : ∀ {a b : Tr} {q : Qn} {x y : An}, TrOk k a → TrOk k b → summ m a = summ m b → walkM m a b = none → ansM m a q = .ok x → ansM m b q = .ok y → x = y
  | .cut s, b, q, x, y, _, _, e, _, h1, h2 => by
    have z := ans_cut h1
    have e : s = summ m b := e
    rw [e] at z
    rw [ans_told z] at h2
    exact Except.ok.inj h2
  | .leaf n ws ns, .cut s, q, x, y, _, _, e, _, h1, h2 => by
    have z := ans_cut h2
    rw [← show summ m (.leaf n ws ns) = s from e] at z
    rw [ans_told z] at h1
    exact (Except.ok.inj h1).symm
  | .br l r, .cut s, q, x, y, _, _, e, _, h1, h2 => by
    have z := ans_cut h2
    rw [← show summ m (.br l r) = s from e] at z
    rw [ans_told z] at h1
    exact (Except.ok.inj h1).symm
  | .leaf n ws ns, .leaf n' ws' ns', q, x, y, h, h', _, e, h1, h2 => by
    rw [walk_lf] at e
    by_cases hb : leafRow n ws ns = leafRow n' ws' ns'
    · obtain ⟨e1, e2, e3⟩ := leafRow_inj h.1 h'.1 h.2.1 h'.2.1 hb
      rw [e1, e2, e3, h2] at h1
      exact (Except.ok.inj h1).symm
    · rw [if_neg hb] at e; cases e
  | .leaf _ _ _, .br _ _, _, _, _, _, _, _, e, _, _ => absurd e walk_lb
  | .br _ _, .leaf _ _ _, _, _, _, _, _, _, e, _, _ => absurd e walk_bl
  | .br l r, .br l' r', q, x, y, h, h', s, e, h1, h2 => by
    obtain ⟨e1, e2, e3, e4⟩ := walk_br_none h h' e
    cases ht : toldM q (summ m (.br l r)) with
    | some z =>
      rw [ans_told ht] at h1
      rw [s] at ht
      rw [ans_told ht] at h2
      rw [← Except.ok.inj h1, ← Except.ok.inj h2]
    | none =>
      have ht' := ht
      rw [s] at ht'
      rw [ansM_br, ht] at h1
      rw [ansM_br, ht'] at h2
      have h1 : ansB m l r q = .ok x := h1
      have h2 : ansB m l' r' q = .ok y := h2
      unfold ansB at h1 h2
      rw [← e1, ← e2] at h2
      rcases hs : sideQ q (summ m l) (summ m r) with ⟨_ | ql, _ | qr⟩
      · rw [hs] at h1 h2
        rw [← Except.ok.inj h1, ← Except.ok.inj h2]
      · rw [hs] at h1 h2
        exact ans_same h.2 h'.2 e2 e4 h1 h2
      · rw [hs] at h1 h2
        exact ans_same h.1 h'.1 e1 e3 h1 h2
      · rw [hs] at h1 h2
        dsimp only at h1 h2
        cases a1 : ansM m l ql with
        | error z => rw [a1] at h1; cases h1
        | ok z =>
          rw [a1] at h1
          cases a2 : ansM m l' ql with
          | error z => rw [a2] at h2; cases h2
          | ok z' =>
            rw [a2] at h2
            dsimp only at h1 h2
            cases b1 : ansM m r qr with
            | error u => rw [b1] at h1; cases h1
            | ok u =>
              rw [b1] at h1
              cases b2 : ansM m r' qr with
              | error u => rw [b2] at h2; cases h2
              | ok u' =>
                rw [b2] at h2
                rw [← Except.ok.inj h1, ← Except.ok.inj h2, ans_same h.1 h'.1 e1 e3 a1 a2, ans_same h.2 h'.2 e2 e4 b1 b2]
theorem sev_same {m : Int} {k : Nat} {a b : Tr} (h : TrOk k a) (h' : TrOk k b) (s : summ m a = summ m b) (e : walkM m a b = none) : ∀ {ns : List Str} {xs ys : List An}, sevM m a ns = .ok xs → sevM m b ns = .ok ys → xs = ys
  | [], xs, ys, h1, h2 => by cases h1; cases h2; rfl
  | n :: ns, xs, ys, h1, h2 => by
    have h1 : (match ansM m a (.leaf n) with | .error e => Except.error e | .ok a' => match sevM m a ns with | .error e => .error e | .ok as => .ok (a' :: as)) = .ok xs := h1
    have h2 : (match ansM m b (.leaf n) with | .error e => Except.error e | .ok a' => match sevM m b ns with | .error e => .error e | .ok as => .ok (a' :: as)) = .ok ys := h2
    cases a1 : ansM m a (.leaf n) with
    | error z => rw [a1] at h1; cases h1
    | ok z =>
      cases a2 : ansM m b (.leaf n) with
      | error z => rw [a2] at h2; cases h2
      | ok z' =>
        rw [a1] at h1
        rw [a2] at h2
        dsimp only at h1 h2
        cases b1 : sevM m a ns with
        | error u => rw [b1] at h1; cases h1
        | ok u =>
          cases b2 : sevM m b ns with
          | error u => rw [b2] at h2; cases h2
          | ok u' =>
            rw [b1] at h1
            rw [b2] at h2
            cases h1
            cases h2
            rw [ans_same h h' s e a1 a2, sev_same h h' s e b1 b2]
theorem ask_same {m : Int} {k : Nat} {a b : Tr} {q : Qn} {x y : PyData} (h : TrOk k a) (h' : TrOk k b) (s : summ m a = summ m b) (e : walkM m a b = none) (h1 : askM m a q = .ok x) (h2 : askM m b q = .ok y) : x = y := by
  by_cases hq : q.one = true
  · rw [askM_one hq] at h1 h2
    cases a1 : ansM m a q with
    | error z => rw [a1] at h1; cases h1
    | ok z =>
      cases a2 : ansM m b q with
      | error z => rw [a2] at h2; cases h2
      | ok z' =>
        rw [a1] at h1
        rw [a2] at h2
        cases h1
        cases h2
        rw [ans_same h h' s e a1 a2]
  · cases q with
    | several ns =>
      have h1 : (match sevM m a ns with | .error e => Except.error e | .ok as => .ok (PyData.tuple (as.map dA))) = .ok x := h1
      have h2 : (match sevM m b ns with | .error e => Except.error e | .ok as => .ok (PyData.tuple (as.map dA))) = .ok y := h2
      cases a1 : sevM m a ns with
      | error z => rw [a1] at h1; cases h1
      | ok z =>
        cases a2 : sevM m b ns with
        | error z => rw [a2] at h2; cases h2
        | ok z' =>
          rw [a1] at h1
          rw [a2] at h2
          cases h1
          cases h2
          rw [sev_same h h' s e a1 a2]
    | _ => exact absurd rfl hq
end Sg
/-! # The tree over the leaves' names: plain -/
namespace Sg
open PySem
structure Lr where
  n : Str
  ws : List Int
  ns : List Int
def Lr.tr (l : Lr) : Tr := .leaf l.n l.ws l.ns
def hdT : List Lr → Tr
  | l :: _ => l.tr
  | [] => .leaf ⟨#[]⟩ [] []
def sel (ls : List Lr) (k : Nat) (b : Int) : List Lr := ls.filter fun l => decide (bitAt l.n k = b)
def parts (ls : List Lr) (k : Nat) : Prop := 0 < (sel ls k 0).length ∧ (sel ls k 0).length < ls.length
instance {ls : List Lr} {k : Nat} : Decidable (parts ls k) := by unfold parts; exact inferInstance
/-- d places are left: the next is 48 - d -/
def splitM : Nat → List Lr → Tr
  | 0, ls => hdT ls
  | d + 1, ls => if ls.length = 1 then hdT ls else if parts ls (47 - d) then .br (splitM d (sel ls (47 - d) 0)) (splitM d (sel ls (47 - d) 1)) else splitM d ls
structure GoodL (k : Nat) (ls : List Lr) : Prop where
  lf : ∀ l ∈ ls, Lf k l.n l.ws l.ns
  nd : (ls.map Lr.n).Nodup
  ne : ls ≠ []
def Agree (d : Nat) (ls : List Lr) : Prop := ∀ x ∈ ls, ∀ y ∈ ls, ∀ j, j < 48 - d → bitAt x.n j = bitAt y.n j
theorem sel_len (ls : List Lr) (k : Nat) : (sel ls k 0).length + (sel ls k 1).length = ls.length := by
  unfold sel
  induction ls with
  | nil => rfl
  | cons l ls ih =>
    rcases bit01 l.n k with h | h
    · rw [List.filter_cons_of_pos (by simp [h]), List.filter_cons_of_neg (by simp [h]), List.length_cons, List.length_cons]
      omega
    · rw [List.filter_cons_of_neg (by simp [h]), List.filter_cons_of_pos (by simp [h]), List.length_cons, List.length_cons]
      omega
theorem sel_sub {ls : List Lr} {k : Nat} {b : Int} {l : Lr} (h : l ∈ sel ls k b) : l ∈ ls ∧ bitAt l.n k = b := by
  unfold sel at h
  obtain ⟨h1, h2⟩ := List.mem_filter.mp h
  exact ⟨h1, by simpa using h2⟩
theorem sel_good {k p : Nat} {b : Int} {ls : List Lr} (g : GoodL k ls) (h : 0 < (sel ls p b).length) : GoodL k (sel ls p b) :=
  ⟨fun l hl => g.lf l (sel_sub hl).1, g.nd.sublist (List.Sublist.map _ List.filter_sublist), fun z => by rw [z] at h; simp at h⟩
theorem sel_agree {d p : Nat} {b : Int} {ls : List Lr} (hd : d < 48) (hp : p = 47 - d) (a : Agree (d + 1) ls) : Agree d (sel ls p b) := fun x hx y hy j hj => by
  obtain ⟨x1, x2⟩ := sel_sub hx
  obtain ⟨y1, y2⟩ := sel_sub hy
  by_cases h : j = p
  · rw [h, x2, y2]
  · exact a x x1 y y1 j (by omega)
theorem not_parts_agree {d : Nat} {ls : List Lr} (hd : d < 48) (a : Agree (d + 1) ls) (h : ¬ parts ls (47 - d)) : Agree d ls := fun x hx y hy j hj => by
  by_cases hj2 : j = 47 - d
  · subst hj2
    unfold parts at h
    have hl := sel_len ls (47 - d)
    have key : (sel ls (47 - d) 0).length = 0 ∨ (sel ls (47 - d) 1).length = 0 := by omega
    have mem : ∀ (z : Lr) (b : Int), z ∈ ls → bitAt z.n (47 - d) = b → z ∈ sel ls (47 - d) b := fun z b hz e => List.mem_filter.mpr ⟨hz, by simp [e]⟩
    have no : ∀ (z : Lr) (b : Int), z ∈ ls → (sel ls (47 - d) b).length = 0 → bitAt z.n (47 - d) ≠ b := fun z b hz e q => by
      have := mem z b hz q
      rw [List.length_eq_zero_iff.mp e] at this
      cases this
    rcases key with key | key
    · have hx1 := no x 0 hx key
      have hy1 := no y 0 hy key
      rcases bit01 x.n (47 - d) with q | q
      · exact absurd q hx1
      · rcases bit01 y.n (47 - d) with q' | q'
        · exact absurd q' hy1
        · rw [q, q']
    · have hx1 := no x 1 hx key
      have hy1 := no y 1 hy key
      rcases bit01 x.n (47 - d) with q | q
      · rcases bit01 y.n (47 - d) with q' | q'
        · rw [q, q']
        · exact absurd q' hy1
      · exact absurd q hx1
  · exact a x hx y hy j (by omega)
theorem one_of_agree {k : Nat} {ls : List Lr} (g : GoodL k ls) (a : Agree 0 ls) : ls.length = 1 := by
  match ls, g, a with
  | [], g, _ => exact absurd rfl g.ne
  | [_], _, _ => rfl
  | x :: y :: r, g, a =>
    have hx := (g.lf x (by simp)).1
    have hy := (g.lf y (by simp)).1
    have e : x.n = y.n := num_inj hx hy (bits_num hx hy fun p hp => a x (by simp) y (by simp) p (by omega))
    have nd := g.nd
    rw [List.map_cons, List.nodup_cons] at nd
    exact absurd (by rw [List.map_cons, e]; exact List.mem_cons_self ..) nd.1
/-- what the tree is -/
structure SpT (m : Int) (k : Nat) (ls : List Lr) (t : Tr) : Prop where
  wf : WfT m k t
  wh : Whole t
  lv : lvs t = ls.length
  dp : depth t < ls.length
  lo : ∃ l ∈ ls, l.n = loOf t
  hi : ∃ l ∈ ls, l.n = hiOf t
theorem hd_sp {m : Int} {k : Nat} {ls : List Lr} (g : GoodL k ls) (h : ls.length = 1) : SpT m k ls (hdT ls) := by
  match ls, h, g with
  | [l], _, g => exact ⟨g.lf l (by simp), True.intro, rfl, by show 0 < 1; decide, ⟨l, by simp, rfl⟩, ⟨l, by simp, rfl⟩⟩
theorem split_sp {m : Int} {k : Nat} : ∀ (d : Nat) {ls : List Lr}, d ≤ 48 → GoodL k ls → Agree d ls → SpT m k ls (splitM d ls)
  | 0, ls, _, g, a => hd_sp g (one_of_agree g a)
  | d + 1, ls, hd, g, a => by
    show SpT m k ls (if ls.length = 1 then hdT ls else if parts ls (47 - d) then .br (splitM d (sel ls (47 - d) 0)) (splitM d (sel ls (47 - d) 1)) else splitM d ls)
    by_cases h1 : ls.length = 1
    · rw [if_pos h1]
      exact hd_sp g h1
    · rw [if_neg h1]
      by_cases hp : parts ls (47 - d)
      · rw [if_pos hp]
        have hl := sel_len ls (47 - d)
        have p0 : 0 < (sel ls (47 - d) 0).length := hp.1
        have p1 : 0 < (sel ls (47 - d) 1).length := by have := hp.2; omega
        have g0 := sel_good g p0
        have g1 := sel_good g p1
        have s0 := split_sp (m := m) d (by omega) g0 (sel_agree (by omega) rfl a)
        have s1 := split_sp (m := m) d (by omega) g1 (sel_agree (by omega) rfl a)
        obtain ⟨a1, ha1, ea1⟩ := s0.lo
        obtain ⟨b1, hb1, eb1⟩ := s0.hi
        obtain ⟨a2, ha2, ea2⟩ := s1.lo
        obtain ⟨b2, hb2, eb2⟩ := s1.hi
        have na1 := (g0.lf a1 ha1).1
        have nb1 := (g0.lf b1 hb1).1
        have na2 := (g1.lf a2 ha2).1
        have nb2 := (g1.lf b2 hb2).1
        have ma1 := sel_sub ha1
        have mb1 := sel_sub hb1
        have ma2 := sel_sub ha2
        have mb2 := sel_sub hb2
        have hk : 47 - d < 48 := by omega
        refine ⟨⟨s0.wf, s1.wf, 47 - d, hk, ?_, ⟨?_, ?_, fun q hq => ?_⟩, ⟨?_, ?_, fun q hq => ?_⟩⟩, ⟨s0.wh, s1.wh⟩, ?_, ?_, ⟨a1, ma1.1, ea1⟩, ⟨b2, mb2.1, eb2⟩⟩
        · rw [← ea1, ← eb2]
          refine part_at na1 nb2 hk (fun j hj => a a1 ma1.1 b2 mb2.1 j (by omega)) ?_
          rw [ma1.2, mb2.2]
          decide
        · rw [← ea1]; exact ma1.2
        · rw [← eb1]; exact mb1.2
        · rw [← ea1, ← eb1] at hq
          refine part_gt na1 nb1 hk (fun j hj => ?_) hq
          by_cases z : j = 47 - d
          · rw [z, ma1.2, mb1.2]
          · exact a a1 ma1.1 b1 mb1.1 j (by omega)
        · rw [← ea2]; exact ma2.2
        · rw [← eb2]; exact mb2.2
        · rw [← ea2, ← eb2] at hq
          refine part_gt na2 nb2 hk (fun j hj => ?_) hq
          by_cases z : j = 47 - d
          · rw [z, ma2.2, mb2.2]
          · exact a a2 ma2.1 b2 mb2.1 j (by omega)
        · show lvs _ + lvs _ = _
          rw [s0.lv, s1.lv, hl]
        · have d0 := s0.dp
          have d1 := s1.dp
          show max _ _ + 1 < _
          omega
      · rw [if_neg hp]
        exact split_sp d (by omega) g (not_parts_agree (by omega) a hp)
/-- where it parts -/
theorem split_first {k : Nat} : ∀ (d : Nat) {ls : List Lr}, d ≤ 48 → GoodL k ls → Agree d ls → ls.length ≠ 1 →
    ∃ j, j < d ∧ parts ls (48 - d + j) ∧ (∀ i, i < j → ¬ parts ls (48 - d + i)) ∧ splitM d ls = .br (splitM (d - j - 1) (sel ls (48 - d + j) 0)) (splitM (d - j - 1) (sel ls (48 - d + j) 1)) ∧ ∀ b, Agree (d - j - 1) (sel ls (48 - d + j) b)
  | 0, ls, _, g, a, h => absurd (one_of_agree g a) h
  | d + 1, ls, hd, g, a, h => by
    by_cases hp : parts ls (47 - d)
    · refine ⟨0, by omega, ?_, fun i hi => by omega, ?_, fun b => ?_⟩
      · rw [show 48 - (d + 1) + 0 = 47 - d by omega]; exact hp
      · rw [show 48 - (d + 1) + 0 = 47 - d by omega, show d + 1 - 0 - 1 = d by omega]
        show (if ls.length = 1 then hdT ls else if parts ls (47 - d) then Tr.br (splitM d (sel ls (47 - d) 0)) (splitM d (sel ls (47 - d) 1)) else splitM d ls) = _
        rw [if_neg h, if_pos hp]
      · rw [show 48 - (d + 1) + 0 = 47 - d by omega, show d + 1 - 0 - 1 = d by omega]
        exact sel_agree (by omega) rfl a
    · obtain ⟨j, h1, h2, h3, h4, h5⟩ := split_first d (by omega) g (not_parts_agree (by omega) a hp) h
      have e : ∀ i, 48 - (d + 1) + (i + 1) = 48 - d + i := fun i => by omega
      refine ⟨j + 1, by omega, by rw [e]; exact h2, fun i hi => ?_, ?_, fun b => ?_⟩
      · cases i with
        | zero => rw [show 48 - (d + 1) + 0 = 47 - d by omega]; exact hp
        | succ i => rw [e]; exact h3 i (by omega)
      · rw [e, show d + 1 - (j + 1) - 1 = d - j - 1 by omega]
        show (if ls.length = 1 then hdT ls else if parts ls (47 - d) then Tr.br (splitM d (sel ls (47 - d) 0)) (splitM d (sel ls (47 - d) 1)) else splitM d ls) = _
        rw [if_neg h, if_neg hp]
        exact h4
      · rw [e, show d + 1 - (j + 1) - 1 = d - j - 1 by omega]
        exact h5 b
theorem agree48 (ls : List Lr) : Agree 48 ls := fun _ _ _ _ j hj => by omega
end Sg
/-! # The law's own defs: what they promise -/
namespace Sg
open PySem PySem.Spec L2
def rLNum : List DV → Rs → Prop := fun xs r => ∃ x, xs = [.d (.str x)] ∧ IsNm x ∧ r = .ok (.d (.int (num x)))
def rLSeal : List DV → Rs → Prop := fun xs r => ∃ m row, xs = [.d (.int m), .d (dI row)] ∧ Md m ∧ row.length ≤ 300 ∧ r = .ok (.d (.int (sealF m row)))
def rLNums : List DV → Rs → Prop := fun xs r => ∃ k s, xs = [.d (dSm s)] ∧ SmOk k s ∧ k ≤ 3 ∧ r = .ok (.d (dI (smNums s)))
def rLRow (n : Nat) : List DV → Rs → Prop := fun xs r => ∃ m k t, xs = [.d (.int m), .d (dTr t)] ∧ Md m ∧ TrOk k t ∧ k ≤ 3 ∧ depth t ≤ n ∧ cutP t = false ∧ r = .ok (.d (dI (rowOf m t)))
def rLSum (n : Nat) : List DV → Rs → Prop := fun xs r => ∃ m k t, xs = [.d (.int m), .d (dTr t)] ∧ Md m ∧ TrOk k t ∧ k ≤ 3 ∧ depth t ≤ n ∧ r = .ok (.d (dSm (summ m t)))
def rLTop (n : Nat) : List DV → Rs → Prop := fun xs r => ∃ m k t, xs = [.d (.int m), .d (dTr t)] ∧ Md m ∧ TrOk k t ∧ k ≤ 3 ∧ depth t ≤ n ∧ r = .ok (.d (dI (topRow m t)))
def rLRoot (n : Nat) : List DV → Rs → Prop := fun xs r => ∃ m k t, xs = [.d (.int m), .d (dTr t)] ∧ Md m ∧ TrOk k t ∧ k ≤ 3 ∧ depth t ≤ n ∧ r = .ok (.d (.int (rootOf m t)))
theorem rLNum_mk {x : Str} (h : IsNm x) : rLNum [.d (.str x)] (.ok (.d (.int (num x)))) := ⟨x, rfl, h, rfl⟩
theorem rLSeal_mk {m : Int} {row : List Int} (hm : Md m) (h : row.length ≤ 300) : rLSeal [.d (.int m), .d (dI row)] (.ok (.d (.int (sealF m row)))) := ⟨m, row, rfl, hm, h, rfl⟩
theorem rLNums_mk {k : Nat} {s : Sm} (h : SmOk k s) (hk : k ≤ 3) : rLNums [.d (dSm s)] (.ok (.d (dI (smNums s)))) := ⟨k, s, rfl, h, hk, rfl⟩
theorem rLRow_mk {n k : Nat} {m : Int} {t : Tr} (hm : Md m) (h : TrOk k t) (hk : k ≤ 3) (hd : depth t ≤ n) (hc : cutP t = false) : rLRow n [.d (.int m), .d (dTr t)] (.ok (.d (dI (rowOf m t)))) := ⟨m, k, t, rfl, hm, h, hk, hd, hc, rfl⟩
theorem rLSum_mk {n k : Nat} {m : Int} {t : Tr} (hm : Md m) (h : TrOk k t) (hk : k ≤ 3) (hd : depth t ≤ n) : rLSum n [.d (.int m), .d (dTr t)] (.ok (.d (dSm (summ m t)))) := ⟨m, k, t, rfl, hm, h, hk, hd, rfl⟩
theorem rLTop_mk {n k : Nat} {m : Int} {t : Tr} (hm : Md m) (h : TrOk k t) (hk : k ≤ 3) (hd : depth t ≤ n) : rLTop n [.d (.int m), .d (dTr t)] (.ok (.d (dI (topRow m t)))) := ⟨m, k, t, rfl, hm, h, hk, hd, rfl⟩
theorem rLRoot_mk {n k : Nat} {m : Int} {t : Tr} (hm : Md m) (h : TrOk k t) (hk : k ≤ 3) (hd : depth t ≤ n) : rLRoot n [.d (.int m), .d (dTr t)] (.ok (.d (.int (rootOf m t)))) := ⟨m, k, t, rfl, hm, h, hk, hd, rfl⟩
end Sg
local macro_rules | `(tactic| wtm_at "g_R") => `(tactic| (with_reducible refine' rLNum_mk ?z0; (case z0 => wtm_at "g_side")))
local macro_rules | `(tactic| wtm_at "g_R") => `(tactic| (with_reducible refine' rLSeal_mk ?z0 ?z1; (case z0 => wtm_at "g_side"); (case z1 => wtm_at "g_side")))
local macro_rules | `(tactic| wtm_at "g_R") => `(tactic| (with_reducible refine' rLNums_mk ?z0 ?z1; (case z0 => wtm_at "g_side"); (case z1 => wtm_at "g_side")))
local macro_rules | `(tactic| wtm_at "g_R") => `(tactic| (with_reducible refine' rLRow_mk ?z0 ?z1 ?z2 ?z3 ?z4; (case z0 => wtm_at "g_side"); (case z1 => wtm_at "g_side"); (case z2 => wtm_at "g_side"); (case z3 => wtm_at "g_side"); (case z4 => wtm_at "g_side")))
local macro_rules | `(tactic| wtm_at "g_R") => `(tactic| (with_reducible refine' rLSum_mk ?z0 ?z1 ?z2 ?z3; (case z0 => wtm_at "g_side"); (case z1 => wtm_at "g_side"); (case z2 => wtm_at "g_side"); (case z3 => wtm_at "g_side")))
local macro_rules | `(tactic| wtm_at "g_R") => `(tactic| (with_reducible refine' rLTop_mk ?z0 ?z1 ?z2 ?z3; (case z0 => wtm_at "g_side"); (case z1 => wtm_at "g_side"); (case z2 => wtm_at "g_side"); (case z3 => wtm_at "g_side")))
local macro_rules | `(tactic| wtm_at "g_R") => `(tactic| (with_reducible refine' rLRoot_mk ?z0 ?z1 ?z2 ?z3; (case z0 => wtm_at "g_side"); (case z1 => wtm_at "g_side"); (case z2 => wtm_at "g_side"); (case z3 => wtm_at "g_side")))
namespace Sg
section
variable {P : Program} {w : World} {K : PySem.W.Frag} {mg : Str → Option Value} {base : Heap}
theorem sc__law_number : FnScope ["_law_name_here", "_law_letters", "_law_number_here", "_law_k", "_law_digit"] ["_law_name_here"] (defScope s__law_number) := ⟨rfl, rfl, rfl, by decide +kernel, rfl, by decide +kernel, by decide +kernel⟩
theorem fn__law_number (C : Wd K mg) : Fn P w K mg base "_law_number" ["_law_name_here"] 2 (spD K 1 rLNum) := by
  obtain ⟨fd, F⟩ := C.defs 44 (mkD "_law_number" s__law_number) rfl
  refine fn_mk (C.glo _ (by decide +kernel)) F sc__law_number (fun _ _ _ _ _ _ us hl => match us, hl with | [_], _ => rfl) fun X cdv A outer s H E hX hr xk xs r hl hR => ⟨[], ?_⟩
  obtain ⟨x, rfl, hx, rfl⟩ := hR
  subst hX
  wtm_at "g_setn"
  wtm_at "g_setn"
  refine' bs_cons (b1_forn (m := 8) (st := fun j => [some (.d (.str x)), some (.d (.str ALPH)), some (.d (.int (numTo x j))), none, none]) ?k ?hi ?hx ?hg ?h0 ?hb ?he ?hs) ?_
  wtm_at "g_fors"
  case h0 => wtm_at "g_wk"
  case he => exact .inl ⟨rfl, rfl⟩
  case hb =>
    intro j hj _
    wtm_at "g_setn"
    have hd : digitAt x j = if j < x.length then (match x.cps.toList[j]? with | some c => alpha.idxOf c + 1 | none => 0) else 0 := by
      unfold digitAt
      by_cases h : j < x.length
      · rw [if_pos h]
        cases x.cps.toList[j]? <;> rfl
      · rw [if_neg h]
        have : x.cps.toList[j]? = none := by simp [Str.length] at h ⊢; omega
        rw [this]
    have hlen := len_str (nm_line hx)
    refine bs_cons (ρ' := [some (.d (.str x)), some (.d (.str ALPH)), some (.d (.int (numTo x j))), some (.d (.int j)), some (.d (.int (digitAt x j)))]) (b1_if (b := decide ((j : Int) < (x.length : Nat))) (by wtm_at "g_vt") (fun hb => ?_) (fun hb => ?_)) ?_
    · have hlt : j < x.length := by simpa using hb
      obtain ⟨c, e1, e2, e3⟩ := nm_at hx hlt
      have hz := nm_line hx
      rw [if_pos hlt, e1] at hd
      have hd : digitAt x j = alpha.idxOf c + 1 := hd
      wtm_at "g_setn"
      refine bs_weak bs_nil ?_
      have e : ((digitAt x j : Nat) : Int) = ((alpha.idxOf c : Nat) + 1 : Int) := by rw [hd]; omega
      rw [e]
      wtm_at "g_wk"
    · have hlt : ¬ j < x.length := by simpa using hb
      rw [if_neg hlt] at hd
      refine bs_weak bs_nil ?_
      rw [hd]
      wtm_at "g_wk"
    · wtm_at "g_setn"
      refine bs_weak bs_nil ?_
      have e : ((numTo x (j + 1) : Nat) : Int) = (numTo x j : Int) * 64 + (digitAt x j : Int) := by
        show ((numTo x j * 64 + digitAt x j : Nat) : Int) = _
        omega
      rw [e]
      wtm_at "g_wk"
  · wtm_at "g_ret"
    rfl
theorem sc__law_seal : FnScope ["_law_modulus_here", "_law_row_here", "_law_value", "_law_number_here"] ["_law_modulus_here", "_law_row_here"] (defScope s__law_seal) := ⟨rfl, rfl, rfl, by decide +kernel, rfl, by decide +kernel, by decide +kernel⟩
theorem fn__law_seal (C : Wd K mg) : Fn P w K mg base "_law_seal" ["_law_modulus_here", "_law_row_here"] 2 (spD K 2 rLSeal) := by
  obtain ⟨fd, F⟩ := C.defs 47 (mkD "_law_seal" s__law_seal) rfl
  refine fn_mk (C.glo _ (by decide +kernel)) F sc__law_seal (fun _ _ _ _ _ _ us hl => match us, hl with | [_, _], _ => rfl) fun X cdv A outer s H E hX hr xk xs r hl hR => ⟨[], ?_⟩
  obtain ⟨m, row, rfl, hm, hlen, rfl⟩ := hR
  have hm1 := hm.1
  have hm2 := hm.2
  subst hX
  wtm_at "g_setn"
  have hfl : (row.map PyData.int ++ [PyData.int (row.length : Nat)]) = (row ++ [(row.length : Int)]).map PyData.int := by simp
  refine' bs_cons (b1_forn (n := row.length + 1) (f := fun j => ((row ++ [(row.length : Int)]).map PyData.int).getD j .none) (m := row.length + 1) (st := fun j => [some (.d (.int m)), some (.d (dI row)), some (.d (.int (sealTo m (row ++ [(row.length : Int)]) j))), none]) ?k ?hi ?hx ?hg ?h0 ?hb ?he ?hs) ?_
  case k => assumption
  case hx => exact rfl
  case hg => exact pg_name (i := 3) sc__law_seal.nd rfl (Or.inl rfl)
  case hs => intro _; rfl
  case hi =>
    refine' EvI.is (evi_f ?z) ?n ?f
    case z => wtm_at "g_evf"
    case n => simp
    case f => rw [List.length_map, hfl]
  case h0 => wtm_at "g_wk"
  case he => exact .inl ⟨rfl, rfl⟩
  case hb =>
    intro j hj _
    have hj2 : j < (row ++ [(row.length : Int)]).length := by simpa using hj
    rw [getD_ints hj2]
    have bd := sealTo_bd hm (row ++ [(row.length : Int)]) j
    rw [sealTo_succ hj2]
    generalize sealTo m (row ++ [(row.length : Int)]) j = v at bd ⊢
    generalize (row ++ [(row.length : Int)])[j] = q
    wtm_at "g_setn"
    exact bs_weak bs_nil (by wtm_at "g_wk")
  · wtm_at "g_ret"
    show DV.d (.int (sealTo m _ _)) = _
    rw [sealTo_all]
theorem sc__law_numbers : FnScope ["_law_summary_here"] ["_law_summary_here"] (defScope s__law_numbers) := ⟨rfl, rfl, rfl, by decide +kernel, rfl, by decide +kernel, by decide +kernel⟩
theorem fn__law_numbers (C : Wd K mg) : Fn P w K mg base "_law_numbers" ["_law_summary_here"] 3 (spD K 1 rLNums) := by
  obtain ⟨fd, F⟩ := C.defs 48 (mkD "_law_numbers" s__law_numbers) rfl
  have F1 := fn__law_number (P := P) (w := w) (base := base) C
  refine fn_mk (C.glo _ (by decide +kernel)) F sc__law_numbers (fun _ _ _ _ _ _ us hl => match us, hl with | [_], _ => rfl) fun X cdv A outer s H E hX hr xk xs r hl hR => ⟨[], ?_⟩
  obtain ⟨k, sm, rfl, hs, hk, rfl⟩ := hR
  have h1 := hs.lo
  have h2 := hs.hi
  have h3 := hs.len
  subst hX
  wtm_at "g_ret"
  simp [dI, smNums]
end
end Sg
namespace Sg
section
variable {P : Program} {w : World} {K : PySem.W.Frag} {mg : Str → Option Value} {base : Heap}
theorem sc__law_row : FnScope ["_law_modulus_here", "_law_tree", "_law_left", "_law_right"] ["_law_modulus_here", "_law_tree"] (defScope s__law_row) := ⟨rfl, rfl, rfl, by decide +kernel, rfl, by decide +kernel, by decide +kernel⟩
theorem sc__law_summary : FnScope ["_law_modulus_here", "_law_tree", "_law_seal_here", "_law_left", "_law_right", "_law_sums_here", "_law_k"] ["_law_modulus_here", "_law_tree"] (defScope s__law_summary) := ⟨rfl, rfl, rfl, by decide +kernel, rfl, by decide +kernel, by decide +kernel⟩
theorem st__law_row (C : Wd K mg) (n : Nat) (IH : ∀ j, n = j + 1 → Fn P w K mg base "_law_summary" ["_law_modulus_here", "_law_tree"] (5 + 2 * j) (spD K 2 (rLSum j))) : Fn P w K mg base "_law_row" ["_law_modulus_here", "_law_tree"] (4 + 2 * n) (spD K 2 (rLRow n)) := by
  obtain ⟨fd, F⟩ := C.defs 49 (mkD "_law_row" s__law_row) rfl
  have F1 := fn__law_number (P := P) (w := w) (base := base) C
  have F2 := fn__law_numbers (P := P) (w := w) (base := base) C
  rw [show 4 + 2 * n = 3 + 2 * n + 1 by omega]
  refine fn_mk (C.glo _ (by decide +kernel)) F sc__law_row (fun _ _ _ _ _ _ us hl => match us, hl with | [_, _], _ => rfl) fun X cdv A outer s H E hX hr xk xs r hl hR => ⟨[], ?_⟩
  obtain ⟨m, k, t, rfl, hm, ht, hk, hd, hc, rfl⟩ := hR
  subst hX
  cases t with
  | cut sm => cases hc
  | leaf nm ws ns =>
    obtain ⟨h1, h2, h3⟩ := ht
    have hw : ws.length ≤ 100 := by omega
    have hn : ns.length ≤ 100 := by omega
    refine bs_ifT (by wtm_at "g_vt") (by decide +kernel) ?_ rfl
    wtm_at "g_ret"
    simp [dI, rowOf, leafRow]
  | br l r =>
    have hd' : max (depth l) (depth r) + 1 ≤ n := hd
    obtain ⟨j, rfl⟩ : ∃ j, n = j + 1 := ⟨n - 1, by omega⟩
    have F4 := IH j rfl
    have hl1 : depth l ≤ j := by omega
    have hl2 : depth r ≤ j := by omega
    have t1 := ht.1
    have t2 := ht.2
    have s1 := summ_ok (m := m) t1
    have s2 := summ_ok (m := m) t2
    have n1 := smNums_length s1
    have n2 := smNums_length s2
    have hl0 := s1.len
    refine bs_ifF (by wtm_at "g_vt") (by decide +kernel) ?_
    wtm_at "g_setn"
    wtm_at "g_setn"
    wtm_at "g_ret"
    simp [dI, rowOf, brRow]
theorem st__law_summary (C : Wd K mg) (n : Nat) (F1 : Fn P w K mg base "_law_row" ["_law_modulus_here", "_law_tree"] (4 + 2 * n) (spD K 2 (rLRow n))) (IH : ∀ j, n = j + 1 → Fn P w K mg base "_law_summary" ["_law_modulus_here", "_law_tree"] (5 + 2 * j) (spD K 2 (rLSum j))) :
    Fn P w K mg base "_law_summary" ["_law_modulus_here", "_law_tree"] (5 + 2 * n) (spD K 2 (rLSum n)) := by
  obtain ⟨fd, F⟩ := C.defs 50 (mkD "_law_summary" s__law_summary) rfl
  have F2 := fn__law_seal (P := P) (w := w) (base := base) C
  rw [show 5 + 2 * n = 4 + 2 * n + 1 by omega]
  refine fn_mk (C.glo _ (by decide +kernel)) F sc__law_summary (fun _ _ _ _ _ _ us hl => match us, hl with | [_, _], _ => rfl) fun X cdv A outer s H E hX hr xk xs r hl hR => ⟨[], ?_⟩
  obtain ⟨m, k, t, rfl, hm, ht, hk, hd, rfl⟩ := hR
  subst hX
  cases t with
  | cut sm =>
    refine bs_ifT (by wtm_at "g_vt") (by decide +kernel) ?_ rfl
    wtm_at "g_ret"
    rfl
  | leaf nm ws ns =>
    have hc : cutP (.leaf nm ws ns) = false := rfl
    have hz : (rowOf m (.leaf nm ws ns)).length ≤ 300 := Nat.le_trans (row_len hk ht) (by decide)
    refine bs_ifF (by wtm_at "g_vt") (by decide +kernel) ?_
    wtm_at "g_setn"
    refine bs_ifT (by wtm_at "g_vt") (by decide +kernel) ?_ rfl
    wtm_at "g_ret"
    rfl
  | br l r =>
    have hc : cutP (.br l r) = false := rfl
    have hz : (rowOf m (.br l r)).length ≤ 300 := Nat.le_trans (row_len hk ht) (by decide)
    have hd' : max (depth l) (depth r) + 1 ≤ n := hd
    obtain ⟨j, rfl⟩ : ∃ j, n = j + 1 := ⟨n - 1, by omega⟩
    have F4 := IH j rfl
    have hl1 : depth l ≤ j := by omega
    have hl2 : depth r ≤ j := by omega
    have t1 := ht.1
    have t2 := ht.2
    have s1 := summ_ok (m := m) t1
    have s2 := summ_ok (m := m) t2
    have e1 := s1.len
    have e2 := s2.len
    refine bs_ifF (by wtm_at "g_vt") (by decide +kernel) ?_
    wtm_at "g_setn"
    refine bs_ifF (by wtm_at "g_vt") (by decide +kernel) ?_
    wtm_at "g_setn"
    wtm_at "g_setn"
    generalize hgl : summ m l = sl at *
    generalize hgr : summ m r = sr at *
    have eb : (List.map PyData.int sl.sums).length = k := by simp [e1]
    refine' bs_cons (b1_setn (x := .d (dI (addL sl.sums sr.sums))) ?c ?e ?i ?x ?s ?f) ?_
    case c => assumption
    case i => exact rfl
    case x => exact Or.inl rfl
    case s => exact rfl
    case f => exact Or.inl rfl
    case e =>
      refine' Ev.is (ev_totup ?C ?hg ?ha ?he ?hp) ?q
      case C => assumption
      case hg => exact rfl
      case he => exact rfl
      case hp => exact rfl
      case ha =>
        refine' ev_lcm (n := k) (g := fun j => .int (sl.sums.getD j 0 + sr.sums.getD j 0)) ?y1 ?y2 ?y3 ?y4 ?y5 ?y6 ?y7 ?y8 ?y9
        case y1 => exact rfl
        case y2 => assumption
        case y3 => exact blkOk_by (by kernel_rfl)
        case y6 => intro _ _ _ _ _; refine pg_name ?nd rfl ?lc <;> first | exact Or.inl rfl | exact Or.inr rfl | (have z := XOk.nd (by assumption); exact z)
        case y9 => intro _; rfl
        case y4 =>
          refine' EvI.is ?z ?n ?f
          case z => wtm_at "g_evi"
          case n => simp [e1]
          case f => rfl
        case y5 => omega
        case y8 => exact fun _ _ => rfl
        case y7 =>
          intro s H C' cl fp i hi
          have a1 : atI (sl.sums.map PyData.int) (i : Int) = some (.int (sl.sums.getD i 0)) := atI_nat (by simp [List.getD, e1, hi])
          have a2 : atI (sr.sums.map PyData.int) (i : Int) = some (.int (sr.sums.getD i 0)) := atI_nat (by simp [List.getD, e2, hi])
          wtm_at "g_ev"
      case q =>
        rw [addL_map e1 e2]
        rfl
    wtm_at "g_ret"
    rw [show summ m (.br l r) = brSm m (summ m l) (summ m r) from rfl, show rowOf m (.br l r) = brRow (summ m l) (summ m r) from rfl, hgl, hgr]
    rfl
theorem fn__law_rs (C : Wd K mg) : ∀ n, Fn P w K mg base "_law_row" ["_law_modulus_here", "_law_tree"] (4 + 2 * n) (spD K 2 (rLRow n)) ∧ Fn P w K mg base "_law_summary" ["_law_modulus_here", "_law_tree"] (5 + 2 * n) (spD K 2 (rLSum n))
  | 0 => by
    have a := st__law_row (P := P) (w := w) (base := base) C 0 (fun j h => by omega)
    exact ⟨a, st__law_summary C 0 a (fun j h => by omega)⟩
  | n + 1 => by
    have ih := (fn__law_rs C n).2
    have a := st__law_row (P := P) (w := w) (base := base) C (n + 1) (fun j h => by
      have e : j = n := by omega
      subst e
      exact ih)
    exact ⟨a, st__law_summary C (n + 1) a (fun j h => by
      have e : j = n := by omega
      subst e
      exact ih)⟩
theorem fn__law_summary (C : Wd K mg) (n : Nat) : Fn P w K mg base "_law_summary" ["_law_modulus_here", "_law_tree"] (5 + 2 * n) (spD K 2 (rLSum n)) := (fn__law_rs C n).2
theorem sc__law_top : FnScope ["_law_modulus_here", "_law_tree", "_law_summary_here"] ["_law_modulus_here", "_law_tree"] (defScope s__law_top) := ⟨rfl, rfl, rfl, by decide +kernel, rfl, by decide +kernel, by decide +kernel⟩
theorem fn__law_top (C : Wd K mg) (n : Nat) : Fn P w K mg base "_law_top" ["_law_modulus_here", "_law_tree"] (6 + 2 * n) (spD K 2 (rLTop n)) := by
  obtain ⟨fd, F⟩ := C.defs 51 (mkD "_law_top" s__law_top) rfl
  have F1 := fn__law_numbers (P := P) (w := w) (base := base) C
  have F3 := fn__law_summary (P := P) (w := w) (base := base) C n
  rw [show 6 + 2 * n = 5 + 2 * n + 1 by omega]
  refine fn_mk (C.glo _ (by decide +kernel)) F sc__law_top (fun _ _ _ _ _ _ us hl => match us, hl with | [_, _], _ => rfl) fun X cdv A outer s H E hX hr xk xs r hl hR => ⟨[], ?_⟩
  obtain ⟨m, k, t, rfl, hm, ht, hk, hd, rfl⟩ := hR
  subst hX
  have s1 := summ_ok (m := m) ht
  have sl := smNums_length s1
  refine bs_ifF (by wtm_at "g_vt") (isN_dTr t) ?_
  wtm_at "g_setn"
  wtm_at "g_ret"
  simp [dI, topRow]
theorem sc__law_root : FnScope ["_law_modulus_here", "_law_tree"] ["_law_modulus_here", "_law_tree"] (defScope s__law_root) := ⟨rfl, rfl, rfl, by decide +kernel, rfl, by decide +kernel, by decide +kernel⟩
theorem fn__law_root (C : Wd K mg) (n : Nat) : Fn P w K mg base "_law_root" ["_law_modulus_here", "_law_tree"] (7 + 2 * n) (spD K 2 (rLRoot n)) := by
  obtain ⟨fd, F⟩ := C.defs 52 (mkD "_law_root" s__law_root) rfl
  have F1 := fn__law_seal (P := P) (w := w) (base := base) C
  have F3 := fn__law_top (P := P) (w := w) (base := base) C n
  rw [show 7 + 2 * n = 6 + 2 * n + 1 by omega]
  refine fn_mk (C.glo _ (by decide +kernel)) F sc__law_root (fun _ _ _ _ _ _ us hl => match us, hl with | [_, _], _ => rfl) fun X cdv A outer s H E hX hr xk xs r hl hR => ⟨[], ?_⟩
  obtain ⟨m, k, t, rfl, hm, ht, hk, hd, rfl⟩ := hR
  subst hX
  have s1 := summ_ok (m := m) ht
  have sl := smNums_length s1
  have hz : (topRow m t).length ≤ 300 := by
    show ([3, ((summ m t).sums.length : Int)] ++ smNums (summ m t)).length ≤ 300
    simp [sl]
    omega
  wtm_at "g_ret"
  rfl
end
end Sg
/-! # More comprehensions, slices -/
namespace Sg
open PySem PySem.Spec L2
/-- d at v, whatever becomes of D -/
def DpX (K : PySem.W.Frag) (H : Hp) (D : Addr) (v : V) (d : PyData) : Prop := ∀ H2 : Hp, (∀ b o, b ≠ D → H b = some o → H2 b = some o) → Dp K H2 v d
theorem DpX.dp {K : PySem.W.Frag} {H : Hp} {D : Addr} {v : V} {d : PyData} (h : DpX K H D v d) : Dp K H v d := h H fun _ _ _ e => e
theorem DpX.mono {K : PySem.W.Frag} {H H' : Hp} {D : Addr} {v : V} {d : PyData} (h : DpX K H D v d) (k : ∀ b o, b ≠ D → H b = some o → H' b = some o) : DpX K H' D v d := fun H2 k2 => h H2 fun b o hb e => k2 b o hb (k b o hb e)
inductive DpAllX (K : PySem.W.Frag) (H : Hp) (D : Addr) : List V → List PyData → Prop
  | nil : DpAllX K H D [] []
  | cons {v : V} {d : PyData} {vs : List V} {ds : List PyData} : DpX K H D v d → DpAllX K H D vs ds → DpAllX K H D (v :: vs) (d :: ds)
theorem DpAllX.mono {K : PySem.W.Frag} {H H' : Hp} {D : Addr} {vs : List V} {ds : List PyData} (h : DpAllX K H D vs ds) (k : ∀ b o, b ≠ D → H b = some o → H' b = some o) : DpAllX K H' D vs ds := by
  induction h with
  | nil => exact .nil
  | cons h1 _ ih => exact .cons (h1.mono k) ih
theorem DpAllX.dp {K : PySem.W.Frag} {H : Hp} {D : Addr} {vs : List V} {ds : List PyData} (h : DpAllX K H D vs ds) : DpAll K H vs ds := by
  induction h with
  | nil => exact .nil
  | cons h1 _ ih => exact .cons h1.dp ih
theorem DpAllX.snoc {K : PySem.W.Frag} {H : Hp} {D : Addr} {vs : List V} {ds : List PyData} {v : V} {d : PyData} (h : DpAllX K H D vs ds) (h1 : DpX K H D v d) : DpAllX K H D (vs ++ [v]) (ds ++ [d]) := by
  induction h with
  | nil => exact .cons h1 .nil
  | cons h2 _ ih => exact .cons h2 ih
theorem DpAllX.length {K : PySem.W.Frag} {H : Hp} {D : Addr} {vs : List V} {ds : List PyData} (h : DpAllX K H D vs ds) : vs.length = ds.length := by
  induction h with
  | nil => rfl
  | cons _ _ ih => simp [ih]
theorem dpx_of {K : PySem.W.Frag} {H : Hp} {D : Addr} {acc : List V} {v : V} {d : PyData} (hD : H D = some (.lst acc)) (hn : noL d = true) (h : Dp K H v d) : DpX K H D v d := fun H2 k => dp_swap hD k _ _ hn h
section
variable {X : Cx} {ρ : Rho}
theorem lcc {tg iter : Expr} {n : Nat} {f g : Nat → PyData} {pk : Nat → Bool} {vs : List Nat} {wg : TG} {wt : TT} {we : TE} (hi : EvI X tg iter ρ n f) (hn : n ≤ 1000) (σ : L2.St) (H : Hp) (Q : VK) (E : Env X.K H σ ρ)
    (hs : ∀ k, k < n → ∀ (D : Addr) (acc : List V) (x : V) (H3 : Hp), H3 D = some (.lst acc) → acc.length ≤ k → Env X.K H3 (wipe σ vs) (wipeR ρ vs) → DpX X.K H3 D x (f k) → ∀ (R : Option V → Hp → Prop), (pk k = true → ∀ y H6, Same H3 H6 → DpX X.K H6 D y (g k) → R (some y) H6) → (pk k = false → ∀ H5, Same H3 H5 → R none H5) →
      wg x (wipe σ vs) H3 fun σ4 H4 => wipe σ4 vs = wipe (wipe σ vs) vs ∧ wt σ4 H4 fun b H5 => if b = true then we σ4 H5 fun y H6 => R (some y) H6 else R none H5)
    (q : ∀ D acc H', Same H H' → H D = none → H' D = some (.lst acc) → DpAllX X.K H' D acc (pick n pk g) → Q (.ref D) H') :
    tLc (wI X tg iter) wg wt we vs σ H Q := by
  refine hi σ H _ E fun J H1 s1 wk D hD => ?_
  obtain ⟨G, Y, w, hG, hY⟩ := wk.ex
  have sD : ∀ o, Same H1 (upd H1 D o) := fun o => same_new hD o
  refine lc_it w (fun k H2 => Same H1 H2 ∧ ∃ acc, H2 D = some (.lst acc) ∧ DpAllX X.K H2 D acc (pick k pk g)) ⟨sD _, [], upd_same, .nil⟩ (fun k H2 _ p => hG H2 p.1) ?_ ?_
  · rintro k x H2 H3 hk ⟨s2, acc, hacc, dacc⟩ y
    obtain ⟨s3, dx, dxx⟩ := hY k H2 x H3 hk s2 y
    have hacc3 : H3 D = some (.lst acc) := s3 D _ hacc
    have E3 : Env X.K H3 (wipe σ vs) (wipeR ρ vs) := (((E.mono s1).mono s2).mono s3).wipe vs
    have s13 : Same H1 H3 := s2.trans s3
    have z := hs k hk D acc x H3 hacc3 (by rw [dacc.length]; exact pick_le) E3 (fun H2' k2 => dxx D acc hD hacc H2' k2) (fun o H6 => match o with
      | some y => ∃ acc, H6 D = some (.lst acc) ∧ acc.length < sizeLine ∧ (Same H1 (upd H6 D (.lst (acc ++ [y]))) ∧ ∃ acc', (upd H6 D (.lst (acc ++ [y]))) D = some (.lst acc') ∧ DpAllX X.K (upd H6 D (.lst (acc ++ [y]))) D acc' (pick (k + 1) pk g))
      | none => Same H1 H6 ∧ ∃ acc', H6 D = some (.lst acc') ∧ DpAllX X.K H6 D acc' (pick (k + 1) pk g)) (fun hp y H6 s6 dy => ?_) (fun hp H5 s5 => ?_)
    · rw [wipe_idem] at z
      exact z
    · have dacc6 : DpAllX X.K H6 D acc (pick k pk g) := dacc.mono fun b o _ e => s6 b o (s3 b o e)
      have hlen : acc.length < 1001 := by
        rw [dacc6.length]
        exact Nat.lt_succ_of_le (Nat.le_trans pick_le (by omega))
      refine ⟨acc, s6 D _ hacc3, Nat.lt_of_lt_of_le hlen (by decide), fun b o qb => ?_, acc ++ [y], upd_same, ?_⟩
      · rw [upd_ne (ne_of_none qb hD)]
        exact s6 b o (s13 b o qb)
      · rw [pick_succ, hp, if_pos rfl]
        have kk : ∀ b o, b ≠ D → H6 b = some o → upd H6 D (.lst (acc ++ [y])) b = some o := fun b o hb e => by rw [upd_ne hb]; exact e
        exact (dacc6.mono kk).snoc (dy.mono kk)
    · refine ⟨s13.trans s5, acc, s5 D _ hacc3, ?_⟩
      rw [pick_succ, hp, if_neg (by decide)]
      exact dacc.mono fun b o _ e => s5 b o (s3 b o e)
  · rintro H2 ⟨s2, acc, hacc, dacc⟩
    exact q D acc H2 (s1.trans s2) (s1.free hD) hacc dacc
theorem tlc_filter {iter c : Expr} {scope : Scope} {n i : Nat} {f : Nat → PyData} {pk : Nat → Bool} {v : Str} {px : Pos} (hlt : i < ρ.length) (hi : EvI X (.Name v px) iter ρ n f) (hn : n ≤ 1000)
    (ht : Blk X scope fun Y => ∀ k, k < n → Vt Y c (ρ.set i (some (.d (f k)))) (pk k)) (σ : L2.St) (H : Hp) (Q : VK) (E : Env X.K H σ ρ) (q : ∀ D acc H', Same H H' → H D = none → H' D = some (.lst acc) → DpAll X.K H' acc (pick n pk f) → Q (.ref D) H') :
    tLc (wI X (.Name v px) iter) (gName i) (bT X scope [c]) (tVar i) [i] σ H Q :=
    lcc (tg := .Name v px) (vs := [i]) (g := f) hi hn σ H Q E (fun k hk D acc x H3 hacc _ E3 dx R h1 h0 => by
      have E4 : Env X.K H3 ((wipe σ [i]).set i (some x)) (ρ.set i (some (.d (f k)))) := by
        have z := E3.set i (x := .d _) dx.dp
        rw [wipe1] at z
        exact z
      refine ⟨by rw [wipe_set1], fun s H0 C cl fp => ?_⟩
      refine vti_one (ht s H0 C cl fp k hk) _ H3 _ E4 fun H5 s5 => ?_
      cases hp : pk k with
      | true =>
        rw [if_pos rfl]
        refine ⟨x, ?_, h1 hp x H5 s5 (dx.mono fun b o _ e => s5 b o e)⟩
        have hl : i < (wipe σ [i]).length := by rw [wipe_length, E.len]; exact hlt
        exact List.getElem?_set_self hl
      | false =>
        rw [if_neg (by decide)]
        exact h0 hp H5 s5) fun D acc H' sm hD hacc da => q D acc H' sm hD hacc da.dp
/-- [x for x in xs if ..]: of the walked itself -/
theorem evf_filter {iter c : Expr} {scope : Scope} {n i : Nat} {f : Nat → PyData} {pk : Nat → Bool} {v : Str} {px p2 pos : Pos} (cx : XOk X) (hlt : i < ρ.length) (ok : BlkOk X.N X.env.scope scope [(v, i)]) (hi : EvI X (.Name v px) iter ρ n f) (hn : n ≤ 1000) (hg : Blk X scope fun Y => PG Y (.Name v px) (gName i))
    (ht : Blk X scope fun Y => ∀ k, k < n → Vt Y c (ρ.set i (some (.d (f k)))) (pk k)) (he : Blk X scope fun Y => PE Y (.Name v p2) (tVar i)) (hs : ∀ x, foldedSetIterable iter X.env x = pure x) : EvF X (.ListComp (.Name v p2) [⟨.Name v px, iter, [c], 0⟩] scope pos) ρ (pick n pk f) := fun σ H Q E q =>
  ⟨_, pe_lc (own := [(v, i)]) cx.calm cx.nd pi_w ok (fun s H0 C cl fp => hg s H0 C cl fp) (fun s H C cl fp => (lc_terms (tg := .Name v px) (elt := .Name v p2) (ifs := [c])).2.1 s H C cl fp) (fun s H0 C cl fp => he s H0 C cl fp) hs, tlc_filter hlt hi hn ht σ H Q E q⟩
/-- y = [x for x in xs if ..] -/
theorem b1_setFilter {iter c : Expr} {scope : Scope} {n i j : Nat} {f : Nat → PyData} {pk : Nat → Bool} {v y : Str} {px p2 pos py spos : Pos} (cx : XOk X) (hlt : i < ρ.length) (hy : findN X.N y 0 = some j) (hyl : X.env.scope.names.lookup y = some .local) (hsw : swapsWith (.ListComp (.Name v p2) [⟨.Name v px, iter, [c], 0⟩] scope pos) (some (.Name y py)) spos.line X.env = pure true) (ok : BlkOk X.N X.env.scope scope [(v, i)])
    (hi : EvI X (.Name v px) iter ρ n f) (hn : n ≤ 1000) (hg : Blk X scope fun Y => PG Y (.Name v px) (gName i)) (ht : Blk X scope fun Y => ∀ k, k < n → Vt Y c (ρ.set i (some (.d (f k)))) (pk k)) (he : Blk X scope fun Y => PE Y (.Name v p2) (tVar i)) (hs : ∀ x, foldedSetIterable iter X.env x = pure x) :
    B1 X (.Assign [.Name y py] (.ListComp (.Name v p2) [⟨.Name v px, iter, [c], 0⟩] scope pos) spos) ρ (.nx (ρ.set j (some (.d (.list (pick n pk f)))))) := fun W σ H D tk E q =>
  ⟨_, ps_setLc (own := [(v, i)]) cx.calm cx.nd (by simpa using (findN_get hy).2) hyl hsw pi_w ok (fun s H0 C cl fp => hg s H0 C cl fp) (fun s H C cl fp => (lc_terms (tg := .Name v px) (elt := .Name v p2) (ifs := [c])).2.1 s H C cl fp) (fun s H0 C cl fp => he s H0 C cl fp) hs,
    tlc_filter hlt hi hn ht σ H _ E fun D' acc H' sm hD hacc da => q _ H' sm ((E.mono sm).set j (x := .d _) (Dp.lst (SqL.of hacc) da))⟩
/-- [e for x in xs], no lists within -/
theorem evf_lcm {iter elt : Expr} {scope : Scope} {n i : Nat} {f g : Nat → PyData} {v : Str} {px pos : Pos} (hx : findN X.N v 0 = some i) (cx : XOk X) (ok : BlkOk X.N X.env.scope scope [(v, i)]) (hi : EvI X (.Name v px) iter ρ n f) (hn : n ≤ 1000) (hg : Blk X scope fun Y => PG Y (.Name v px) (gName i))
    (he : Blk X scope fun Y => ∀ k, k < n → Ev Y elt (ρ.set i (some (.d (f k)))) (.d (g k))) (hL : ∀ k, k < n → noL (g k) = true) (hs : ∀ x, foldedSetIterable iter X.env x = pure x) : EvF X (.ListComp elt [⟨.Name v px, iter, [], 0⟩] scope pos) ρ ((List.range n).map g) := fun σ H Q E q =>
  ⟨_, pe_lc (own := [(v, i)]) cx.calm cx.nd pi_w ok (fun s H0 C cl fp => hg s H0 C cl fp) (fun s H C cl fp => (lc_terms (tg := .Name v px) (elt := elt) (ifs := [])).2.1 s H C cl fp) (fun s H C cl fp => (lc_terms (tg := .Name v px) (elt := elt) (ifs := [])).2.2 s H C cl fp) hs,
    lcc (tg := .Name v px) (vs := [i]) (g := g) (pk := fun _ => true) hi hn σ H Q E (fun k hk D acc x H3 hacc _ E3 dx R h1 h0 => by
      have E4 : Env X.K H3 ((wipe σ [i]).set i (some x)) (ρ.set i (some (.d (f k)))) := by
        have z := E3.set i (x := .d _) dx.dp
        rw [wipe1] at z
        exact z
      refine ⟨by rw [wipe_set1], fun s H0 C cl fp => ?_⟩
      refine vti_nil _ H3 _ E4 fun H5 s5 => ?_
      rw [if_pos rfl]
      intro s H0 C cl fp
      exact he s H0 C cl fp k hk _ H5 _ (E4.mono s5) fun y H6 s6 dy => h1 rfl y H6 (s5.trans s6) (dpx_of (s6 D _ (s5 D _ hacc)) (hL k hk) dy)) fun D acc H' sm hD hacc da => q D acc H' sm hD hacc (by
        have z := da.dp
        rw [pick_all] at z
        exact z)⟩
theorem dpx_ints {K : PySem.W.Frag} {H : Hp} {D : Addr} {acc : List V} {v : V} {ds : List PyData} (hD : H D = some (.lst acc)) (hl : acc.length ≠ ds.length) (hn : noLs ds = true) (h : Dp K H v (.list ds)) : DpX K H D v (.list ds) := fun H2 k => by
  cases h with
  | @lst a xs _ hs ha =>
    have hxl := dpAll_length ha
    refine .lst ?_ (dpAll_swap hD k _ _ hn ha)
    rcases hs with (hs | ⟨o, hs⟩) | hs
    · refine .inl (.inl (k a _ (fun z => ?_) hs))
      rw [z, hD] at hs
      have e : acc = xs := HO.lst.inj (Option.some.inj hs)
      rw [e] at hl
      exact hl hxl
    · exact .inl (.inr ⟨o, k a _ (fun z => by rw [z, hD] at hs; cases hs) hs⟩)
    · exact .inr hs
/-- y = [(c1, c2, v) for v in xs]: c2 is a list, longer than xs -/
theorem b1_setBuilt {iter c1 c2 : Expr} {scope : Scope} {n i j kk : Nat} {f : Nat → PyData} {g1 : Nat → Int} {g2 : Nat → List PyData} {v y : Str} {px p2 tp pos py spos : Pos} (cx : XOk X) (hlt : i < ρ.length) (hy : findN X.N y 0 = some j) (hyl : X.env.scope.names.lookup y = some .local) (hsw : swapsWith (.ListComp (.Tuple [c1, c2, .Name v p2] kk tp) [⟨.Name v px, iter, [], 0⟩] scope pos) (some (.Name y py)) spos.line X.env = pure true) (ok : BlkOk X.N X.env.scope scope [(v, i)])
    (hi : EvI X (.Name v px) iter ρ n f) (hn : n ≤ 1000) (hg : Blk X scope fun Y => PG Y (.Name v px) (gName i)) (h1 : Blk X scope fun Y => ∀ k, k < n → Ev Y c1 (ρ.set i (some (.d (f k)))) (.d (.int (g1 k)))) (h2 : Blk X scope fun Y => ∀ k, k < n → Ev Y c2 (ρ.set i (some (.d (f k)))) (.d (.list (g2 k))))
    (h3 : Blk X scope fun Y => PE Y (.Name v p2) (tVar i)) (hb : ∀ k, k < n → n < (g2 k).length ∧ noLs (g2 k) = true) (hse1 : Blk X scope fun Y => starEach [c1, c2, .Name v p2] Y.env = (false, eval c1 Y.env) :: starEach [c2, .Name v p2] Y.env) (hse2 : Blk X scope fun Y => starEach [c2, .Name v p2] Y.env = (false, eval c2 Y.env) :: starEach [.Name v p2] Y.env) (hse3 : Blk X scope fun Y => starEach [.Name v p2] Y.env = (false, eval (.Name v p2) Y.env) :: starEach [] Y.env) (hs : ∀ x, foldedSetIterable iter X.env x = pure x) :
    B1 X (.Assign [.Name y py] (.ListComp (.Tuple [c1, c2, .Name v p2] kk tp) [⟨.Name v px, iter, [], 0⟩] scope pos) spos) ρ (.nx (ρ.set j (some (.d (.list ((List.range n).map fun k => .tuple [.int (g1 k), .list (g2 k), f k])))))) := fun W σ H D tk E q =>
  ⟨_, ps_setLc (own := [(v, i)]) cx.calm cx.nd (by simpa using (findN_get hy).2) hyl hsw pi_w ok (fun s H0 C cl fp => hg s H0 C cl fp) (fun s H C cl fp => (lc_terms (tg := .Name v px) (elt := .Tuple [c1, c2, .Name v p2] kk tp) (ifs := [])).2.1 s H C cl fp) (fun s H C cl fp => (lc_terms (tg := .Name v px) (elt := .Tuple [c1, c2, .Name v p2] kk tp) (ifs := [])).2.2 s H C cl fp) hs,
    lcc (tg := .Name v px) (vs := [i]) (g := fun k => .tuple [.int (g1 k), .list (g2 k), f k]) (pk := fun _ => true) hi hn σ H _ E (fun k hk D' acc x H3 hacc hal E3 dx R hR1 hR0 => by
      have E4 : Env X.K H3 ((wipe σ [i]).set i (some x)) (ρ.set i (some (.d (f k)))) := by
        have z := E3.set i (x := .d _) dx.dp
        rw [wipe1] at z
        exact z
      have hl : i < (wipe σ [i]).length := by rw [wipe_length, E.len]; exact hlt
      refine ⟨by rw [wipe_set1], fun s H0 C cl fp => ?_⟩
      refine vti_nil _ H3 _ E4 fun H5 s5 => ?_
      rw [if_pos rfl]
      intro s H0 C cl fp
      refine ⟨_, pe_tup (pa_cons pe_w (pa_cons pe_w (pa_cons (h3 s H0 C cl fp) pa_nil (hse3 s H0 C cl fp)) (hse2 s H0 C cl fp)) (hse1 s H0 C cl fp)), ?_⟩
      refine h1 s H0 C cl fp k hk _ H5 _ (E4.mono s5) fun y1 H6 s6 d1 => h2 s H0 C cl fp k hk _ H6 _ ((E4.mono s5).mono s6) fun y2 H7 s7 d2 => ?_
      refine ⟨x, List.getElem?_set_self hl, ?_⟩
      have d1 : Dp X.K H6 y1 (.int (g1 k)) := d1
      have d2 : Dp X.K H7 y2 (.list (g2 k)) := d2
      cases d1
      refine ⟨by show 3 ≤ sizeLine; rw [sizeLine_eq]; omega, fun p hp => ?_⟩
      have hacc7 : H7 D' = some (.lst acc) := s7 D' _ (s6 D' _ (s5 D' _ hacc))
      have d2x := dpx_ints hacc7 (by have := (hb k hk).1; omega) (hb k hk).2 d2
      have sp : Same H7 (upd H7 p (.tup [.int (g1 k), y2, x])) := same_new hp _
      refine hR1 rfl _ _ (((s5.trans s6).trans s7).trans sp) fun H9 k9 => ?_
      have k7 : ∀ b o, b ≠ D' → H7 b = some o → H9 b = some o := fun b o hbD e => k9 b o hbD (sp b o e)
      refine .tup (SqT.of (k9 p _ (fun z => by rw [z, hacc7] at hp; cases hp) upd_same)) (.cons (.int _) (.cons (d2x H9 k7) (.cons (dx H9 fun b o hbD e => k7 b o hbD (s7 b o (s6 b o (s5 b o e)))) .nil)))) fun D' acc H' sm hD hacc da => q _ H' sm ((E.mono sm).set j (x := .d _) (Dp.lst (SqL.of hacc) (by
        have z := da.dp
        rw [pick_all] at z
        exact z)))⟩
/-! ### slices -/
theorem cut_take {xs : List V} {k : Nat} : cutV xs none (some (k : Int)) = xs.take k := by
  unfold cutV
  rw [HT.sIx_none, HT.sIx_nat]
  simp only [List.drop_zero, Nat.sub_zero]
  rw [List.take_eq_take_iff]
  omega
theorem cut_mid {xs : List V} {a b : Nat} : cutV xs (some (a : Int)) (some (b : Int)) = (xs.drop (min a xs.length)).take (min b xs.length - min a xs.length) := by
  unfold cutV
  rw [HT.sIx_nat, HT.sIx_nat]
theorem ev_slT {e h : Expr} {ds : List PyData} {k : Nat} {p2 pos : Pos} (he : Ev X e ρ (.d (.tuple ds))) (hh : Ev X h ρ (.d (.int (k : Nat)))) : Ev X (.Subscript e (.Slice none (some h) none p2) pos) ρ (.d (.tuple (ds.take k))) :=
  ev_of_pe (pe_slice sl_tupA pe_w po_none (po_some pe_w)) fun σ H Q E q => he σ H _ E fun v H1 s1 d1 => by
    have d1 : Dp X.K H1 v (.tuple ds) := d1
    refine hh σ H1 _ (E.mono s1) fun u H2 s2 d2 => ?_
    have d2 : Dp X.K H2 u (.int (k : Nat)) := d2
    cases d2
    refine ⟨_, rfl, ?_⟩
    cases d1 with
    | @tup a xs _ hs ha =>
      have hs2 : SqT X.K H2 a xs := Same.seqT s2 hs
      have ha2 := dpAll_mono s2 _ _ ha
      refine ⟨a, xs, rfl, hs2, fun hw => ?_, fun hw p hp => ?_⟩
      · refine q _ _ (s1.trans s2) (Dp.tup hs2 ?_)
        have hl := dpAll_length ha2
        have hw2 := hw.2
        rw [HT.sIx_nat] at hw2
        rw [List.take_of_length_le (by omega)]
        exact ha2
      · rw [cut_take]
        exact q _ _ ((s1.trans s2).trans (same_new hp _)) (Dp.tup (SqT.of upd_same) (dpAll_mono (same_new hp _) _ _ (dpAll_take k ha2)))
theorem ev_slL {e l h : Expr} {ds : List PyData} {a b : Nat} {p2 pos : Pos} (he : Ev X e ρ (.d (.list ds))) (hl : Ev X l ρ (.d (.int (a : Nat)))) (hh : Ev X h ρ (.d (.int (b : Nat)))) : Ev X (.Subscript e (.Slice (some l) (some h) none p2) pos) ρ (.d (.list ((ds.drop (min a ds.length)).take (min b ds.length - min a ds.length)))) :=
  ev_of_pe (pe_slice sl_list pe_w (po_some pe_w) (po_some pe_w)) fun σ H Q E q => he σ H _ E fun v H1 s1 d1 => by
    have d1 : Dp X.K H1 v (.list ds) := d1
    refine hl σ H1 _ (E.mono s1) fun u H2 s2 d2 => ?_
    have d2 : Dp X.K H2 u (.int (a : Nat)) := d2
    cases d2
    refine ⟨_, rfl, hh σ H2 _ ((E.mono s1).mono s2) fun u H3 s3 d3 => ?_⟩
    have d3 : Dp X.K H3 u (.int (b : Nat)) := d3
    cases d3
    refine ⟨_, rfl, ?_⟩
    cases d1 with
    | @lst a' xs _ hs ha =>
      have s13 := s2.trans s3
      have ha2 := dpAll_mono s13 _ _ ha
      refine ⟨a', xs, rfl, s13.seq hs, fun p hp => ?_⟩
      have z := dpAll_take (min b xs.length - min a xs.length) (dpAll_drop (min a xs.length) ha2)
      rw [cut_mid]
      refine q _ _ ((s1.trans s13).trans (same_new hp _)) (Dp.lst (SqL.of upd_same) ?_)
      rw [← dpAll_length ha2]
      exact dpAll_mono (same_new hp _) _ _ z
end
end Sg
/-! # The law's names, questions, bits, split: what they promise -/
namespace Sg
open PySem PySem.Spec L2
/-! ### names -/
def shortN : List Str := ["a", "b", "aa", "ab", "a0", "a_", "abc", "z", "zz", "0", "_", "zzzzzzzz", "00000000", "ab0", "abd", "b_"]
def restAt (r0 : Int) : Nat → Int
  | 0 => r0
  | k + 1 => restAt r0 k * 7 + 3 + k
def sgn (i : Int) : Nat := alpha.getD i.toNat 0
def nameTo (r0 : Int) : Nat → Str
  | 0 => ⟨#[]⟩
  | k + 1 => nameTo r0 k ++ ⟨#[sgn (restAt r0 (k + 1) / 11 % 37)]⟩
def nameM (z : Int) : Str := if z % 3 = 0 then shortN.getD (z / 3 % 16).toNat ⟨#[]⟩ else nameTo (z / 3) (1 + z / 3 % 8).toNat
theorem short_nm : ∀ x ∈ shortN, IsNm x := by
  have h : ∀ x ∈ shortN, (decide (1 ≤ x.length) && decide (x.length ≤ 8) && x.cps.toList.all fun c => decide (c ∈ alpha)) = true := by decide +kernel
  intro x hx
  have z := h x hx
  simp only [Bool.and_eq_true, decide_eq_true_eq, List.all_eq_true] at z
  exact ⟨z.1.1, z.1.2, z.2⟩
theorem rest_nn {r0 : Int} (h : 0 ≤ r0) : ∀ k, 0 ≤ restAt r0 k
  | 0 => h
  | k + 1 => by
    have := rest_nn h k
    show 0 ≤ restAt r0 k * 7 + 3 + k
    omega
theorem sgn_mem {i : Int} (h : 0 ≤ i) (h' : i < 37) : sgn i ∈ alpha := by
  unfold sgn
  rw [List.getD_eq_getElem?_getD]
  have hl : i.toNat < alpha.length := by rw [alpha_len]; omega
  rw [List.getElem?_eq_getElem hl]
  exact List.getElem_mem hl
theorem sgn_at {i : Int} (h : 0 ≤ i) (h' : i < 37) : atI ALPH.cps.toList i = some (sgn i) := by
  rw [alph_list]
  have hl : i.toNat < alpha.length := by rw [alpha_len]; omega
  have e : ((i.toNat : Nat) : Int) = i := Int.toNat_of_nonneg h
  have z := atI_nat (xs := alpha) (j := i.toNat) (v := sgn i) (by
    unfold sgn
    rw [List.getD_eq_getElem?_getD, List.getElem?_eq_getElem hl]
    rfl)
  rw [e] at z
  exact z
theorem str_app_list (x y : Str) : (x ++ y).cps.toList = x.cps.toList ++ y.cps.toList := by
  show (x.cps ++ y.cps).toList = _
  simp
theorem str_app_len (x y : Str) : (x ++ y).length = x.length + y.length := by
  show (x.cps ++ y.cps).size = _
  rw [Array.size_append]
  rfl
theorem nameTo_nm {r0 : Int} (h : 0 ≤ r0) : ∀ k, (nameTo r0 k).length = k ∧ ∀ c ∈ (nameTo r0 k).cps.toList, c ∈ alpha
  | 0 => ⟨rfl, fun c hc => by cases hc⟩
  | k + 1 => by
    obtain ⟨h1, h2⟩ := nameTo_nm h k
    have h3 := rest_nn h (k + 1)
    refine ⟨?_, fun c hc => ?_⟩
    · show (nameTo r0 k ++ _).length = _
      rw [str_app_len, h1]
      rfl
    · have hc : c ∈ (nameTo r0 k ++ ⟨#[sgn (restAt r0 (k + 1) / 11 % 37)]⟩).cps.toList := hc
      rw [str_app_list] at hc
      rcases List.mem_append.mp hc with hc | hc
      · exact h2 c hc
      · have e : c = sgn (restAt r0 (k + 1) / 11 % 37) := by simpa using hc
        rw [e]
        exact sgn_mem (by omega) (by omega)
theorem nameM_nm {z : Int} (h : 0 ≤ z) : IsNm (nameM z) := by
  unfold nameM
  by_cases c : z % 3 = 0
  · rw [if_pos c]
    have hl : (z / 3 % 16).toNat < shortN.length := by show _ < 16; omega
    rw [List.getD_eq_getElem?_getD, List.getElem?_eq_getElem hl]
    exact short_nm _ (List.getElem_mem hl)
  · rw [if_neg c]
    obtain ⟨h1, h2⟩ := nameTo_nm (r0 := z / 3) (by omega) (1 + z / 3 % 8).toNat
    exact ⟨by rw [h1]; omega, by rw [h1]; omega, h2⟩
/-! ### questions -/
def qM (z : Int) : Qn := if z % 8 = 0 then .leaf (nameM (z / 8 % 120)) else if z % 8 = 1 then .several ([nameM (z / 8 % 120), nameM (z / 960 % 120), nameM (z / 8 % 120)].take (z / 115200 % 4).toNat) else
  if z % 8 = 2 then (if z / 8 % 2 = 0 then .count else .total) else if z % 8 < 5 then .range (nameM (z / 8 % 120)) (nameM (z / 960 % 120)) else if z % 8 = 5 then .rank (nameM (z / 8 % 120)) else
  if z % 8 = 6 then .place (z / 8 % 16) else .next (nameM (z / 8 % 120))
theorem qM_ok {z : Int} (h : 0 ≤ z) : QnOk (qM z) := by
  have h1 : IsNm (nameM (z / 8 % 120)) := nameM_nm (by omega)
  have h2 : IsNm (nameM (z / 960 % 120)) := nameM_nm (by omega)
  unfold qM
  split
  · exact h1
  split
  · refine ⟨?_, fun n hn => ?_⟩
    · rw [List.length_take]
      exact Nat.le_trans (Nat.min_le_right _ _) (show 3 ≤ 10 by decide)
    · have := List.mem_of_mem_take hn
      simp only [List.mem_cons, List.not_mem_nil, or_false] at this
      rcases this with e | e | e <;> (rw [e]; assumption)
  split
  · split <;> exact True.intro
  split
  · exact ⟨h1, h2⟩
  split
  · exact h1
  split
  · show 0 ≤ z / 8 % 16
    omega
  · exact h1
/-! ### leaves -/
def dL (l : Lr) : PyData := dTr l.tr
def bitsD (x : Str) : List PyData := (List.range 48).map fun k => .int (bitAt x k)
def dRow (l : Lr) : PyData := .tuple [.int (num l.n), .list (bitsD l.n), dL l]
def rCell : List DV → Rs → Prop := fun xs r => ∃ ns : List Int, ∃ k : Nat, xs = [.d (.list (ns.map .int)), .d (.int k)] ∧ r = .ok (.d (.int (ns.getD k 0)))
def rName : List DV → Rs → Prop := fun xs r => ∃ z, xs = [.d (.int z)] ∧ 0 ≤ z ∧ r = .ok (.d (.str (nameM z)))
def rQuestion : List DV → Rs → Prop := fun xs r => ∃ z, xs = [.d (.int z)] ∧ 0 ≤ z ∧ r = .ok (.d (dQ (qM z)))
def rWithNotes : List DV → Rs → Prop := fun xs r => ∃ l i, xs = [.d (dL l), .d (.int i)] ∧ r = .ok (.d (dL ⟨l.n, l.ws, [i]⟩))
def rSplit (n : Nat) : List DV → Rs → Prop := fun xs r => ∃ d k ls, xs = [.d (.list (ls.map dRow)), .d (.int (48 - (d : Nat) : Int))] ∧ d ≤ 48 ∧ GoodL k ls ∧ Agree d ls ∧ ls.length ≤ n ∧ ls.length ≤ 1000 ∧ r = .ok (.d (dTr (splitM d ls)))
def rBuilt (n : Nat) : List DV → Rs → Prop := fun xs r => ∃ k ls, xs = [.d (.list (ls.map dL))] ∧ GoodL k ls ∧ ls.length ≤ n ∧ ls.length ≤ 40 ∧ r = .ok (.d (dTr (splitM 48 ls)))
theorem rCell_mk {ns : List Int} {k : Nat} : rCell [.d (.list (ns.map .int)), .d (.int k)] (.ok (.d (.int (ns.getD k 0)))) := ⟨ns, k, rfl, rfl⟩
theorem rName_mk {z : Int} (h : 0 ≤ z) : rName [.d (.int z)] (.ok (.d (.str (nameM z)))) := ⟨z, rfl, h, rfl⟩
theorem rQuestion_mk {z : Int} (h : 0 ≤ z) : rQuestion [.d (.int z)] (.ok (.d (dQ (qM z)))) := ⟨z, rfl, h, rfl⟩
theorem rWithNotes_mk {l : Lr} {i : Int} : rWithNotes [.d (dL l), .d (.int i)] (.ok (.d (dL ⟨l.n, l.ws, [i]⟩))) := ⟨l, i, rfl, rfl⟩
theorem rSplit_mk {n d k : Nat} {ls : List Lr} {p : Int} (hp : p = 48 - (d : Nat)) (h : d ≤ 48) (g : GoodL k ls) (a : Agree d ls) (hl : ls.length ≤ n) (hz : ls.length ≤ 1000) : rSplit n [.d (.list (ls.map dRow)), .d (.int p)] (.ok (.d (dTr (splitM d ls)))) := ⟨d, k, ls, by rw [hp], h, g, a, hl, hz, rfl⟩
theorem rBuilt_mk {n k : Nat} {ls : List Lr} (g : GoodL k ls) (hl : ls.length ≤ n) (hz : ls.length ≤ 40) : rBuilt n [.d (.list (ls.map dL))] (.ok (.d (dTr (splitM 48 ls)))) := ⟨k, ls, rfl, g, hl, hz, rfl⟩
theorem splitM_one {d : Nat} {ls : List Lr} (h : ls.length = 1) : splitM d ls = hdT ls := by
  cases d with
  | zero => rfl
  | succ d =>
    show (if ls.length = 1 then hdT ls else if parts ls (47 - d) then Tr.br (splitM d (sel ls (47 - d) 0)) (splitM d (sel ls (47 - d) 1)) else splitM d ls) = _
    rw [if_pos h]
theorem pick_filter {ls : List Lr} {p : Lr → Bool} {d0 : Lr} {g : Lr → PyData} : pick ls.length (fun i => p (ls.getD i d0)) (fun i => (ls.map g).getD i .none) = (ls.filter p).map g := by
  unfold pick
  have key : ∀ (ls : List Lr), ((List.range ls.length).filter (fun i => p (ls.getD i d0))).map (fun i => (ls.map g).getD i .none) = (ls.filter p).map g := by
    intro ls
    induction ls with
    | nil => rfl
    | cons l ls ih =>
      have e : ((List.map Nat.succ (List.range ls.length)).filter (fun i => p ((l :: ls).getD i d0))).map (fun i => ((l :: ls).map g).getD i .none) = (ls.filter p).map g := by
        rw [List.filter_map, List.map_map, ← ih]
        rfl
      rw [List.length_cons, List.range_succ_eq_map]
      cases hp : p l with
      | true =>
        rw [List.filter_cons_of_pos (by simpa [List.getD] using hp), List.filter_cons_of_pos (by simp [hp])]
        show _ :: _ = g l :: _
        rw [← e]
        rfl
      | false =>
        rw [List.filter_cons_of_neg (by simpa [List.getD] using hp), List.filter_cons_of_neg (by simp [hp]), e]
  exact key ls
def rBits : List DV → Rs → Prop := fun xs r => ∃ x, xs = [.d (.str x)] ∧ IsNm x ∧ r = .ok (.d (.list (bitsD x)))
theorem rBits_mk {x : Str} (h : IsNm x) : rBits [.d (.str x)] (.ok (.d (.list (bitsD x)))) := ⟨x, rfl, h, rfl⟩
end Sg
local macro_rules | `(tactic| wtm_at "g_R") => `(tactic| with_reducible exact rCell_mk)
local macro_rules | `(tactic| wtm_at "g_R") => `(tactic| (with_reducible refine' rName_mk ?z0; (case z0 => wtm_at "g_side")))
local macro_rules | `(tactic| wtm_at "g_R") => `(tactic| (with_reducible refine' rQuestion_mk ?z0; (case z0 => wtm_at "g_side")))
local macro_rules | `(tactic| wtm_at "g_R") => `(tactic| with_reducible exact rWithNotes_mk)
local macro_rules | `(tactic| wtm_at "g_R") => `(tactic| (with_reducible refine' rSplit_mk ?z0 ?z1 ?z2 ?z3 ?z4 ?z5; (case z0 => wtm_at "g_side"); (case z1 => wtm_at "g_side"); (case z2 => wtm_at "g_side"); (case z3 => wtm_at "g_side"); (case z4 => wtm_at "g_side"); (case z5 => wtm_at "g_side")))
local macro_rules | `(tactic| wtm_at "g_R") => `(tactic| (with_reducible refine' rBuilt_mk ?z0 ?z1 ?z2; (case z0 => wtm_at "g_side"); (case z1 => wtm_at "g_side"); (case z2 => wtm_at "g_side")))
local macro_rules | `(tactic| wtm_at "g_R") => `(tactic| (with_reducible refine' rBits_mk ?z0; (case z0 => wtm_at "g_side")))
namespace Sg
section
variable {P : Program} {w : World} {K : PySem.W.Frag} {mg : Str → Option Value} {base : Heap}
theorem sc__law_cell : FnScope ["_law_script", "_law_k"] ["_law_script", "_law_k"] (defScope s__law_cell) := ⟨rfl, rfl, rfl, by decide +kernel, rfl, by decide +kernel, by decide +kernel⟩
theorem fn__law_cell (C : Wd K mg) : Fn P w K mg base "_law_cell" ["_law_script", "_law_k"] 1 (spD K 2 rCell) := by
  obtain ⟨fd, F⟩ := C.defs 42 (mkD "_law_cell" s__law_cell) rfl
  refine fn_mk (C.glo _ (by decide +kernel)) F sc__law_cell (fun _ _ _ _ _ _ us hl => match us, hl with | [_, _], _ => rfl) fun X cdv A outer s H E hX hr xk xs r hl hR => ⟨[], ?_⟩
  obtain ⟨ns, k, rfl, rfl⟩ := hR
  subst hX
  refine bs_if (by wtm_at "g_vt") (fun hb => ?_) (fun _ => rfl) (fun hb => ?_)
  · have hk : k < ns.length := by simpa using hb
    have ha : atI (ns.map PyData.int) (k : Int) = some (.int (ns.getD k 0)) := atI_nat (by simp [List.getD, hk])
    wtm_at "g_ret"
    rfl
  · have hk : ¬ k < ns.length := by simpa using hb
    wtm_at "g_ret"
    rw [show ns.getD k 0 = 0 by simp [List.getD, Nat.le_of_not_lt hk]]
theorem sc__law_name : FnScope ["_law_number_here", "_law_letters", "_law_short", "_law_rest", "_law_name_here", "_law_k"] ["_law_number_here"] (defScope s__law_name) := ⟨rfl, rfl, rfl, by decide +kernel, rfl, by decide +kernel, by decide +kernel⟩
theorem fn__law_name (C : Wd K mg) : Fn P w K mg base "_law_name" ["_law_number_here"] 1 (spD K 1 rName) := by
  obtain ⟨fd, F⟩ := C.defs 43 (mkD "_law_name" s__law_name) rfl
  refine fn_mk (C.glo _ (by decide +kernel)) F sc__law_name (fun _ _ _ _ _ _ us hl => match us, hl with | [_], _ => rfl) fun X cdv A outer s H E hX hr xk xs r hl hR => ⟨[], ?_⟩
  obtain ⟨z, rfl, hz, rfl⟩ := hR
  subst hX
  unfold nameM
  wtm_at "g_setn"
  wtm_at "g_setn"
  refine bs_if (by wtm_at "g_vt") (fun hb => ?_) (fun _ => rfl) (fun hb => ?_)
  · have hc : z % 3 = 0 := by simpa using hb
    rw [if_pos hc]
    have hl : (z / 3 % 16).toNat < shortN.length := by show _ < 16; omega
    have ha : atI (shortN.map PyData.str) (z / 3 % 16) = some (.str (shortN.getD (z / 3 % 16).toNat ⟨#[]⟩)) := by
      have e : (((z / 3 % 16).toNat : Nat) : Int) = z / 3 % 16 := Int.toNat_of_nonneg (by omega)
      have y := atI_nat (xs := shortN.map PyData.str) (j := (z / 3 % 16).toNat) (v := .str (shortN.getD (z / 3 % 16).toNat ⟨#[]⟩)) (by simp [List.getD, hl])
      rw [e] at y
      exact y
    have ha : atI [PyData.str "a", .str "b", .str "aa", .str "ab", .str "a0", .str "a_", .str "abc", .str "z", .str "zz", .str "0", .str "_", .str "zzzzzzzz", .str "00000000", .str "ab0", .str "abd", .str "b_"] (z / 3 % 16) = some (.str (shortN.getD (z / 3 % 16).toNat ⟨#[]⟩)) := ha
    wtm_at "g_ret"
    rfl
  · have hc : ¬ z % 3 = 0 := by simpa using hb
    rw [if_neg hc]
    wtm_at "g_setn"
    wtm_at "g_setn"
    have hr0 : 0 ≤ z / 3 := by omega
    refine' bs_cons (b1_forn (m := (1 + z / 3 % 8).toNat) (st := fun j => [some (.d (.int z)), some (.d (.str ALPH)), some (.d (.list (shortN.map .str))), some (.d (.int (restAt (z / 3) j))), some (.d (.str (nameTo (z / 3) j))), none]) ?k ?hi ?hx ?hg ?h0 ?hb ?he ?hs) ?_
    wtm_at "g_fors"
    case h0 => wtm_at "g_wk"
    case he => exact .inl ⟨rfl, rfl⟩
    case hb =>
      intro j hj _
      have h1 := rest_nn hr0 j
      have h2 := rest_nn hr0 (j + 1)
      wtm_at "g_setn"
      rw [show restAt (z / 3) j * 7 + 3 + (j : Int) = restAt (z / 3) (j + 1) from rfl]
      have hl := (nameTo_nm hr0 j).1
      have hcat : (nameTo (z / 3) j).length + (⟨#[sgn (restAt (z / 3) (j + 1) / 11 % 37)]⟩ : Str).length ≤ sizeLine := by
        rw [hl]
        show j + 1 ≤ sizeLine
        rw [sizeLine_eq]
        omega
      have ha := sgn_at (i := restAt (z / 3) (j + 1) / 11 % 37) (by omega) (by omega)
      have hal : ALPH.length ≤ sizeLine := by rw [sizeLine_eq]; decide +kernel
      wtm_at "g_setn"
      exact bs_weak bs_nil (by wtm_at "g_wk")
    · wtm_at "g_ret"
      rfl
theorem sc__law_question : FnScope ["_law_number_here", "_law_kind", "_law_one", "_law_two"] ["_law_number_here"] (defScope s__law_question) := ⟨rfl, rfl, rfl, by decide +kernel, rfl, by decide +kernel, by decide +kernel⟩
theorem fn__law_question (C : Wd K mg) : Fn P w K mg base "_law_question" ["_law_number_here"] 2 (spD K 1 rQuestion) := by
  obtain ⟨fd, F⟩ := C.defs 56 (mkD "_law_question" s__law_question) rfl
  have F1 := fn__law_name (P := P) (w := w) (base := base) C
  refine fn_mk (C.glo _ (by decide +kernel)) F sc__law_question (fun _ _ _ _ _ _ us hl => match us, hl with | [_], _ => rfl) fun X cdv A outer s H E hX hr xk xs r hl hR => ⟨[], ?_⟩
  obtain ⟨z, rfl, hz, rfl⟩ := hR
  subst hX
  unfold qM
  have n1 : 0 ≤ z / 8 % 120 := by omega
  have n2 : 0 ≤ z / 960 % 120 := by omega
  wtm_at "g_setn"
  wtm_at "g_setn"
  wtm_at "g_setn"
  generalize nameM (z / 8 % 120) = x1
  generalize nameM (z / 960 % 120) = x2
  refine bs_if (by wtm_at "g_vt") (fun hb => ?_) (fun _ => rfl) (fun hb => ?_)
  · rw [if_pos (by simpa using hb)]
    wtm_at "g_ret"
    rfl
  rw [if_neg (by simpa using hb)]
  refine bs_if (by wtm_at "g_vt") (fun hb => ?_) (fun _ => rfl) (fun hb => ?_)
  · rw [if_pos (by simpa using hb)]
    refine' bs_ret (ev_tupd (ds := [.str "several", .tuple ([.str x1, .str x2, .str x1].take (z / 115200 % 4).toNat)]) (ed_cons ?a (ed_cons ?b ed_nil rfl) rfl) (by simp)) ?q
    case a => wtm_at "g_ev"
    case b =>
      refine' ev_slT ?e ?h
      case e => wtm_at "g_ev"
      case h =>
        refine Ev.is (by wtm_at "g_ev") ?_
        rw [Int.toNat_of_nonneg (by omega)]
    case q =>
      show DV.d _ = DV.d (.tuple [.str "several", .tuple (([x1, x2, x1].take (z / 115200 % 4).toNat).map .str)])
      rw [List.map_take]
      rfl
  rw [if_neg (by simpa using hb)]
  refine bs_if (by wtm_at "g_vt") (fun hb => ?_) (fun _ => rfl) (fun hb => ?_)
  · rw [if_pos (by simpa using hb)]
    by_cases h2 : z / 8 % 2 = 0
    · rw [if_pos h2]
      have ha : atI [PyData.tuple [.str "count"], .tuple [.str "total"]] (z / 8 % 2) = some (.tuple [.str "count"]) := by rw [h2]; rfl
      wtm_at "g_ret"
      rfl
    · rw [if_neg h2]
      have ha : atI [PyData.tuple [.str "count"], .tuple [.str "total"]] (z / 8 % 2) = some (.tuple [.str "total"]) := by rw [show z / 8 % 2 = 1 by omega]; rfl
      wtm_at "g_ret"
      rfl
  rw [if_neg (by simpa using hb)]
  refine bs_if (by wtm_at "g_vt") (fun hb => ?_) (fun _ => rfl) (fun hb => ?_)
  · rw [if_pos (by simpa using hb)]
    wtm_at "g_ret"
    rfl
  rw [if_neg (by simpa using hb)]
  refine bs_if (by wtm_at "g_vt") (fun hb => ?_) (fun _ => rfl) (fun hb => ?_)
  · rw [if_pos (by simpa using hb)]
    wtm_at "g_ret"
    rfl
  rw [if_neg (by simpa using hb)]
  refine bs_if (by wtm_at "g_vt") (fun hb => ?_) (fun _ => rfl) (fun hb => ?_)
  · rw [if_pos (by simpa using hb)]
    wtm_at "g_ret"
    rfl
  rw [if_neg (by simpa using hb)]
  wtm_at "g_ret"
  rfl
theorem sc__law_with_notes : FnScope ["_law_leaf", "_law_note"] ["_law_leaf", "_law_note"] (defScope s__law_with_notes) := ⟨rfl, rfl, rfl, by decide +kernel, rfl, by decide +kernel, by decide +kernel⟩
theorem fn__law_with_notes (C : Wd K mg) : Fn P w K mg base "_law_with_notes" ["_law_leaf", "_law_note"] 1 (spD K 2 rWithNotes) := by
  obtain ⟨fd, F⟩ := C.defs 57 (mkD "_law_with_notes" s__law_with_notes) rfl
  refine fn_mk (C.glo _ (by decide +kernel)) F sc__law_with_notes (fun _ _ _ _ _ _ us hl => match us, hl with | [_, _], _ => rfl) fun X cdv A outer s H E hX hr xk xs r hl hR => ⟨[], ?_⟩
  obtain ⟨l, i, rfl, rfl⟩ := hR
  subst hX
  wtm_at "g_ret"
  rfl
end
end Sg
namespace Sg
section
variable {P : Program} {w : World} {K : PySem.W.Frag} {mg : Str → Option Value} {base : Heap}
theorem sc__law_split : FnScope ["_law_rows", "_law_place", "_law_k", "_law_left", "_law_right", "_law_row_here"] ["_law_rows", "_law_place"] (defScope s__law_split) := ⟨rfl, rfl, rfl, by decide +kernel, rfl, by decide +kernel, by decide +kernel⟩
def dflt : Lr := ⟨⟨#[]⟩, [], []⟩
theorem row_get {ls : List Lr} {i : Nat} (h : i < ls.length) : (ls.map dRow).getD i .none = dRow (ls.getD i dflt) := by simp [List.getD, h]
theorem bits_at {x : Str} {k : Nat} (h : k < 48) : atI (bitsD x) (k : Int) = some (.int (bitAt x k)) := atI_nat (by simp [bitsD, h])
theorem st__law_split (C : Wd K mg) (n : Nat) (IH : ∀ j, n = j + 1 → Fn P w K mg base "_law_split" ["_law_rows", "_law_place"] (1 + j) (spD K 2 (rSplit j))) : Fn P w K mg base "_law_split" ["_law_rows", "_law_place"] (n + 1) (spD K 2 (rSplit n)) := by
  obtain ⟨fd, F⟩ := C.defs 54 (mkD "_law_split" s__law_split) rfl
  refine fn_mk (C.glo _ (by decide +kernel)) F sc__law_split (fun _ _ _ _ _ _ us hl => match us, hl with | [_, _], _ => rfl) fun X cdv A outer s H E hX hr xk xs r hl hR => ⟨[], ?_⟩
  obtain ⟨d, k, ls, rfl, hd, hg, ha, hln, hlz, rfl⟩ := hR
  subst hX
  by_cases h1 : ls.length = 1
  · rw [splitM_one h1]
    have h0 : atI (ls.map dRow) (0 : Int) = some (dRow (ls.getD 0 dflt)) := by
      have z := atI_nat (xs := ls.map dRow) (j := 0) (v := dRow (ls.getD 0 dflt)) (by
        rw [← row_get (by omega)]
        simp [List.getD, h1])
      exact z
    have hh : hdT ls = (ls.getD 0 dflt).tr := by
      match ls, h1 with
      | [l], _ => rfl
    refine bs_ifT (by wtm_at "g_vt") (by simp [h1]) ?_ rfl
    wtm_at "g_ret"
    rw [hh]
    rfl
  · refine bs_ifF (by wtm_at "g_vt") (by simp; omega) ?_
    obtain ⟨j, hj, hp, hnp, hsp, hag⟩ := split_first d hd hg ha h1
    rw [hsp]
    -- a side, at the turn i
    have side : ∀ (i : Nat) (b : Int), ls.length = (ls.map dRow).length := fun _ _ => by simp
    refine' bs_stop (b1_forn (n := d) (f := fun i => .int (48 - (d : Nat) + (i : Nat))) (m := j) (fl := .rt _) (st := fun i => [some (.d (.list (ls.map dRow))), some (.d (.int (48 - (d : Nat) : Int))), none, none, none, none]) ?k ?hi ?hx ?hg ?h0 ?hb ?he ?hs) rfl
    case k => assumption
    case hx => exact rfl
    case hg => exact pg_name (i := 2) sc__law_split.nd rfl (by first | exact Or.inl rfl | exact Or.inr rfl)
    case hs => intro _; rfl
    case hi =>
      refine' EvI.is ?z ?n ?f
      case z => wtm_at "g_evi"
      case n => omega
      case f => rfl
    case h0 => wtm_at "g_wk"
    case hb =>
      intro i hi _
      have hk48 : 48 - d + i < 48 := by omega
      have ek : (48 - (d : Nat) + (i : Nat) : Int) = ((48 - d + i : Nat) : Int) := by omega
      rw [ek]
      refine' bs_cons (b1_setFilter (i := 5) (n := ls.length) (pk := fun q => decide (bitAt (ls.getD q dflt).n (48 - d + i) = 0)) (f := fun q => (ls.map dRow).getD q .none) ?u0 ?u1 ?u2 ?u3 ?u4 ?u5 ?u6 ?u7 ?u8 ?u9 ?u10 ?u11) ?_
      case u0 => assumption
      case u1 => exact (by decide : 5 < 6)
      case u2 => exact rfl
      case u3 => exact rfl
      case u4 => exact sw_true rfl rfl rfl rfl
      case u5 => exact blkOk_by (by kernel_rfl)
      case u6 =>
        refine' EvI.is ?uz ?un ?uf
        case uz => wtm_at "g_evi"
        case un => exact List.length_map ..
        case uf => rfl
      case u7 => exact hlz
      case u8 => intro _ _ _ _ _; exact pg_name (i := 5) sc__law_split.nd rfl (Or.inl rfl)
      case u9 =>
        intro _ _ _ _ _ q hq
        rw [row_get hq]
        have hb := bits_at (x := (ls.getD q dflt).n) hk48
        refine vt_is (by wtm_at "g_vt") rfl
      case u10 => intro _ _ _ _ _; exact pv 5
      case u11 => intro _; rfl
      rw [show pick ls.length (fun q => decide (bitAt (ls.getD q dflt).n (48 - d + i) = 0)) (fun q => (ls.map dRow).getD q .none) = (sel ls (48 - d + i) 0).map dRow from pick_filter (p := fun l => decide (bitAt l.n (48 - d + i) = 0))]
      have hno := hnp i hi
      have hlen : ((sel ls (48 - d + i) 0).map dRow).length = (sel ls (48 - d + i) 0).length := List.length_map ..
      refine bs_ifF (by wtm_at "g_vt") (by
        unfold parts at hno
        simp only [List.length_map]
        simp
        omega) ?_
      exact bs_weak bs_nil (by wtm_at "g_wk")
    case he =>
      refine .inr ⟨hj, rfl, fun ρ => ⟨by simp, by simp⟩, ?_⟩
      have hk48 : 48 - d + j < 48 := by omega
      have ek : (48 - (d : Nat) + (j : Nat) : Int) = ((48 - d + j : Nat) : Int) := by omega
      rw [ek]
      refine' bs_cons (b1_setFilter (i := 5) (n := ls.length) (pk := fun q => decide (bitAt (ls.getD q dflt).n (48 - d + j) = 0)) (f := fun q => (ls.map dRow).getD q .none) ?v0 ?v1 ?v2 ?v3 ?v4 ?v5 ?v6 ?v7 ?v8 ?v9 ?v10 ?v11) ?_
      case v0 => assumption
      case v1 => exact (by decide : 5 < 6)
      case v2 => exact rfl
      case v3 => exact rfl
      case v4 => exact sw_true rfl rfl rfl rfl
      case v5 => exact blkOk_by (by kernel_rfl)
      case v6 =>
        refine' EvI.is ?vz ?vn ?vf
        case vz => wtm_at "g_evi"
        case vn => exact List.length_map ..
        case vf => rfl
      case v7 => exact hlz
      case v8 => intro _ _ _ _ _; exact pg_name (i := 5) sc__law_split.nd rfl (Or.inl rfl)
      case v9 =>
        intro _ _ _ _ _ q hq
        rw [row_get hq]
        have hb := bits_at (x := (ls.getD q dflt).n) hk48
        refine vt_is (by wtm_at "g_vt") rfl
      case v10 => intro _ _ _ _ _; exact pv 5
      case v11 => intro _; rfl
      rw [show pick ls.length (fun q => decide (bitAt (ls.getD q dflt).n (48 - d + j) = 0)) (fun q => (ls.map dRow).getD q .none) = (sel ls (48 - d + j) 0).map dRow from pick_filter (p := fun l => decide (bitAt l.n (48 - d + j) = 0))]
      have hp1 := hp.1
      have hp2 := hp.2
      refine bs_ifT (by wtm_at "g_vt") (by
        simp only [List.length_map]
        simp
        omega) ?_ rfl
      refine' bs_cons (b1_setFilter (i := 5) (n := ls.length) (pk := fun q => decide (bitAt (ls.getD q dflt).n (48 - d + j) = 1)) (f := fun q => (ls.map dRow).getD q .none) ?w0 ?w1 ?w2 ?w3 ?w4 ?w5 ?w6 ?w7 ?w8 ?w9 ?w10 ?w11) ?_
      case w0 => assumption
      case w1 => exact (by decide : 5 < 6)
      case w2 => exact rfl
      case w3 => exact rfl
      case w4 => exact sw_true rfl rfl rfl rfl
      case w5 => exact blkOk_by (by kernel_rfl)
      case w6 =>
        refine' EvI.is ?wz ?wn ?wf
        case wz => wtm_at "g_evi"
        case wn => exact List.length_map ..
        case wf => rfl
      case w7 => exact hlz
      case w8 => intro _ _ _ _ _; exact pg_name (i := 5) sc__law_split.nd rfl (Or.inl rfl)
      case w9 =>
        intro _ _ _ _ _ q hq
        rw [row_get hq]
        have hb := bits_at (x := (ls.getD q dflt).n) hk48
        refine vt_is (by wtm_at "g_vt") rfl
      case w10 => intro _ _ _ _ _; exact pv 5
      case w11 => intro _; rfl
      rw [show pick ls.length (fun q => decide (bitAt (ls.getD q dflt).n (48 - d + j) = 1)) (fun q => (ls.map dRow).getD q .none) = (sel ls (48 - d + j) 1).map dRow from pick_filter (p := fun l => decide (bitAt l.n (48 - d + j) = 1))]
      have hsl := sel_len ls (48 - d + j)
      have p1 : 0 < (sel ls (48 - d + j) 1).length := by omega
      have g0 := sel_good hg hp1
      have g1 := sel_good hg p1
      obtain ⟨n', rfl⟩ : ∃ n', n = n' + 1 := ⟨n - 1, by omega⟩
      have F4 := IH n' rfl
      have a0 := hag 0
      have a1 := hag 1
      have l0 : (sel ls (48 - d + j) 0).length ≤ n' := by omega
      have l1 : (sel ls (48 - d + j) 1).length ≤ n' := by omega
      have m0 : (sel ls (48 - d + j) 0).length ≤ 1000 := by omega
      have m1 : (sel ls (48 - d + j) 1).length ≤ 1000 := by omega
      have eq1 : (((48 - d + j : Nat) : Int) + 1) = 48 - ((d - j - 1 : Nat) : Int) := by omega
      have dd : d - j - 1 ≤ 48 := by omega
      wtm_at "g_ret"
      rfl
theorem fn__law_split (C : Wd K mg) : ∀ n, Fn P w K mg base "_law_split" ["_law_rows", "_law_place"] (1 + n) (spD K 2 (rSplit n))
  | 0 => st__law_split C 0 (fun j h => by omega)
  | n + 1 => by
    have z := st__law_split (P := P) (w := w) (base := base) C (n + 1) (fun j h => by
      have e : j = n := by omega
      subst e
      exact fn__law_split C j)
    rw [show 1 + (n + 1) = n + 1 + 1 by omega]
    exact z
end
end Sg
/-! # A list that is built by appends; dicts -/
namespace Sg
open PySem PySem.Spec L2
def noLV : DV → Bool
  | .d x => noL x
  | .sl _ => true
  | .dc _ => false
def noLR (ρ : Rho) : Bool := ρ.all fun o => match o with
  | some x => noLV x
  | none => true
theorem noLR_get {ρ : Rho} (h : noLR ρ = true) {i : Nat} {x : DV} (e : ρ[i]? = some (some x)) : noLV x = true := by
  unfold noLR at h
  rw [List.all_eq_true] at h
  exact h _ (List.mem_of_getElem? e)
theorem Env.swap {K : PySem.W.Frag} {H H' : Hp} {σ : L2.St} {ρ : Rho} {D : Addr} {acc : List V} (E : Env K H σ ρ) (hD : H D = some (.lst acc)) (k : ∀ b o, b ≠ D → H b = some o → H' b = some o) (hn : noLR ρ = true) : Env K H' σ ρ :=
  ⟨E.len, fun i x e => by
    obtain ⟨v, e1, d⟩ := E.get i x e
    refine ⟨v, e1, ?_⟩
    have hx := noLR_get hn e
    cases x with
    | d x => exact dp_swap hD k _ _ hx d
    | sl m =>
      obtain ⟨a, dx, rfl, h⟩ := d
      exact ⟨a, dx, rfl, k a _ (fun z => by rw [z, hD] at h; cases h) h⟩
    | dc _ => cases hx⟩
/-- for v in range(a): by an invariant over the slots and the heap -/
theorem ws_range {X : Cx} {ρ : Rho} {a : Expr} {n vi : Nat} {v : Str} {pv0 rp rq fp : Pos} {body : List Stmt} {D : Ends} {σ : L2.St} {H : Hp} (c : XOk X) (C : Wd X.K X.mg) (P : Nat → L2.St → Hp → Prop) (E : Env X.K H σ ρ) (hgl : Gl X "range") (ha : Ev X a ρ (.d (.int (n : Nat)))) (hn : n < 2 ^ 62) (hsa : starEach [a] X.env = (false, eval a X.env) :: starEach [] X.env)
    (hg : PG X (.Name v pv0) (gName vi)) (hs : ∀ x, foldedSetIterable (.Call (.Name "range" rp) [a] [] rq) X.env x = pure x) (h0 : ∀ H1, Same H H1 → P 0 σ H1) (hb : ∀ j σ' H', j < n → P j σ' H' → wSs X body { D with nx := P (j + 1), ct := P (j + 1), bk := D.nx } (σ'.set vi (some (.int (j : Nat)))) H') (hd : ∀ σ' H', P n σ' H' → D.nx σ' H') :
    wS X (.For (.Name v pv0) (.Call (.Name "range" rp) [a] [] rq) body [] fp) D σ H := by
  refine ⟨_, ps_for c.po c.calm (pi_range1 hgl (C.free _ (by decide +kernel)) pa_w hsa) hg pss_w hs, ea_cons ha ea_nil hsa σ H _ E fun vs H1 s1 d1 => ?_⟩
  cases d1 with
  | cons d1 d2 =>
    cases d2
    have d1 : Dp X.K H1 _ (.int (n : Nat)) := d1
    cases d1
    refine ⟨(n : Nat), rfl, by omega, by omega, ?_⟩
    have e : ((n : Nat) : Int).toNat = n := Int.toNat_natCast n
    rw [e]
    refine for_it (walk_range (lo := 0) (n := n)) P (h0 H1 s1) (fun _ _ _ _ _ => trivial) (fun j x σ' H' H'' hj hp y => ?_) hd
    obtain ⟨e1, rfl⟩ := y
    rw [e1]
    have z := hb j σ' H' hj hp
    have ez : (0 : Int) + (j : Nat) = (j : Nat) := Int.zero_add _
    show gName vi (V.int (0 + (j : Nat))) σ' H' _
    rw [ez]
    exact z
section
variable {X : Cx} {ρ : Rho} {fl : Fl}
/-- x = []; for v in range(a): x.append(e); s2 -/
theorem bs_append {a e : Expr} {s2 : Stmt} {ss : List Stmt} {n i vi : Nat} {g : Nat → Int} {x v : Str} {px pv0 p0 p1 ap cp ep pos fp rp rq : Pos} {st : Nat → Rho} (c : XOk X) (C : Wd X.K X.mg) (hx : findN X.N x 0 = some i) (hxl : Loc X.env.scope x) (hvis : Vis X.env.scope x) (hfx : X.fn x = true ∨ X.env.scope.names.lookup x = some .local)
    (hsw : swapsWith (.List [] p0) (some (.Name x px)) pos.line X.env = pure false) (hd1 : (x == ("__debug__" : Str)) = false) (hd2 : (x == ("__classdict__" : Str)) = false) (hgl : Gl X "range") (ha : Ev X a (ρ.set i none) (.d (.int (n : Nat)))) (hn : n ≤ 1000) (hsa : starEach [a] X.env = (false, eval a X.env) :: starEach [] X.env) (hg : PG X (.Name v pv0) (gName vi)) (hvi : vi ≠ i) (hil : i < ρ.length)
    (h0 : Wkr (ρ.set i none) (st 0)) (hnl : ∀ j, j < n → noLR ((st j).set vi (some (.d (.int (j : Nat))))) = true) (hnl2 : ∀ j, j ≤ n → noLR (st j) = true) (hsl : ∀ j, (st j).length = ρ.length)
    (he : ∀ j, j < n → Ev X e ((st j).set vi (some (.d (.int (j : Nat))))) (.d (.int (g j)))) (h2 : ∀ j, j < n → ∀ (σ : L2.St) (H : Hp) (D : Ends), Env X.K H σ ((st j).set vi (some (.d (.int (j : Nat))))) → (∀ σ' H', Same H H' → σ'[i]? = σ[i]? → Env X.K H' σ' (st (j + 1)) → D.nx σ' H') → wS X s2 D σ H)
    (hs : ∀ x, foldedSetIterable (.Call (.Name "range" rp) [a] [] rq) X.env x = pure x) (hse : swapsWith (.Call (.Attribute (.Name x p1) "append" ap) [e] [] cp) none ep.line X.env = pure false) (hbase : attributeBase (.Name x p1) "append" X.env (eval (.Name x p1) X.env) = eval (.Name x p1) X.env)
    (hfew : ((backTo cp (starEach [e] X.env)).all (fun x => !x.1) && (backToKw cp (keywordEach [] X.env)).all (fun x => x.1.isSome) && decide ([e].length + ([] : List Keyword).length + (if ([] : List Keyword).isEmpty then 0 else 1) < 30)) = true)
    (hline : (ap.endLine == cp.line) = true) (hst1 : starEach [e] X.env = (false, eval e X.env) :: starEach [] X.env) (hplain : (backTo cp (starEach [] X.env)).any (·.1) = false)
    (hrest : Bs X ss ((st n).set i (some (.d (.list ((List.range n).map fun j => .int (g j)))))) fl) :
    Bs X (.Assign [.Name x px] (.List [] p0) pos :: .For (.Name v pv0) (.Call (.Name "range" rp) [a] [] rq) [.Expr (.Call (.Attribute (.Name x p1) "append" ap) [e] [] cp) ep, s2] [] fp :: ss) ρ fl := fun W σ H D tk E q => by
  have hN : X.N[i]? = some x := by simpa using (findN_get hx).2
  refine ⟨_, pss_cons ps_w pss_w, ⟨_, ps_set c.nd hN hxl (pe_lst pa_nil) hsw hfx, Nat.zero_le _, fun p hp => ?_⟩⟩
  have s1 : Same H (upd H p (.lst [])) := same_new hp _
  have E1 : Env X.K (upd H p (.lst [])) (σ.set i (some (.ref p))) (ρ.set i none) := by
    refine ⟨by simp [E.len], fun j y e1 => ?_⟩
    by_cases hj : i = j
    · subst hj
      rw [List.getElem?_set_self hil] at e1; cases e1
    · rw [List.getElem?_set_ne hj] at e1
      rw [List.getElem?_set_ne hj]
      exact (E.mono s1).get j y e1
  have hσi : (σ.set i (some (.ref p)))[i]? = some (some (V.ref p)) := List.getElem?_set_self (by rw [E.len]; exact hil)
  refine ⟨_, pss_cons ps_w pss_w, ws_range c C (fun j σ' H' => Same H H' ∧ H' p = some (.lst ((List.range j).map fun j => V.int (g j))) ∧ Env X.K H' σ' (st j) ∧ σ'[i]? = some (some (.ref p))) E1 hgl ha (by omega) hsa hg hs ?_ ?_ ?_⟩
  · intro H1 sm
    exact ⟨s1.trans sm, sm p _ upd_same, (h0.env E1).mono sm, hσi⟩
  · rintro j σ' H' hj ⟨sm, hacc, Ej, hi⟩
    have E2 : Env X.K H' (σ'.set vi (some (.int (j : Nat)))) ((st j).set vi (some (.d (.int (j : Nat))))) := Ej.set vi (x := .d _) (.int _)
    have hi2 : (σ'.set vi (some (V.int (j : Nat))))[i]? = some (some (.ref p)) := by rw [List.getElem?_set_ne hvi]; exact hi
    refine ⟨_, pss_cons ps_w pss_w, ⟨_, ps_expr (pe_bm PySem.F.plainAttrs_list PySem.F.slot_list_append PySem.F.type_list_append mt_append (pe_var hN hvis hd1 hd2) (pa_cons pe_w pa_nil hst1) hbase hfew hline hst1 hplain) hse, ?_⟩⟩
    refine ⟨V.ref p, hi2, .inl ⟨rfl, _, SqL.of hacc⟩, he j hj _ H' _ E2 fun y H3 s3 dy => ?_⟩
    have dy : Dp X.K H3 y (.int (g j)) := dy
    cases dy
    have hacc3 := s3 p _ hacc
    refine ⟨p, _, _, rfl, rfl, hacc3, ?_, ?_⟩
    · rw [List.length_map, List.length_range]
      exact Nat.lt_of_lt_of_le (show j < 1001 by omega) (by decide)
    · have kk : ∀ b o, b ≠ p → H3 b = some o → upd H3 p (.lst (((List.range j).map fun j => V.int (g j)) ++ [V.int (g j)])) b = some o := fun b o hb e => by rw [upd_ne hb]; exact e
      have E3 := (E2.mono s3).swap hacc3 kk (hnl j hj)
      refine ⟨_, pss_one ps_w, h2 j hj _ _ _ E3 fun σ5 H5 s5 e5 E5 => ⟨fun b o hb => ?_, ?_, E5, by rw [e5]; exact hi2⟩⟩
      · refine s5 b o ?_
        rw [upd_ne (ne_of_none hb hp)]
        exact s3 b o (sm b o hb)
      · refine s5 p _ ?_
        rw [List.range_succ, List.map_append]
        exact upd_same
  · rintro σ' H' ⟨sm, hacc, En, hi⟩
    refine hrest W σ' H' D tk ?_ (q.mono sm)
    have da : Dp X.K H' (.ref p) (.list ((List.range n).map fun j => .int (g j))) := by
      refine .lst (SqL.of hacc) ?_
      have z := dpAll_of_ints (K := X.K) (H := H') ((List.range n).map g)
      rw [List.map_map, List.map_map] at z
      exact z
    have z := En.set i (x := .d _) da
    refine ⟨?_, fun k y e => ?_⟩
    · have := z.len
      simpa using this
    · obtain ⟨u, e1, e2⟩ := z.get k y e
      refine ⟨u, ?_, e2⟩
      by_cases hk : i = k
      · subst hk
        rw [List.getElem?_set_self (by rw [En.len, hsl]; exact hil)] at e1
        rw [hi]
        exact e1
      · rw [List.getElem?_set_ne hk] at e1
        exact e1
theorem ws_setn {e : Expr} {x : DV} {j : Nat} {n : Str} {p' pos : Pos} {D : Ends} {σ : L2.St} {H : Hp} (k : XOk X) (E : Env X.K H σ ρ) (h : Ev X e ρ x) (hi : findN X.N n 0 = some j) (hx : Loc X.env.scope n) (hs : swapsWith e (some (.Name n p')) pos.line X.env = pure false) (hf : X.fn n = true ∨ X.env.scope.names.lookup n = some .local)
    (q : ∀ v H', Same H H' → DR X.K H' v x → D.nx (σ.set j (some v)) H') : wS X (.Assign [.Name n p'] e pos) D σ H :=
  ⟨_, ps_set k.nd (by simpa using (findN_get hi).2) hx pe_w hs hf, h σ H _ E fun v H' sm d => q v H' sm d⟩
end
end Sg
/-! ### statements, by hand -/
namespace Sg
open PySem PySem.Spec L2
/-- all but a is as it was -/
def SameBut (a : Addr) (H H' : Hp) : Prop := ∀ b o, b ≠ a → H b = some o → H' b = some o
theorem SameBut.trans {a : Addr} {H H1 H2 : Hp} (x : SameBut a H H1) (y : SameBut a H1 H2) : SameBut a H H2 := fun b o hb e => y b o hb (x b o hb e)
theorem Same.but {a : Addr} {H H1 : Hp} (x : Same H H1) : SameBut a H H1 := fun b o _ e => x b o e
section
variable {X : Cx} {ρ : Rho} {c e : Expr} {body ss : List Stmt} {s : Stmt} {D : Ends} {σ : L2.St} {H : Hp} {pos : Pos} {x : DV}
theorem wss_if {b : Bool} (h : Vt X c ρ b) (E : Env X.K H σ ρ) (h1 : b = true → ∀ H', Same H H' → wSs X body { D with nx := fun σ' H' => wSs X ss D σ' H' } σ H') (h2 : b = false → ∀ H', Same H H' → wSs X ss D σ H') : wSs X (.If c body [] pos :: ss) D σ H :=
  ⟨_, pss_cons ps_w pss_w, ⟨_, ps_if pt_w pss_w pss_w, h σ H _ E fun H' sm => by
    cases b with
    | true => exact iteT (h1 rfl H' sm)
    | false => exact iteF ⟨_, pss_nil, h2 rfl H' sm⟩⟩⟩
theorem wss_set {j : Nat} {n : Str} {p' : Pos} (k : XOk X) (E : Env X.K H σ ρ) (h : Ev X e ρ x) (hi : findN X.N n 0 = some j) (hx : Loc X.env.scope n) (hs : swapsWith e (some (.Name n p')) pos.line X.env = pure false) (hf : X.fn n = true ∨ X.env.scope.names.lookup n = some .local)
    (q : ∀ v H', Same H H' → DR X.K H' v x → wSs X ss D (σ.set j (some v)) H') : wSs X (.Assign [.Name n p'] e pos :: ss) D σ H :=
  ⟨_, pss_cons ps_w pss_w, ⟨_, ps_set k.nd (by simpa using (findN_get hi).2) hx pe_w hs hf, h σ H _ E fun v H' sm d => q v H' sm d⟩⟩
theorem wss_ret (E : Env X.K H σ ρ) (h : Ev X e ρ x) (q : ∀ v H', Same H H' → DR X.K H' v x → D.rt v H') : wSs X (.Return (some e) pos :: ss) D σ H :=
  ⟨_, pss_cons ps_w pss_w, ⟨_, ps_ret pe_w, h σ H _ E fun v H' sm d => q v H' sm d⟩⟩
theorem wss_bs {fl : Fl} {W : WX} (h : Bs X ss ρ fl) (tk : Takes X W) (E : Env X.K H σ ρ) (q : Post X.K H W D fl) : wSs X ss D σ H := h W σ H D tk E q
end
end Sg
namespace Sg
section
variable {P : Program} {w : World} {K : PySem.W.Frag} {mg : Str → Option Value} {base : Heap}
theorem sc__law_bits : FnScope ["_law_name_here", "_law_number_here", "_law_bits_here", "_law_k"] ["_law_name_here"] (defScope s__law_bits) := ⟨rfl, rfl, rfl, by decide +kernel, rfl, by decide +kernel, by decide +kernel⟩
def hlf (x : Str) (j : Nat) : Int := (num x : Int) / 2 ^ j
theorem hlf_succ (x : Str) (j : Nat) : hlf x (j + 1) = hlf x j / 2 := by
  unfold hlf
  rw [Int.pow_succ, Int.ediv_ediv_of_nonneg (Int.pow_nonneg (by decide))]
theorem fn__law_bits (C : Wd K mg) : Fn P w K mg base "_law_bits" ["_law_name_here"] 3 (spD K 1 rBits) := by
  obtain ⟨fd, F⟩ := C.defs 45 (mkD "_law_bits" s__law_bits) rfl
  have F1 := fn__law_number (P := P) (w := w) (base := base) C
  refine fn_mk (C.glo _ (by decide +kernel)) F sc__law_bits (fun _ _ _ _ _ _ us hl => match us, hl with | [_], _ => rfl) fun X cdv A outer s H E hX hr xk xs r hl hR => ⟨[], ?_⟩
  obtain ⟨x, rfl, hx, rfl⟩ := hR
  subst hX
  wtm_at "g_setn"
  refine' bs_append (n := 48) (vi := 3) (g := fun j => hlf x j % 2) (st := fun j => [some (.d (.str x)), some (.d (.int (hlf x j))), none, none]) ?a1 ?a2 ?a3 ?a4 ?a5 ?a6 ?a7 ?a8 ?a9 ?a10 ?a11 ?a12 ?a13 ?a14 ?a15 ?a16 ?a17 ?a18 ?a19 ?a20 ?a21 ?a22 ?a23 ?a24 ?a25 ?a26 ?a27 ?a28 ?a29 ?a30
  case a1 => assumption
  case a2 => assumption
  case a3 => exact rfl
  case a4 => first | exact Or.inl rfl | exact Or.inr rfl
  case a5 => wtm_at "g_vis"
  case a6 => first | exact Or.inl rfl | exact Or.inr rfl
  case a7 => exact rfl
  case a8 => decide +kernel
  case a9 => decide +kernel
  case a10 => exact rfl
  case a11 => exact ev_int
  case a12 => decide
  case a13 => exact rfl
  case a14 => exact pg_name (i := 3) sc__law_bits.nd rfl (by first | exact Or.inl rfl | exact Or.inr rfl)
  case a15 => decide
  case a16 => exact (by decide : 2 < 4)
  case a17 =>
    rw [show hlf x 0 = (num x : Int) by unfold hlf; simp]
    wtm_at "g_wk"
  case a18 => exact fun _ _ => rfl
  case a19 => exact fun _ _ => rfl
  case a20 => exact fun _ => rfl
  case a21 =>
    intro j hj
    wtm_at "g_ev"
  case a22 =>
    intro j hj σ' H' D' E' q'
    refine' ws_setn ?b1 E' ?b2 ?b3 ?b4 ?b5 ?b6 ?b7
    case b1 => assumption
    case b3 => exact rfl
    case b4 => first | exact Or.inl rfl | exact Or.inr rfl
    case b5 => exact rfl
    case b6 => first | exact Or.inl rfl | exact Or.inr rfl
    case b2 => wtm_at "g_ev"
    case b7 =>
      intro v H2 sm dv
      refine q' _ H2 sm (List.getElem?_set_ne (by decide)) ?_
      have z := (E'.mono sm).set 1 dv
      rw [← hlf_succ] at z
      exact z.weak rfl (fun k y e => by
        match k with
        | 0 => exact e
        | 1 => exact e
        | 2 => cases e
        | 3 => cases e
        | k + 4 => cases e)
  case a23 => intro _; rfl
  case a24 => exact rfl
  case a25 => exact rfl
  case a26 => exact rfl
  case a27 => exact rfl
  case a28 => exact rfl
  case a29 => exact rfl
  case a30 =>
    refine' bs_ret (ev_lcm (n := 48) (g := fun k => .int (bitAt x k)) ?y1 ?y2 ?y3 ?y4 ?y5 ?y6 ?y7 ?y8 ?y9) ?q
    case y1 => exact rfl
    case y2 => assumption
    case y3 => exact blkOk_by (by kernel_rfl)
    case y6 => intro _ _ _ _ _; refine pg_name ?nd rfl ?lc <;> first | exact Or.inl rfl | exact Or.inr rfl | (have z := XOk.nd (by assumption); exact z)
    case y9 => intro _; rfl
    case y4 =>
      refine' EvI.is ?z9 ?n9 ?f9
      case z9 => wtm_at "g_evi"
      case n9 => rfl
      case f9 => rfl
    case y5 => decide
    case y8 => exact fun _ _ => rfl
    case y7 =>
      intro s H C' cl fp k hk
      have ha : atI ((List.range 48).map fun j => PyData.int (hlf x j % 2)) (47 - (k : Int)) = some (.int (bitAt x k)) := by
        have e : (47 - (k : Int)) = ((47 - k : Nat) : Int) := by omega
        rw [e]
        exact atI_nat (by
          have h2 : 47 - k < 48 := by omega
          simp [h2, hlf, bitAt])
      wtm_at "g_ev"
    case q => rfl
end
end Sg
namespace Sg
section
variable {P : Program} {w : World} {K : PySem.W.Frag} {mg : Str → Option Value} {base : Heap}
theorem sc__law_built : FnScope ["_law_leaves_here", "_law_rows", "_law_leaf"] ["_law_leaves_here"] (defScope s__law_built) := ⟨rfl, rfl, rfl, by decide +kernel, rfl, by decide +kernel, by decide +kernel⟩
theorem noLs_bits (x : Str) : noLs (bitsD x) = true := by
  rw [noLs_iff]
  intro d hd
  unfold bitsD at hd
  obtain ⟨k, _, rfl⟩ := List.mem_map.mp hd
  rfl
theorem fn__law_built (C : Wd K mg) (n : Nat) : Fn P w K mg base "_law_built" ["_law_leaves_here"] (4 + n) (spD K 1 (rBuilt n)) := by
  obtain ⟨fd, F⟩ := C.defs 53 (mkD "_law_built" s__law_built) rfl
  have F1 := fn__law_number (P := P) (w := w) (base := base) C
  have F2 := fn__law_bits (P := P) (w := w) (base := base) C
  have F3 := fn__law_split (P := P) (w := w) (base := base) C n
  rw [show 4 + n = 3 + n + 1 by omega]
  refine fn_mk (C.glo _ (by decide +kernel)) F sc__law_built (fun _ _ _ _ _ _ us hl => match us, hl with | [_], _ => rfl) fun X cdv A outer s H E hX hr xk xs r hl hR => ⟨[], ?_⟩
  obtain ⟨k, ls, rfl, hg, hln, hlz, rfl⟩ := hR
  have hpos : 0 < ls.length := List.length_pos_iff.mpr hg.ne
  subst hX
  refine bs_ifF (by wtm_at "g_vt") (by simp [hg.ne]) ?_
  refine' bs_cons (b1_setBuilt (i := 2) (n := ls.length) (f := fun q => (ls.map dL).getD q .none) (g1 := fun q => (num (ls.getD q dflt).n : Nat)) (g2 := fun q => bitsD (ls.getD q dflt).n) ?X0 ?X1 ?X2 ?X3 ?X4 ?X5 ?X6 ?X7 ?X8 ?X9 ?X10 ?X11 ?X12 ?X13 ?X14 ?X15 ?X16) ?_
  case X0 => assumption
  case X1 => exact (by decide : 2 < 3)
  case X2 => exact rfl
  case X3 => exact rfl
  case X4 => exact sw_true rfl rfl rfl rfl
  case X5 => exact blkOk_by (by kernel_rfl)
  case X6 =>
    refine' EvI.is ?Xz ?Xn ?Xf
    case Xz => wtm_at "g_evi"
    case Xn => exact List.length_map ..
    case Xf => rfl
  case X7 => omega
  case X8 => intro _ _ _ _ _; exact pg_name (i := 2) sc__law_built.nd rfl (Or.inl rfl)
  case X9 =>
    intro _ _ _ _ _ q hq
    have e : (ls.map dL).getD q .none = dL (ls.getD q dflt) := by simp [List.getD, hq]
    rw [e]
    have hnm : IsNm (ls.getD q dflt).n := (hg.lf _ (by simp [List.getD, hq])).1
    wtm_at "g_ev"
  case X10 =>
    intro _ _ _ _ _ q hq
    have e : (ls.map dL).getD q .none = dL (ls.getD q dflt) := by simp [List.getD, hq]
    rw [e]
    have hnm : IsNm (ls.getD q dflt).n := (hg.lf _ (by simp [List.getD, hq])).1
    wtm_at "g_ev"
  case X11 => intro _ _ _ _ _; exact pv 2
  case X12 => exact fun q hq => ⟨by simp [bitsD]; omega, noLs_bits _⟩
  case X13 => intro _ _ _ _ _; rfl
  case X14 => intro _ _ _ _ _; rfl
  case X15 => intro _ _ _ _ _; rfl
  case X16 => intro _; rfl
  have erow : ((List.range ls.length).map fun q => PyData.tuple [.int (num (ls.getD q dflt).n : Nat), .list (bitsD (ls.getD q dflt).n), (ls.map dL).getD q .none]) = ls.map dRow := by
    apply List.ext_getElem
    · simp
    · intro i h1 h2
      have hi : i < ls.length := by simpa using h2
      simp [List.getD, hi, dRow]
  rw [erow]
  have hp0 : (0 : Int) = 48 - ((48 : Nat) : Int) := by decide
  have h48 : 48 ≤ 48 := Nat.le_refl _
  have ha := agree48 ls
  have hlz2 : ls.length ≤ 1000 := by omega
  wtm_at "g_ret"
  rfl
end
end Sg
/-! # The defs that change what they are given -/
namespace Sg
open PySem PySem.Spec L2
section
variable {P : Program} {w : World} {K : PySem.W.Frag} {mg : Str → Option Value} {base : Heap}
/-- a def by any promise -/
theorem fn_mkS {x qual : Str} {params : Arguments} {body : List Stmt} {scope : Scope} {fd : FuncData} {N ps : List Str} {k : Nat} {sp : Sp} (hm : mg x = some (.ref (He.ga K x))) (F : FunD K x qual params body scope [] [] (He.ga K x) fd) (S : FnScope N ps scope) (len : ∀ vs H Q E, sp vs H Q E → vs.length = ps.length)
    (hb : ∀ (kV doc pm : Value) (an : Option Addr) (cdv ct : Value) (us : List Value), us.length = ps.length → bindArgs (PySem.W.fnOf x qual params body scope .none kV doc pm an cdv ct) ⟨us, []⟩ = pure (ps.zip us))
    (hbody : ∀ (X : Cx) (cdv : Value) (A : Around) (outer : List PySem.Env) (s : Shared) (H : Hp) (vs : List V) (Q : VK) (E : XK), X = cxOf (L2.CX P w) P w K mg base N qual scope (He.ga K x) cdv A outer s H E → Room k X.A → XOk X → Takes X (fun cls d _ H => E cls d H) → sp vs H Q E →
      wSs X body { nx := fun _ H' => Q .non H', rt := Q } (start N vs) H) : Fn P w K mg base x ps (k + 1) sp :=
  ⟨hm, F.kp, fd, F.ok S len (fun cdv A outer s H vs Q E hr h => ⟨_, pss_w, hbody _ cdv A outer s H vs Q E rfl hr (xok_of S.nd) (takes_of rfl rfl rfl rfl) h⟩), F.bindsN hb⟩
end
/-- _law_cut: the list at a is used up -/
def spCut (K : PySem.W.Frag) (n : Nat) : Sp := fun vs H Q _ => ∃ (m : Int) (k : Nat) (t : Tr) (vt : V) (a : Addr) (ns : List Int), vs = [.int m, vt, .ref a] ∧ Dp K H vt (dTr t) ∧ H a = some (.lst (ns.map V.int)) ∧ Md m ∧ TrOk k t ∧ k ≤ 3 ∧ depth t ≤ n ∧ ns.length ≤ 1000 ∧
  ∀ (c : Tr) (ns' : List Int) (v : V) (H' : Hp), CutOf m t c → SameBut a H H' → H' a = some (.lst (ns'.map V.int)) → ns'.length ≤ 1000 → Dp K H' v (dTr c) → Q v H'
theorem noL_dSm (s : Sm) : noL (dSm s) = true := by
  show (true && (true && (noL (dI s.sums) && (true && (true && true))))) = true
  rw [noL_dI]
  rfl
theorem noL_dTr : ∀ t : Tr, noL (dTr t) = true
  | .leaf n ws ns => by
    show (true && (true && (noL (dI ws) && (noL (dI ns) && true)))) = true
    rw [noL_dI, noL_dI]
    rfl
  | .br l r => by
    show (true && (noL (dTr l) && (noL (dTr r) && true))) = true
    rw [noL_dTr l, noL_dTr r]
    rfl
  | .cut s => by
    show (true && (noL (dSm s) && true)) = true
    rw [noL_dSm]
    rfl
end Sg

namespace Sg
section
variable {P : Program} {w : World} {K : PySem.W.Frag} {mg : Str → Option Value} {base : Heap}
theorem sc__law_cut : FnScope ["_law_modulus_here", "_law_tree", "_law_numbers_here", "_law_number_here", "_law_left"] ["_law_modulus_here", "_law_tree", "_law_numbers_here"] (defScope s__law_cut) := ⟨rfl, rfl, rfl, by decide +kernel, rfl, by decide +kernel, by decide +kernel⟩
/-- the two numbers of slots known of _law_cut -/
theorem cut_env {K : PySem.W.Frag} {H : Hp} {m : Int} {t : Tr} {vt : V} {a : Addr} {ns : List Int} (o3 o4 : Option V) (ht : Dp K H vt (dTr t)) (ha : H a = some (.lst (ns.map V.int))) : Env K H [some (.int m), some vt, some (.ref a), o3, o4] [some (.d (.int m)), some (.d (dTr t)), some (.d (.list (ns.map .int))), none, none] := by
  refine ⟨rfl, fun i x e => ?_⟩
  match i with
  | 0 => cases e; exact ⟨_, rfl, Dp.int _⟩
  | 1 => cases e; exact ⟨_, rfl, ht⟩
  | 2 => cases e; exact ⟨_, rfl, Dp.lst (SqL.of ha) (dpAll_of_ints ns)⟩
  | 3 => cases e
  | 4 => cases e
  | i + 5 => cases e
theorem st__law_cut (C : Wd K mg) (n : Nat) (IH : ∀ j, n = j + 1 → Fn P w K mg base "_law_cut" ["_law_modulus_here", "_law_tree", "_law_numbers_here"] (6 + 2 * j) (spCut K j)) : Fn P w K mg base "_law_cut" ["_law_modulus_here", "_law_tree", "_law_numbers_here"] (6 + 2 * n) (spCut K n) := by
  obtain ⟨fd, F⟩ := C.defs 55 (mkD "_law_cut" s__law_cut) rfl
  have F1 := fn__law_summary (P := P) (w := w) (base := base) C n
  rw [show 6 + 2 * n = 5 + 2 * n + 1 by omega]
  refine fn_mkS (C.glo _ (by decide +kernel)) F sc__law_cut (fun vs H Q E h => by obtain ⟨_, _, _, _, _, _, rfl, _⟩ := h; rfl) (fun _ _ _ _ _ _ us hl => match us, hl with | [_, _, _], _ => rfl) fun X cdv A outer s H vs Q E hX hr xk tk h => ?_
  obtain ⟨m, k, t, vt, a, ns, rfl, ht, ha, hm, hok, hk, hd, hnl, q⟩ := h
  subst hX
  have EV0 : Env K H [some (.int m), some vt, some (.ref a), none, none] _ := cut_env (m := m) none none ht ha
  refine wss_if (by wtm_at "g_vt") EV0 (fun hb => ?_) (fun _ H1 sm1 => ?_)
  · rw [isN_dTr] at hb; cases hb
  refine' wss_set (x := .d (.int 1)) ?a1 (EV0.mono sm1) ?a2 ?a3 ?a4 ?a5 ?a6 ?a7
  case a1 => assumption
  case a2 => wtm_at "g_ev"
  case a3 => exact rfl
  case a4 => first | exact Or.inl rfl | exact Or.inr rfl
  case a5 => exact rfl
  case a6 => first | exact Or.inl rfl | exact Or.inr rfl
  case a7 =>
    intro v1 H2 sm2 d1
    have d1 : Dp K H2 v1 (.int 1) := d1
    cases d1
    have sm12 := sm1.trans sm2
    -- what follows the number z
    have rest : ∀ (z : Int) (ns' : List Int) (H3 : Hp), SameBut a H H3 → H3 a = some (.lst (ns'.map V.int)) → ns'.length ≤ 1000 → wSs (cxOf (L2.CX P w) P w K mg base ["_law_modulus_here", "_law_tree", "_law_numbers_here", "_law_number_here", "_law_left"] (mkD "_law_cut" s__law_cut).qual (mkD "_law_cut" s__law_cut).scope (He.ga K "_law_cut") cdv A outer s H E) ((mkD "_law_cut" s__law_cut).body.drop 3) { nx := fun _ H' => Q .non H', rt := Q } [some (.int m), some vt, some (.ref a), some (.int z), none] H3 := by
      intro z ns' H3 sb ha3 hn3
      have ht3 : Dp K H3 vt (dTr t) := dp_swap ha sb _ _ (noL_dTr t) ht
      have E3 : Env K H3 [some (.int m), some vt, some (.ref a), some (.int z), none] [some (.d (.int m)), some (.d (dTr t)), some (.d (.list (ns'.map .int))), some (.d (.int z)), none] := (cut_env (some (.int z)) none ht3 ha3).set 3 (x := .d _) (.int z)
      have fin : ∀ (c : Tr) (v : V) (H5 : Hp), CutOf m t c → Same H3 H5 → Dp K H5 v (dTr c) → Q v H5 := fun c v H5 hc sm5 dv => q c ns' v H5 hc (sb.trans (Same.but sm5)) (sm5 a _ ha3) hn3 dv
      refine wss_if (by wtm_at "g_vt") E3 (fun hb H4 sm4 => ?_) (fun hb H4 sm4 => ?_)
      · refine' wss_ret (x := .d (dTr (.cut (summ m t)))) (E3.mono sm4) ?e fun v H5 sm5 d5 => fin (.cut (summ m t)) v H5 (.cut t) (sm4.trans sm5) d5
        case e => wtm_at "g_ev"
      · cases t with
        | leaf x ws ms =>
          refine wss_if (by wtm_at "g_vt") (E3.mono sm4) (fun hb H5 sm5 => ?_) (fun hb H5 sm5 => ?_)
          · refine' wss_ret (x := .d (dTr (.leaf x ws ms))) ((E3.mono sm4).mono sm5) ?e2 fun v H6 sm6 d6 => fin (.leaf x ws ms) v H6 (.leaf x ws ms) ((sm4.trans sm5).trans sm6) d6
            case e2 => wtm_at "g_ev"
          · exact absurd hb (by decide +kernel)
        | cut sm =>
          refine wss_if (by wtm_at "g_vt") (E3.mono sm4) (fun hb H5 sm5 => ?_) (fun hb H5 sm5 => ?_)
          · refine' wss_ret (x := .d (dTr (.cut sm))) ((E3.mono sm4).mono sm5) ?e3 fun v H6 sm6 d6 => fin (.cut sm) v H6 (.cut (.cut sm)) ((sm4.trans sm5).trans sm6) d6
            case e3 => wtm_at "g_ev"
          · exact absurd hb (by decide +kernel)
        | br l r =>
          have hd' : max (depth l) (depth r) + 1 ≤ n := hd
          obtain ⟨j, rfl⟩ : ∃ j, n = j + 1 := ⟨n - 1, by omega⟩
          have hl1 : depth l ≤ j := by omega
          have hl2 : depth r ≤ j := by omega
          obtain ⟨g1, g2, fd2, F2, hb2⟩ := IH j rfl
          refine wss_if (by wtm_at "g_vt") (E3.mono sm4) (fun hb H5 sm5 => ?_) (fun hb H5 sm5 => ?_)
          · exact absurd hb (by decide +kernel)
          have sm35 := sm4.trans sm5
          have E5 := E3.mono sm35
          refine ⟨_, pss_cons (ps_set sc__law_cut.nd (i := 4) rfl (by first | exact Or.inl rfl | exact Or.inr rfl) (pe_callS (E := fun _ => E0) (e := .Name "_law_modulus_here" _) F2 (hr.mono (by omega)) rfl g1 g2 hb2 (fun σ pins H s e s' I c => passL pins σ H s e s' I c) (pa_cons pe_w (pa_cons pe_w (pa_cons (pv 2) pa_nil))))) (pss_one (ps_ret (pe_tup (pa_cons pe_str (pa_cons (pv 4) (pa_cons (pe_callS (E := fun _ => E0) (e := .Name "_law_modulus_here" _) F2 (hr.mono (by omega)) rfl g1 g2 hb2 (fun σ pins H s e s' I c => passL pins σ H s e s' I c) (pa_cons pe_w (pa_cons pe_w (pa_cons (pv 2) pa_nil)))) pa_nil)))))), ?_⟩
          refine (show Ev _ _ [some (.d (.int m)), some (.d (dTr (.br l r))), some (.d (.list (ns'.map .int))), some (.d (.int z)), none] (.d (.int m)) by wtm_at "g_ev") _ H5 _ E5 fun v1 H6 sm6 d1 => ?_
          refine (show Ev _ _ [some (.d (.int m)), some (.d (dTr (.br l r))), some (.d (.list (ns'.map .int))), some (.d (.int z)), none] (.d (dTr l)) by wtm_at "g_ev") _ H6 _ (E5.mono sm6) fun v2 H7 sm7 d2 => ?_
          have d1 : Dp K H6 v1 (.int m) := d1
          have d2 : Dp K H7 v2 (dTr l) := d2
          cases d1
          have sm37 := (sm35.trans sm6).trans sm7
          have ha7 := sm37 a _ ha3
          refine ⟨V.ref a, rfl, m, k, l, v2, a, ns', rfl, d2, ha7, hm, hok.1, hk, hl1, hn3, fun c1 n1 u1 H8 hc1 sb8 ha8 hn8 du1 => ?_⟩
          have sb38 : SameBut a H3 H8 := (Same.but sm37).trans sb8
          have ht8 : Dp K H8 vt (dTr (.br l r)) := dp_swap ha3 sb38 _ _ (noL_dTr _) ht3
          have E8 : Env K H8 [some (.int m), some vt, some (.ref a), some (.int z), some u1] [some (.d (.int m)), some (.d (dTr (.br l r))), some (.d (.list (n1.map .int))), none, none] := cut_env _ _ ht8 ha8
          refine ⟨u1, rfl, ?_⟩
          refine (show Ev _ _ [some (.d (.int m)), some (.d (dTr (.br l r))), some (.d (.list (n1.map .int))), none, none] (.d (.int m)) by wtm_at "g_ev") _ H8 _ E8 fun v3 H9 sm9 d3 => ?_
          refine (show Ev _ _ [some (.d (.int m)), some (.d (dTr (.br l r))), some (.d (.list (n1.map .int))), none, none] (.d (dTr r)) by wtm_at "g_ev") _ H9 _ (E8.mono sm9) fun v4 H10 sm10 d4 => ?_
          have d3 : Dp K H9 v3 (.int m) := d3
          have d4 : Dp K H10 v4 (dTr r) := d4
          cases d3
          have ha10 := sm10 a _ (sm9 a _ ha8)
          refine ⟨V.ref a, rfl, m, k, r, v4, a, n1, rfl, d4, ha10, hm, hok.2, hk, hl2, hn8, fun c2 n2 u2 H11 hc2 sb11 ha11 hn11 du2 => ?_⟩
          have du1' : Dp K H11 u1 (dTr c1) := dp_swap ha10 sb11 _ _ (noL_dTr _) (dp_mono (sm9.trans sm10) _ _ du1)
          refine ⟨by show 3 ≤ sizeLine; rw [sizeLine_eq]; omega, fun p hp => ?_⟩
          have snew : Same H11 (upd H11 p (.tup [.str "branch", u1, u2])) := same_new hp _
          refine q (.br c1 c2) n2 _ _ (.br hc1 hc2) ?_ (snew a _ ha11) hn11 ?_
          · exact ((sb.trans sb38).trans ((Same.but (sm9.trans sm10)).trans sb11)).trans (Same.but snew)
          · exact .tup (SqT.of upd_same) (.cons (.str _) (.cons (dp_mono snew _ _ du1') (.cons (dp_mono snew _ _ du2) .nil)))
    refine wss_if (by wtm_at "g_vt") ((EV0.mono sm12).set 3 (x := .d _) (.int 1)) (fun hb H3 sm3 => ?_) (fun hb H3 sm3 => ?_)
    · have hpos : 0 < ns.length := by simpa using hb
      have hz : (ns.map V.int)[(ns.map V.int).length - 1]? = some (V.int (ns.getD (ns.length - 1) 0)) := by
        have h2 : ns.length - 1 < ns.length := by omega
        simp [List.getD, h2]
      have ha3 := sm3 a _ (sm12 a _ ha)
      refine ⟨_, pss_one (ps_set sc__law_cut.nd (i := 3) rfl (by first | exact Or.inl rfl | exact Or.inr rfl) (pe_callTy call_int1 rfl (C.free _ (by decide +kernel)) (by decide +kernel) (pa_cons (pe_bm0 PySem.F.plainAttrs_list PySem.F.slot_list_pop PySem.F.type_list_pop mt_pop (pv 2)) pa_nil))), ?_⟩
      refine ⟨V.ref a, rfl, .inl ⟨rfl, _, SqL.of ha3⟩, a, _, _, rfl, rfl, ha3, hz, ?_⟩
      refine .inl ⟨_, rfl, ?_⟩
      refine rest _ ns.dropLast _ ?_ ?_ ?_
      · exact fun b o hb e => by rw [upd_ne hb]; exact sm3 b o (sm12 b o e)
      · rw [upd_same, List.map_dropLast]
      · rw [List.length_dropLast]; omega
    · exact rest 1 ns H3 (Same.but (sm12.trans sm3)) (sm3 a _ (sm12 a _ ha)) hnl
theorem fn__law_cut (C : Wd K mg) : ∀ n, Fn P w K mg base "_law_cut" ["_law_modulus_here", "_law_tree", "_law_numbers_here"] (6 + 2 * n) (spCut K n)
  | 0 => st__law_cut C 0 (fun j h => by omega)
  | n + 1 => st__law_cut C (n + 1) (fun j h => by
      have e : j = n := by omega
      subst e
      exact fn__law_cut C j)
end
end Sg
/-! # Dicts -/
namespace Sg
open PySem PySem.Spec L2
def putA {β : Type} (kvs : List (Str × β)) (x : Str) (b : β) : List (Str × β) := if (kvs.any fun p => decide (p.1 = x)) = true then kvs.map (fun p => if p.1 = x then (p.1, b) else p) else kvs ++ [(x, b)]
theorem putA_map {β γ : Type} (f : β → γ) (kvs : List (Str × β)) (x : Str) (b : β) : (putA kvs x b).map (fun p => (p.1, f p.2)) = putA (kvs.map fun p => (p.1, f p.2)) x (f b) := by
  unfold putA
  have e : ((kvs.map fun p => (p.1, f p.2)).any fun p => decide (p.1 = x)) = kvs.any fun p => decide (p.1 = x) := by
    rw [List.any_map]
    rfl
  rw [e]
  split
  · rw [List.map_map, List.map_map]
    apply List.map_congr_left
    intro p _
    simp only [Function.comp]
    split <;> rfl
  · rw [List.map_append]
    rfl
theorem putA_len {β : Type} (kvs : List (Str × β)) (x : Str) (b : β) : (putA kvs x b).length ≤ kvs.length + 1 ∧ 0 < (putA kvs x b).length := by
  unfold putA
  split
  · rename_i h
    rw [List.length_map]
    refine ⟨by omega, ?_⟩
    obtain ⟨p, hp, _⟩ := List.any_eq_true.mp h
    exact List.length_pos_of_mem hp
  · rw [List.length_append]
    simp
theorem kvd_any {K : PySem.W.Frag} {H : Hp} {kvs : List (Key × V)} {ds : List (Str × PyData)} {x : Str} (h : KvD K H kvs ds) : (kvs.any fun kv => decide (kv.1 = Sum.inr x)) = ds.any fun p => decide (p.1 = x) := by
  induction h with
  | nil => rfl
  | @cons y v d kvs ds h1 _ ih =>
    rw [List.any_cons, List.any_cons, ih]
    congr 1
    exact decide_eq_decide.mpr ⟨fun e => Sum.inr.inj e, fun (e : y = x) => congrArg Sum.inr e⟩
theorem kvd_upd {K : PySem.W.Frag} {H : Hp} {kvs : List (Key × V)} {ds : List (Str × PyData)} {x : Str} {v : V} {d : PyData} (h : KvD K H kvs ds) (hv : Dp K H v d) : KvD K H (kvs.map fun kv => if kv.1 = Sum.inr x then (kv.1, v) else kv) (ds.map fun p => if p.1 = x then (p.1, d) else p) := by
  induction h with
  | nil => exact .nil
  | @cons y u e kvs ds h1 _ ih =>
    rw [List.map_cons, List.map_cons]
    by_cases c : y = x
    · rw [if_pos (show (Sum.inr y : Key) = Sum.inr x by rw [c]), if_pos c]
      exact .cons hv ih
    · rw [if_neg (fun z => c (Sum.inr.inj z)), if_neg c]
      exact .cons h1 ih
theorem kvd_app {K : PySem.W.Frag} {H : Hp} {kvs kvs' : List (Key × V)} {ds ds' : List (Str × PyData)} (h : KvD K H kvs ds) (h' : KvD K H kvs' ds') : KvD K H (kvs ++ kvs') (ds ++ ds') := by
  induction h with
  | nil => exact h'
  | cons h1 _ ih => exact .cons h1 ih
theorem kvd_put {K : PySem.W.Frag} {H : Hp} {kvs : List (Key × V)} {ds : List (Str × PyData)} {x : Str} {v : V} {d : PyData} (h : KvD K H kvs ds) (hv : Dp K H v d) : KvD K H (putK kvs (.inr x) v) (putA ds x d) := by
  unfold putK putA
  rw [kvd_any h]
  split
  · exact kvd_upd h hv
  · exact kvd_app h (.cons hv .nil)
theorem kvd_len {K : PySem.W.Frag} {H : Hp} {kvs : List (Key × V)} {ds : List (Str × PyData)} (h : KvD K H kvs ds) : kvs.length = ds.length := by
  induction h with
  | nil => rfl
  | cons _ _ ih => simp [ih]
theorem kvd_keys {K : PySem.W.Frag} {H : Hp} {kvs : List (Key × V)} {ds : List (Str × PyData)} (h : KvD K H kvs ds) : kvs.map (·.1) = (ds.map (·.1)).map Sum.inr := by
  induction h with
  | nil => rfl
  | cons _ _ ih => simp [ih]
/-! ### a dict changes: data stay -/
mutual
theorem dp_chg {K : PySem.W.Frag} {H H' : Hp} {D : Addr} {kv : List (Key × V)} (hD : H D = some (.dK kv)) (k : SameBut D H H') : ∀ (d : PyData) (v : V), Dp K H v d → Dp K H' v d
  | .none, _, h => by cases h; exact .non
  | .bool _, _, h => by cases h; exact .bl _
  | .int _, _, h => by cases h; exact .int _
  | .str _, _, h => by cases h; exact .str _
  | .list ds, _, h => by
    cases h with
    | @lst a xs _ hs ha =>
      refine .lst ?_ (dpAll_chg hD k ds _ ha)
      rcases hs with (hs | ⟨o, hs⟩) | hs
      · exact .inl (.inl (k a _ (fun z => by rw [z, hD] at hs; cases hs) hs))
      · exact .inl (.inr ⟨o, k a _ (fun z => by rw [z, hD] at hs; cases hs) hs⟩)
      · exact .inr hs
  | .tuple ds, _, h => by
    cases h with
    | @tup a xs _ hs ha =>
      refine .tup ?_ (dpAll_chg hD k ds _ ha)
      rcases hs with (hs | ⟨o, hs⟩) | hs
      · exact .inl (.inl (k a _ (fun z => by rw [z, hD] at hs; cases hs) hs))
      · exact .inl (.inr ⟨o, k a _ (fun z => by rw [z, hD] at hs; cases hs) hs⟩)
      · exact .inr hs
  | .dict _, _, h => by cases h
theorem dpAll_chg {K : PySem.W.Frag} {H H' : Hp} {D : Addr} {kv : List (Key × V)} (hD : H D = some (.dK kv)) (k : SameBut D H H') : ∀ (ds : List PyData) (vs : List V), DpAll K H vs ds → DpAll K H' vs ds
  | [], _, h => by cases h; exact .nil
  | d :: ds, _, h => by
    cases h with
    | cons h1 h2 => exact .cons (dp_chg hD k d _ h1) (dpAll_chg hD k ds _ h2)
end
theorem kvd_chg {K : PySem.W.Frag} {H H' : Hp} {D : Addr} {kv : List (Key × V)} (hD : H D = some (.dK kv)) (k : SameBut D H H') {kvs : List (Key × V)} {ds : List (Str × PyData)} (h : KvD K H kvs ds) : KvD K H' kvs ds := by
  induction h with
  | nil => exact .nil
  | cons h1 _ ih => exact .cons (dp_chg hD k _ _ h1) ih
/-- no dicts among the slots -/
def noDR (ρ : Rho) : Bool := ρ.all fun o => match o with
  | some (.dc _) => false
  | _ => true
theorem Env.chg {K : PySem.W.Frag} {H H' : Hp} {σ : L2.St} {ρ : Rho} {D : Addr} {kv : List (Key × V)} (E : Env K H σ ρ) (hD : H D = some (.dK kv)) (k : SameBut D H H') (hn : noDR ρ = true) : Env K H' σ ρ :=
  ⟨E.len, fun i x e => by
    obtain ⟨v, e1, d⟩ := E.get i x e
    refine ⟨v, e1, ?_⟩
    cases x with
    | d x => exact dp_chg hD k _ _ d
    | sl m =>
      obtain ⟨a, dx, rfl, h⟩ := d
      exact ⟨a, dx, rfl, k a _ (fun z => by rw [z, hD] at h; cases h) h⟩
    | dc _ =>
      unfold noDR at hn
      rw [List.all_eq_true] at hn
      have z := hn _ (List.mem_of_getElem? e)
      cases z⟩
/-! ### leaves, by name -/
structure GoodA (k : Nat) (kvs : List (Str × Lr)) : Prop where
  lf : ∀ p ∈ kvs, p.1 = p.2.n ∧ Lf k p.2.n p.2.ws p.2.ns
  nd : (kvs.map (·.1)).Nodup
theorem GoodA.put {k : Nat} {kvs : List (Str × Lr)} (g : GoodA k kvs) {l : Lr} (h : Lf k l.n l.ws l.ns) : GoodA k (putA kvs l.n l) := by
  unfold putA
  split
  · refine ⟨fun p hp => ?_, ?_⟩
    · obtain ⟨q, hq, rfl⟩ := List.mem_map.mp hp
      by_cases c : q.1 = l.n
      · rw [if_pos c]
        exact ⟨c, h⟩
      · rw [if_neg c]
        exact g.lf q hq
    · rw [List.map_map]
      have e : (kvs.map ((fun p : Str × Lr => p.1) ∘ fun p => if p.1 = l.n then (p.1, l) else p)) = kvs.map (·.1) := by
        apply List.map_congr_left
        intro p _
        simp only [Function.comp]
        split <;> rfl
      rw [e]
      exact g.nd
  · rename_i hx
    refine ⟨fun p hp => ?_, ?_⟩
    · rcases List.mem_append.mp hp with hp | hp
      · exact g.lf p hp
      · have e : p = (l.n, l) := by simpa using hp
        rw [e]
        exact ⟨rfl, h⟩
    · rw [List.map_append, List.nodup_append]
      refine ⟨g.nd, by simp, fun a ha b hb e => ?_⟩
      have hb : b = l.n := by simpa using hb
      obtain ⟨p, hp, rfl⟩ := List.mem_map.mp ha
      exact hx (List.any_eq_true.mpr ⟨p, hp, by rw [e, hb]; simp⟩)
theorem GoodA.good {k : Nat} {kvs : List (Str × Lr)} (g : GoodA k kvs) (h : kvs ≠ []) : GoodL k (kvs.map (·.2)) := by
  have e : (kvs.map (·.2)).map Lr.n = kvs.map (·.1) := by
    rw [List.map_map]
    apply List.map_congr_left
    intro p hp
    exact (g.lf p hp).1.symm
  exact ⟨fun l hl => by
    obtain ⟨p, hp, rfl⟩ := List.mem_map.mp hl
    exact (g.lf p hp).2, by rw [e]; exact g.nd, fun z => h (List.map_eq_nil_iff.mp z)⟩
def w6 : List Int := [0, 1, 5, 1000000000000000, 77, 300]
def n5 : List Int := [0, 1, 2, 2305843009213693952, 9]
def leafM (kd : Nat) (c : Int) : Lr := ⟨nameM (c % 1200), (List.range kd).map fun (j : Nat) => w6.getD (c / (1200 + 7 * (j : Int)) % 6).toNat 0, (List.range (c / 60000 % 4).toNat).map fun (j : Nat) => n5.getD (c / (9000 + 11 * (j : Int)) % 5).toNat 0⟩
theorem getD_bd {l : List Int} {b : Int} (h : ∀ x ∈ l, 0 ≤ x ∧ x ≤ b) (hb : 0 ≤ b) (i : Nat) : 0 ≤ l.getD i 0 ∧ l.getD i 0 ≤ b := by
  by_cases c : i < l.length
  · have e : l.getD i 0 = l[i] := by simp [List.getD, c]
    rw [e]
    exact h _ (List.getElem_mem c)
  · rw [show l.getD i 0 = 0 by simp [List.getD, Nat.le_of_not_lt c]]
    omega
theorem leafM_lf {kd : Nat} {c : Int} (hc : 0 ≤ c) : Lf kd (leafM kd c).n (leafM kd c).ws (leafM kd c).ns := by
  refine ⟨nameM_nm (by omega), by simp [leafM], fun x hx => ?_, ?_, fun x hx => ?_⟩
  · obtain ⟨j, _, rfl⟩ := List.mem_map.mp hx
    exact getD_bd (b := 1000000000000000) (by decide) (by decide) _
  · simp [leafM]
    omega
  · obtain ⟨j, _, rfl⟩ := List.mem_map.mp hx
    exact getD_bd (b := 2305843009213693952) (by decide) (by decide) _
def leavesM (ns : List Int) (at0 kd : Nat) : Nat → List (Str × Lr)
  | 0 => []
  | j + 1 => putA (leavesM ns at0 kd j) (leafM kd ((ns.getD (at0 + j) 0).natAbs : Nat)).n (leafM kd ((ns.getD (at0 + j) 0).natAbs : Nat))
theorem leavesM_good (ns : List Int) (at0 kd : Nat) : ∀ j, GoodA kd (leavesM ns at0 kd j) ∧ (leavesM ns at0 kd j).length ≤ j ∧ (0 < j → 0 < (leavesM ns at0 kd j).length)
  | 0 => ⟨⟨fun p hp => by (cases hp), List.nodup_nil⟩, Nat.le_refl _, fun h => by omega⟩
  | j + 1 => by
    obtain ⟨a, b, c⟩ := leavesM_good ns at0 kd j
    have z := putA_len (leavesM ns at0 kd j) (leafM kd ((ns.getD (at0 + j) 0).natAbs : Nat)).n (leafM kd ((ns.getD (at0 + j) 0).natAbs : Nat))
    refine ⟨a.put (leafM_lf (by omega)), ?_, fun _ => z.2⟩
    show (putA _ _ _).length ≤ j + 1
    omega
def dKv (kvs : List (Str × Lr)) : List (Str × PyData) := kvs.map fun p => (p.1, dL p.2)
def rLeaves : List DV → Rs → Prop := fun xs r => ∃ ns : List Int, ∃ a c kd : Nat, xs = [.d (.list (ns.map .int)), .d (.int a), .d (.int c), .d (.int kd)] ∧ c ≤ 100 ∧ kd ≤ 3 ∧ r = .ok (.dc (dKv (leavesM ns a kd c)))
end Sg
namespace Sg
section
variable {P : Program} {w : World} {K : PySem.W.Frag} {mg : Str → Option Value} {base : Heap}
theorem sc__law_leaves : FnScope ["_law_script", "_law_at", "_law_count", "_law_kinds", "_law_found", "_law_k", "_law_cell_here", "_law_name_here", "_law_worths", "_law_notes", "_law_j"] ["_law_script", "_law_at", "_law_count", "_law_kinds"] (defScope s__law_leaves) := ⟨rfl, rfl, rfl, by decide +kernel, rfl, by decide +kernel, by decide +kernel⟩
theorem Env.any {K : PySem.W.Frag} {H : Hp} {σ : L2.St} {ρ : Rho} (E : Env K H σ ρ) (i : Nat) (o : Option V) (h : ρ[i]? = some none) : Env K H (σ.set i o) ρ := ⟨by simp [E.len], fun j x e => by
  by_cases hj : i = j
  · subst hj
    rw [h] at e
    cases e
  · rw [List.getElem?_set_ne hj]
    exact E.get j x e⟩
theorem fn__law_leaves (C : Wd K mg) : Fn P w K mg base "_law_leaves" ["_law_script", "_law_at", "_law_count", "_law_kinds"] 2 (spD K 4 rLeaves) := by
  obtain ⟨fd, F⟩ := C.defs 46 (mkD "_law_leaves" s__law_leaves) rfl
  have F1 := fn__law_cell (P := P) (w := w) (base := base) C
  have F2 := fn__law_name (P := P) (w := w) (base := base) C
  refine fn_mkS (C.glo _ (by decide +kernel)) F sc__law_leaves (fun vs H Q E h => by obtain ⟨_, _, hl, _⟩ := h; exact hl) (fun _ _ _ _ _ _ us hl => match us, hl with | [_, _, _, _], _ => rfl) fun X cdv A outer s H vs Q E hX hr xk tk h => ?_
  obtain ⟨xs, r, hl, dr, ⟨ns, a, c, kd, rfl, hc, hkd, rfl⟩, q⟩ := h
  have EV0 := env_start dr ["_law_script", "_law_at", "_law_count", "_law_kinds", "_law_found", "_law_k", "_law_cell_here", "_law_name_here", "_law_worths", "_law_notes", "_law_j"]
  subst hX
  refine ⟨_, pss_cons (ps_set sc__law_leaves.nd (i := 4) rfl (by first | exact Or.inl rfl | exact Or.inr rfl) pe_dnewK) pss_w, fun p hp => ?_⟩
  have s1 : Same H (upd H p (.dK [])) := same_new hp _
  have EV1 := (EV0.mono s1).any 4 (some (.ref p)) rfl
  refine ⟨_, pss_cons ps_w pss_w, ws_range (n := c) xk C (fun j σ' H' => Same H H' ∧ (∃ kv, H' p = some (.dK kv) ∧ KvD K H' kv (dKv (leavesM ns a kd j))) ∧ Env K H' σ' [some (.d (.list (ns.map .int))), some (.d (.int a)), some (.d (.int c)), some (.d (.int kd)), none, none, none, none, none, none, none] ∧ σ'[4]? = some (some (.ref p))) EV1 rfl ?ha (by omega) rfl (pg_name (i := 5) sc__law_leaves.nd rfl (by first | exact Or.inl rfl | exact Or.inr rfl)) (fun _ => rfl) ?h0 ?hb ?hd⟩
  case ha => wtm_at "g_ev"
  case h0 =>
    intro H1 sm
    refine ⟨s1.trans sm, ⟨[], sm p _ upd_same, .nil⟩, EV1.mono sm, ?_⟩
    have hlen := EV0.len
    exact List.getElem?_set_self (by rw [hlen]; exact (by decide : 4 < 11))
  case hb =>
    rintro j σ' H' hj ⟨sm, ⟨kv, hkv, kvd⟩, Ej, h4⟩
    have E2 := Ej.set 5 (v := .int (j : Nat)) (x := .d (.int (j : Nat))) (.int _)
    have h42 : (σ'.set 5 (some (V.int (j : Nat))))[4]? = some (some (.ref p)) := by rw [List.getElem?_set_ne (by decide)]; exact h4
    have eaj : ((a : Int) + (j : Nat)) = ((a + j : Nat) : Int) := by omega
    generalize hc0 : (((ns.getD (a + j) 0).natAbs : Nat) : Int) = cc
    have hcc : 0 ≤ cc := by omega
    refine' wss_set (x := .d (.int cc)) ?a1 E2 ?a2 ?a3 ?a4 ?a5 ?a6 ?a7
    case a1 => assumption
    case a2 =>
      rw [← hc0]
      refine' ev_abs ?z1 ?z2 ?z3 ?z4 ?z5
      case z1 => assumption
      case z2 => exact rfl
      case z4 => exact rfl
      case z5 => exact rfl
      case z3 =>
        refine' ev_call F1 hr (by omega) (xs := [.d (.list (ns.map .int)), .d (.int ((a + j : Nat) : Int))]) ?x1 rCell_mk rfl rfl (by decide +kernel) rfl rfl
        case x1 =>
          rw [← eaj]
          wtm_at "g_ea"
    case a3 => exact rfl
    case a4 => first | exact Or.inl rfl | exact Or.inr rfl
    case a5 => exact rfl
    case a6 => first | exact Or.inl rfl | exact Or.inr rfl
    case a7 =>
      intro v3 H3 sm3 d3
      have E3 := (E2.mono sm3).set 6 d3
      have hn0 : 0 ≤ cc % 1200 := by omega
      refine' wss_set (x := .d (.str (nameM (cc % 1200)))) ?b1 E3 ?b2 ?b3 ?b4 ?b5 ?b6 ?b7
      case b1 => assumption
      case b2 => wtm_at "g_ev"
      case b3 => exact rfl
      case b4 => first | exact Or.inl rfl | exact Or.inr rfl
      case b5 => exact rfl
      case b6 => first | exact Or.inl rfl | exact Or.inr rfl
      case b7 =>
        intro v4 H4 sm4 d4
        have E4 := (E3.mono sm4).set 7 d4
        refine' wss_set (x := .d (dI (leafM kd cc).ws)) ?c1 E4 ?c2 ?c3 ?c4 ?c5 ?c6 ?c7
        case c1 => assumption
        case c2 =>
          refine' Ev.is (ev_totup ?u1 ?u2 ?u3 ?u4 ?u5) ?u6
          case u1 => assumption
          case u2 => exact rfl
          case u4 => exact rfl
          case u5 => exact rfl
          case u3 =>
            refine' ev_lcm (n := kd) (g := fun (j : Nat) => .int (w6.getD (cc / (1200 + 7 * (j : Int)) % 6).toNat 0)) ?uy1 ?uy2 ?uy3 ?uy4 ?uy5 ?uy6 ?uy7 ?uy8 ?uy9
            case uy1 => exact rfl
            case uy2 => assumption
            case uy3 => exact blkOk_by (by kernel_rfl)
            case uy6 => intro _ _ _ _ _; refine pg_name ?und rfl ?ulc <;> first | exact Or.inl rfl | exact Or.inr rfl | (have z := XOk.nd (by assumption); exact z)
            case uy9 => intro _; rfl
            case uy4 =>
              refine' EvI.is ?uz ?un ?uf
              case uz => exact evi_r1 (j := (kd : Nat)) (by assumption) rfl (by wtm_at "g_ev") (by omega) (by omega) rfl
              case un => omega
              case uf => rfl
            case uy5 => omega
            case uy8 => exact fun _ _ => rfl
            case uy7 =>
              intro s H C' cl fp i hi
              have hix : 0 ≤ cc / (1200 + 7 * (i : Int)) % 6 ∧ cc / (1200 + 7 * (i : Int)) % 6 < 6 := by omega
              have ha : atI [PyData.int 0, .int 1, .int 5, .int 1000000000000000, .int 77, .int 300] (cc / (1200 + 7 * (i : Int)) % 6) = some (.int (w6.getD (cc / (1200 + 7 * (i : Int)) % 6).toNat 0)) := by
                have e : (((cc / (1200 + 7 * (i : Int)) % 6).toNat : Nat) : Int) = cc / (1200 + 7 * (i : Int)) % 6 := Int.toNat_of_nonneg hix.1
                have hlt : (cc / (1200 + 7 * (i : Int)) % 6).toNat < 6 := by omega
                have y := atI_nat (xs := w6.map PyData.int) (j := (cc / (1200 + 7 * (i : Int)) % 6).toNat) (v := .int (w6.getD (cc / (1200 + 7 * (i : Int)) % 6).toNat 0)) (by
                  have hl2 : (cc / (1200 + 7 * (i : Int)) % 6).toNat < w6.length := hlt
                  simp [List.getD, hl2])
                rw [e] at y
                exact y
              wtm_at "g_ev"
          case u6 =>
            show DV.d (.tuple _) = DV.d (.tuple (List.map PyData.int (List.map _ _)))
            rw [List.map_map]
            rfl
        case c3 => exact rfl
        case c4 => first | exact Or.inl rfl | exact Or.inr rfl
        case c5 => exact rfl
        case c6 => first | exact Or.inl rfl | exact Or.inr rfl
        case c7 =>
          intro v5 H5 sm5 d5
          have E5 := (E4.mono sm5).set 8 d5
          refine' wss_set (x := .d (dI (leafM kd cc).ns)) ?e1 E5 ?e2 ?e3 ?e4 ?e5 ?e6 ?e7
          case e1 => assumption
          case e2 =>
            refine' Ev.is (ev_totup ?v1 ?v2 ?v3 ?v4 ?v5) ?v6
            case v1 => assumption
            case v2 => exact rfl
            case v4 => exact rfl
            case v5 => exact rfl
            case v3 =>
              refine' ev_lcm (n := (cc / 60000 % 4).toNat) (g := fun (j : Nat) => .int (n5.getD (cc / (9000 + 11 * (j : Int)) % 5).toNat 0)) ?vy1 ?vy2 ?vy3 ?vy4 ?vy5 ?vy6 ?vy7 ?vy8 ?vy9
              case vy1 => exact rfl
              case vy2 => assumption
              case vy3 => exact blkOk_by (by kernel_rfl)
              case vy6 => intro _ _ _ _ _; refine pg_name ?vnd rfl ?vlc <;> first | exact Or.inl rfl | exact Or.inr rfl | (have z := XOk.nd (by assumption); exact z)
              case vy9 => intro _; rfl
              case vy4 =>
                refine' EvI.is ?vz ?vn ?vf
                case vz => exact evi_r1 (j := cc / 60000 % 4) (by assumption) rfl (by wtm_at "g_ev") (by omega) (by omega) rfl
                case vn => omega
                case vf => rfl
              case vy5 => omega
              case vy8 => exact fun _ _ => rfl
              case vy7 =>
                intro s H C' cl fp i hi
                have hix : 0 ≤ cc / (9000 + 11 * (i : Int)) % 5 ∧ cc / (9000 + 11 * (i : Int)) % 5 < 5 := by omega
                have ha : atI [PyData.int 0, .int 1, .int 2, .int 2305843009213693952, .int 9] (cc / (9000 + 11 * (i : Int)) % 5) = some (.int (n5.getD (cc / (9000 + 11 * (i : Int)) % 5).toNat 0)) := by
                  have e : (((cc / (9000 + 11 * (i : Int)) % 5).toNat : Nat) : Int) = cc / (9000 + 11 * (i : Int)) % 5 := Int.toNat_of_nonneg hix.1
                  have hlt : (cc / (9000 + 11 * (i : Int)) % 5).toNat < 5 := by omega
                  have y := atI_nat (xs := n5.map PyData.int) (j := (cc / (9000 + 11 * (i : Int)) % 5).toNat) (v := .int (n5.getD (cc / (9000 + 11 * (i : Int)) % 5).toNat 0)) (by
                    have hl2 : (cc / (9000 + 11 * (i : Int)) % 5).toNat < n5.length := hlt
                    simp [List.getD, hl2])
                  rw [e] at y
                  exact y
                wtm_at "g_ev"
            case v6 =>
              show DV.d (.tuple _) = DV.d (.tuple (List.map PyData.int (List.map _ _)))
              rw [List.map_map]
              rfl
          case e3 => exact rfl
          case e4 => first | exact Or.inl rfl | exact Or.inr rfl
          case e5 => exact rfl
          case e6 => first | exact Or.inl rfl | exact Or.inr rfl
          case e7 =>
            intro v6 H6 sm6 d6
            have E6 := (E5.mono sm6).set 9 d6
            have d4 : Dp K H4 v4 (.str (nameM (cc % 1200))) := d4
            cases d4
            have sm26 : Same H' H6 := ((sm3.trans sm4).trans sm5).trans sm6
            refine ⟨_, pss_one (ps_dput (hu_of hr) (pv 4) (pv 7) pe_w rfl), ?_⟩
            refine (show Ev _ _ [some (.d (.list (ns.map .int))), some (.d (.int a)), some (.d (.int c)), some (.d (.int kd)), none, some (.d (.int j)), some (.d (.int cc)), some (.d (.str (nameM (cc % 1200)))), some (.d (dI (leafM kd cc).ws)), some (.d (dI (leafM kd cc).ns)), none] (.d (dL (leafM kd cc))) by wtm_at "g_ev") _ H6 _ E6 fun v7 H7 sm7 d7 => ?_
            have d7 : Dp K H7 v7 (dL (leafM kd cc)) := d7
            have sm27 := sm26.trans sm7
            have hp7 := sm27 p _ hkv
            refine ⟨V.ref p, ?_, .str (nameM (cc % 1200)), ?_, p, _, rfl, DPut.k (k := .inr (nameM (cc % 1200))) hp7 ?_, ?_⟩
            · rw [List.getElem?_set_ne (by decide), List.getElem?_set_ne (by decide), List.getElem?_set_ne (by decide), List.getElem?_set_ne (by decide)]
              exact h42
            · have hle := Ej.len
              have hle : σ'.length = 11 := hle
              rw [List.getElem?_set_ne (by decide), List.getElem?_set_ne (by decide), List.getElem?_set_self (by simp [hle])]
            · rw [kvd_len kvd]
              have hl2 := (leavesM_good ns a kd j).2.1
              unfold dKv
              rw [List.length_map, sizeLine_eq]
              omega
            · have kk : SameBut p H7 (upd H7 p (.dK (putK kv (.inr (nameM (cc % 1200))) v7))) := fun b o hb e => by rw [upd_ne hb]; exact e
              refine ⟨fun b o hb => ?_, ⟨_, upd_same, ?_⟩, ?_, ?_⟩
              · rw [upd_ne (ne_of_none hb hp)]
                exact sm27 b o (sm b o hb)
              · have z := kvd_put (x := nameM (cc % 1200)) (kvd_chg hp7 kk (kvd.mono sm27)) (dp_chg hp7 kk _ _ d7)
                have e : dKv (leavesM ns a kd (j + 1)) = putA (dKv (leavesM ns a kd j)) (nameM (cc % 1200)) (dL (leafM kd cc)) := by
                  rw [← hc0]
                  exact putA_map dL _ _ _
                rw [e]
                exact z
              · have z := ((E6.mono sm7).chg hp7 kk rfl)
                refine z.weak rfl fun k y e => ?_
                match k with
                | 0 => exact e
                | 1 => exact e
                | 2 => exact e
                | 3 => exact e
                | 4 => cases e
                | 5 => cases e
                | 6 => cases e
                | 7 => cases e
                | 8 => cases e
                | 9 => cases e
                | 10 => cases e
                | k + 11 => cases e
              · rw [List.getElem?_set_ne (by decide), List.getElem?_set_ne (by decide), List.getElem?_set_ne (by decide), List.getElem?_set_ne (by decide)]
                exact h42
  case hd =>
    rintro σ' H' ⟨sm, ⟨kv, hkv, kvd⟩, Ej, h4⟩
    refine ⟨_, pss_one (ps_ret (pv 4)), V.ref p, h4, ?_⟩
    exact q _ H' sm ⟨p, kv, rfl, hkv, kvd⟩
end
end Sg
/-! # Walks over a dict -/
namespace Sg
open PySem PySem.Spec L2
theorem val_at {kvs : List (Key × V)} {k : Key} {v : V} : ∀ {i : Nat}, (kvs.map (·.1)).Nodup → kvs[i]? = some (k, v) → valV kvs k = some v := by
  induction kvs with
  | nil => intro i _ h; simp at h
  | cons p kvs ih =>
    intro i nd h
    rw [List.map_cons, List.nodup_cons] at nd
    cases i with
    | zero =>
      have e : p = (k, v) := by simpa using h
      subst e
      exact valV_pos rfl
    | succ i =>
      have h : kvs[i]? = some (k, v) := by simpa using h
      have hm : k ∈ kvs.map (·.1) := List.mem_map.mpr ⟨(k, v), List.mem_of_getElem? h, rfl⟩
      rw [valV_neg (fun e => nd.1 (by rw [e]; exact hm))]
      exact ih nd.2 h
theorem kvd_nodup {K : PySem.W.Frag} {H : Hp} {kvs : List (Key × V)} {ds : List (Str × PyData)} (h : KvD K H kvs ds) (nd : (ds.map (·.1)).Nodup) : (kvs.map (·.1)).Nodup := by
  rw [kvd_keys h]
  exact List.Pairwise.map Sum.inr (fun a b (hab : a ≠ b) (e : (Sum.inr a : Key) = Sum.inr b) => hab (Sum.inr.inj e)) nd
theorem kvd_vals {K : PySem.W.Frag} {H : Hp} {kvs : List (Key × V)} {ds : List (Str × PyData)} (h : KvD K H kvs ds) : DpAll K H (kvs.map (·.2)) (ds.map (·.2)) := by
  induction h with
  | nil => exact .nil
  | cons h1 _ ih => exact .cons h1 ih
section
variable {X : Cx} {ρ : Rho}
/-- [d[x] for x in d] -/
theorem evf_vals {dn xn : Str} {di xi : Nat} {scope : Scope} {p0 p1 p2 px ps pos : Pos} {ds : List (Str × PyData)} (c : XOk X) (hu : X.A.units + 1 < cLine) (hρ : ρ[di]? = some (some (.dc ds))) (hxl : xi < ρ.length) (hne : xi ≠ di) (hnd : (ds.map (·.1)).Nodup) (hlen : ds.length ≤ 1000) (ok : BlkOk X.N X.env.scope scope [(xn, xi)])
    (hd : PE X (.Name dn p0) (tVar di)) (hg : Blk X scope fun Y => PG Y (.Name xn px) (gName xi)) (h1 : Blk X scope fun Y => PE Y (.Name dn p1) (tVar di)) (h2 : Blk X scope fun Y => PE Y (.Name xn p2) (tVar xi)) (hs : ∀ x, foldedSetIterable (.Name dn p0) X.env x = pure x) (hns : NoSl (.Name xn p2)) :
    EvF X (.ListComp (.Subscript (.Name dn p1) (.Name xn p2) ps) [⟨.Name xn px, .Name dn p0, [], 0⟩] scope pos) ρ (ds.map (·.2)) := fun σ H Q E q => by
  obtain ⟨v, e1, a, kvs, rfl, ha, kd⟩ := E.get di _ hρ
  have nd := kvd_nodup kd hnd
  have hl := kvd_len kd
  refine ⟨_, pe_lock (pe_lc (own := [(xn, xi)]) c.calm c.nd (pi_keys hd) ok (fun s H0 C cl fp => hg s H0 C cl fp) (fun s H0 C cl fp => pts_nil) (fun s H0 C cl fp => pe_dget hu (h1 s H0 C cl fp) (h2 s H0 C cl fp) hns) hs), a, _, ha, trivial, fun od => ?_⟩
  have hfa : upd H a (.frz od (.dK kvs)) a = some (.frz od (.dK kvs)) := upd_same
  refine ⟨V.ref a, e1, a, od, rfl, .inl ⟨kvs, hfa, fun D hD => ?_⟩⟩
  have hDa : D ≠ a := fun z => by rw [z, hfa] at hD; cases hD
  have hHD : H D = none := by rw [upd_ne hDa] at hD; exact hD
  refine lc_it (walk_keys (d := a) (o := od) (kvs := kvs)) (g := gName xi) (tt := tYes) (te := tDGet (tVar di) (tVar xi)) (vs := [xi]) (σ := σ) (fun k H2 => H2 = upd (upd H a (.frz od (.dK kvs))) D (.lst ((kvs.take k).map (·.2)))) rfl (fun k H2 _ e => ?_) ?_ ?_
  · rw [e, upd_ne (Ne.symm hDa)]
    exact hfa
  · rintro k x H2 H3 hk e ⟨rfl, ky, v, hkv, rfl⟩
    refine ⟨?_, ?_⟩
    · show wipe ((wipe σ [xi]).set xi _) [xi] = wipe σ [xi]
      rw [wipe_set1, wipe_idem]
    · simp only [tYes, if_true]
      have hσd : ((wipe σ [xi]).set xi (some (kV ky)))[di]? = some (some (.ref a)) := by
        rw [List.getElem?_set_ne hne]
        show (σ.set xi none)[di]? = _
        rw [List.getElem?_set_ne hne]
        exact e1
      have hσx : ((wipe σ [xi]).set xi (some (kV ky)))[xi]? = some (some (kV ky)) := List.getElem?_set_self (by rw [wipe_length, E.len]; exact hxl)
      refine ⟨V.ref a, hσd, kV ky, hσx, a, v, rfl, .inl ⟨kvs, ky, .inr ⟨od, ?_⟩, rfl, (val_at nd hkv).symm⟩, ?_⟩
      · rw [e, upd_ne (Ne.symm hDa)]
        exact hfa
      · refine ⟨(kvs.take k).map (·.2), by rw [e]; exact upd_same, ?_, ?_⟩
        · rw [List.length_map, List.length_take]
          refine Nat.lt_of_le_of_lt (Nat.min_le_right _ _) ?_
          rw [hl, sizeLine_eq]
          omega
        · rw [e, upd_upd]
          congr 2
          have hk2 : k < kvs.length := hk
          rw [List.take_add_one, hkv]
          simp
  · intro H2 e
    rw [List.take_length] at e
    refine ⟨?_, ?_⟩
    · rw [e, upd_ne (Ne.symm hDa)]
      exact hfa
    · have sm : Same H (upd H2 a (.dK kvs)) := fun b o hb => by
        by_cases hba : b = a
        · rw [hba, ha] at hb
          rw [hba, upd_same]
          exact hb
        · rw [upd_ne hba, e, upd_ne (ne_of_none hb hHD), upd_ne hba]
          exact hb
      refine q D (kvs.map (·.2)) _ sm hHD ?_ (kvd_vals (kd.mono sm))
      rw [upd_ne hDa, e]
      exact upd_same
/-- a new dict -/
def EvD (X : Cx) (e : Expr) (ρ : Rho) (ds : List (Str × PyData)) : Prop := ∀ (σ : L2.St) (H : Hp) (Q : VK), Env X.K H σ ρ → (∀ p kvs H', Same H H' → H p = none → H' p = some (.dK kvs) → KvD X.K H' kvs ds → Q (.ref p) H') → wE X e σ H Q
theorem evd_copy {e : Expr} {p pos : Pos} {ds : List (Str × PyData)} (C : Wd X.K X.mg) (hg : Gl X "dict") (he : Ev X e ρ (.dc ds)) (hs : starEach [e] X.env = (false, eval e X.env) :: starEach [] X.env) (hpl : (backTo pos (starEach [] X.env)).any (·.1) = false) : EvD X (.Call (.Name "dict" p) [e] [] pos) ρ ds := fun σ H Q E q =>
  ⟨_, pe_callTy call_dictD hg (C.free _ (by decide +kernel)) (by decide +kernel) pa_w (by decide +kernel) (by decide +kernel) hs hpl, ea_cons he ea_nil hs σ H _ E fun vs H1 s1 d1 => by
    cases d1 with
    | cons d1 d2 =>
      cases d2
      obtain ⟨a, kvs, rfl, ha, kd⟩ := d1
      exact ⟨a, kvs, rfl, .inl ha, fun p hp => q p kvs _ (s1.trans (same_new hp _)) (s1.free hp) upd_same (kd.mono (same_new hp _))⟩⟩
theorem val_none {kvs : List (Key × V)} {k : Key} (h : k ∉ kvs.map (·.1)) : valV kvs k = none := by
  induction kvs with
  | nil => rfl
  | cons p kvs ih =>
    rw [List.map_cons, List.mem_cons, not_or] at h
    rw [valV_neg (fun e => h.1 e.symm)]
    exact ih h.2
theorem merge_nd : ∀ {more acc : List (Key × V)}, ((acc ++ more).map (·.1)).Nodup → mergeK acc more = acc ++ more
  | [], acc, _ => by simp [mergeK]
  | p :: more, acc, h => by
    have hn : p.1 ∉ acc.map (·.1) := fun hm => by
      rw [List.map_append, List.nodup_append] at h
      exact h.2.2 _ hm p.1 (by simp) rfl
    show mergeK (putK acc p.1 p.2) more = _
    rw [putK_new p.2 (val_none hn)]
    rw [merge_nd (by rw [List.append_assoc]; exact h), List.append_assoc]
    rfl
theorem kvd_filter {K : PySem.W.Frag} {H : Hp} {kvs : List (Key × V)} {ds : List (Str × PyData)} {x : Str} (h : KvD K H kvs ds) : KvD K H (kvs.filter fun kv => !decide (kv.1 = Sum.inr x)) (ds.filter fun p => !decide (p.1 = x)) := by
  induction h with
  | nil => exact .nil
  | @cons y u e kvs ds h1 _ ih =>
    by_cases c : y = x
    · rw [List.filter_cons_of_neg (by simp [c]), List.filter_cons_of_neg (by simp [c])]
      exact ih
    · rw [List.filter_cons_of_pos (by simp [c]), List.filter_cons_of_pos (by simp [c])]
      exact .cons h1 ih
/-- dict([(x, d[x]) for x in d if x != y]) -/
theorem evd_filter {dn xn yn : Str} {di xi yi : Nat} {scope : Scope} {p0 p1 p2 p3 p4 p5 px ps pt pc pos p pd : Pos} {kk : Nat} {ds : List (Str × PyData)} {y : Str} (c : XOk X) (C : Wd X.K X.mg) (hgl : Gl X "dict") (hu : X.A.units + 1 < cLine) (hρ : ρ[di]? = some (some (.dc ds))) (hy : ρ[yi]? = some (some (.d (.str y)))) (hxl : xi < ρ.length) (hne : xi ≠ di) (hne2 : xi ≠ yi) (hnd : (ds.map (·.1)).Nodup) (hlen : ds.length ≤ 1000) (ok : BlkOk X.N X.env.scope scope [(xn, xi)])
    (hd : PE X (.Name dn p0) (tVar di)) (hg : Blk X scope fun Y => PG Y (.Name xn px) (gName xi)) (h1 : Blk X scope fun Y => PE Y (.Name dn p1) (tVar di)) (h2 : Blk X scope fun Y => PE Y (.Name xn p2) (tVar xi)) (h3 : Blk X scope fun Y => PE Y (.Name xn p3) (tVar xi)) (h4 : Blk X scope fun Y => PE Y (.Name xn p4) (tVar xi)) (h5 : Blk X scope fun Y => PE Y (.Name yn p5) (tVar yi))
    (hse1 : Blk X scope fun Y => starEach [.Name xn p3, .Subscript (.Name dn p1) (.Name xn p2) ps] Y.env = (false, eval (.Name xn p3) Y.env) :: starEach [.Subscript (.Name dn p1) (.Name xn p2) ps] Y.env) (hse2 : Blk X scope fun Y => starEach [.Subscript (.Name dn p1) (.Name xn p2) ps] Y.env = (false, eval (.Subscript (.Name dn p1) (.Name xn p2) ps) Y.env) :: starEach [] Y.env)
    (hs : ∀ x, foldedSetIterable (.Name dn p0) X.env x = pure x) (hns : NoSl (.Name xn p2)) (hst : starEach [.ListComp (.Tuple [.Name xn p3, .Subscript (.Name dn p1) (.Name xn p2) ps] kk pt) [⟨.Name xn px, .Name dn p0, [.Compare (.Name xn p4) [.NotEq] [.Name yn p5] pc], 0⟩] scope pos] X.env = (false, eval (.ListComp (.Tuple [.Name xn p3, .Subscript (.Name dn p1) (.Name xn p2) ps] kk pt) [⟨.Name xn px, .Name dn p0, [.Compare (.Name xn p4) [.NotEq] [.Name yn p5] pc], 0⟩] scope pos) X.env) :: starEach [] X.env)
    (hpl : (backTo pd (starEach [] X.env)).any (·.1) = false) :
    EvD X (.Call (.Name "dict" p) [.ListComp (.Tuple [.Name xn p3, .Subscript (.Name dn p1) (.Name xn p2) ps] kk pt) [⟨.Name xn px, .Name dn p0, [.Compare (.Name xn p4) [.NotEq] [.Name yn p5] pc], 0⟩] scope pos] [] pd) ρ (ds.filter fun p => !decide (p.1 = y)) := fun σ H Q E q => by
  obtain ⟨v, e1, a, kvs, rfl, ha, kd⟩ := E.get di _ hρ
  obtain ⟨vy, e2, dy⟩ := E.get yi _ hy
  have dy : Dp X.K H vy (.str y) := dy
  cases dy
  have nd := kvd_nodup kd hnd
  have hl := kvd_len kd
  refine ⟨_, pe_callTy (call_dictP c.calm) hgl (C.free _ (by decide +kernel)) (by decide +kernel) (pa_cons (pe_lock (pe_lc (own := [(xn, xi)]) c.calm c.nd (pi_keys hd) ok (fun s H0 C cl fp => hg s H0 C cl fp) (fun s H0 C cl fp => pts_one (pt_cmpR op_ne (h4 s H0 C cl fp) (h5 s H0 C cl fp) (nomark _)))
    (fun s H0 C cl fp => pe_tup (pa_cons (h3 s H0 C cl fp) (pa_cons (pe_dget hu (h1 s H0 C cl fp) (h2 s H0 C cl fp) hns) pa_nil (hse2 s H0 C cl fp)) (hse1 s H0 C cl fp))) hs)) pa_nil hst) (by decide +kernel) (by decide +kernel) hst hpl, a, _, ha, trivial, fun od => ?_⟩
  have hfa : upd H a (.frz od (.dK kvs)) a = some (.frz od (.dK kvs)) := upd_same
  refine ⟨V.ref a, e1, a, od, rfl, .inl ⟨kvs, hfa, fun D hD => ?_⟩⟩
  have hDa : D ≠ a := fun z => by rw [z, hfa] at hD; cases hD
  have hHD : H D = none := by rw [upd_ne hDa] at hD; exact hD
  refine lc_it (walk_keys (d := a) (o := od) (kvs := kvs)) (g := gName xi) (vs := [xi]) (σ := σ) (fun k H2 => (∀ b o, b ≠ D → upd H a (.frz od (.dK kvs)) b = some o → H2 b = some o) ∧ ∃ (ps : List Addr), H2 D = some (.lst (ps.map V.ref)) ∧ ps.length ≤ k ∧ Paired (fun p (kv : Key × V) => H2 p = some (.tup [kV kv.1, kv.2])) ps ((kvs.take k).filter fun kv => !decide (kv.1 = Sum.inr y))) ?_ (fun k H2 _ e => e.1 a _ (Ne.symm hDa) hfa) ?_ ?_
  · exact ⟨fun b o hb e => by rw [upd_ne hb]; exact e, [], upd_same, Nat.le_refl _, .nil⟩
  · rintro k x H2 H3 hk ⟨sb, ps, hDl, hpl, hpp⟩ ⟨rfl, ky, v, hkv, rfl⟩
    obtain ⟨x0, rfl⟩ : ∃ x0 : Str, ky = Sum.inr x0 := by
      have hm : ky ∈ kvs.map (·.1) := List.mem_map.mpr ⟨(ky, v), List.mem_of_getElem? hkv, rfl⟩
      rw [kvd_keys kd] at hm
      obtain ⟨x0, _, e⟩ := List.mem_map.mp hm
      exact ⟨x0, e.symm⟩
    have hσd : ((wipe σ [xi]).set xi (some (kV (Sum.inr x0))))[di]? = some (some (.ref a)) := by
      rw [List.getElem?_set_ne hne]
      show (σ.set xi none)[di]? = _
      rw [List.getElem?_set_ne hne]
      exact e1
    have hσy : ((wipe σ [xi]).set xi (some (kV (Sum.inr x0))))[yi]? = some (some (.str y)) := by
      rw [List.getElem?_set_ne hne2]
      show (σ.set xi none)[yi]? = _
      rw [List.getElem?_set_ne hne2]
      exact e2
    have hσx : ((wipe σ [xi]).set xi (some (kV (Sum.inr x0))))[xi]? = some (some (.str x0)) := List.getElem?_set_self (by rw [wipe_length, E.len]; exact hxl)
    have htk : (kvs.take (k + 1)) = kvs.take k ++ [(Sum.inr x0, v)] := by
      rw [List.take_add_one, hkv]
      rfl
    refine ⟨?_, V.str x0, hσx, V.str y, hσy, rfl, _, rfl, ?_⟩
    · show wipe ((wipe σ [xi]).set xi _) [xi] = wipe σ [xi]
      rw [wipe_set1, wipe_idem]
    have dec : decide (V.str x0 = V.str y) = decide (x0 = y) := decide_eq_decide.mpr ⟨fun z => V.str.inj z, fun z => by rw [z]⟩
    rw [dec]
    by_cases hxy : x0 = y
    · rw [decide_eq_true hxy]
      refine ⟨sb, ps, hDl, by omega, ?_⟩
      rw [htk, List.filter_append, List.filter_cons_of_neg (by simp [hxy])]
      simpa using hpp
    · rw [decide_eq_false hxy]
      refine ⟨V.str x0, hσx, V.ref a, hσd, V.str x0, hσx, a, v, rfl, .inl ⟨kvs, Sum.inr x0, .inr ⟨od, sb a _ (Ne.symm hDa) hfa⟩, rfl, (val_at nd hkv).symm⟩, by show 2 ≤ sizeLine; rw [sizeLine_eq]; omega, fun p hp => ?_⟩
      have hpD : p ≠ D := fun z => by rw [z, hDl] at hp; cases hp
      refine ⟨ps.map V.ref, by rw [upd_ne (Ne.symm hpD)]; exact hDl, ?_, ?_⟩
      · rw [List.length_map, sizeLine_eq]
        omega
      · refine ⟨fun b o hb e => ?_, ps ++ [p], ?_, ?_, ?_⟩
        · have e3 := sb b o hb e
          rw [upd_ne hb, upd_ne (ne_of_none e3 hp)]
          exact e3
        · rw [upd_same, List.map_append]
          rfl
        · rw [List.length_append]
          simp
          omega
        · rw [htk, List.filter_append, List.filter_cons_of_pos (by simp [hxy])]
          refine Paired.snoc ?_ ?_
          · refine Paired.mono ?_ hpp
            intro p' kv hp'
            have n1 : p' ≠ p := ne_of_none hp' hp
            have n2 : p' ≠ D := fun z => by rw [z, hDl] at hp'; cases hp'
            rw [upd_ne n2, upd_ne n1]
            exact hp'
          · rw [upd_ne hpD]
            exact upd_same
  · rintro H2 ⟨sb, ps, hDl, hpl, hpp⟩
    rw [List.take_length] at hpp
    have h2a : H2 a = some (.frz od (.dK kvs)) := sb a _ (Ne.symm hDa) hfa
    have sm : Same H (upd H2 a (.dK kvs)) := fun b o hb => by
      by_cases hba : b = a
      · rw [hba, ha] at hb
        rw [hba, upd_same]
        exact hb
      · rw [upd_ne hba]
        exact sb b o (fun z => by rw [z, hHD] at hb; cases hb) (by rw [upd_ne hba]; exact hb)
    refine ⟨h2a, D, ps, kvs.filter (fun kv => !decide (kv.1 = Sum.inr y)), rfl, SqL.of (by rw [upd_ne hDa]; exact hDl), ?_, fun p hp => ?_⟩
    · refine Paired.mono ?_ hpp
      intro p' kv hp'
      have n1 : p' ≠ a := fun z => by rw [z, h2a] at hp'; cases hp'
      exact SqT.of (by rw [upd_ne n1]; exact hp')
    · have ndf : (((([] : List (Key × V)) ++ kvs.filter (fun kv => !decide (kv.1 = Sum.inr y))).map (·.1))).Nodup := by
        rw [List.nil_append]
        exact nd.sublist (List.Sublist.map _ List.filter_sublist)
      rw [merge_nd ndf, List.nil_append]
      exact q p _ _ (sm.trans (same_new hp _)) (sm.free hp) upd_same (kvd_filter (kd.mono (sm.trans (same_new hp _))))
theorem kvd_val {K : PySem.W.Frag} {H : Hp} {kvs : List (Key × V)} {ds : List (Str × PyData)} {x : Str} {d : PyData} (h : KvD K H kvs ds) (hd : (ds.find? fun p => decide (p.1 = x)).map (·.2) = some d) : ∃ v, valV kvs (.inr x) = some v ∧ Dp K H v d := by
  induction h with
  | nil => cases hd
  | @cons y u e kvs ds h1 _ ih =>
    by_cases c : y = x
    · rw [List.find?_cons_of_pos (by simp [c])] at hd
      cases hd
      exact ⟨u, valV_pos (by rw [c]), h1⟩
    · rw [List.find?_cons_of_neg (by simp [c])] at hd
      obtain ⟨v, e1, e2⟩ := ih hd
      exact ⟨v, by rw [valV_neg (fun z => c (Sum.inr.inj z))]; exact e1, e2⟩
/-- d[x] -/
theorem ev_dget {a b : Expr} {pos : Pos} {ds : List (Str × PyData)} {x : Str} {d : PyData} (hu : X.A.units + 1 < cLine) (ha : Ev X a ρ (.dc ds)) (hb : Ev X b ρ (.d (.str x))) (hd : (ds.find? fun p => decide (p.1 = x)).map (·.2) = some d) (hns : NoSl b) : Ev X (.Subscript a b pos) ρ (.d d) :=
  ev_of_pe (pe_dget hu pe_w pe_w hns) fun σ H Q E q => ha σ H _ E fun v H1 s1 d1 => hb σ H1 _ (E.mono s1) fun u H2 s2 d2 => by
    obtain ⟨ad, kvs, rfl, h1, kd⟩ := d1
    have d2 : Dp X.K H2 u (.str x) := d2
    cases d2
    obtain ⟨v, e1, e2⟩ := kvd_val (kd.mono s2) hd
    exact ⟨ad, v, rfl, .inl ⟨kvs, .inr x, .inl (s2 ad _ h1), rfl, e1.symm⟩, q v H2 (s1.trans s2) e2⟩
theorem cr_lenD : CallR X (.builtin "len") (fun xs H Q => ∃ (a : Addr) (kvs : List (Key × V)), xs = [.ref a] ∧ Rd H a (.dK kvs) ∧ Q (.int (kvs.length : Nat)) H) := by
  intro pins s σ H xs us Q I r q
  obtain ⟨a, kvs, ex, hd, q⟩ := q
  subst ex
  obtain ⟨u, eu, rx⟩ := vals1 r
  subst eu
  obtain rfl : u = Value.ref a := rx
  exact d_len I hd fun t s' I' => ⟨.int (kvs.length : Nat), H, I', ⟨t, rfl⟩, q⟩
theorem ev_lenD {e : Expr} {p pos : Pos} {ds : List (Str × PyData)} (C : Wd X.K X.mg) (hg : Gl X "len") (ha : Ev X e ρ (.dc ds)) (he : starEach [e] X.env = (false, eval e X.env) :: starEach [] X.env) (hpl : (backTo pos (starEach [] X.env)).any (·.1) = false) : Ev X (.Call (.Name "len" p) [e] [] pos) ρ (.d (.int (ds.length : Nat))) :=
  ev_callB cr_lenD hg (C.free _ (by decide +kernel)) PySem.boot_len (ea_cons ha ea_nil he) (fun vs H Q dr q => by
    cases dr with
    | cons d1 d2 =>
      cases d2
      obtain ⟨a, kvs, rfl, h1, kd⟩ := d1
      refine ⟨a, kvs, rfl, .inl h1, ?_⟩
      rw [kvd_len kd]
      exact q _ H (Same.refl H) (Dp.int _)) (by decide +kernel) (by decide +kernel) he hpl
theorem dpAll_strs {K : PySem.W.Frag} {H : Hp} : ∀ (ys : List Str), DpAll K H (ys.map V.str) (ys.map PyData.str)
  | [] => .nil
  | _ :: ys => .cons (.str _) (dpAll_strs ys)
/-- sorted(d) -/
theorem we_sorted {e : Expr} {p pos : Pos} {ds : List (Str × PyData)} (c : XOk X) (C : Wd X.K X.mg) (hg : Gl X "sorted") (ha : Ev X e ρ (.dc ds)) (h64 : ds.length < 64) (he : starEach [e] X.env = (false, eval e X.env) :: starEach [] X.env) (hpl : (backTo pos (starEach [] X.env)).any (·.1) = false) (σ : L2.St) (H : Hp) (Q : VK) (E : Env X.K H σ ρ)
    (q : ∀ (ys : List Str) (v : V) (H' : Hp), ys.Perm (ds.map (·.1)) → Same H H' → Dp X.K H' v (.list (ys.map .str)) → Q v H') : wE X (.Call (.Name "sorted" p) [e] [] pos) σ H Q :=
  ⟨_, pe_callB (call_sortedD c.calm) hg (C.free _ (by decide +kernel)) (by decide +kernel) pa_w (by decide +kernel) (by decide +kernel) he hpl, ea_cons ha ea_nil he σ H _ E fun vs H1 s1 d1 => by
    cases d1 with
    | cons d1 d2 =>
      cases d2
      obtain ⟨a, kvs, rfl, h1, kd⟩ := d1
      refine ⟨a, kvs, ds.map (·.1), rfl, .inl h1, kvd_keys kd, by rw [List.length_map]; exact h64, fun ys p hp _ hn => ?_⟩
      exact q ys _ _ hp (s1.trans (same_new hn _)) (.lst (SqL.of upd_same) (dpAll_strs ys))⟩
end
/-- if c: .. else: .. -/
theorem wss_ife {X : Cx} {ρ : Rho} {c : Expr} {body orelse ss : List Stmt} {D : Ends} {σ : L2.St} {H : Hp} {pos : Pos} {b : Bool} (h : Vt X c ρ b) (E : Env X.K H σ ρ) (h1 : b = true → ∀ H', Same H H' → wSs X body { D with nx := fun σ' H' => wSs X ss D σ' H' } σ H') (h2 : b = false → ∀ H', Same H H' → wSs X orelse { D with nx := fun σ' H' => wSs X ss D σ' H' } σ H') : wSs X (.If c body orelse pos :: ss) D σ H :=
  ⟨_, pss_cons ps_w pss_w, ⟨_, ps_if pt_w pss_w pss_w, h σ H _ E fun H' sm => by
    cases b with
    | true => exact iteT (h1 rfl H' sm)
    | false => exact iteF (h2 rfl H' sm)⟩⟩
theorem wss_one {X : Cx} {ρ : Rho} {c : Expr} {body orelse : List Stmt} {D : Ends} {σ : L2.St} {H : Hp} {pos : Pos} {b : Bool} (h : Vt X c ρ b) (E : Env X.K H σ ρ) (h1 : b = true → ∀ H', Same H H' → wSs X body D σ H') (h2 : b = false → ∀ H', Same H H' → wSs X orelse D σ H') : wSs X [.If c body orelse pos] D σ H :=
  ⟨_, pss_one ps_w, ⟨_, ps_if pt_w pss_w pss_w, h σ H _ E fun H' sm => by
    cases b with
    | true => exact iteT (h1 rfl H' sm)
    | false => exact iteF (h2 rfl H' sm)⟩⟩
end Sg
/-! # try -/
namespace Sg
open PySem PySem.Spec L2
theorem takesF {X : Cx} : Takes X (fun _ _ _ _ => False) := fun _ _ ⟨_, _, _, _, _, _, _, _, _, _, _, _, _, _, _, _, w⟩ => w.elim
section
variable {X : Cx} {ρ : Rho}
/-- try: body; except C: suite. The body ends by flb or raises y, of the class -/
theorem b1_tryO {x : Str} {c : Value} {body suite : List Stmt} {b₀ : Stmt} {np pos pos' : Pos} {z : DV} {y : Option Xn} (k : XOk X) (hs : X.stack = X.env :: X.outer) (hf : X.env.frame = some X.env.locals) (hc : Names X x c)
    (hb : ∀ (pn : List (Addr × Obj)) (xe : Value → Shared → Prop), XOk (X.tr pn xe) → (match y with | none => Bs (X.tr pn xe) body ρ (.rt z) | some y => ∃ ρ', Bs (X.tr pn xe) body ρ (.ex y ρ')))
    (hy : ∀ y', y = some y' → PySem.W.exmOne X.K (.ref (He.ga X.K y'.cls)) c = some true ∧ ∀ (a : Addr) (oe : Obj) (cls : Value) (d : Option Addr) (pn : List (Addr × Obj)) (σ : L2.St) (H : Hp) (D : Ends), Zc cls d oe → (∃ vs, oe.data = .fields vs) → XD X.K H cls d y' → (∀ v H', Same H H' → DR X.K H' v z → D.rt v H') → wSs (X.suite a ((a, oe) :: pn)) (b₀ :: suite) D σ H) :
    B1 X (.Try body [.ExceptHandler (some (.Name x np)) none (b₀ :: suite) pos'] [] [] pos) ρ (.rt z) := fun W σ H D tk E q => by
  refine ⟨_, ps_try_only (tb := fun W D σ H => ∀ (pn : List (Addr × Obj)) (xe : Value → Shared → Prop), Takes (X.tr pn xe) W → PassesOwn (model X.prog X.w) X.A X.env xe → wSs (X.tr pn xe) body D σ H) (ts := fun a cls d D σ H => ∀ (oe : Obj) (pn : List (Addr × Obj)), Zc cls d oe → (∃ vs, oe.data = .fields vs) → wSs (X.suite a ((a, oe) :: pn)) (b₀ :: suite) D σ H) hs hf hc tk
    (fun W pn xe t po => ⟨fun pins s σ H D I h => pss_w.run pins s σ H D I (h pn xe t po)⟩) (fun a oe cls d pn hz hd => ⟨fun pins s σ H D I h => pss_w.run pins s σ H D I (h oe pn hz hd)⟩), fun pn xe t po => ?_⟩
  have hbb := hb pn xe ⟨k.calm, k.nd, po⟩
  cases y with
  | none => exact hbb _ σ H D t E q
  | some y =>
    obtain ⟨ρ', hbb⟩ := hbb
    refine hbb _ σ H D t E fun cls dct σ' H' sm E' xd => ?_
    obtain ⟨hy1, hy2⟩ := hy y rfl
    refine ⟨true, by rw [xd.1]; exact hy1, fun _ a ha oe pn' hz hd => hy2 a oe cls dct pn' σ' H' D hz hd xd fun v H2 s2 d2 => q v H2 (sm.trans s2) d2, fun z => by cases z⟩
/-- try: body; except C as n: suite -/
theorem b1_tryA {x n : Str} {i : Nat} {c : Value} {body suite : List Stmt} {b₀ : Stmt} {np pos pos' : Pos} {z : DV} {y : Option Xn} (k : XOk X) (hs : X.stack = X.env :: X.outer) (hf : X.env.frame = some X.env.locals) (hi : X.N[i]? = some n) (hln : X.env.kindOf n = some .local) (hc : Names X x c)
    (hb : ∀ (pn : List (Addr × Obj)) (xe : Value → Shared → Prop), XOk (X.tr pn xe) → (match y with | none => Bs (X.tr pn xe) body ρ (.rt z) | some y => ∃ ρ' : Rho, ρ'.length = X.N.length ∧ Bs (X.tr pn xe) body ρ (.ex y ρ')))
    (hy : ∀ y', y = some y' → PySem.W.exmOne X.K (.ref (He.ga X.K y'.cls)) c = some true ∧ ∀ (a : Addr) (oe : Obj) (cls : Value) (d : Option Addr) (pn : List (Addr × Obj)) (σ : L2.St) (H : Hp) (D : Ends), Zc cls d oe → (∃ vs, oe.data = .fields vs) → σ.length = X.N.length → XD X.K H cls d y' → (∀ v H', Same H H' → DR X.K H' v z → D.rt v H') → wSs (X.suite a ((a, oe) :: pn)) (b₀ :: suite) D (σ.set i (some (.ref a))) H) :
    B1 X (.Try body [.ExceptHandler (some (.Name x np)) (some n) (b₀ :: suite) pos'] [] [] pos) ρ (.rt z) := fun W σ H D tk E q => by
  refine ⟨_, ps_try_as (tb := fun W D σ H => ∀ (pn : List (Addr × Obj)) (xe : Value → Shared → Prop), Takes (X.tr pn xe) W → PassesOwn (model X.prog X.w) X.A X.env xe → wSs (X.tr pn xe) body D σ H) (ts := fun a cls d D σ H => ∀ (oe : Obj) (pn : List (Addr × Obj)), Zc cls d oe → (∃ vs, oe.data = .fields vs) → wSs (X.suite a ((a, oe) :: pn)) (b₀ :: suite) D σ H) hs hf k.nd hi hln hc tk
    (fun W pn xe t po => ⟨fun pins s σ H D I h => pss_w.run pins s σ H D I (h pn xe t po)⟩) (fun a oe cls d pn hz hd => ⟨fun pins s σ H D I h => pss_w.run pins s σ H D I (h oe pn hz hd)⟩), fun pn xe t po => ?_⟩
  have hbb := hb pn xe ⟨k.calm, k.nd, po⟩
  cases y with
  | none => exact hbb _ σ H D t E q
  | some y =>
    obtain ⟨ρ', hρl, hbb⟩ := hbb
    refine hbb _ σ H D t E fun cls dct σ' H' sm E' xd => ?_
    obtain ⟨hy1, hy2⟩ := hy y rfl
    refine ⟨true, by rw [xd.1]; exact hy1, fun _ a ha oe pn' hz hd => hy2 a oe cls dct pn' σ' H' _ hz hd (E'.len.trans hρl) xd fun v H2 s2 d2 => q v H2 (sm.trans s2) d2, fun z => by cases z⟩
/-- (a, b), b raises -/
theorem evx_tup2 {a b : Expr} {kk : Nat} {pos : Pos} {x : DV} {y : Xn} (ha : Ev X a ρ x) (hb : EvX X b ρ y) (h1 : starEach [a, b] X.env = (false, eval a X.env) :: starEach [b] X.env) (h2 : starEach [b] X.env = (false, eval b X.env) :: starEach [] X.env) : EvX X (.Tuple [a, b] kk pos) ρ y := fun W σ H Q tk E q =>
  ⟨_, pe_tup (pa_cons pe_w (pa_cons pe_w pa_nil h2) h1), ha σ H _ E fun v H1 s1 d1 => hb W σ H1 _ tk (E.mono s1) fun cls dct H2 s2 xd => q cls dct H2 (s1.trans s2) xd⟩
/-- e.f, e the exception that the suite holds -/
def tEf (C a : Addr) (cls : Value) (d : Option Addr) (f : Str) (te : TE) : TE := fun σ H Q => te σ H fun x H1 => x = .ref a ∧ cls = .ref C ∧ ∃ (dd : Addr) (fs : List (Str × V)) (v : V), d = some dd ∧ H1 dd = some (.xd fs) ∧ fs.lookup f = some v ∧ Q v H1
theorem pe_ef {C a : Addr} {oe : Obj} {cls : Value} {d : Option Addr} {pn : List (Addr × Obj)} {e : Expr} {te : TE} {f : Str} {pos : Pos} (hga : PySem.W.findIn X.K (.ref C) "__getattribute__" = some (some (.builtin "BaseException.__getattribute__"))) (hgg : PySem.W.findIn X.K (.ref C) "__getattr__" = some none)
    (hexC : PySem.W.subIn X.K (.ref C) (.type "BaseException") = some true) (hhd : PySem.W.hasDictIn X.K C = true) (hno : PySem.W.findIn X.K (.ref C) f = some none) (hz : Zc cls d oe) (hf : ∃ vs, oe.data = .fields vs) (he : PE (X.suite a ((a, oe) :: pn)) e te) (hb : attributeBase e f X.env (eval e X.env) = eval e X.env) :
    PE (X.suite a ((a, oe) :: pn)) (.Attribute e f pos) (tEf C a cls d f te) := by
  refine ⟨fun pins s σ H Q I h => ?_⟩
  refine attr_of hb (thn (he.run pins s σ H _ I h) fun u s1 hh => ?_)
  obtain ⟨x, H1, I1, rx, ex, ec, dd, fs, v, ed, ea, l, q⟩ := hh
  subst ex
  obtain rfl : u = Value.ref a := rx
  subst ec
  subst ed
  obtain ⟨ha, _⟩ := I1.pin (a, oe) (List.mem_append_left _ List.mem_cons_self)
  obtain ⟨vs, hd⟩ := hf
  have hx : ObjOk X.prog X.w H1 s1.heap dd (.xd fs) := I1.hok dd _ ea
  obtain ⟨mA, hns, hr⟩ := hx
  obtain ⟨od, ho, hl⟩ := lookIn_ns hns
  obtain ⟨u, hu, ru⟩ := RelO.some_of (v := v) (o := mA f) (by rw [← l]; exact hr f)
  have J : PySem.W.InstAt s1.heap a oe C (some od) := ⟨ha, hz.1, by unfold PySem.W.notCls; rw [hd] <;> rfl, by rw [hz.2]; exact ho⟩
  exact HandSPX.exc_get I1.kIn J hga hgg hexC (PySem.W.findObj_own hhd hno rfl (by rw [hl, hu])) (handed_of ru) ⟨v, H1, I1.tok _, ru, q⟩
end
def chkD : Except Str PyData → PyData
  | .ok d => .tuple [.str "told", d]
  | .error _ => .tuple [.str "not shown", .none]
def rChecked (n : Nat) : List DV → Rs → Prop := fun xs r => ∃ m k t q, xs = [.sl m, .d (.int (rootOf m t)), .d (dTr t), .d (dQ q)] ∧ Md m ∧ WfT m k t ∧ 1 ≤ k ∧ k ≤ 3 ∧ depth t ≤ n ∧ QnOk q ∧ r = .ok (.d (chkD (askM m t q)))
def rJoined (n : Nat) : List DV → Rs → Prop := fun xs r => ∃ m k a b, xs = [.sl m, .d (dTr a), .d (dTr b)] ∧ Md m ∧ TrOk k a ∧ TrOk k b ∧ k ≤ 3 ∧ depth a ≤ n ∧ depth b ≤ n ∧ rootOf m a = rootOf m b ∧ r = .ok (.d (dW (findM m a b)))
end Sg
namespace Sg
section
variable {P : Program} {w : World} {K : PySem.W.Frag} {mg : Str → Option Value} {base : Heap}
theorem sc__law_checked : FnScope ["_law_sealer", "_law_root_here", "_law_tree", "_law_question_here"] ["_law_sealer", "_law_root_here", "_law_tree", "_law_question_here"] (defScope s__law_checked) := ⟨rfl, rfl, rfl, by decide +kernel, rfl, by decide +kernel, by decide +kernel⟩
theorem fn__law_checked (C : Wd K mg) (C2 : We P w K mg) (n : Nat) : Fn P w K mg base "_law_checked" ["_law_sealer", "_law_root_here", "_law_tree", "_law_question_here"] (12 + 2 * n) (spD K 4 (rChecked n)) := by
  obtain ⟨fd, F⟩ := C.defs 59 (mkD "_law_checked" s__law_checked) rfl
  have F1 := fn_answer (P := P) (w := w) (base := base) C C2 n
  rw [show 12 + 2 * n = 11 + 2 * n + 1 by omega]
  refine fn_mk (C.glo _ (by decide +kernel)) F sc__law_checked (fun _ _ _ _ _ _ us hl => match us, hl with | [_, _, _, _], _ => rfl) fun X cdv A outer s H E hX hr xk xs rs hl hR => ⟨[], ?_⟩
  obtain ⟨m, k, t, q, rfl, hm, ht, hk1, hk, hd, hq, rfl⟩ := hR
  subst hX
  have hroot : rootOf m t = rootOf m t := rfl
  cases ea : askM m t q with
  | ok d =>
    refine bs_one (b1_tryO (y := none) xk rfl rfl ⟨rfl, by decide +kernel, .inl (C.glo _ (by decide +kernel))⟩ (fun pn xe xk2 => ?_) (fun y' h => by cases h))
    wtm_at "g_ret"
    rfl
  | error x =>
    refine bs_one (b1_tryO (y := some (xNs x)) xk rfl rfl ⟨rfl, by decide +kernel, .inl (C.glo _ (by decide +kernel))⟩ (fun pn xe xk2 => ?_) (fun y' h => ?_))
    · apply Exists.intro
      refine' bs_stop (b1_retX (evx_tup2 (x := .d (.str "told")) ?a ?b ?c ?d)) rfl
      case a => wtm_at "g_ev"
      case b => wtm_at "g_callx"
      case c => exact rfl
      case d => exact rfl
    · cases h
      refine ⟨C2.te1, fun a oe cls d pn σ H1 D hz hf xd q => ?_⟩
      refine ⟨_, pss_one (ps_ret (pe_tup (pa_cons pe_str (pa_cons pe_non pa_nil)))), ?_⟩
      refine ⟨by show 2 ≤ sizeLine; rw [sizeLine_eq]; omega, fun p hp => q _ _ (same_new hp _) ?_⟩
      exact Dp.tup (SqT.of upd_same) (.cons (.str _) (.cons .non .nil))
theorem sc__law_joined : FnScope ["_law_sealer", "_law_one", "_law_two", "e"] ["_law_sealer", "_law_one", "_law_two"] (defScope s__law_joined) := ⟨rfl, rfl, rfl, by decide +kernel, rfl, by decide +kernel, by decide +kernel⟩
theorem fn__law_joined (C : Wd K mg) (C2 : We P w K mg) (n : Nat) : Fn P w K mg base "_law_joined" ["_law_sealer", "_law_one", "_law_two"] (11 + n) (spD K 3 (rJoined n)) := by
  obtain ⟨fd, F⟩ := C.defs 60 (mkD "_law_joined" s__law_joined) rfl
  have F1 := fn_join_trees (P := P) (w := w) (base := base) C C2 n
  rw [show 11 + n = 10 + n + 1 by omega]
  refine fn_mk (C.glo _ (by decide +kernel)) F sc__law_joined (fun _ _ _ _ _ _ us hl => match us, hl with | [_, _, _], _ => rfl) fun X cdv A outer s H E hX hr xk xs rs hl hR => ⟨[], ?_⟩
  obtain ⟨m, k, a, b, rfl, hm, ta, tb, hk, hda, hdb, hroot, rfl⟩ := hR
  subst hX
  cases ea : findM m a b with
  | none =>
    refine bs_one (b1_tryA (y := none) (i := 3) xk rfl rfl rfl rfl ⟨rfl, by decide +kernel, .inl (C.glo _ (by decide +kernel))⟩ (fun pn xe xk2 => ?_) (fun y' h => by cases h))
    wtm_at "g_expr"
    wtm_at "g_ret"
    rfl
  | some p =>
    obtain ⟨px, py⟩ := p
    refine bs_one (b1_tryA (y := some (xUn px py)) (i := 3) xk rfl rfl rfl rfl ⟨rfl, by decide +kernel, .inl (C.glo _ (by decide +kernel))⟩ (fun pn xe xk2 => ?_) (fun y' h => ?_))
    · refine ⟨[some (.sl m), some (.d (dTr a)), some (.d (dTr b)), none], rfl, ?_⟩
      wtm_at "g_exprx"
    · cases h
      refine ⟨C2.te2, fun a' oe cls d pn σ H1 D hz hf hσl xd q => ?_⟩
      obtain ⟨e1, ad, fs, rfl, hfs, hff⟩ := xd
      have e1 : cls = .ref (He.ga K "Unlike") := e1
      cases hff with
      | cons f1 f2 =>
        cases f2 with
        | cons f2 f3 =>
          cases f3
          have hσ3 : (σ.set 3 (some (V.ref a')))[3]? = some (some (.ref a')) := List.getElem?_set_self (by rw [hσl]; exact (by decide : 3 < 4))
          refine ⟨_, pss_one (ps_ret (pe_tup (pa_cons (pe_ef C2.ga C2.gg C2.un.exC C2.hd C2.n1 hz hf (pv 3) rfl) (pa_cons (pe_ef C2.ga C2.gg C2.un.exC C2.hd C2.n2 hz hf (pv 3) rfl) pa_nil)))), ?_⟩
          refine ⟨V.ref a', hσ3, rfl, e1, ad, _, _, rfl, hfs, rfl, V.ref a', hσ3, rfl, e1, ad, _, _, rfl, hfs, rfl, by show 2 ≤ sizeLine; rw [sizeLine_eq]; omega, fun p hp => q _ _ (same_new hp _) ?_⟩
          exact Dp.tup (SqT.of upd_same) (.cons (dp_mono (same_new hp _) _ _ f2) (.cons (dp_mono (same_new hp _) _ _ f1) .nil))
end
end Sg
namespace Sg
section
variable {P : Program} {w : World} {K : PySem.W.Frag} {mg : Str → Option Value} {base : Heap}
theorem sc_Sealer_init : FnScope ["self", "modulus"] ["self", "modulus"] (defScope s_Sealer_init) := ⟨rfl, rfl, rfl, by decide +kernel, rfl, by decide +kernel, by decide +kernel⟩
/-- Sealer.__init__ -/
def spInit (K : PySem.W.Frag) : Sp := fun vs H Q _ => ∃ (a dx : Addr) (m : Int), vs = [.ref a, .int m] ∧ H a = some (.ins (He.ga K "Sealer") dx []) ∧ 3 ≤ m ∧ m < 1000 ∧ ∀ H', SameBut a H H' → H' a = some (.ins (He.ga K "Sealer") dx [("_modulus", .int m)]) → Q .non H'
theorem fm_init (C : Wd K mg) : ∃ fd, FnOk P w K mg base (L2.CX P w) 1 (He.ma K (He.ga K "Sealer") "__init__") fd ["self", "modulus"] (spInit K) ∧ Binds K fd ["self", "modulus"] [] := by
  obtain ⟨fd, F⟩ := C.defs 62 d_Sealer_init rfl
  refine ⟨fd, F.ok sc_Sealer_init (fun vs H Q E h => by obtain ⟨_, _, _, rfl, _⟩ := h; rfl) (fun cdv A outer s H vs Q E hr h => ?_), F.bindsN (fun _ _ _ _ _ _ us hl => match us, hl with | [_, _], _ => rfl)⟩
  obtain ⟨a, dx, m, rfl, ha, h3, hm, q⟩ := h
  refine ⟨_, pss_w, ?_⟩
  have EV0 : Env K H (start ["self", "modulus"] [.ref a, .int m]) [none, some (.d (.int m))] := by
    refine ⟨rfl, fun i x e => ?_⟩
    match i with
    | 0 => cases e
    | 1 => cases e; exact ⟨_, rfl, Dp.int _⟩
    | i + 2 => cases e
  refine wss_if (X := cxOf (L2.CX P w) P w K mg base ["self", "modulus"] d_Sealer_init.qual d_Sealer_init.scope (He.ma K (He.ga K "Sealer") "__init__") cdv A outer s H E) (by wtm_at "g_vt") EV0 (fun hb => ?_) (fun _ H1 sm1 => ?_)
  · have hb' : m < 3 ∨ 2305843009213693951 < m := by simpa using hb
    omega
  · refine ⟨_, pss_one (ps_fld (pv 0) (pv 1) rfl), ?_⟩
    refine ⟨V.int m, rfl, V.ref a, rfl, a, _, dx, [], rfl, sm1 a _ ha, C.cls, C.noat, by decide, q _ (fun b o hb e => ?_) upd_same⟩
    rw [upd_ne hb]
    exact sm1 b o e
theorem ev_mkSealer {X : Cx} {ρ : Rho} {e : Expr} {p pos : Pos} {k : Nat} {m : Int} (C : Wd X.K X.mg) (hr : Room k X.A) (hk : 2 ≤ k) (hg : Gl X "Sealer") (ha : Ev X e ρ (.d (.int m))) (h3 : 3 ≤ m) (hm : m < 1000) (he : starEach [e] X.env = (false, eval e X.env) :: starEach [] X.env) (hpl : (backTo pos (starEach [] X.env)).any (·.1) = false) :
    Ev X (.Call (.Name "Sealer" p) [e] [] pos) ρ (.sl m) := by
  obtain ⟨fd, F, hb⟩ := fm_init (P := X.prog) (w := X.w) (base := X.base) C
  refine ev_of_pe (pe_make (E := E0) C.mkr F (hr.mono hk) hg (C.glo _ (by decide +kernel)) hb .nil passL pa_w (by decide +kernel) he hpl) fun σ H Q E q => ea_cons ha ea_nil he σ H _ E fun vs H1 s1 d1 => ?_
  cases d1 with
  | cons d1 d2 =>
    cases d2
    have d1 : Dp X.K H1 _ (.int m) := d1
    cases d1
    intro x dx hx hdx hne
    refine ⟨x, dx, m, rfl, upd_same, h3, hm, fun H' sb hx' => ⟨rfl, q _ H' (fun b o hb => ?_) ⟨x, dx, rfl, hx'⟩⟩⟩
    have b1 := s1 b o hb
    have n1 : b ≠ x := ne_of_none b1 hx
    have n2 : b ≠ dx := ne_of_none b1 hdx
    refine sb b o n1 ?_
    rw [upd_ne n1, upd_ne n2]
    exact b1
end
end Sg
/-! # The second tree: what it promises -/
namespace Sg
open PySem PySem.Spec L2
def treeA (kvs : List (Str × Lr)) : Tr := splitM 48 (kvs.map (·.2))
structure SecondOk (m : Int) (k : Nat) (kvs kvs' : List (Str × Lr)) : Prop where
  good : GoodA k kvs'
  ne : kvs' ≠ []
  len : kvs'.length ≤ 7
  dif : treeA kvs' ≠ treeA kvs
  root : rootOf m (treeA kvs') = rootOf m (treeA kvs)
def spSecond (K : PySem.W.Frag) : Sp := fun vs H Q _ => ∃ (m : Int) (k : Nat) (kvs : List (Str × Lr)) (c : Int) (vd : V), vs = [.int m, vd, .int c] ∧ DR K H vd (.dc (dKv kvs)) ∧ Md m ∧ 1 ≤ k ∧ k ≤ 3 ∧ GoodA k kvs ∧ kvs ≠ [] ∧ kvs.length ≤ 6 ∧ 0 ≤ c ∧
  (∀ H', Same H H' → Q .non H') ∧ ∀ (kvs' : List (Str × Lr)) (v : V) (H' : Hp), SecondOk m k kvs kvs' → Same H H' → DR K H' v (.dc (dKv kvs')) → Q v H'
theorem dKv_fst (kvs : List (Str × Lr)) : (dKv kvs).map (·.1) = kvs.map (·.1) := by
  unfold dKv
  rw [List.map_map]
  rfl
theorem dKv_snd (kvs : List (Str × Lr)) : (dKv kvs).map (·.2) = (kvs.map (·.2)).map dL := by
  unfold dKv
  rw [List.map_map, List.map_map]
  rfl
theorem treeA_sp {m : Int} {k : Nat} {kvs : List (Str × Lr)} (g : GoodA k kvs) (h : kvs ≠ []) : SpT m k (kvs.map (·.2)) (treeA kvs) := split_sp 48 (Nat.le_refl _) (g.good h) (agree48 _)
end Sg
namespace Sg
section
variable {P : Program} {w : World} {K : PySem.W.Frag} {mg : Str → Option Value} {base : Heap}
abbrev N_second : List Str := ["_law_modulus_here", "_law_known", "_law_cell_here", "_law_whole", "_law_root_here", "_law_names", "_law_k", "_law_changed", "_law_name_here", "_law_leaf", "_law_other", "_law_worth", "_law_one"]
theorem sc__law_second : FnScope N_second ["_law_modulus_here", "_law_known", "_law_cell_here"] (defScope s__law_second) := ⟨rfl, rfl, rfl, by decide +kernel, rfl, by decide +kernel, by decide +kernel⟩
theorem nosl (x : Str) (p : Pos) : NoSl (.Name x p) := fun _ _ => rfl
def loopB : List Stmt := match (defBody s__law_second).getD 3 (.Pass ⟨0, 0, 0, 0⟩) with
  | .For _ _ b _ _ => b
  | _ => []
theorem Env.chg1 {K : PySem.W.Frag} {H H' : Hp} {σ : L2.St} {ρ : Rho} {D : Addr} {kv : List (Key × V)} {i : Nat} {ds : List (Str × PyData)} {pk : Addr} {kvk : List (Key × V)} (E : Env K H σ ρ) (hi : ρ[i]? = some (some (.dc ds))) (hσ : σ[i]? = some (some (.ref pk))) (hpk : H pk = some (.dK kvk)) (kd : KvD K H kvk ds) (hne : pk ≠ D) (hD : H D = some (.dK kv)) (k : SameBut D H H') (hn : noDR (ρ.set i none) = true) : Env K H' σ ρ :=
  ⟨E.len, fun j x e => by
    by_cases c : j = i
    · subst c
      rw [hi] at e
      cases e
      exact ⟨_, hσ, pk, kvk, rfl, k pk _ hne hpk, kvd_chg hD k kd⟩
    · have E2 : Env K H σ (ρ.set i none) := E.weak (by simp) fun q y e2 => by
        by_cases cq : q = i
        · subst cq
          rw [List.getElem?_set] at e2
          split at e2
          · split at e2 <;> cases e2
          · exact absurd rfl (by assumption)
        · rwa [List.getElem?_set_ne (fun z => cq z.symm)] at e2
      exact (E2.chg hD k hn).get j x (by rw [List.getElem?_set_ne (fun z => c z.symm)]; exact e)⟩
theorem putA_ne {α : Type} (kvs : List (Str × α)) (x : Str) (l : α) : putA kvs x l ≠ [] := by
  unfold putA
  split
  · rename_i h
    intro e
    rw [List.map_eq_nil_iff] at e
    subst e
    simp at h
  · simp
theorem find_nd {kvs : List (Str × Lr)} {x : Str} {l : Lr} (nd : (kvs.map (·.1)).Nodup) (h : (x, l) ∈ kvs) : ((dKv kvs).find? fun p => decide (p.1 = x)).map (·.2) = some (dL l) := by
  unfold dKv
  induction kvs with
  | nil => cases h
  | cons p kvs ih =>
    rw [List.map_cons, List.nodup_cons] at nd
    rcases List.mem_cons.mp h with h | h
    · subst h
      rw [List.map_cons, List.find?_cons_of_pos (by simp)]
      rfl
    · have hx : p.1 ≠ x := fun e => nd.1 (by rw [e]; exact List.mem_map.mpr ⟨(x, l), h, rfl⟩)
      rw [List.map_cons, List.find?_cons_of_neg (by simpa using hx)]
      exact ih nd.2 h
abbrev st_second (m : Int) (kvs : List (Str × Lr)) (c : Int) (ys : List Str) (o : Option DV) : Rho := [some (.d (.int m)), some (.dc (dKv kvs)), some (.d (.int c)), some (.d (dTr (treeA kvs))), some (.d (.int (rootOf m (treeA kvs)))), some (.d (.list (ys.map .str))), o, none, none, none, none, none, none]
theorem fn__law_second (C : Wd K mg) : Fn P w K mg base "_law_second" ["_law_modulus_here", "_law_known", "_law_cell_here"] 22 (spSecond K) := by
  obtain ⟨fd, F⟩ := C.defs 58 (mkD "_law_second" s__law_second) rfl
  have F1 := fn__law_built (P := P) (w := w) (base := base) C 7
  have F2 := fn__law_root (P := P) (w := w) (base := base) C 7
  have F3 := fn__law_name (P := P) (w := w) (base := base) C
  have F4 := fn__law_with_notes (P := P) (w := w) (base := base) C
  refine fn_mkS (C.glo _ (by decide +kernel)) F sc__law_second (fun vs H Q E h => by obtain ⟨_, _, _, _, _, rfl, _⟩ := h; rfl) (fun _ _ _ _ _ _ us hl => match us, hl with | [_, _, _], _ => rfl) fun X cdv A outer s H vs Q E hX hr xk tk h => ?_
  obtain ⟨m, k, kvs, c, vd, rfl, dd, hm, hk1, hk, hg, hne, hlen, hc, q0, q1⟩ := h
  have hu := hu_of hr
  subst hX
  have EV0 : Env K H (start N_second [.int m, vd, .int c]) [some (.d (.int m)), some (.dc (dKv kvs)), some (.d (.int c)), none, none, none, none, none, none, none, none, none, none] := env_start (K := K) (H := H) (.cons (x := .d _) (.int m) (.cons dd (.cons (x := .d _) (.int c) .nil))) N_second
  have sp := treeA_sp (m := m) hg hne
  have hnd : ((dKv kvs).map (·.1)).Nodup := by rw [dKv_fst]; exact hg.nd
  have hl7 : (dKv kvs).length ≤ 1000 := by unfold dKv; rw [List.length_map]; omega
  have gl := hg.good hne
  have hll : (kvs.map (·.2)).length ≤ 7 := by rw [List.length_map]; omega
  have hll2 : (kvs.map (·.2)).length ≤ 40 := by omega
  refine' wss_set (x := .d (dTr (treeA kvs))) ?a1 EV0 ?a2 ?a3 ?a4 ?a5 ?a6 ?a7
  case a1 => assumption
  case a3 => exact rfl
  case a4 => first | exact Or.inl rfl | exact Or.inr rfl
  case a5 => exact rfl
  case a6 => first | exact Or.inl rfl | exact Or.inr rfl
  case a2 =>
    refine' ev_call F1 hr (by omega) (xs := [.d (.list ((kvs.map (·.2)).map dL))]) (ea_cons ?x1 ea_nil rfl) (rBuilt_mk gl hll hll2) rfl rfl (by decide +kernel) rfl rfl
    rw [← dKv_snd]
    exact (evf_vals (di := 1) (xi := 8) xk hu rfl (by exact (show 8 < 13 by decide)) (by decide) hnd hl7 (blkOk_by (by kernel_rfl)) (pv 1) (fun _ _ _ _ _ => pg_name (i := 8) sc__law_second.nd rfl (by first | exact Or.inl rfl | exact Or.inr rfl)) (fun _ _ _ _ _ => pv 1) (fun _ _ _ _ _ => pv 8) (fun _ => rfl) (nosl _ _)).ev
  case a7 =>
    intro v1 H1 sm1 d1
    have EV1 := (EV0.mono sm1).set 3 d1
    have hT : TrOk k (treeA kvs) := sp.wf.ok
    have hdp : depth (treeA kvs) ≤ 7 := by have := sp.dp; omega
    refine' wss_set (x := .d (.int (rootOf m (treeA kvs)))) ?b1 EV1 ?b2 ?b3 ?b4 ?b5 ?b6 ?b7
    case b1 => assumption
    case b2 => wtm_at "g_ev"
    case b3 => exact rfl
    case b4 => first | exact Or.inl rfl | exact Or.inr rfl
    case b5 => exact rfl
    case b6 => first | exact Or.inl rfl | exact Or.inr rfl
    case b7 =>
      intro v2 H2 sm2 d2
      have EV2 := (EV1.mono sm2).set 4 d2
      refine ⟨_, pss_cons (ps_set sc__law_second.nd (i := 5) rfl (by first | exact Or.inl rfl | exact Or.inr rfl) pe_w) pss_w, ?_⟩
      refine we_sorted (ds := dKv kvs) xk C rfl (by wtm_at "g_ev") (by unfold dKv; rw [List.length_map]; omega) rfl rfl _ H2 _ EV2 fun ys v3 H3 hperm sm3 d3 => ?_
      have EV3 := (EV2.mono sm3).set 5 (x := .d _) d3
      have sm03 := (sm1.trans sm2).trans sm3
      have hys : ∀ y ∈ ys, ∃ l, (y, l) ∈ kvs := fun y hy => by
        have z := hperm.mem_iff.mp hy
        rw [dKv_fst] at z
        obtain ⟨p, hp, rfl⟩ := List.mem_map.mp z
        exact ⟨p.2, hp⟩
      have hyl : ys.length = kvs.length := by
        rw [hperm.length_eq, List.length_map]
        unfold dKv
        rw [List.length_map]
      have hypos : 0 < ys.length := by rw [hyl]; exact List.length_pos_iff.mpr hne
      have hyl6 : ys.length ≤ 6 := by omega
      refine ⟨_, pss_cons ps_w pss_w, ws_range (n := 40) xk C (fun j σ' H' => Same H H' ∧ Env K H' σ' [some (.d (.int m)), some (.dc (dKv kvs)), some (.d (.int c)), some (.d (dTr (treeA kvs))), some (.d (.int (rootOf m (treeA kvs)))), some (.d (.list (ys.map .str))), none, none, none, none, none, none, none]) EV3 rfl ev_int (by decide) rfl (pg_name (i := 6) sc__law_second.nd rfl (by first | exact Or.inl rfl | exact Or.inr rfl)) (fun _ => rfl) ?h0 ?hb ?hd⟩
      case h0 => exact fun H4 sm => ⟨sm03.trans sm, EV3.mono sm⟩
      case hd =>
        rintro σ' H' ⟨sm, E'⟩
        exact ⟨_, pss_one (ps_ret pe_non), q0 H' sm⟩
      case hb =>
        rintro j σ' H' hj ⟨sm, E'⟩
        have E5 := E'.set 6 (v := .int (j : Nat)) (x := .d (.int (j : Nat))) (.int _)
        refine ⟨_, pss_cons (ps_set sc__law_second.nd (i := 7) rfl (by first | exact Or.inl rfl | exact Or.inr rfl) pe_w) pss_w, ?_⟩
        refine evd_copy (ds := dKv kvs) C (by exact rfl) (by wtm_at "g_ev") (by exact rfl) (by exact rfl) _ H' _ E5 fun p kv H6 sm6 hp0 hp kd => ?_
        have sm6' := sm.trans sm6
        -- behind the change
        have tail : ∀ (D' : Ends) (p' : Addr) (kv' : List (Key × V)) (kvs' : List (Str × Lr)) (σ7 : L2.St) (H7 : Hp), (∀ σ' H', Same H H' → Env K H' σ' (st_second m kvs c ys none) → D'.nx σ' H') → (∀ v H', Q v H' → D'.rt v H') → GoodA k kvs' → kvs' ≠ [] → kvs'.length ≤ 7 → Same H H7 → H7 p' = some (.dK kv') → KvD K H7 kv' (dKv kvs') →
            Env K H7 σ7 (st_second m kvs c ys (some (.d (.int (j : Nat))))) → σ7[7]? = some (some (.ref p')) → wSs (cxOf (L2.CX P w) P w K mg base N_second (mkD "_law_second" s__law_second).qual (mkD "_law_second" s__law_second).scope (He.ga K "_law_second") cdv A outer s H E) (loopB.drop 4) D' σ7 H7 := by
          intro D' p' kv' kvs' σ7 H7 hnx hrt g' ne' len' sm7 hp' kd' E7 h77
          have E8 : Env K H7 σ7 [some (.d (.int m)), some (.dc (dKv kvs)), some (.d (.int c)), some (.d (dTr (treeA kvs))), some (.d (.int (rootOf m (treeA kvs)))), some (.d (.list (ys.map .str))), some (.d (.int (j : Nat))), some (.dc (dKv kvs')), none, none, none, none, none] := by
            refine ⟨E7.len, fun i x e => ?_⟩
            match i with
            | 0 => exact E7.get 0 x e
            | 1 => exact E7.get 1 x e
            | 2 => exact E7.get 2 x e
            | 3 => exact E7.get 3 x e
            | 4 => exact E7.get 4 x e
            | 5 => exact E7.get 5 x e
            | 6 => exact E7.get 6 x e
            | 7 => cases e; exact ⟨_, h77, p', kv', rfl, hp', kd'⟩
            | 8 => cases e
            | 9 => cases e
            | 10 => cases e
            | 11 => cases e
            | 12 => cases e
            | i + 13 => cases e
          have sp' := treeA_sp (m := m) g' ne'
          have hnd' : ((dKv kvs').map (·.1)).Nodup := by rw [dKv_fst]; exact g'.nd
          have hl7' : (dKv kvs').length ≤ 1000 := by unfold dKv; rw [List.length_map]; omega
          have gl' := g'.good ne'
          have hll' : (kvs'.map (·.2)).length ≤ 7 := by rw [List.length_map]; omega
          have hll2' : (kvs'.map (·.2)).length ≤ 40 := by omega
          have hT' : TrOk k (treeA kvs') := sp'.wf.ok
          have hdp' : depth (treeA kvs') ≤ 7 := by have := sp'.dp; omega
          refine' wss_set (x := .d (dTr (treeA kvs'))) ?e1 E8 ?e2 ?e3 ?e4 ?e5 ?e6 ?e7
          case e1 => assumption
          case e3 => exact rfl
          case e4 => first | exact Or.inl rfl | exact Or.inr rfl
          case e5 => exact rfl
          case e6 => first | exact Or.inl rfl | exact Or.inr rfl
          case e2 =>
            refine' ev_call F1 hr (by omega) (xs := [.d (.list ((kvs'.map (·.2)).map dL))]) (ea_cons ?x2 ea_nil rfl) (rBuilt_mk gl' hll' hll2') rfl rfl (by decide +kernel) rfl rfl
            rw [← dKv_snd]
            exact (evf_vals (di := 7) (xi := 12) xk hu rfl (by exact (show 12 < 13 by decide)) (by decide) hnd' hl7' (blkOk_by (by kernel_rfl)) (pv 7) (fun _ _ _ _ _ => pg_name (i := 12) sc__law_second.nd rfl (by first | exact Or.inl rfl | exact Or.inr rfl)) (fun _ _ _ _ _ => pv 7) (fun _ _ _ _ _ => pv 12) (fun _ => rfl) (nosl _ _)).ev
          case e7 =>
            intro v8 H8 sm8 d8
            have E9 := (E8.mono sm8).set 10 d8
            have s1 := ((shp_dTr hT').mono (show depth (treeA kvs') + 3 ≤ 10 by omega)).sh (by decide)
            have s2 := ((shp_dTr hT).mono (show depth (treeA kvs) + 3 ≤ 10 by omega)).sh (by decide)
            refine wss_one (b := (!PyData.eqv (dTr (treeA kvs')) (dTr (treeA kvs)) && decide (rootOf m (treeA kvs') = rootOf m (treeA kvs)))) ?f1 E9 ?f2 ?f3
            case f1 => exact (by wtm_at "g_vt")
            case f2 =>
              intro hb H9 sm9
              rw [Bool.and_eq_true, Bool.not_eq_true', decide_eq_true_eq] at hb
              refine ⟨_, pss_one (ps_ret (pv 7)), ?_⟩
              refine ⟨V.ref p', ?_, hrt _ _ (q1 kvs' _ _ ⟨g', ne', len', fun e => ?_, hb.2⟩ ((sm7.trans sm8).trans sm9) ⟨p', kv', rfl, (sm8.trans sm9) _ _ hp', kd'.mono (sm8.trans sm9)⟩)⟩
              · rw [List.getElem?_set_ne (by decide)]
                exact h77
              · rw [e, PySem.SeqAt.eqv_refl _ (shp_dTr hT).1] at hb
                exact absurd hb.1 (by decide)
            case f3 =>
              intro _ H9 sm9
              refine ⟨_, pss_nil, hnx _ _ ((sm7.trans sm8).trans sm9) ((E9.mono sm9).weak rfl fun k y e => ?_)⟩
              match k with
              | 0 => exact e
              | 1 => exact e
              | 2 => exact e
              | 3 => exact e
              | 4 => exact e
              | 5 => exact e
              | 6 => cases e
              | 7 => cases e
              | 8 => cases e
              | 9 => cases e
              | 10 => cases e
              | 11 => cases e
              | 12 => cases e
              | k + 13 => cases e
        have pt : ∀ (D' : Ends) (p1 : Addr) (kv1 : List (Key × V)) (kvs1 : List (Str × Lr)) (l' : Lr) (v : V) (σ9 : L2.St) (H9 : Hp), (∀ σ' H', Same H H' → Env K H' σ' (st_second m kvs c ys none) → D'.nx σ' H') → (∀ v H', Q v H' → D'.rt v H') → GoodA k kvs1 → kvs1.length ≤ 6 → Lf k l'.n l'.ws l'.ns → Same H H9 → H p1 = none → H9 p1 = some (.dK kv1) → KvD K H9 kv1 (dKv kvs1) →
            (∃ pk kvk, σ9[1]? = some (some (.ref pk)) ∧ H9 pk = some (.dK kvk) ∧ KvD K H9 kvk (dKv kvs) ∧ pk ≠ p1) → Env K H9 σ9 (st_second m kvs c ys (some (.d (.int (j : Nat))))) → σ9[7]? = some (some (.ref p1)) → Dp K H9 v (dL l') →
            wSs (cxOf (L2.CX P w) P w K mg base N_second (mkD "_law_second" s__law_second).qual (mkD "_law_second" s__law_second).scope (He.ga K "_law_second") cdv A outer s H E) (loopB.drop 4) D' σ9 (upd H9 p1 (.dK (putK kv1 (.inr l'.n) v))) := by
          intro D' p1 kv1 kvs1 l' v σ9 H9 hnx hrt g1 len1 lf1 sm9 h0 hp1 kd1 hpk E9 h97 dv
          obtain ⟨pk, kvk, hk1, hk2, hk3, hk4⟩ := hpk
          have kk : SameBut p1 H9 (upd H9 p1 (.dK (putK kv1 (.inr l'.n) v))) := fun b o hb e => by rw [upd_ne hb]; exact e
          refine tail D' p1 _ (putA kvs1 l'.n l') σ9 _ hnx hrt (g1.put lf1) (putA_ne _ _ _) (by have := (putA_len kvs1 l'.n l').1; omega) (fun b o hb => ?_) upd_same ?_ (E9.chg1 (i := 1) rfl hk1 hk2 hk3 hk4 hp1 kk rfl) h97
          · rw [upd_ne (ne_of_none hb h0)]
            exact sm9 b o hb
          · have z := kvd_put (x := l'.n) (kvd_chg hp1 kk kd1) (dp_chg hp1 kk _ _ dv)
            have e : dKv (putA kvs1 l'.n l') = putA (dKv kvs1) l'.n (dL l') := putA_map dL _ _ _
            rw [e]
            exact z
        obtain ⟨vk, hk1, pk, kvk, rfl, hk2, hk3⟩ := E'.get 1 _ rfl
        have hpk : pk ≠ p := ne_of_none hk2 hp0
        have hp0' : H p = none := by
          cases z : H p with
          | none => rfl
          | some o => rw [sm p o z] at hp0; cases hp0
        have E6 : Env K H6 ((σ'.set 6 (some (.int (j : Nat)))).set 7 (some (.ref p))) (st_second m kvs c ys (some (.d (.int (j : Nat))))) := ((E5.mono sm6).set 7 (v := .ref p) (x := .dc (dKv kvs)) ⟨p, kv, rfl, hp, kd⟩).weak rfl fun k y e => by
          match k with
          | 0 => exact e
          | 1 => exact e
          | 2 => exact e
          | 3 => exact e
          | 4 => exact e
          | 5 => exact e
          | 6 => exact e
          | 7 => cases e
          | 8 => cases e
          | 9 => cases e
          | 10 => cases e
          | 11 => cases e
          | 12 => cases e
          | k + 13 => cases e
        have hlt : ((c + (j : Int)) % (ys.length : Int)).toNat < ys.length := by
          have h1 := Int.emod_nonneg (c + (j : Int)) (show (ys.length : Int) ≠ 0 by omega)
          have h2 := Int.emod_lt_of_pos (c + (j : Int)) (show (0 : Int) < (ys.length : Int) by omega)
          omega
        have hix : (((c + (j : Int)) % (ys.length : Int)).toNat : Int) = (c + (j : Int)) % (ys.length : Int) := Int.toNat_of_nonneg (Int.emod_nonneg _ (by omega))
        obtain ⟨y, hy⟩ : ∃ y, ys[((c + (j : Int)) % (ys.length : Int)).toNat]? = some y := ⟨_, List.getElem?_eq_getElem hlt⟩
        obtain ⟨l, hl⟩ := hys y (List.mem_of_getElem? hy)
        have hfd := find_nd hg.nd hl
        have hat : atI (ys.map PyData.str) ((c + (j : Int)) % (ys.length : Int)) = some (.str y) := by
          rw [← hix]
          exact atI_nat (by rw [List.getElem?_map, hy]; rfl)
        have hln : lenD (.list (ys.map PyData.str)) = some ys.length := by simp [lenD]
        have hyp : (0 : Int) < (ys.length : Nat) := by omega
        refine' wss_set (x := .d (.str y)) ?g1 E6 ?g2 ?g3 ?g4 ?g5 ?g6 ?g7
        case g1 => assumption
        case g2 =>
          refine' ev_ix (y := .d (.int ((c + (j : Int)) % (ys.length : Nat)))) ?gx1 (ev_bin ?gx2 (ev_len ?gy1 ?gy2 ?gy3 hln ?gy4 ?gy5) (od_mod hyp)) (xd_lst hat) (fun _ _ => rfl)
          case gx1 => wtm_at "g_ev"
          case gx2 => wtm_at "g_ev"
          case gy1 => assumption
          case gy2 => exact rfl
          case gy3 => wtm_at "g_ev"
          case gy4 => exact rfl
          case gy5 => exact rfl
        case g3 => exact rfl
        case g4 => first | exact Or.inl rfl | exact Or.inr rfl
        case g5 => exact rfl
        case g6 => first | exact Or.inl rfl | exact Or.inr rfl
        case g7 =>
          intro v9 H7 sm7 d9
          have E7 := (E6.mono sm7).set 8 d9
          refine' wss_set (x := .d (dL l)) ?i1 E7 ?i2 ?i3 ?i4 ?i5 ?i6 ?i7
          case i1 => assumption
          case i2 => exact (ev_dget hu (by wtm_at "g_ev") (by wtm_at "g_ev") hfd (nosl _ _))
          case i3 => exact rfl
          case i4 => first | exact Or.inl rfl | exact Or.inr rfl
          case i5 => exact rfl
          case i6 => first | exact Or.inl rfl | exact Or.inr rfl
          case i7 =>
            intro v10 H8 sm8 d10
            have E8 := (E7.mono sm8).set 9 d10
            have wk2 : ∀ (q : Nat) (x : DV), (st_second m kvs c ys (some (.d (.int (j : Nat)))))[q]? = some (some x) → (((st_second m kvs c ys (some (.d (.int (j : Nat))))).set 8 (some (.d (.str y)))).set 9 (some (.d (dL l))))[q]? = some (some x) := fun q x e => by
              match q with
              | 0 => exact e
              | 1 => exact e
              | 2 => exact e
              | 3 => exact e
              | 4 => exact e
              | 5 => exact e
              | 6 => exact e
              | 7 => cases e
              | 8 => cases e
              | 9 => cases e
              | 10 => cases e
              | 11 => cases e
              | 12 => cases e
              | q + 13 => cases e
            refine wss_ife (b := decide ((c / 7 + (j : Int)) % 3 = 0)) ?j1 E8 ?j2 ?j3
            case j1 => wtm_at "g_vt"
            case j2 =>
              intro hb H9 sm9
              refine ⟨_, pss_one (ps_dput hu (pv 7) (pv 8) pe_w rfl), ?_⟩
              refine (show Ev _ _ (((st_second m kvs c ys (some (.d (.int (j : Nat))))).set 8 (some (.d (.str y)))).set 9 (some (.d (dL l)))) (.d (dL ⟨y, l.ws.map (fun z => (z + 1 + (j : Int)) % 1000), l.ns⟩)) by
                refine' ev_tupd (ds := [.str "leaf", .str y, dI (l.ws.map (fun z => (z + 1 + (j : Int)) % 1000)), dI l.ns]) (ed_cons ?t1 (ed_cons ?t2 (ed_cons ?t3 (ed_cons ?t4 ed_nil rfl) rfl) rfl) rfl) (Nat.le_of_ble_eq_true rfl)
                case t1 => wtm_at "g_ev"
                case t2 => wtm_at "g_ev"
                case t4 => wtm_at "g_ev"
                case t3 =>
                  refine' Ev.is (ev_totup ?u1 ?u2 ?u3 ?u4 ?u5) ?u6
                  case u1 => assumption
                  case u2 => exact rfl
                  case u4 => exact rfl
                  case u5 => exact rfl
                  case u3 =>
                    refine' ev_lcm (n := l.ws.length) (g := fun (i : Nat) => .int ((l.ws.getD i 0 + 1 + (j : Int)) % 1000)) ?uy1 ?uy2 ?uy3 ?uy4 ?uy5 ?uy6 ?uy7 ?uy8 ?uy9
                    case uy1 => exact rfl
                    case uy2 => assumption
                    case uy3 => exact blkOk_by (by kernel_rfl)
                    case uy6 => intro _ _ _ _ _; refine pg_name ?und rfl ?ulc <;> first | exact Or.inl rfl | exact Or.inr rfl | (have z := XOk.nd (by assumption); exact z)
                    case uy9 => intro _; rfl
                    case uy4 =>
                      refine' EvI.is (evi_d (d := dI l.ws) ?uz rfl) ?un ?uf
                      case uz => wtm_at "g_ev"
                      case un => exact List.length_map _
                      case uf => rfl
                    case uy5 =>
                      have z : l.ws.length = k := (hg.lf _ hl).2.2.1
                      omega
                    case uy8 => exact fun _ _ => rfl
                    case uy7 =>
                      intro s H C' cl fp i hi
                      have ef : itF (dI l.ws) i = .int (l.ws.getD i 0) := by
                        show (l.ws.map PyData.int).getD i .none = _
                        simp [List.getD, hi]
                      rw [ef]
                      wtm_at "g_ev"
                  case u6 =>
                    show DV.d (.tuple _) = DV.d (.tuple (List.map PyData.int (List.map _ _)))
                    congr 2
                    apply List.ext_getElem
                    · simp
                    · intro i h1 h2
                      simp [List.getD] at h1 ⊢
                      simp [h1]) _ H9 _ (E8.mono sm9) fun v11 H11 sm11 d11 => ?_
              have sm611 : Same H6 H11 := ((sm7.trans sm8).trans sm9).trans sm11
              have hle : σ'.length = 13 := E'.len
              have d9 : Dp K H7 v9 (.str y) := d9
              cases d9
              refine ⟨V.ref p, ?_, .str y, ?_, p, _, rfl, DPut.k (k := .inr y) (sm611 p _ hp) ?_, ?_⟩
              · rw [List.getElem?_set_ne (by decide), List.getElem?_set_ne (by decide), List.getElem?_set_self (by simp [hle])]
              · rw [List.getElem?_set_ne (by decide), List.getElem?_set_self (by simp [hle])]
              · rw [kvd_len kd]
                unfold dKv
                rw [List.length_map, sizeLine_eq]
                omega
              · have hlf := hg.lf _ hl
                have hyn : y = l.n := hlf.1
                subst hyn
                refine pt _ p kv kvs ⟨l.n, l.ws.map (fun z => (z + 1 + (j : Int)) % 1000), l.ns⟩ v11 _ H11 ?_ ?_ hg hlen ?_ (sm6'.trans sm611) hp0' (sm611 p _ hp) (kd.mono sm611) ⟨pk, kvk, ?_, sm611 pk _ (sm6 pk _ hk2), hk3.mono (sm6.trans sm611), hpk⟩ ?_ ?_ d11
                · exact fun σ' H' sm E => ⟨sm, E⟩
                · exact fun v H' q => q
                · refine ⟨hlf.2.1, by show (List.map _ _).length = k; rw [List.length_map]; exact hlf.2.2.1, fun x hx => ?_, hlf.2.2.2.2⟩
                  obtain ⟨z, _, rfl⟩ := List.mem_map.mp hx
                  have h1 := Int.emod_nonneg (z + 1 + (j : Int)) (show (1000 : Int) ≠ 0 by decide)
                  have h2 := Int.emod_lt_of_pos (z + 1 + (j : Int)) (show (0 : Int) < 1000 by decide)
                  exact ⟨h1, by omega⟩
                · rw [List.getElem?_set_ne (by decide), List.getElem?_set_ne (by decide), List.getElem?_set_ne (by decide), List.getElem?_set_ne (by decide)]
                  exact hk1
                · exact ((E8.mono sm9).mono sm11).weak rfl wk2
                · rw [List.getElem?_set_ne (by decide), List.getElem?_set_ne (by decide), List.getElem?_set_self (by simp [hle])]
            case j3 =>
              intro hb H9 sm9
              refine wss_one (b := (decide ((c / 7 + (j : Int)) % 3 = 1) && decide ((1 : Int) < ((dKv kvs).length : Nat)))) ?k1 (E8.mono sm9) ?k2 ?k3
              case k1 =>
                refine' Vw.vt (vw_and ?ka fun _ => vw_and1 ?kb)
                case ka => wtm_at "g_vt"
                case kb =>
                  refine' vt_cm ?kc ?kd ?ke ?kf
                  case kc => exact ev_lenD C (by exact rfl) (by wtm_at "g_ev") (by exact rfl) (by exact rfl)
                  case kd => wtm_at "g_ev"
                  case ke => exact cd_gt
                  case kf => exact rfl
              case k2 =>
                intro hb2 H10 sm10
                have hle : σ'.length = 13 := E'.len
                have E10 := (E8.mono sm9).mono sm10
                refine ⟨_, pss_cons (ps_set sc__law_second.nd (i := 7) rfl (by first | exact Or.inl rfl | exact Or.inr rfl) pe_w) pss_w, ?_⟩
                refine (evd_filter (di := 1) (xi := 12) (yi := 8) (ds := dKv kvs) (y := y) xk C (by exact rfl) hu rfl rfl (by exact (show 12 < 13 by decide)) (by decide) (by decide) hnd hl7 (blkOk_by (by kernel_rfl)) (pv 1) (fun _ _ _ _ _ => pg_name (i := 12) sc__law_second.nd rfl (by first | exact Or.inl rfl | exact Or.inr rfl)) (fun _ _ _ _ _ => pv 1) (fun _ _ _ _ _ => pv 12) (fun _ _ _ _ _ => pv 12) (fun _ _ _ _ _ => pv 12) (fun _ _ _ _ _ => pv 8) (fun _ _ _ _ _ => rfl) (fun _ _ _ _ _ => rfl) (fun _ => rfl) (nosl _ _) rfl rfl) _ H10 _ E10 fun p2 kv2 H11 sm11 hp20 hp2 kd2 => ?_
                have hfe : ((dKv kvs).filter fun p => !decide (p.1 = y)) = dKv (kvs.filter fun p => !decide (p.1 = y)) := by
                  unfold dKv
                  rw [List.filter_map]
                  rfl
                rw [hfe] at kd2
                have g2 : GoodA k (kvs.filter fun p => !decide (p.1 = y)) := ⟨fun q hq => hg.lf q (List.mem_filter.mp hq).1, hg.nd.sublist (List.Sublist.map _ List.filter_sublist)⟩
                have hlen2 : (kvs.filter fun p => !decide (p.1 = y)).length ≤ 6 := Nat.le_trans (List.length_filter_le _ _) hlen
                have hnn : 0 ≤ c / 21 + (j : Int) := by omega
                have hlf := hg.lf _ hl
                have sm610 : Same H6 H10 := ((sm7.trans sm8).trans sm9).trans sm10
                have E10w : Env K H10 _ (st_second m kvs c ys (some (.d (.int (j : Nat))))) := E10.weak rfl wk2
                have E11 := (E10w.mono sm11).any 7 (some (.ref p2)) rfl
                have E11' : Env K H11 _ (((st_second m kvs c ys (some (.d (.int (j : Nat))))).set 8 (some (.d (.str y)))).set 9 (some (.d (dL l)))) := (E10.mono sm11).any 7 (some (.ref p2)) rfl
                refine ⟨_, pss_one (ps_dput hu (pv 7) pe_w pe_w rfl), ?_⟩
                refine (show Ev _ _ (((st_second m kvs c ys (some (.d (.int (j : Nat))))).set 8 (some (.d (.str y)))).set 9 (some (.d (dL l)))) (.d (dL ⟨nameM (c / 21 + (j : Int)), l.ws, l.ns⟩)) by wtm_at "g_ev") _ H11 _ E11' fun v12 H12 sm12 d12 => ?_
                refine ⟨V.ref p2, List.getElem?_set_self (by simp [hle]), ?_⟩
                refine (show Ev _ _ (((st_second m kvs c ys (some (.d (.int (j : Nat))))).set 8 (some (.d (.str y)))).set 9 (some (.d (dL l)))) (.d (.str (nameM (c / 21 + (j : Int))))) by wtm_at "g_ev") _ H12 _ (E11'.mono sm12) fun v13 H13 sm13 d13 => ?_
                have d13 : Dp K H13 v13 (.str (nameM (c / 21 + (j : Int)))) := d13
                cases d13
                have sm1113 := sm12.trans sm13
                have hp2' : H p2 = none := by
                  cases z : H p2 with
                  | none => rfl
                  | some o => rw [sm610 p2 o (sm6' p2 o z)] at hp20; cases hp20
                have hk210 := sm610 pk _ (sm6 pk _ hk2)
                refine ⟨p2, _, rfl, DPut.k (k := .inr (nameM (c / 21 + (j : Int)))) (sm1113 p2 _ hp2) ?_, ?_⟩
                · rw [kvd_len kd2]
                  unfold dKv
                  rw [List.length_map, sizeLine_eq]
                  omega
                · refine pt _ p2 kv2 _ ⟨nameM (c / 21 + (j : Int)), l.ws, l.ns⟩ v12 _ H13 ?_ ?_ g2 hlen2 ⟨nameM_nm hnn, hlf.2.2⟩ (sm6'.trans (sm610.trans (sm11.trans sm1113))) hp2' (sm1113 p2 _ hp2) (kd2.mono sm1113) ⟨pk, kvk, ?_, (sm11.trans sm1113) pk _ hk210, hk3.mono (sm6.trans (sm610.trans (sm11.trans sm1113))), ne_of_none hk210 hp20⟩ ?_ ?_ (d12.mono sm13)
                  · exact fun σ' H' sm E => ⟨sm, E⟩
                  · exact fun v H' q => q
                  · rw [List.getElem?_set_ne (by decide), List.getElem?_set_ne (by decide), List.getElem?_set_ne (by decide), List.getElem?_set_ne (by decide), List.getElem?_set_ne (by decide)]
                    exact hk1
                  · exact E11.mono sm1113
                  · exact List.getElem?_set_self (by simp [hle])
              case k3 =>
                intro hb2 H10 sm10
                refine ⟨_, pss_one (ps_dput hu (pv 7) (pv 8) pe_w rfl), ?_⟩
                refine (show Ev _ _ (((st_second m kvs c ys (some (.d (.int (j : Nat))))).set 8 (some (.d (.str y)))).set 9 (some (.d (dL l)))) (.d (dL ⟨l.n, l.ws, [100 + c % 1000 + (j : Int)]⟩)) by wtm_at "g_ev") _ H10 _ ((E8.mono sm9).mono sm10) fun v11 H11 sm11 d11 => ?_
                have sm611 : Same H6 H11 := (((sm7.trans sm8).trans sm9).trans sm10).trans sm11
                have hle : σ'.length = 13 := E'.len
                have d9 : Dp K H7 v9 (.str y) := d9
                cases d9
                refine ⟨V.ref p, ?_, .str y, ?_, p, _, rfl, DPut.k (k := .inr y) (sm611 p _ hp) ?_, ?_⟩
                · rw [List.getElem?_set_ne (by decide), List.getElem?_set_ne (by decide), List.getElem?_set_self (by simp [hle])]
                · rw [List.getElem?_set_ne (by decide), List.getElem?_set_self (by simp [hle])]
                · rw [kvd_len kd]
                  unfold dKv
                  rw [List.length_map, sizeLine_eq]
                  omega
                · have hlf := hg.lf _ hl
                  have hyn : y = l.n := hlf.1
                  subst hyn
                  refine pt _ p kv kvs ⟨l.n, l.ws, [100 + c % 1000 + (j : Int)]⟩ v11 _ H11 ?_ ?_ hg hlen ?_ (sm6'.trans sm611) hp0' (sm611 p _ hp) (kd.mono sm611) ⟨pk, kvk, ?_, sm611 pk _ (sm6 pk _ hk2), hk3.mono (sm6.trans sm611), hpk⟩ ?_ ?_ d11
                  · exact fun σ' H' sm E => ⟨sm, E⟩
                  · exact fun v H' q => q
                  · refine ⟨hlf.2.1, hlf.2.2.1, hlf.2.2.2.1, by simp, fun x hx => ?_⟩
                    rw [List.mem_singleton] at hx
                    subst hx
                    omega
                  · rw [List.getElem?_set_ne (by decide), List.getElem?_set_ne (by decide), List.getElem?_set_ne (by decide), List.getElem?_set_ne (by decide)]
                    exact hk1
                  · exact (((E8.mono sm9).mono sm10).mono sm11).weak rfl wk2
                  · rw [List.getElem?_set_ne (by decide), List.getElem?_set_ne (by decide), List.getElem?_set_self (by simp [hle])]
end
end Sg
/-! # The law: its own end -/
namespace Sg
open PySem PySem.Spec L2
theorem sh_cl {d : PyData} (h : SeqAt.shaped d = true) : d.canLay0 = true := by
  unfold SeqAt.shaped at h
  exact (He.ba h).1
def AnOk : An → Prop
  | .nm s => IsNm s
  | _ => True
theorem told_ok {k : Nat} {s : Sm} {q : Qn} {a : An} (h : SmOk k s) (e : toldM q s = some a) : AnOk a := by
  cases q with
  | leaf n =>
    have e : leafTold n s = some a := e
    unfold leafTold at e
    split at e <;> cases e
    trivial
  | several ns => cases e
  | count => cases e; trivial
  | total => cases e; trivial
  | range x y =>
    have e : rangeTold x y s = some a := e
    unfold rangeTold at e
    split at e
    · cases e; trivial
    · split at e <;> cases e
      trivial
  | rank n =>
    have e : rankTold n s = some a := e
    unfold rankTold at e
    split at e
    · cases e; trivial
    · split at e <;> cases e
      trivial
  | place j =>
    have e : placeTold j s = some a := e
    unfold placeTold at e
    split at e
    · cases e; trivial
    · split at e
      · cases e; exact h.lo
      · split at e <;> cases e
        exact h.hi
  | next n =>
    have e : nextTold n s = some a := e
    unfold nextTold at e
    split at e
    · cases e; exact h.lo
    · split at e <;> cases e
      trivial
theorem join_ok {q : Qn} {a b : An} : AnOk (joinA q a b) := by
  unfold joinA
  split
  · unfold joinR
    split
    split
    · trivial
    · split <;> trivial
  · trivial
  · trivial
theorem ans_ok {m : Int} {k : Nat} : ∀ {t : Tr} {q : Qn} {a : An}, TrOk k t → ansM m t q = .ok a → AnOk a
  | .cut s, q, a, h, e => told_ok h (ans_cut e)
  | .leaf n ws ns, q, a, h, e => by
    cases ht : toldM q (summ m (.leaf n ws ns)) with
    | some z =>
      rw [ans_told ht] at e
      cases e
      exact told_ok (summ_ok h) ht
    | none =>
      have e : (match toldM q (summ m (.leaf n ws ns)) with | some a => Except.ok a | none => .ok (.lf ws ns)) = Except.ok a := e
      rw [ht] at e
      cases e
      trivial
  | .br l r, q, a, h, e => by
    cases ht : toldM q (summ m (.br l r)) with
    | some z =>
      rw [ans_told ht] at e
      cases e
      exact told_ok (summ_ok h) ht
    | none =>
      rw [ansM_br, ht] at e
      have e : ansB m l r q = .ok a := e
      unfold ansB at e
      rcases hs : sideQ q (summ m l) (summ m r) with ⟨_ | ql, _ | qr⟩
      · rw [hs] at e
        cases e
        trivial
      · rw [hs] at e
        exact ans_ok h.2 e
      · rw [hs] at e
        exact ans_ok h.1 e
      · rw [hs] at e
        dsimp only at e
        cases a1 : ansM m l ql with
        | error z => rw [a1] at e; cases e
        | ok z =>
          rw [a1] at e
          dsimp only at e
          cases b1 : ansM m r qr with
          | error u => rw [b1] at e; cases e
          | ok u =>
            rw [b1] at e
            cases e
            exact join_ok
theorem shp_dA {a : An} (h : AnOk a) : Shp 3 (dA a) := by
  cases a with
  | non => exact shp_non
  | i n => exact shp_int _
  | nm s => exact shp_str (strOk_nm h)
  | tot ws => exact shp_dI _
  | rng c s =>
    refine shp_tup (n := 2) fun x hx => ?_
    simp only [List.mem_cons, List.not_mem_nil, or_false] at hx
    rcases hx with rfl | rfl
    · exact shp_int _
    · cases s with
      | none => exact shp_non
      | some ws => exact shp_dI _
  | lf ws ns =>
    refine shp_tup (n := 2) fun x hx => ?_
    simp only [List.mem_cons, List.not_mem_nil, or_false] at hx
    rcases hx with rfl | rfl
    · exact shp_dI _
    · exact shp_dI _
theorem sev_okA {m : Int} {k : Nat} {t : Tr} (h : TrOk k t) : ∀ {ns : List Str} {as : List An}, sevM m t ns = .ok as → ∀ a ∈ as, AnOk a
  | [], as, e, a, ha => by cases e; cases ha
  | n :: ns, as, e, a, ha => by
    have e : (match ansM m t (.leaf n) with | .error e => Except.error e | .ok a' => match sevM m t ns with | .error e => .error e | .ok as => .ok (a' :: as)) = .ok as := e
    cases a1 : ansM m t (.leaf n) with
    | error z => rw [a1] at e; cases e
    | ok z =>
      rw [a1] at e
      dsimp only at e
      cases b1 : sevM m t ns with
      | error u => rw [b1] at e; cases e
      | ok u =>
        rw [b1] at e
        cases e
        rcases List.mem_cons.mp ha with ha | ha
        · rw [ha]; exact ans_ok h a1
        · exact sev_okA h b1 a ha
theorem ask_shp {m : Int} {k : Nat} {t : Tr} {q : Qn} {d : PyData} (h : TrOk k t) (e : askM m t q = .ok d) : Shp 4 d := by
  by_cases hq : q.one = true
  · rw [askM_one hq] at e
    cases a1 : ansM m t q with
    | error z => rw [a1] at e; cases e
    | ok z =>
      rw [a1] at e
      cases e
      exact (shp_dA (ans_ok h a1)).mono (by decide)
  · cases q with
    | several ns =>
      have e : (match sevM m t ns with | .error e => Except.error e | .ok as => .ok (PyData.tuple (as.map dA))) = .ok d := e
      cases a1 : sevM m t ns with
      | error z => rw [a1] at e; cases e
      | ok z =>
        rw [a1] at e
        cases e
        refine shp_tup fun x hx => ?_
        obtain ⟨a, ha, rfl⟩ := List.mem_map.mp hx
        exact shp_dA (sev_okA h a1 a ha)
    | _ => exact absurd rfl hq
theorem chk_form {m : Int} {k : Nat} {t : Tr} {q : Qn} (h : TrOk k t) : ∃ (t0 : Str) (u : PyData), chkD (askM m t q) = .tuple [.str t0, u] ∧ SeqAt.shaped (.tuple [.str t0, u]) = true ∧ (t0 = "told" → askM m t q = .ok u) := by
  cases e : askM m t q with
  | ok d =>
    refine ⟨"told", d, rfl, (shp_tup (n := 4) fun x hx => ?_).sh (by decide), fun _ => rfl⟩
    simp only [List.mem_cons, List.not_mem_nil, or_false] at hx
    rcases hx with rfl | rfl
    · exact shp_str (by decide +kernel)
    · exact ask_shp h e
  | error x =>
    refine ⟨"not shown", .none, rfl, (shp_tup (n := 4) fun x hx => ?_).sh (by decide), fun z => absurd z (by decide +kernel)⟩
    simp only [List.mem_cons, List.not_mem_nil, or_false] at hx
    rcases hx with rfl | rfl
    · exact shp_str (by decide +kernel)
    · exact shp_non
theorem rChecked_mk {n k : Nat} {m r : Int} {t : Tr} {q : Qn} (hm : Md m) (h : WfT m k t) (h1 : 1 ≤ k) (hk : k ≤ 3) (hd : depth t ≤ n) (hq : QnOk q) (hr : r = rootOf m t) : rChecked n [.sl m, .d (.int r), .d (dTr t), .d (dQ q)] (.ok (.d (chkD (askM m t q)))) := ⟨m, k, t, q, by rw [hr], hm, h, h1, hk, hd, hq, rfl⟩
theorem rJoined_mk {n k : Nat} {m : Int} {a b : Tr} (hm : Md m) (h : TrOk k a) (h1 : TrOk k b) (hk : k ≤ 3) (hd : depth a ≤ n) (hd1 : depth b ≤ n) (hr : rootOf m a = rootOf m b) : rJoined n [.sl m, .d (dTr a), .d (dTr b)] (.ok (.d (dW (findM m a b)))) := ⟨m, k, a, b, rfl, hm, h, h1, hk, hd, hd1, hr, rfl⟩
theorem rLeaves_mk {ns : List Int} {a c kd : Nat} (hc : c ≤ 100) (hk : kd ≤ 3) : rLeaves [.d (.list (ns.map .int)), .d (.int a), .d (.int c), .d (.int kd)] (.ok (.dc (dKv (leavesM ns a kd c)))) := ⟨ns, a, c, kd, rfl, hc, hk, rfl⟩
theorem shp_dW {o : Option (List Int × List Int)} : Shp 2 (dW o) := by
  cases o with
  | none => exact shp_non
  | some p =>
    obtain ⟨x, y⟩ := p
    refine shp_tup (n := 1) fun z hz => ?_
    simp only [List.mem_cons, List.not_mem_nil, or_false] at hz
    rcases hz with rfl | rfl
    · exact shp_dI _
    · exact shp_dI _
/-- the two whole trees and what is cut of them -/
structure LwOk (m : Int) (k : Nat) (a b c d : Tr) : Prop where
  md : Md m
  k1 : 1 ≤ k
  k3 : k ≤ 3
  wa : Whole a
  wb : Whole b
  fa : WfT m k a
  fb : WfT m k b
  fc : WfT m k c
  fd : WfT m k d
  da : depth a ≤ 7
  db : depth b ≤ 7
  dc : depth c ≤ 7
  dd : depth d ≤ 7
  ca : summ m c = summ m a
  cb : summ m d = summ m b
  rt : rootOf m b = rootOf m a
  ne : b ≠ a
theorem lwok_mk {m : Int} {k : Nat} {kvs kvs' : List (Str × Lr)} {c d : Tr} (hm : Md m) (h1 : 1 ≤ k) (h3 : k ≤ 3) (g : GoodA k kvs) (hn : kvs ≠ []) (hl : kvs.length ≤ 7) (s : SecondOk m k kvs kvs') (hc : CutOf m (treeA kvs) c) (hd : CutOf m (treeA kvs') d) : LwOk m k (treeA kvs) (treeA kvs') c d := by
  have sa := treeA_sp (m := m) g hn
  have sb := treeA_sp (m := m) s.good s.ne
  have la : lvs (treeA kvs) ≤ 7 := by rw [sa.lv, List.length_map]; exact hl
  have lb : lvs (treeA kvs') ≤ 7 := by rw [sb.lv, List.length_map]; exact s.len
  have da : depth (treeA kvs) ≤ 7 := by have := sa.dp; rw [List.length_map] at this; omega
  have db : depth (treeA kvs') ≤ 7 := by have := sb.dp; have := s.len; rw [List.length_map] at *; omega
  exact ⟨hm, h1, h3, sa.wh, sb.wh, sa.wf, sb.wf, cut_wf hm.1 hc sa.wh sa.wf (by omega), cut_wf hm.1 hd sb.wh sb.wf (by omega), da, db, Nat.le_trans (cut_depth hc) da, Nat.le_trans (cut_depth hd) db, cut_summ hc, cut_summ hd, s.root, s.dif⟩
section
variable {X : Cx}
theorem cd_isN_dc {ds : List (Str × PyData)} : CmD X .Is (.dc ds) (.d .none) false := ⟨_, op_isN, fun v u H Q d1 d2 q => by
  obtain ⟨a, kv, rfl, _, _⟩ := d1
  have d2 : Dp X.K H u .none := d2
  cases d2
  refine ⟨rfl, q _ H (Same.refl H) ?_⟩
  rw [decide_eq_false (fun z => by cases z)]
  exact Dp.bl _⟩
end
end Sg
local macro_rules | `(tactic| wtm_at "g_R") => `(tactic| (with_reducible refine' rChecked_mk ?z0 ?z1 ?z2 ?z3 ?z4 ?z5 ?z6; (case z0 => wtm_at "g_side"); (case z1 => wtm_at "g_side"); (case z2 => wtm_at "g_side"); (case z3 => wtm_at "g_side"); (case z4 => wtm_at "g_side"); (case z5 => wtm_at "g_side"); (case z6 => wtm_at "g_side")))
local macro_rules | `(tactic| wtm_at "g_R") => `(tactic| (with_reducible refine' rJoined_mk ?z0 ?z1 ?z2 ?z3 ?z4 ?z5 ?z6; (case z0 => wtm_at "g_side"); (case z1 => wtm_at "g_side"); (case z2 => wtm_at "g_side"); (case z3 => wtm_at "g_side"); (case z4 => wtm_at "g_side"); (case z5 => wtm_at "g_side"); (case z6 => wtm_at "g_side")))
local macro_rules | `(tactic| wtm_at "g_R") => `(tactic| (with_reducible refine' rLeaves_mk ?z0 ?z1; (case z0 => wtm_at "g_side"); (case z1 => wtm_at "g_side")))
local macro_rules | `(tactic| wtm_at "g_R") => `(tactic| with_reducible assumption)
namespace Sg
section
variable {P : Program} {w : World} {K : PySem.W.Frag} {mg : Str → Option Value} {base : Heap}
abbrev N_law : List Str := ["_law_script", "_law_first", "_law_modulus_here", "_law_sealer", "_law_known", "_law_other", "_law_whole", "_law_second_here", "_law_one", "_law_two", "_law_root_here", "_law_rows", "_law_k", "_law_question_here", "_law_told", "_law_others", "_law_name_here", "_law_cell_here"]
theorem sc_law : FnScope N_law ["_law_script"] (defScope s_law) := ⟨rfl, rfl, rfl, by decide +kernel, rfl, by decide +kernel, by decide +kernel⟩
abbrev st_law (ns : List Int) (m : Int) (a b c d : Tr) (r rows : Option DV) : Rho := [some (.d (.list (ns.map .int))), none, some (.d (.int m)), some (.sl m), none, none, some (.d (dTr a)), some (.d (dTr b)), some (.d (dTr c)), some (.d (dTr d)), r, rows, none, none, none, none, none, none]
/-- the questions, and what follows them -/
theorem bs_law3 (C : Wd K mg) (C2 : We P w K mg) {X : Cx} {cdv : Value} {A : Around} {outer : List PySem.Env} {s : Shared} {H : Hp} {E : XK} (hX : X = cxOf (L2.CX P w) P w K mg base N_law (mkD "law" s_law).qual (mkD "law" s_law).scope (He.ga K "law") cdv A outer s H E) (hr : Room 26 X.A) (xk : XOk X)
    {ns : List Int} {m : Int} {k : Nat} {a b c d : Tr} (L : LwOk m k a b c d) {rows : PyData} (hrows : isN rows = true → findM m c d = none) : Bs X ((mkD "law" s_law).body.drop 14) (st_law ns m a b c d (some (.d (.int (rootOf m a)))) (some (.d rows))) (.rt (.d (.bool true))) := by
  have F1 := fn__law_question (P := P) (w := w) (base := base) C
  have F2 := fn__law_checked (P := P) (w := w) (base := base) C C2 7
  have F3 := fn_find_collision (P := P) (w := w) (base := base) C 7
  have F4 := fn_is_collision (P := P) (w := w) (base := base) C
  have F5 := fn__law_cell (P := P) (w := w) (base := base) C
  subst hX
  refine' bs_cons (b1_forn (m := 6) (st := fun _ => st_law ns m a b c d (some (.d (.int (rootOf m a)))) (some (.d rows))) ?k ?hi ?hx ?hg ?h0 ?hb ?he ?hs) ?_
  wtm_at "g_fors"
  case h0 => wtm_at "g_wk"
  case he => exact .inl ⟨rfl, rfl⟩
  case hb =>
    intro j hj _
    generalize hz : (((ns.getD (30 + j) 0).natAbs : Nat) : Int) = z
    have hz0 : 0 ≤ z := by omega
    have hq := qM_ok hz0
    have eaj : (30 : Int) + (j : Nat) = ((30 + j : Nat) : Int) := by omega
    refine' bs_cons (b1_setn (x := .d (dQ (qM z))) ?c ?e ?i ?x ?s ?f) ?_
    case c => assumption
    case i => exact rfl
    case x => first | exact Or.inl rfl | exact Or.inr rfl
    case s => exact rfl
    case f => first | exact Or.inl rfl | exact Or.inr rfl
    case e =>
      refine' ev_call F1 hr (by omega) (xs := [.d (.int z)]) (ea_cons ?x1 ea_nil rfl) (rQuestion_mk hz0) rfl rfl (by decide +kernel) rfl rfl
      rw [← hz]
      refine' ev_abs ?z1 ?z2 ?z3 ?z4 ?z5
      case z1 => assumption
      case z2 => exact rfl
      case z4 => exact rfl
      case z5 => exact rfl
      case z3 =>
        refine' ev_call F5 hr (by omega) (xs := [.d (.list (ns.map .int)), .d (.int ((30 + j : Nat) : Int))]) ?x2 rCell_mk rfl rfl (by decide +kernel) rfl rfl
        rw [← eaj]
        wtm_at "g_ea"
    obtain ⟨t0, u, e1, s1, h1⟩ := chk_form (m := m) (q := qM z) L.fc.ok
    obtain ⟨o0, v, e2, s2, h2⟩ := chk_form (m := m) (q := qM z) L.fd.ok
    have G1 : rChecked 7 [.sl m, .d (.int (rootOf m a)), .d (dTr c), .d (dQ (qM z))] (.ok (.d (.tuple [.str t0, u]))) := e1 ▸ rChecked_mk L.md L.fc L.k1 L.k3 L.dc hq (root_of_summ L.ca).symm
    have G2 : rChecked 7 [.sl m, .d (.int (rootOf m a)), .d (dTr d), .d (dQ (qM z))] (.ok (.d (.tuple [.str o0, v]))) := e2 ▸ rChecked_mk L.md L.fd L.k1 L.k3 L.dd hq (L.rt.symm.trans (root_of_summ L.cb).symm)
    wtm_at "g_setn"
    wtm_at "g_setn"
    refine' bs_ifF (b := decide (t0 = "told") && (decide (o0 = "told") && ((!PyData.eqv (.tuple [.str t0, u]) (.tuple [.str o0, v])) && isN rows))) ?vt ?hb ?h2
    case vt => wtm_at "g_vt"
    case hb =>
      cases hbb : decide (t0 = "told") && (decide (o0 = "told") && ((!PyData.eqv (.tuple [.str t0, u]) (.tuple [.str o0, v])) && isN rows)) with
      | false => rfl
      | true =>
        obtain ⟨b1, hbb⟩ := He.ba hbb
        obtain ⟨b2, hbb⟩ := He.ba hbb
        obtain ⟨b3, b4⟩ := He.ba hbb
        have b1 := of_decide_eq_true b1
        have b2 := of_decide_eq_true b2
        have hcd : rootOf m c = rootOf m d := (root_of_summ L.ca).trans (L.rt.symm.trans (root_of_summ L.cb).symm)
        obtain ⟨f1, f2⟩ := find_none L.fc.ok L.fd.ok hcd (hrows b4)
        have huv := ask_same L.fc.ok L.fd.ok f1 f2 (h1 b1) (h2 b2)
        rw [b1, b2, huv, PySem.SeqAt.eqv_refl _ (sh_cl (by rw [← b2]; exact s2))] at b3
        cases b3
    case h2 => exact bs_weak bs_nil (by wtm_at "g_wk")
  · cases ef : findM m a b with
    | none => exact absurd ef (find_whole L.wa L.wb L.fa.ok L.fb.ok L.rt.symm (fun e => L.ne e.symm))
    | some p =>
      obtain ⟨x, y⟩ := p
      obtain ⟨g1, g2, g3, g4⟩ := find_some L.k3 L.fa.ok L.fb.ok L.rt.symm ef
      have G3 : rFind 7 [.sl m, .d (dTr a), .d (dTr b)] (.ok (.d (.tuple [dI x, dI y]))) := by
        have z := rFind_mk L.md L.fa.ok L.fb.ok L.k3 L.da L.db L.rt.symm
        rw [ef] at z
        exact z
      have G4 := rCollision_mk L.md g3 g4
      wtm_at "g_setn"
      refine' bs_ret (ev_andB (k := !isN (.tuple [dI x, dI y])) (l := !decide (x = y) && decide (sealF m x = sealF m y)) ?e1 fun _ => ev_one ?e2) ?q
      case e1 => wtm_at "g_ev"
      case e2 => wtm_at "g_ev"
      case q => simp [g1, g2, isN]
/-- from the root on -/
theorem bs_law2 (C : Wd K mg) (C2 : We P w K mg) {X : Cx} {cdv : Value} {A : Around} {outer : List PySem.Env} {s : Shared} {H : Hp} {E : XK} (hX : X = cxOf (L2.CX P w) P w K mg base N_law (mkD "law" s_law).qual (mkD "law" s_law).scope (He.ga K "law") cdv A outer s H E) (hr : Room 26 X.A) (xk : XOk X)
    {ns : List Int} {m : Int} {k : Nat} {a b c d : Tr} (L : LwOk m k a b c d) : Bs X ((mkD "law" s_law).body.drop 10) (st_law ns m a b c d none none) (.rt (.d (.bool true))) := by
  have F1 := fn__law_root (P := P) (w := w) (base := base) C 7
  have F2 := fn__law_joined (P := P) (w := w) (base := base) C C2 7
  have F3 := fn_find_collision (P := P) (w := w) (base := base) C 7
  have F4 := fn_is_collision (P := P) (w := w) (base := base) C
  have F5 := fn__law_seal (P := P) (w := w) (base := base) C
  have h3 : ∀ (rows : PyData), (isN rows = true → findM m c d = none) → Bs X ((mkD "law" s_law).body.drop 14) (st_law ns m a b c d (some (.d (.int (rootOf m a)))) (some (.d rows))) (.rt (.d (.bool true))) := fun rows hrows => bs_law3 C C2 hX hr xk L hrows
  subst hX
  have hcd : rootOf m c = rootOf m d := (root_of_summ L.ca).trans (L.rt.symm.trans (root_of_summ L.cb).symm)
  have G1 := rLRoot_mk L.md L.fa.ok L.k3 L.da
  have G2 := rJoined_mk L.md L.fc.ok L.fd.ok L.k3 L.dc L.dd hcd
  have G3 := rFind_mk L.md L.fc.ok L.fd.ok L.k3 L.dc L.dd hcd
  have hsh : SeqAt.shaped (dW (findM m c d)) = true := shp_dW.sh (by decide)
  wtm_at "g_setn"
  wtm_at "g_setn"
  refine' bs_ifF (b := !PyData.eqv (dW (findM m c d)) (dW (findM m c d))) ?v1 ?v2 ?v3
  case v1 => wtm_at "g_vt"
  case v2 => rw [PySem.SeqAt.eqv_refl _ (sh_cl hsh)]; rfl
  case v3 =>
    cases ef : findM m c d with
    | none =>
      refine' bs_ifF (b := !isN (dW none)) ?w1 rfl ?w3
      case w1 => wtm_at "g_vt"
      case w3 => exact h3 _ fun _ => ef
    | some p =>
      obtain ⟨x, y⟩ := p
      obtain ⟨g1, g2, g3, g4⟩ := find_some L.k3 L.fc.ok L.fd.ok hcd ef
      have G4 := rCollision_mk L.md g3 g4
      have G5 := rLSeal_mk (row := x) L.md (by omega)
      have G6 := rLSeal_mk (row := y) L.md (by omega)
      have sx : SeqAt.shaped (dI x) = true := sh_dI x
      have sy : SeqAt.shaped (dI y) = true := sh_dI y
      refine' bs_ifN (b := !isN (.tuple [dI x, dI y])) (ρ' := st_law ns m a b c d (some (.d (.int (rootOf m a)))) (some (.d (.tuple [dI x, dI y])))) ?w1 (fun _ => ?w2) (fun h => by cases h) (h3 _ fun h => by cases h)
      case w1 => wtm_at "g_vt"
      case w2 =>
        refine' bs_ifF (b := !(!decide (x = y) && decide (sealF m x = sealF m y))) ?y1 ?y2 ?y3
        case y1 => wtm_at "g_vt"
        case y2 => simp [g1, g2]
        case y3 =>
          refine' bs_ifF (b := (!decide (sealF m x = sealF m y)) || PyData.eqv (dI x) (dI y)) ?y4 ?y5 ?y6
          case y4 =>
            refine' Vw.vt (vw_or ?ya fun _ => vw_or1 ?yb)
            case ya => wtm_at "g_vt"
            case yb =>
              refine' vt_cm ?yc ?yd (cd_eqD hr sx sy) rfl
              case yc => wtm_at "g_ev"
              case yd => wtm_at "g_ev"
          case y5 => rw [eqv_dI]; simp [g1, g2]
          case y6 => exact bs_nil
end
end Sg
namespace Sg
section
variable {P : Program} {w : World} {K : PySem.W.Frag} {mg : Str → Option Value} {base : Heap}
def spLaw (K : PySem.W.Frag) : Sp := fun vs H Q _ => ∃ (a : Addr) (ns : List Int), vs = [.ref a] ∧ SqL K H a (ns.map V.int) ∧ ∀ H', Q (.bl true) H'
theorem mods (f : Int) : ∃ m : Int, atI [PyData.int 3, .int 4, .int 5, .int 7, .int 11, .int 13, .int 17, .int 23] (f % 8) = some (.int m) ∧ 3 ≤ m ∧ m < 1000 := by
  have h0 : 0 ≤ f % 8 := by omega
  have h1 : f % 8 < 8 := by omega
  generalize f % 8 = z at h0 h1
  have hz : z = 0 ∨ z = 1 ∨ z = 2 ∨ z = 3 ∨ z = 4 ∨ z = 5 ∨ z = 6 ∨ z = 7 := by omega
  rcases hz with rfl | rfl | rfl | rfl | rfl | rfl | rfl | rfl
  · exact ⟨3, rfl, by decide, by decide⟩
  · exact ⟨4, rfl, by decide, by decide⟩
  · exact ⟨5, rfl, by decide, by decide⟩
  · exact ⟨7, rfl, by decide, by decide⟩
  · exact ⟨11, rfl, by decide, by decide⟩
  · exact ⟨13, rfl, by decide, by decide⟩
  · exact ⟨17, rfl, by decide, by decide⟩
  · exact ⟨23, rfl, by decide, by decide⟩
/-- a def whose object is told, by any promise -/
theorem fnok_mkS {x qual : Str} {params : Arguments} {body : List Stmt} {scope : Scope} {fd : FuncData} {N ps : List Str} {k : Nat} {sp : Sp} (F : FunD K x qual params body scope [] [] (He.ga K x) fd) (S : FnScope N ps scope) (len : ∀ vs H Q E, sp vs H Q E → vs.length = ps.length)
    (hbody : ∀ (X : Cx) (cdv : Value) (A : Around) (outer : List PySem.Env) (s : Shared) (H : Hp) (vs : List V) (Q : VK) (E : XK), X = cxOf (L2.CX P w) P w K mg base N qual scope (He.ga K x) cdv A outer s H E → Room k X.A → XOk X → Takes X (fun cls d _ H => E cls d H) → sp vs H Q E →
      wSs X body { nx := fun _ H' => Q .non H', rt := Q } (start N vs) H) : FnOk P w K mg base (L2.CX P w) (k + 1) (He.ga K x) fd ps sp :=
  F.ok S len fun cdv A outer s H vs Q E hr h => ⟨_, pss_w, hbody _ cdv A outer s H vs Q E rfl hr (xok_of S.nd) (takes_of rfl rfl rfl rfl) h⟩
/-- the cells from i to j: those that there are -/
def cellsN (ns : List Int) (i j : Nat) : List Int := (ns.drop (min i ns.length)).take (min j ns.length - min i ns.length)
theorem cells_map (ns : List Int) (i j : Nat) : (((ns.map PyData.int).drop (min i (ns.map PyData.int).length)).take (min j (ns.map PyData.int).length - min i (ns.map PyData.int).length)) = (cellsN ns i j).map PyData.int := by
  unfold cellsN
  rw [List.length_map, List.map_take, List.map_drop]
theorem cells_len (ns : List Int) (i j : Nat) : (cellsN ns i j).length ≤ j := by
  unfold cellsN
  rw [List.length_take]
  omega
/-- behind a call of _law_cut whose list is new, at p -/
theorem same_cut {H H1 H2 H3 : Hp} {p : Addr} (s1 : Same H H1) (hp : H1 p = none) (s2 : Same H1 H2) (s3 : SameBut p H2 H3) : Same H H3 := fun b o hb => s3 b o (ne_of_none (s1 b o hb) hp) (s2 b o (s1 b o hb))
theorem ok_law (C : Wd K mg) (C2 : We P w K mg) {fd : FuncData} (F : FunD K "law" (mkD "law" s_law).qual (defArgs s_law) (defBody s_law) (mkD "law" s_law).scope [] [] (He.ga K "law") fd) : FnOk P w K mg base (L2.CX P w) 27 (He.ga K "law") fd ["_law_script"] (spLaw K) := by
  have F1 := fn__law_cell (P := P) (w := w) (base := base) C
  have F2 := fn__law_leaves (P := P) (w := w) (base := base) C
  have F4 := fn__law_built (P := P) (w := w) (base := base) C 7
  obtain ⟨sg1, sg2, sfd, SF, sb⟩ := fn__law_second (P := P) (w := w) (base := base) C
  obtain ⟨cg1, cg2, cfd, CF, cb⟩ := fn__law_cut (P := P) (w := w) (base := base) C 7
  refine fnok_mkS (k := 26) F sc_law (fun vs H Q E h => by obtain ⟨_, _, rfl, _⟩ := h; rfl) fun X cdv A outer s H vs Q E hX hr xk tk h => ?_
  obtain ⟨a0, ns, rfl, hs, q⟩ := h
  have hu := hu_of hr
  have rest : ∀ {m : Int} {k : Nat} {a b c d : Tr}, LwOk m k a b c d → Bs X ((mkD "law" s_law).body.drop 10) (st_law ns m a b c d none none) (.rt (.d (.bool true))) := fun L => bs_law2 C C2 hX hr xk L
  subst hX
  have EV0 : Env K H (start N_law [.ref a0]) [some (.d (.list (ns.map .int))), none, none, none, none, none, none, none, none, none, none, none, none, none, none, none, none, none] := env_start (K := K) (H := H) (.cons (x := .d _) (Dp.lst hs (dpAll_of_ints ns)) .nil) N_law
  generalize hf : (((ns.getD 0 0).natAbs : Nat) : Int) = f
  have hf0 : 0 ≤ f := by omega
  obtain ⟨m, hat, hm3, hm⟩ := mods f
  have hmd : Md m := ⟨by omega, hm⟩
  -- first
  refine' wss_set (x := .d (.int f)) ?a1 EV0 ?a2 ?a3 ?a4 ?a5 ?a6 ?a7
  case a1 => assumption
  case a3 => exact rfl
  case a4 => first | exact Or.inl rfl | exact Or.inr rfl
  case a5 => exact rfl
  case a6 => first | exact Or.inl rfl | exact Or.inr rfl
  case a2 =>
    rw [← hf]
    refine' ev_abs ?z1 ?z2 ?z3 ?z4 ?z5
    case z1 => assumption
    case z2 => exact rfl
    case z4 => exact rfl
    case z5 => exact rfl
    case z3 =>
      refine' ev_call F1 hr (by omega) (xs := [.d (.list (ns.map .int)), .d (.int ((0 : Nat) : Int))]) ?x1 rCell_mk rfl rfl (by decide +kernel) rfl rfl
      wtm_at "g_ea"
  case a7 =>
  intro v1 H1 sm1 d1
  have EV1 := (EV0.mono sm1).set 1 d1
  -- the modulus
  refine' wss_set (x := .d (.int m)) ?b1 EV1 ?b2 ?b3 ?b4 ?b5 ?b6 ?b7
  case b1 => assumption
  case b2 => wtm_at "g_ev"
  case b3 => exact rfl
  case b4 => first | exact Or.inl rfl | exact Or.inr rfl
  case b5 => exact rfl
  case b6 => first | exact Or.inl rfl | exact Or.inr rfl
  case b7 =>
  intro v2 H2 sm2 d2
  have EV2 := (EV1.mono sm2).set 2 d2
  -- the sealer
  refine' wss_set (x := .sl m) ?c1 EV2 ?c2 ?c3 ?c4 ?c5 ?c6 ?c7
  case c1 => assumption
  case c2 => exact ev_mkSealer C hr (by omega) (by exact rfl) (by wtm_at "g_ev") hm3 hm (by exact rfl) (by exact rfl)
  case c3 => exact rfl
  case c4 => first | exact Or.inl rfl | exact Or.inr rfl
  case c5 => exact rfl
  case c6 => first | exact Or.inl rfl | exact Or.inr rfl
  case c7 =>
  intro v3 H3 sm3 d3
  have EV3 := (EV2.mono sm3).set 3 d3
  -- the leaves
  obtain ⟨cn, hcn, hcn1, hcn6⟩ : ∃ cn : Nat, 1 + f / 8 % 6 = (cn : Int) ∧ 1 ≤ cn ∧ cn ≤ 6 := ⟨(1 + f / 8 % 6).toNat, by omega, by omega, by omega⟩
  obtain ⟨kd, hkd, hkd1, hkd3⟩ : ∃ kd : Nat, 1 + f / 48 % 2 = (kd : Int) ∧ 1 ≤ kd ∧ kd ≤ 3 := ⟨(1 + f / 48 % 2).toNat, by omega, by omega, by omega⟩
  obtain ⟨lg, ll, lp⟩ := leavesM_good ns 1 kd cn
  have lne : leavesM ns 1 kd cn ≠ [] := fun e => by
    have := lp (by omega)
    rw [e] at this
    cases this
  refine' wss_set (x := .dc (dKv (leavesM ns 1 kd cn))) ?e1 EV3 ?e2 ?e3 ?e4 ?e5 ?e6 ?e7
  case e1 => assumption
  case e2 =>
    refine' ev_call F2 hr (by omega) (xs := [.d (.list (ns.map .int)), .d (.int ((1 : Nat) : Int)), .d (.int (cn : Int)), .d (.int (kd : Int))]) ?x2 (rLeaves_mk (by omega) hkd3) rfl rfl (by decide +kernel) rfl rfl
    rw [← hcn, ← hkd]
    wtm_at "g_ea"
  case e3 => exact rfl
  case e4 => first | exact Or.inl rfl | exact Or.inr rfl
  case e5 => exact rfl
  case e6 => first | exact Or.inl rfl | exact Or.inr rfl
  case e7 =>
  intro v4 H4 sm4 d4
  generalize leavesM ns 1 kd cn = kvs at *
  have EV4 := (EV3.mono sm4).set 4 d4
  have sm04 := ((sm1.trans sm2).trans sm3).trans sm4
  have ll6 : kvs.length ≤ 6 := by omega
  -- another one
  refine ⟨_, pss_cons (ps_set sc_law.nd (i := 5) rfl (by first | exact Or.inl rfl | exact Or.inr rfl) (pe_callS (E := fun _ => E0) (e := .Name "_law_modulus_here" _) SF (hr.mono (by omega)) rfl sg1 sg2 sb (fun σ pins H s e s' I c => passL pins σ H s e s' I c) (pa_cons pe_w (pa_cons pe_w (pa_cons pe_w pa_nil))))) pss_w, ?_⟩
  refine (show Ev _ _ [some (.d (.list (ns.map .int))), some (.d (.int f)), some (.d (.int m)), some (.sl m), some (.dc (dKv kvs)), none, none, none, none, none, none, none, none, none, none, none, none, none] (.d (.int m)) by wtm_at "g_ev") _ H4 _ EV4 fun v5 H5 sm5 d5 => ?_
  refine (show Ev _ _ [some (.d (.list (ns.map .int))), some (.d (.int f)), some (.d (.int m)), some (.sl m), some (.dc (dKv kvs)), none, none, none, none, none, none, none, none, none, none, none, none, none] (.dc (dKv kvs)) by wtm_at "g_ev") _ H5 _ (EV4.mono sm5) fun v6 H6 sm6 d6 => ?_
  refine (show Ev _ _ [some (.d (.list (ns.map .int))), some (.d (.int f)), some (.d (.int m)), some (.sl m), some (.dc (dKv kvs)), none, none, none, none, none, none, none, none, none, none, none, none, none] (.d (.int (f / 96))) by wtm_at "g_ev") _ H6 _ ((EV4.mono sm5).mono sm6) fun v7 H7 sm7 d7 => ?_
  have d5 : Dp K H5 v5 (.int m) := d5
  have d7 : Dp K H7 v7 (.int (f / 96)) := d7
  cases d5
  cases d7
  have EV7 := ((EV4.mono sm5).mono sm6).mono sm7
  refine ⟨m, kd, kvs, f / 96, v6, rfl, d6.mono sm7, hmd, hkd1, hkd3, lg, lne, ll6, by omega, fun H8 sm8 => ?_, fun kvs' v8 H8 sok sm8 d8 => ?_⟩
  · refine wss_if (b := true) (by wtm_at "g_vt") ((EV7.mono sm8).set 5 (v := .non) (x := .d .none) Dp.non) (fun _ H9 sm9 => ?_) (fun hb => by cases hb)
    refine wss_ret (x := .d (.bool true)) (((EV7.mono sm8).set 5 (v := .non) (x := .d .none) Dp.non).mono sm9) (by wtm_at "g_ev") (fun v H10 sm10 d10 => ?_)
    have d10 : Dp K H10 v (.bool true) := d10
    cases d10
    exact q _
  have EV8 := (EV7.mono sm8).set 5 d8
  have g' := sok.good
  have n' := sok.ne
  have l7' := sok.len
  refine wss_if (b := false) (vt_cm (by wtm_at "g_ev") (by wtm_at "g_ev") cd_isN_dc rfl) EV8 (fun hb => by cases hb) (fun _ H9 sm9 => ?_)
  have EV9 := EV8.mono sm9
  -- the two whole trees
  have hnd : ((dKv kvs).map (·.1)).Nodup := by rw [dKv_fst]; exact lg.nd
  have hl1 : (dKv kvs).length ≤ 1000 := by unfold dKv; rw [List.length_map]; omega
  have hnd' : ((dKv kvs').map (·.1)).Nodup := by rw [dKv_fst]; exact g'.nd
  have hl1' : (dKv kvs').length ≤ 1000 := by unfold dKv; rw [List.length_map]; omega
  refine' wss_set (x := .d (dTr (treeA kvs))) ?f1 EV9 ?f2 ?f3 ?f4 ?f5 ?f6 ?f7
  case f1 => assumption
  case f3 => exact rfl
  case f4 => first | exact Or.inl rfl | exact Or.inr rfl
  case f5 => exact rfl
  case f6 => first | exact Or.inl rfl | exact Or.inr rfl
  case f2 =>
    refine' ev_call F4 hr (by omega) (xs := [.d (.list ((kvs.map (·.2)).map dL))]) (ea_cons ?x3 ea_nil rfl) (rBuilt_mk (lg.good lne) (by rw [List.length_map]; omega) (by rw [List.length_map]; omega)) rfl rfl (by decide +kernel) rfl rfl
    rw [← dKv_snd]
    exact (evf_vals (di := 4) (xi := 16) xk hu rfl (by exact (show 16 < 18 by decide)) (by decide) hnd hl1 (blkOk_by (by kernel_rfl)) (pv 4) (fun _ _ _ _ _ => pg_name (i := 16) sc_law.nd rfl (by first | exact Or.inl rfl | exact Or.inr rfl)) (fun _ _ _ _ _ => pv 4) (fun _ _ _ _ _ => pv 16) (fun _ => rfl) (nosl _ _)).ev
  case f7 =>
  intro v10 H10 sm10 d10
  have EV10 := (EV9.mono sm10).set 6 d10
  refine' wss_set (x := .d (dTr (treeA kvs'))) ?g1 EV10 ?g2 ?g3 ?g4 ?g5 ?g6 ?g7
  case g1 => assumption
  case g3 => exact rfl
  case g4 => first | exact Or.inl rfl | exact Or.inr rfl
  case g5 => exact rfl
  case g6 => first | exact Or.inl rfl | exact Or.inr rfl
  case g2 =>
    refine' ev_call F4 hr (by omega) (xs := [.d (.list ((kvs'.map (·.2)).map dL))]) (ea_cons ?x4 ea_nil rfl) (rBuilt_mk (g'.good n') (by rw [List.length_map]; omega) (by rw [List.length_map]; omega)) rfl rfl (by decide +kernel) rfl rfl
    rw [← dKv_snd]
    exact (evf_vals (di := 5) (xi := 16) xk hu rfl (by exact (show 16 < 18 by decide)) (by decide) hnd' hl1' (blkOk_by (by kernel_rfl)) (pv 5) (fun _ _ _ _ _ => pg_name (i := 16) sc_law.nd rfl (by first | exact Or.inl rfl | exact Or.inr rfl)) (fun _ _ _ _ _ => pv 5) (fun _ _ _ _ _ => pv 16) (fun _ => rfl) (nosl _ _)).ev
  case g7 =>
  intro v11 H11 sm11 d11
  have sa := treeA_sp (m := m) lg lne
  have sb' := treeA_sp (m := m) g' n'
  have da : depth (treeA kvs) ≤ 7 := by have := sa.dp; rw [List.length_map] at this; omega
  have db : depth (treeA kvs') ≤ 7 := by have := sb'.dp; rw [List.length_map] at this; omega
  have EV11 : Env K H11 _ [some (.d (.list (ns.map .int))), none, some (.d (.int m)), some (.sl m), none, none, some (.d (dTr (treeA kvs))), some (.d (dTr (treeA kvs'))), none, none, none, none, none, none, none, none, none, none] := Wkr.env (by wtm_at "g_wk") ((EV10.mono sm11).set 7 d11)
  -- the first is cut
  refine ⟨_, pss_cons (ps_set sc_law.nd (i := 8) rfl (by first | exact Or.inl rfl | exact Or.inr rfl) (pe_callS (E := fun _ => E0) (e := .Name "_law_modulus_here" _) CF (hr.mono (by omega)) rfl cg1 cg2 cb (fun σ pins H s e s' I c => passL pins σ H s e s' I c) (pa_cons pe_w (pa_cons pe_w (pa_cons pe_w pa_nil))))) pss_w, ?_⟩
  refine (show Ev _ _ [some (.d (.list (ns.map .int))), none, some (.d (.int m)), some (.sl m), none, none, some (.d (dTr (treeA kvs))), some (.d (dTr (treeA kvs'))), none, none, none, none, none, none, none, none, none, none] (.d (.int m)) by wtm_at "g_ev") _ H11 _ EV11 fun v12 H12 sm12 d12 => ?_
  refine (show Ev _ _ [some (.d (.list (ns.map .int))), none, some (.d (.int m)), some (.sl m), none, none, some (.d (dTr (treeA kvs))), some (.d (dTr (treeA kvs'))), none, none, none, none, none, none, none, none, none, none] (.d (dTr (treeA kvs))) by wtm_at "g_ev") _ H12 _ (EV11.mono sm12) fun v13 H13 sm13 d13 => ?_
  refine (show EvF _ _ [some (.d (.list (ns.map .int))), none, some (.d (.int m)), some (.sl m), none, none, some (.d (dTr (treeA kvs))), some (.d (dTr (treeA kvs'))), none, none, none, none, none, none, none, none, none, none] ((List.range (cellsN ns 10 20).length).map fun (i : Nat) => .int ((((cellsN ns 10 20).getD i 0).natAbs : Nat) / 3)) by
    refine' evf_lcm (n := (cellsN ns 10 20).length) ?uy1 ?uy2 ?uy3 ?uy4 ?uy5 ?uy6 ?uy7 ?uy8 ?uy9
    case uy1 => exact rfl
    case uy2 => assumption
    case uy3 => exact blkOk_by (by kernel_rfl)
    case uy6 => intro _ _ _ _ _; refine pg_name ?und rfl ?ulc <;> first | exact Or.inl rfl | exact Or.inr rfl | (have z := XOk.nd (by assumption); exact z)
    case uy9 => intro _; rfl
    case uy4 =>
      refine' EvI.is (evi_d (d := .list ((cellsN ns 10 20).map .int)) ?uz rfl) ?un ?uf
      case uz =>
        refine Ev.is (ev_slL (ds := ns.map .int) (a := 10) (b := 20) (by wtm_at "g_ev") (by exact ev_int) (by exact ev_int)) ?_
        rw [cells_map]
      case un => exact List.length_map _
      case uf => rfl
    case uy5 => exact Nat.le_trans (cells_len _ _ _) (by decide)
    case uy8 => exact fun _ _ => rfl
    case uy7 =>
      intro s H C' cl fp i hi
      have ef : itF (.list ((cellsN ns 10 20).map .int)) i = .int ((cellsN ns 10 20).getD i 0) := by
        show ((cellsN ns 10 20).map PyData.int).getD i .none = _
        simp [List.getD, hi]
      rw [ef]
      wtm_at "g_ev") _ H13 _ ((EV11.mono sm12).mono sm13) fun p1 xs1 H14 sm14 hp1 hl14 da1 => ?_
  have d12 : Dp K H12 v12 (.int m) := d12
  cases d12
  have ex1 : ((List.range (cellsN ns 10 20).length).map fun (i : Nat) => PyData.int ((((cellsN ns 10 20).getD i 0).natAbs : Nat) / 3)) = ((List.range (cellsN ns 10 20).length).map fun (i : Nat) => ((((cellsN ns 10 20).getD i 0).natAbs : Nat) : Int) / 3).map PyData.int := by
    rw [List.map_map]
    rfl
  rw [ex1] at da1
  have hx1 := dpAll_ints da1
  subst hx1
  refine ⟨m, kd, treeA kvs, v13, p1, _, rfl, dp_mono sm14 _ _ d13, hl14, hmd, sa.wf.ok, hkd3, da, by rw [List.length_map, List.length_range]; exact Nat.le_trans (cells_len _ _ _) (by decide), fun c1 n1 v14 H15 hc1 sb15 _ _ dv14 => ?_⟩
  have sm1115 : Same H11 H15 := same_cut (sm12.trans sm13) hp1 sm14 sb15
  have EV15 := (EV11.mono sm1115).set 8 (v := v14) (x := .d (dTr c1)) dv14
  -- the second
  refine ⟨_, pss_cons (ps_set sc_law.nd (i := 9) rfl (by first | exact Or.inl rfl | exact Or.inr rfl) (pe_callS (E := fun _ => E0) (e := .Name "_law_modulus_here" _) CF (hr.mono (by omega)) rfl cg1 cg2 cb (fun σ pins H s e s' I c => passL pins σ H s e s' I c) (pa_cons pe_w (pa_cons pe_w (pa_cons pe_w pa_nil))))) pss_w, ?_⟩
  refine (show Ev _ _ [some (.d (.list (ns.map .int))), none, some (.d (.int m)), some (.sl m), none, none, some (.d (dTr (treeA kvs))), some (.d (dTr (treeA kvs'))), some (.d (dTr c1)), none, none, none, none, none, none, none, none, none] (.d (.int m)) by wtm_at "g_ev") _ H15 _ EV15 fun v16 H16 sm16 d16 => ?_
  refine (show Ev _ _ [some (.d (.list (ns.map .int))), none, some (.d (.int m)), some (.sl m), none, none, some (.d (dTr (treeA kvs))), some (.d (dTr (treeA kvs'))), some (.d (dTr c1)), none, none, none, none, none, none, none, none, none] (.d (dTr (treeA kvs'))) by wtm_at "g_ev") _ H16 _ (EV15.mono sm16) fun v17 H17 sm17 d17 => ?_
  refine (show EvF _ _ [some (.d (.list (ns.map .int))), none, some (.d (.int m)), some (.sl m), none, none, some (.d (dTr (treeA kvs))), some (.d (dTr (treeA kvs'))), some (.d (dTr c1)), none, none, none, none, none, none, none, none, none] ((List.range (cellsN ns 20 30).length).map fun (i : Nat) => .int ((((cellsN ns 20 30).getD i 0).natAbs : Nat) / 3)) by
    refine' evf_lcm (n := (cellsN ns 20 30).length) ?ty1 ?ty2 ?ty3 ?ty4 ?ty5 ?ty6 ?ty7 ?ty8 ?ty9
    case ty1 => exact rfl
    case ty2 => assumption
    case ty3 => exact blkOk_by (by kernel_rfl)
    case ty6 => intro _ _ _ _ _; refine pg_name ?tnd rfl ?tlc <;> first | exact Or.inl rfl | exact Or.inr rfl | (have z := XOk.nd (by assumption); exact z)
    case ty9 => intro _; rfl
    case ty4 =>
      refine' EvI.is (evi_d (d := .list ((cellsN ns 20 30).map .int)) ?tz rfl) ?tn ?tf
      case tz =>
        refine Ev.is (ev_slL (ds := ns.map .int) (a := 20) (b := 30) (by wtm_at "g_ev") (by exact ev_int) (by exact ev_int)) ?_
        rw [cells_map]
      case tn => exact List.length_map _
      case tf => rfl
    case ty5 => exact Nat.le_trans (cells_len _ _ _) (by decide)
    case ty8 => exact fun _ _ => rfl
    case ty7 =>
      intro s H C' cl fp i hi
      have ef : itF (.list ((cellsN ns 20 30).map .int)) i = .int ((cellsN ns 20 30).getD i 0) := by
        show ((cellsN ns 20 30).map PyData.int).getD i .none = _
        simp [List.getD, hi]
      rw [ef]
      wtm_at "g_ev") _ H17 _ ((EV15.mono sm16).mono sm17) fun p2 xs2 H18 sm18 hp2 hl18 da2 => ?_
  have d16 : Dp K H16 v16 (.int m) := d16
  cases d16
  have ex2 : ((List.range (cellsN ns 20 30).length).map fun (i : Nat) => PyData.int ((((cellsN ns 20 30).getD i 0).natAbs : Nat) / 3)) = ((List.range (cellsN ns 20 30).length).map fun (i : Nat) => ((((cellsN ns 20 30).getD i 0).natAbs : Nat) : Int) / 3).map PyData.int := by
    rw [List.map_map]
    rfl
  rw [ex2] at da2
  have hx2 := dpAll_ints da2
  subst hx2
  refine ⟨m, kd, treeA kvs', v17, p2, _, rfl, dp_mono sm18 _ _ d17, hl18, hmd, sb'.wf.ok, hkd3, db, by rw [List.length_map, List.length_range]; exact Nat.le_trans (cells_len _ _ _) (by decide), fun c2 n2 v18 H19 hc2 sb19 _ _ dv18 => ?_⟩
  have sm1519 : Same H15 H19 := same_cut (sm16.trans sm17) hp2 sm18 sb19
  have EV19 := (EV15.mono sm1519).set 9 (v := v18) (x := .d (dTr c2)) dv18
  have L := lwok_mk hmd hkd1 hkd3 lg lne (by omega) sok hc1 hc2
  refine wss_bs (rest L) tk EV19 fun v H20 sm20 d20 => ?_
  have d20 : Dp K H20 v (.bool true) := d20
  cases d20
  exact q _
end
end Sg
namespace Sg
open PySem PySem.Spec PyProof.Rows L2
/-- a law whose defs may raise: nothing leaves the law itself -/
theorem law_end {l : PySem.W.OpenLaw} {n k : Nat} {q : Program} {loose : List Str} {XP : (Str → Option Value) → Heap → Prop} {YP : World → Heap → Prop} {d : DefRec} {x : Str} (hn : l.most = some n) (hn2 : n ≤ sizeLine) (hdf : d.params.defaults = []) (hr : Room k callerA)
    (F : ∀ (w : World) (mg : Str → Option Value) (fa : Addr) (h : Heap), YP w h → h.Ns mainGlobals mg → mg d.name = some (.ref fa) → ∃ (K : PySem.W.Frag) (fd : FuncData), K.In h ∧ (∀ (s : Shared) (u : Value), BindsTo s fd ⟨[u], []⟩ [(x, u)]) ∧ ∀ base : Heap, K.In base → base.Ns mainGlobals mg → FnOk l.prog w K mg base (L2.CX l.prog w) k fa fd [x] (spLaw K)) :
    PySem.W.WalkO q loose XP YP l.row.toRowW d [] (fun f vs => PySem.call f vs) := by
  refine Att.attach_call hn hdf fun w s0 s1 mg mb fa o pm cd doc a vs ns G Y ho hd hcd hmg hobj hints hlen hg => ?_
  rcases F w mg fa _ Y G.T.g hmg with ⟨K, fd, KX, hb, hF⟩
  exact law_call (sp := spLaw K) KX G.T.g G.T.b G.T.builtins G.T.nolimit hg hobj hints (Nat.le_trans hlen hn2) hr hF hb (fun H _ hS => ⟨a, ns, rfl, hS, fun _ => rfl⟩) fun H e s' h => by
    obtain ⟨_, _, _, _, _, _, _, _, _, _, _, _, z⟩ := h
    exact z
theorem law_at {w : World} {K : PySem.W.Frag} {h : Heap} {mg : Str → Option Value} {f : Addr} (X : K.In h) (G : h.Ns mainGlobals mg) (hf : mg ("law" : Str) = some (.ref f)) (c : obsS K = valS) :
    ∃ fd : FuncData, (∀ (s : Shared) (u : Value), BindsTo s fd ⟨[u], []⟩ [("_law_script", u)]) ∧ ∀ base : Heap, K.In base → base.Ns mainGlobals mg → FnOk PP w K mg base (L2.CX PP w) 27 f fd ["_law_script"] (spLaw K) := by
  have C := wd_of X G (says_D c)
  obtain ⟨fd, F⟩ := C.defs 61 (mkD "law" s_law) rfl
  have e : some (Value.ref f) = some (Value.ref (He.ga K "law")) := hf.symm.trans (C.glo _ (by decide +kernel))
  cases e
  have b := FunD.bindsA (ps := ["_law_script"]) F fun _ _ _ _ _ _ us hl => match us, hl with | [_], _ => rfl
  exact ⟨fd, fun s v => b s [v] rfl, fun base _ _ => ok_law C (we_of C c) F⟩
end Sg
open PySem PySem.W PySem.Calls PyProof.Rows
theorem PySem.Challenge.cw_sumgrove_k11_whole_two_answers_hand_out_holds : PySem.Challenge.rw_sumgrove_k11_whole_two_answers_hand_out.Holds := by
  refine Sg.head_on (Sg.law_end (l := PySem.Challenge.rw_sumgrove_k11_whole_two_answers_hand_out) (n := 63) (k := 27) (x := "_law_script") rfl (by decide) (by kernel_rfl) ⟨rfl, by decide, by decide⟩ ?F)
  rintro w mg f h ⟨K, KX, c⟩ G hmg0
  have hmg : mg ("law" : PySem.Str) = some (.ref f) := by
    have e : (HandSHeadRun.topDef Sg.R.prog 97).name = ("law" : PySem.Str) := by kernel_rfl
    exact e ▸ hmg0
  rcases Sg.law_at (w := w) KX G hmg c with ⟨fd, hb, hF⟩
  exact ⟨K, fd, KX, hb, hF⟩
