import PyProof.Rows.All
import Wide.All
import OpenK.AllK
import Wide.FinOn
import PySem.Challenge.RW_everybasis_k00_families_and_bases
import HandS.ForMost
import HandS.WideBits
import HandS.Wide
import HandS.Exc
import HandS.ExcOwn
import HandS.TryOnly
import HandS.WordsExc
import HandS.IsInst
import HandS.SortInts
import HandS.DictComp
import HandS.TupAny
import HandS.Conv
import HandS.Codes
import HandS.Style
import HandS.SetFor
import HandS.ExcCtx
import HandS.ExcIs
import HandS.HotCalls
import HandS.Zip
import HandS.More
import HandS.WordsDict
import HandS.Flow
import HandS.TupLe
import HandS.TupMul
set_option Elab.async false
set_option linter.all false
set_option maxRecDepth 100000
/-! TL: Python values as trees (PyData), judgements about syntax that speak of trees alone. -/
namespace TL
open PySem PySem.Spec
open L2 hiding Dp DpAll
open PyProof.Rows hiding St

abbrev D := PyData

/-! ### universal readings -/
def Wp (X : Cx) (e : Expr) : TE := fun σ H Q => ∃ t, PE X e t ∧ t σ H Q
theorem wp (X : Cx) (e : Expr) : PE X e (Wp X e) := ⟨fun pins s σ H Q I ⟨_, ht, q⟩ => ht.run pins s σ H Q I q⟩
def Wt (X : Cx) (e : Expr) : TT := fun σ H Q => ∃ t, PT X e t ∧ t σ H Q
theorem wt (X : Cx) (e : Expr) : PT X e (Wt X e) := ⟨fun pins s σ H Q I ⟨_, ht, q⟩ => ht.run pins s σ H Q I q⟩
def Ww (X : Cx) (e : Expr) : TT := fun σ H Q => ∃ t, PW X e t ∧ t σ H Q
theorem ww (X : Cx) (e : Expr) : PW X e (Ww X e) := ⟨fun wh pins s σ H Q I ⟨_, ht, q⟩ => ht.run wh pins s σ H Q I q⟩
def Wa (X : Cx) (es : List Expr) : TA := fun σ H Q => ∃ t, PA X es t ∧ t σ H Q
theorem wa (X : Cx) (es : List Expr) : PA X es (Wa X es) := ⟨fun pos pins s σ H Q I ⟨_, ht, q⟩ => ht.run pos pins s σ H Q I q⟩
def Ws (X : Cx) (ss : List Stmt) : TS := fun Z σ H => ∃ t, PSs X ss t ∧ t Z σ H
theorem ws (X : Cx) (ss : List Stmt) : PSs X ss (Ws X ss) := ⟨fun pins s σ H Z I ⟨_, ht, q⟩ => ht.run pins s σ H Z I q⟩
def Wb (X : Cx) (ss : Stmt) : TS := fun Z σ H => ∃ t, PS X ss t ∧ t Z σ H
theorem wb (X : Cx) (ss : Stmt) : PS X ss (Wb X ss) := ⟨fun pins s σ H Z I ⟨_, ht, q⟩ => ht.run pins s σ H Z I q⟩

/-! ### trees in heaps -/
theorem same_t {K : PySem.W.Frag} {H H' : Hp} {a : Addr} {xs : List V} (e : Same H H') (h : SqT K H a xs) : SqT K H' a xs := by
  rcases h with (h | ⟨o, h⟩) | h
  · exact .inl (.inl (e _ _ h))
  · exact .inl (.inr ⟨o, e _ _ h⟩)
  · exact .inr h
/-- a key as data -/
def kd : Key → D
  | .inl i => .int i
  | .inr z => .str z
mutual
inductive Dp (K : PySem.W.Frag) (H : Hp) : V → D → Prop
  | non : Dp K H .non .none
  | bl (b : Bool) : Dp K H (.bl b) (.bool b)
  | int (i : Int) : Dp K H (.int i) (.int i)
  | str (x : Str) : Dp K H (.str x) (.str x)
  | lst {a : Addr} {xs : List V} {ds : List D} : H a = some (.lst xs) → DpAll K H xs ds → Dp K H (.ref a) (.list ds)
  | scr {a : Addr} {xs : List V} {ds : List D} : SqL K H a xs → DpAll K H xs ds → Dp K H (.ref a) (.dict [(.none, .list ds)])
  | tup {a : Addr} {xs : List V} {ds : List D} : SqT K H a xs → DpAll K H xs ds → Dp K H (.ref a) (.tuple ds)
  | dic {a : Addr} {ws : List (Key × V)} {kvs : List (D × D)} : H a = some (.dK ws) → DpKv K H ws kvs → Dp K H (.ref a) (.dict kvs)
  | adr (a : Addr) : Dp K H (.ref a) (.dict [(.list [], .int a)])
inductive DpAll (K : PySem.W.Frag) (H : Hp) : List V → List D → Prop
  | nil : DpAll K H [] []
  | cons {v : V} {vs : List V} {d : D} {ds : List D} : Dp K H v d → DpAll K H vs ds → DpAll K H (v :: vs) (d :: ds)
inductive DpKv (K : PySem.W.Frag) (H : Hp) : List (Key × V) → List (D × D) → Prop
  | nil : DpKv K H [] []
  | cons {k : Key} {v : V} {ws : List (Key × V)} {d : D} {kvs : List (D × D)} : Dp K H v d → DpKv K H ws kvs → DpKv K H ((k, v) :: ws) ((kd k, d) :: kvs)
end
mutual
theorem dp_mono' {K : PySem.W.Frag} {F G : Hp} (e : Same F G) : ∀ {d : D} {x : V}, Dp K F x d → Dp K G x d
  | _, _, .non => .non
  | _, _, .bl b => .bl b
  | _, _, .int i => .int i
  | _, _, .str s => .str s
  | _, _, .lst q r => .lst (e _ _ q) (dps_mono' e r)
  | _, _, .scr q r => .scr (e.seq q) (dps_mono' e r)
  | _, _, .tup q r => .tup (same_t e q) (dps_mono' e r)
  | _, _, .dic q r => .dic (e _ _ q) (dpk_mono' e r)
  | _, _, .adr a => .adr a
theorem dps_mono' {K : PySem.W.Frag} {F G : Hp} (e : Same F G) : ∀ {ds : List D} {xs : List V}, DpAll K F xs ds → DpAll K G xs ds
  | _, _, .nil => .nil
  | _, _, .cons q r => .cons (dp_mono' e q) (dps_mono' e r)
theorem dpk_mono' {K : PySem.W.Frag} {F G : Hp} (e : Same F G) : ∀ {ds : List (D × D)} {xs : List (Key × V)}, DpKv K F xs ds → DpKv K G xs ds
  | _, _, .nil => .nil
  | _, _, .cons q r => .cons (dp_mono' e q) (dpk_mono' e r)
end
theorem dp_mono {K : PySem.W.Frag} {F G : Hp} (e : Same F G) (d : D) (x : V) (h : Dp K F x d) : Dp K G x d := dp_mono' e h
theorem dps_mono {K : PySem.W.Frag} {F G : Hp} (e : Same F G) (ds : List D) (xs : List V) (h : DpAll K F xs ds) : DpAll K G xs ds := dps_mono' e h
/-- without dicts it is the layer's own data -/
inductive NoDict : D → Prop
  | non : NoDict .none
  | bl (b : Bool) : NoDict (.bool b)
  | int (i : Int) : NoDict (.int i)
  | str (x : Str) : NoDict (.str x)
  | lst {ds : List D} : (∀ d ∈ ds, NoDict d) → NoDict (.list ds)
  | tup {ds : List D} : (∀ d ∈ ds, NoDict d) → NoDict (.tuple ds)
mutual
theorem Dp.l2 {K : PySem.W.Frag} {F : Hp} : ∀ {d : D} {x : V}, Dp K F x d → NoDict d → L2.Dp K F x d
  | _, _, .non, _ => .non
  | _, _, .bl b, _ => .bl b
  | _, _, .int i, _ => .int i
  | _, _, .str s, _ => .str s
  | _, _, .lst q r, n => .lst (.of q) (DpAll.l2 r (by cases n; assumption))
  | _, _, .scr q r, n => by cases n
  | _, _, .tup q r, n => .tup q (DpAll.l2 r (by cases n; assumption))
  | _, _, .dic q r, n => by cases n
  | _, _, .adr a, n => by cases n
theorem DpAll.l2 {K : PySem.W.Frag} {F : Hp} : ∀ {ds : List D} {xs : List V}, DpAll K F xs ds → (∀ d ∈ ds, NoDict d) → L2.DpAll K F xs ds
  | _, _, .nil, _ => .nil
  | _, _, .cons q r, n => .cons (q.l2 (n _ (by simp))) (r.l2 fun d hd => n d (by simp [hd]))
end
theorem dps_len {K : PySem.W.Frag} {F : Hp} : ∀ {ds : List D} {xs : List V}, DpAll K F xs ds → xs.length = ds.length
  | [], _, h => by cases h; rfl
  | d :: ds, _, h => by
    cases h with
    | cons q r => simp [dps_len r]
theorem dps_get {K : PySem.W.Frag} {F : Hp} : ∀ {ds : List D} {xs : List V}, DpAll K F xs ds → ∀ (i : Nat) (x : V), xs[i]? = some x → ∃ d, ds[i]? = some d ∧ Dp K F x d
  | [], _, h, i, x, e => by cases h; simp at e
  | d :: ds, _, h, i, x, e => by
    cases h with
    | cons q r =>
      cases i with
      | zero => simp at e; subst e; exact ⟨d, rfl, q⟩
      | succ i => exact dps_get r i x (by simpa using e)
theorem dps_get' {K : PySem.W.Frag} {F : Hp} : ∀ {ds : List D} {xs : List V}, DpAll K F xs ds → ∀ (i : Nat) (d : D), ds[i]? = some d → ∃ x, xs[i]? = some x ∧ Dp K F x d
  | [], _, h, i, d, e => by simp at e
  | d :: ds, _, h, i, d', e => by
    cases h with
    | cons q r =>
      cases i with
      | zero => simp at e; subst e; exact ⟨_, rfl, q⟩
      | succ i => exact dps_get' r i d' (by simpa using e)
theorem dps_app {K : PySem.W.Frag} {F : Hp} : ∀ {ds es : List D} {xs ys : List V}, DpAll K F xs ds → DpAll K F ys es → DpAll K F (xs ++ ys) (ds ++ es)
  | [], _, _, _, h, g => by cases h; exact g
  | d :: ds, _, _, _, h, g => by
    cases h with
    | cons q r => exact .cons q (dps_app r g)
theorem dps_rev {K : PySem.W.Frag} {F : Hp} : ∀ {ds : List D} {xs : List V}, DpAll K F xs ds → DpAll K F xs.reverse ds.reverse
  | [], _, h => by cases h; exact .nil
  | d :: ds, _, h => by
    cases h with
    | cons q r => rw [List.reverse_cons, List.reverse_cons]; exact dps_app (dps_rev r) (.cons q .nil)
theorem dps_take {K : PySem.W.Frag} {F : Hp} : ∀ (n : Nat) {ds : List D} {xs : List V}, DpAll K F xs ds → DpAll K F (xs.take n) (ds.take n)
  | 0, _, _, _ => .nil
  | n + 1, [], _, h => by cases h; exact .nil
  | n + 1, d :: ds, _, h => by
    cases h with
    | cons q r => exact .cons q (dps_take n r)
theorem dps_drop {K : PySem.W.Frag} {F : Hp} : ∀ (n : Nat) {ds : List D} {xs : List V}, DpAll K F xs ds → DpAll K F (xs.drop n) (ds.drop n)
  | 0, _, _, h => h
  | n + 1, [], _, h => by cases h; exact .nil
  | n + 1, d :: ds, _, h => by
    cases h with
    | cons q r => exact dps_drop n r
theorem dps_set {K : PySem.W.Frag} {F : Hp} : ∀ (n : Nat) {ds : List D} {xs : List V} {d : D} {x : V}, DpAll K F xs ds → Dp K F x d → DpAll K F (xs.set n x) (ds.set n d)
  | _, [], _, _, _, h, _ => by cases h; exact .nil
  | 0, d :: ds, _, _, _, h, g => by
    cases h with
    | cons q r => exact .cons g r
  | n + 1, d :: ds, _, _, _, h, g => by
    cases h with
    | cons q r => exact .cons q (dps_set n r g)

/-! ### entries, environments -/
inductive Ct where
  | lst (ds : List D)
  | dic (kvs : List (D × D))
def Ct.toD : Ct → D
  | .lst ds => .list ds
  | .dic kvs => .dict kvs
def CtOk (K : PySem.W.Frag) (F : Hp) : HO → Ct → Prop
  | .lst vs, .lst ds => DpAll K F vs ds
  | .dK ws, .dic kvs => DpKv K F ws kvs
  | _, _ => False
theorem CtOk.mono {K : PySem.W.Frag} {F G : Hp} (e : Same F G) {o : HO} {c : Ct} (h : CtOk K F o c) : CtOk K G o c := by
  cases o <;> cases c <;> first | exact h.elim | exact dps_mono' e h | exact dpk_mono' e h
theorem CtOk.lst {K : PySem.W.Frag} {F : Hp} {o : HO} {ds : List D} (h : CtOk K F o (.lst ds)) : ∃ vs, o = .lst vs ∧ DpAll K F vs ds := by
  cases o <;> first | exact h.elim | exact ⟨_, rfl, h⟩
theorem CtOk.dic {K : PySem.W.Frag} {F : Hp} {o : HO} {kvs : List (D × D)} (h : CtOk K F o (.dic kvs)) : ∃ ws, o = .dK ws ∧ DpKv K F ws kvs := by
  cases o <;> first | exact h.elim | exact ⟨_, rfl, h⟩
inductive Ent where
  | no
  | v (d : D)
  | own (c : Ct)
def Ent.isOwn : Ent → Bool
  | .own _ => true
  | _ => false

structure Ctx where
  X : Cx
  H0 : Hp
  B0 : Hp
  mu : List Addr
  gh : List (V × D)
  xw : WX

def Own (Γ : List Ent) (σ : St) (a : Addr) : Prop := ∃ (i : Nat) (e : Ent), Γ[i]? = some e ∧ e.isOwn = true ∧ σ[i]? = some (some (.ref a))
open Classical in
noncomputable def bas (C : Ctx) (O : Addr → Prop) (H : Hp) : Hp := fun b => if O b then none else if (C.H0 b).isSome then C.B0 b else H b
theorem bas_eq {C : Ctx} {O : Addr → Prop} {H : Hp} {b : Addr} (n : ¬ O b) : bas C O H b = if (C.H0 b).isSome then C.B0 b else H b := by unfold bas; rw [if_neg n]
theorem bas_some {C : Ctx} {O : Addr → Prop} {H : Hp} {b : Addr} {o : HO} (h : bas C O H b = some o) : ¬ O b ∧ (if (C.H0 b).isSome then C.B0 b else H b) = some o := by
  unfold bas at h
  by_cases q : O b
  · rw [if_pos q] at h; cases h
  · rw [if_neg q] at h; exact ⟨q, h⟩

def EntOk (K : PySem.W.Frag) (F H : Hp) : Ent → Option V → Prop
  | .no, _ => True
  | .v d, o => ∃ x, o = some x ∧ Dp K F x d
  | .own c, o => ∃ a ho, o = some (.ref a) ∧ H a = some ho ∧ CtOk K F ho c

structure EnvOk (C : Ctx) (Γ : List Ent) (σ : St) (H : Hp) : Prop where
  ents : ∀ (i : Nat) (e : Ent), Γ[i]? = some e → ∃ o, σ[i]? = some o ∧ EntOk C.X.K (bas C (Own Γ σ) H) H e o
  nd : ∀ (i j : Nat) (a : Addr) (e f : Ent), Γ[i]? = some e → e.isOwn = true → σ[i]? = some (some (.ref a)) → Γ[j]? = some f → f.isOwn = true → σ[j]? = some (some (.ref a)) → i = j
  new : ∀ a, Own Γ σ a → C.H0 a = none ∨ a ∈ C.mu
  keep : ∀ b o, C.H0 b = some o → b ∉ C.mu → H b = some o
  base : Same C.B0 C.H0
  mu0 : ∀ a ∈ C.mu, C.B0 a = none
  tape : C.mu = [] ∨ ∃ a ds, C.mu = [a] ∧ σ[0]? = some (some (.ref a)) ∧ Γ[0]? = some (.own (.lst ds))
  ghs : ∀ p ∈ C.gh, Dp C.X.K (bas C (Own Γ σ) H) p.1 p.2

def Keep (O : Addr → Prop) (H H' : Hp) : Prop := ∀ b o, ¬ O b → H b = some o → H' b = some o
theorem Keep.refl {O : Addr → Prop} {H : Hp} : Keep O H H := fun _ _ _ h => h
theorem Keep.trans {O : Addr → Prop} {H H1 H2 : Hp} (a : Keep O H H1) (b : Keep O H1 H2) : Keep O H H2 := fun c o n h => b c o n (a c o n h)
theorem Keep.same {O : Addr → Prop} {H H' : Hp} (a : Same H H') : Keep O H H' := fun c o _ h => a c o h

section
variable {C : Ctx} {Γ Γ' : List Ent} {σ : St} {H H' : Hp}
theorem bas_mono {O : Addr → Prop} (k : Keep O H H') : Same (bas C O H) (bas C O H') := fun b o h => by
  obtain ⟨n, h⟩ := bas_some h
  rw [bas_eq n]
  split
  · rename_i z; rw [if_pos z] at h; exact h
  · rename_i z; rw [if_neg z] at h; exact k b o n h
theorem bas_anti {O O' : Addr → Prop} (k : ∀ a, O' a → O a) : Same (bas C O H) (bas C O' H) := fun b o h => by
  obtain ⟨n, h⟩ := bas_some h
  rw [bas_eq (fun z => n (k b z))]
  exact h
theorem EnvOk.sub (ok : EnvOk C Γ σ H) {O : Addr → Prop} : Same (bas C O H) H := fun b o h => by
  obtain ⟨n, h⟩ := bas_some h
  split at h
  · have q := ok.base b o h
    exact ok.keep b o q (fun z => by rw [ok.mu0 b z] at h; cases h)
  · exact h
theorem EnvOk.ownAt (ok : EnvOk C Γ σ H) {a : Addr} (h : Own Γ σ a) : ∃ ho, H a = some ho := by
  obtain ⟨i, e, h1, h2, h3⟩ := h
  obtain ⟨o, e1, e2⟩ := ok.ents i e h1
  rw [h3] at e1
  cases e with
  | no => cases h2
  | v d => cases h2
  | own c =>
    obtain ⟨a', vs, e3, e4, _⟩ := e2
    have : some (V.ref a) = some (V.ref a') := (Option.some.inj e1).trans e3
    cases this
    exact ⟨vs, e4⟩
theorem EnvOk.mus (ok : EnvOk C Γ σ H) {a : Addr} (h : a ∈ C.mu) : Own Γ σ a := by
  rcases ok.tape with e | ⟨b, ds, e, h1, h2⟩
  · rw [e] at h; cases h
  · rw [e] at h
    have : a = b := by simpa using h
    subst this
    exact ⟨0, _, h2, rfl, h1⟩
theorem EnvOk.fresh (ok : EnvOk C Γ σ H) {p : Addr} (h : H p = none) : C.H0 p = none ∧ ¬ Own Γ σ p := by
  have n : ¬ Own Γ σ p := fun z => by
    obtain ⟨vs, q⟩ := ok.ownAt z
    rw [q] at h; cases h
  refine ⟨?_, n⟩
  cases q : C.H0 p with
  | none => rfl
  | some o =>
    have := ok.keep p o q (fun z => n (ok.mus z))
    rw [this] at h; cases h
theorem EnvOk.mono (ok : EnvOk C Γ σ H) (s : Same H H') : EnvOk C Γ σ H' := by
  refine ⟨fun i e h => ?_, ok.nd, ok.new, fun b o h1 h2 => s b o (ok.keep b o h1 h2), ok.base, ok.mu0, ok.tape, fun p hp => dp_mono (bas_mono (Keep.same s)) p.2 p.1 (ok.ghs p hp)⟩
  obtain ⟨o, e1, e2⟩ := ok.ents i e h
  refine ⟨o, e1, ?_⟩
  cases e with
  | no => trivial
  | v d =>
    obtain ⟨x, q, r⟩ := e2
    exact ⟨x, q, dp_mono (bas_mono (Keep.same s)) d x r⟩
  | own c =>
    obtain ⟨a, vs, q, r, t⟩ := e2
    exact ⟨a, vs, q, s _ _ r, t.mono (bas_mono (Keep.same s))⟩
end
end TL

namespace TL
open PySem PySem.Spec
open L2 hiding Dp DpAll
open PyProof.Rows hiding St

theorem get_set {α : Type} {l : List α} {i j : Nat} {x y : α} (h : (l.set i x)[j]? = some y) : (j = i ∧ i < l.length ∧ y = x) ∨ (j ≠ i ∧ l[j]? = some y) := by
  by_cases e : j = i
  · subst e
    by_cases hl : j < l.length
    · rw [List.getElem?_set_self hl] at h
      exact .inl ⟨rfl, hl, (Option.some.inj h).symm⟩
    · rw [List.getElem?_eq_none (by simp; omega)] at h; cases h
  · rw [List.getElem?_set_ne (Ne.symm e)] at h
    exact .inr ⟨e, h⟩

section
variable {C : Ctx} {Γ Γ' : List Ent} {σ : St} {H H' : Hp}

/-- slot 0 stays when there is a tape -/
def NoT (C : Ctx) (i : Nat) : Prop := C.mu = [] ∨ i ≠ 0

theorem own_set {i : Nat} {e : Ent} {o : Option V} {a : Addr} (h : Own (Γ.set i e) (σ.set i o) a) : (e.isOwn = true ∧ o = some (.ref a) ∧ i < Γ.length) ∨ (∃ (j : Nat) (f : Ent), j ≠ i ∧ Γ[j]? = some f ∧ f.isOwn = true ∧ σ[j]? = some (some (.ref a))) := by
  obtain ⟨j, f, h1, h2, h3⟩ := h
  rcases get_set h1 with ⟨e1, e2, e3⟩ | ⟨n, q⟩
  · rcases get_set h3 with ⟨_, _, e6⟩ | ⟨n, _⟩
    · exact .inl ⟨e3 ▸ h2, e6.symm, e2⟩
    · exact absurd e1 n
  · rcases get_set h3 with ⟨e4, _, _⟩ | ⟨_, q3⟩
    · exact absurd e4 n
    · exact .inr ⟨j, f, n, q, h2, q3⟩

/-- an entry that owns nothing is stored -/
theorem EnvOk.put (ok : EnvOk C Γ σ H) {i : Nat} {e : Ent} {o : Option V} (hi : i < Γ.length) (ht : NoT C i) (he : e.isOwn = false)
    (h : EntOk C.X.K (bas C (Own Γ σ) H) H e o) : EnvOk C (Γ.set i e) (σ.set i o) H := by
  have sub : ∀ a, Own (Γ.set i e) (σ.set i o) a → Own Γ σ a := fun a q => by
    rcases own_set q with ⟨z, _⟩ | ⟨j, f, _, q1, q2, q3⟩
    · rw [he] at z; cases z
    · exact ⟨j, f, q1, q2, q3⟩
  have hσ : i < σ.length := by
    obtain ⟨o', h1, _⟩ := ok.ents i Γ[i] (List.getElem?_eq_getElem hi)
    exact (List.getElem?_eq_some_iff.mp h1).1
  have bm := bas_anti (C := C) (H := H) sub
  refine ⟨fun j f hf => ?_, fun j k a f g h1 h2 h3 h4 h5 h6 => ?_, fun a q => ok.new a (sub a q), ok.keep, ok.base, ok.mu0, ?_, fun p hp => dp_mono bm p.2 p.1 (ok.ghs p hp)⟩
  · rcases get_set hf with ⟨e1, e2, e3⟩ | ⟨n, q⟩
    · subst e1; subst e3
      refine ⟨o, List.getElem?_set_self hσ, ?_⟩
      cases f with
      | no => trivial
      | v d => obtain ⟨x, r1, r2⟩ := h; exact ⟨x, r1, dp_mono bm d x r2⟩
      | own ds => cases he
    · obtain ⟨o', r1, r2⟩ := ok.ents j f q
      refine ⟨o', by rw [List.getElem?_set_ne (Ne.symm n)]; exact r1, ?_⟩
      cases f with
      | no => trivial
      | v d => obtain ⟨x, r1, r2⟩ := r2; exact ⟨x, r1, dp_mono bm d x r2⟩
      | own ds => obtain ⟨a, vs, r1, r3, r4⟩ := r2; exact ⟨a, vs, r1, r3, r4.mono bm⟩
  · rcases get_set h1 with ⟨_, _, e3⟩ | ⟨n, q⟩
    · rw [e3, he] at h2; cases h2
    · rcases get_set h4 with ⟨_, _, e3⟩ | ⟨n', q'⟩
      · rw [e3, he] at h5; cases h5
      · rw [List.getElem?_set_ne (Ne.symm n)] at h3
        rw [List.getElem?_set_ne (Ne.symm n')] at h6
        exact ok.nd j k a f g q h2 h3 q' h5 h6
  · rcases ok.tape with z | ⟨a, ds, z, q1, q2⟩
    · exact .inl z
    · rcases ht with y | y
      · exact .inl y
      · exact .inr ⟨a, ds, z, by rw [List.getElem?_set_ne y]; exact q1, by rw [List.getElem?_set_ne y]; exact q2⟩

def del (H : Hp) (p : Addr) : Hp := fun b => if b = p then none else H b
theorem del_same {H : Hp} {p : Addr} : del H p p = none := by unfold del; rw [if_pos rfl]
theorem del_ne {H : Hp} {p b : Addr} (n : b ≠ p) : del H p b = H b := by unfold del; rw [if_neg n]
theorem del_sub {H : Hp} {p : Addr} : Same (del H p) H := fun b o h => by
  unfold del at h
  by_cases e : b = p
  · rw [if_pos e] at h; cases h
  · rw [if_neg e] at h; exact h
theorem del_upd {H : Hp} {p : Addr} {o : HO} (h : H p = none) : del (upd H p o) p = H := by
  funext b
  by_cases e : b = p
  · subst e; rw [del_same, h]
  · rw [del_ne e, upd_ne e]
theorem same_new {H : Hp} {p : Addr} {o : HO} (h : H p = none) : Same H (upd H p o) := fun b u e => by
  rw [upd_ne (ne_of_none e h)]; exact e

/-- a new list is stored, owned -/
theorem EnvOk.putOwn {p : Addr} (ok : EnvOk C Γ σ (del H p)) {i : Nat} {ds : Ct} {vs : HO} (hi : i < Γ.length) (ht : NoT C i) (hp : H p = some vs)
    (h : CtOk C.X.K (bas C (Own Γ σ) (del H p)) vs ds) : EnvOk C (Γ.set i (.own ds)) (σ.set i (some (.ref p))) H := by
  obtain ⟨p0, pn⟩ := ok.fresh (del_same (H := H) (p := p))
  have sub : ∀ a, Own (Γ.set i (.own ds)) (σ.set i (some (.ref p))) a → a = p ∨ Own Γ σ a := fun a q => by
    rcases own_set q with ⟨_, z, _⟩ | ⟨j, f, _, q1, q2, q3⟩
    · cases z; exact .inl rfl
    · exact .inr ⟨j, f, q1, q2, q3⟩
  have hσ : i < σ.length := by
    obtain ⟨o', h1, _⟩ := ok.ents i Γ[i] (List.getElem?_eq_getElem hi)
    exact (List.getElem?_eq_some_iff.mp h1).1
  have bm : Same (bas C (Own Γ σ) (del H p)) (bas C (Own (Γ.set i (.own ds)) (σ.set i (some (.ref p)))) H) := fun b o q => by
    obtain ⟨n, q⟩ := bas_some q
    have nb : b ≠ p := fun z => by
      subst z
      rw [p0] at q
      simp [del_same] at q
    rw [bas_eq (fun z => (sub b z).elim nb n)]
    split
    · rename_i z; rw [if_pos z] at q; exact q
    · rename_i z; rw [if_neg z, del_ne nb] at q; exact q
  refine ⟨fun j f hf => ?_, fun j k a f g h1 h2 h3 h4 h5 h6 => ?_, fun a q => ?_, fun b o h1 h2 => del_sub b o (ok.keep b o h1 h2), ok.base, ok.mu0, ?_, fun p hp => dp_mono bm p.2 p.1 (ok.ghs p hp)⟩
  · rcases get_set hf with ⟨e1, e2, e3⟩ | ⟨n, q⟩
    · subst e1; subst e3
      exact ⟨_, List.getElem?_set_self hσ, p, vs, rfl, hp, h.mono bm⟩
    · obtain ⟨o', r1, r2⟩ := ok.ents j f q
      refine ⟨o', by rw [List.getElem?_set_ne (Ne.symm n)]; exact r1, ?_⟩
      cases f with
      | no => trivial
      | v d => obtain ⟨x, r1, r2⟩ := r2; exact ⟨x, r1, dp_mono bm d x r2⟩
      | own es => obtain ⟨a, vs, r1, r3, r4⟩ := r2; exact ⟨a, vs, r1, del_sub _ _ r3, r4.mono bm⟩
  · have np : ∀ (j : Nat) (f : Ent), j ≠ i → Γ[j]? = some f → f.isOwn = true → (σ.set i (some (V.ref p)))[j]? = some (some (V.ref a)) → σ[j]? = some (some (V.ref a)) ∧ a ≠ p := fun j f n q z w => by
      rw [List.getElem?_set_ne (Ne.symm n)] at w
      exact ⟨w, fun y => by subst y; exact pn ⟨j, f, q, z, w⟩⟩
    rcases get_set h1 with ⟨e1, _, _⟩ | ⟨n, q⟩
    · rcases get_set h4 with ⟨e2, _, _⟩ | ⟨n', q'⟩
      · rw [e1, e2]
      · subst e1
        rw [List.getElem?_set_self hσ] at h3
        cases h3
        exact absurd rfl (np k g n' q' h5 h6).2
    · rcases get_set h4 with ⟨e2, _, _⟩ | ⟨n', q'⟩
      · subst e2
        rw [List.getElem?_set_self hσ] at h6
        cases h6
        exact absurd rfl (np j f n q h2 h3).2
      · exact ok.nd j k a f g q h2 (np j f n q h2 h3).1 q' h5 (np k g n' q' h5 h6).1
  · rcases sub a q with e | q
    · subst e; exact .inl p0
    · exact ok.new a q
  · rcases ok.tape with z | ⟨a, es, z, q1, q2⟩
    · exact .inl z
    · rcases ht with y | y
      · exact .inl y
      · exact .inr ⟨a, es, z, by rw [List.getElem?_set_ne y]; exact q1, by rw [List.getElem?_set_ne y]; exact q2⟩

/-- an owned list's content changes -/
theorem EnvOk.mut (ok : EnvOk C Γ σ H) {i : Nat} {ds es : Ct} {a : Addr} {vs : HO} (h1 : Γ[i]? = some (.own ds)) (h2 : σ[i]? = some (some (.ref a)))
    (h : CtOk C.X.K (bas C (Own Γ σ) H) vs es) (h0 : C.mu = [] ∨ i ≠ 0 ∨ ∃ ds, es = .lst ds) : EnvOk C (Γ.set i (.own es)) σ (upd H a vs) ∧ Keep (Own Γ σ) H (upd H a vs) ∧ (∀ b, Own (Γ.set i (.own es)) σ b ↔ Own Γ σ b) := by
  have oa : Own Γ σ a := ⟨i, _, h1, rfl, h2⟩
  have hi : i < Γ.length := (List.getElem?_eq_some_iff.mp h1).1
  have iff : ∀ b, Own (Γ.set i (.own es)) σ b ↔ Own Γ σ b := fun b => by
    constructor
    · rintro ⟨j, f, q1, q2, q3⟩
      rcases get_set q1 with ⟨e1, _, _⟩ | ⟨n, q⟩
      · subst e1; exact ⟨j, _, h1, rfl, q3⟩
      · exact ⟨j, f, q, q2, q3⟩
    · rintro ⟨j, f, q1, q2, q3⟩
      by_cases e : j = i
      · subst e; exact ⟨j, _, List.getElem?_set_self hi, rfl, q3⟩
      · exact ⟨j, f, by rw [List.getElem?_set_ne (Ne.symm e)]; exact q1, q2, q3⟩
  have kp : Keep (Own Γ σ) H (upd H a vs) := fun b o n q => by
    rw [upd_ne (fun z => n (by subst z; exact oa))]; exact q
  have bm : Same (bas C (Own Γ σ) H) (bas C (Own (Γ.set i (.own es)) σ) (upd H a vs)) := fun b o q => bas_anti (fun c => (iff c).mp) b o (bas_mono kp b o q)
  have inj : ∀ (j : Nat) (f : Ent), Γ[j]? = some f → f.isOwn = true → σ[j]? = some (some (.ref a)) → j = i := fun j f q1 q2 q3 => ok.nd j i a f _ q1 q2 q3 h1 rfl h2
  refine ⟨⟨fun j f hf => ?_, fun j k b f g q1 q2 q3 q4 q5 q6 => ?_, fun b q => ok.new b ((iff b).mp q), fun b o q1 q2 => kp b o (fun z => ?_) (ok.keep b o q1 q2), ok.base, ok.mu0, ?_, fun p hp => dp_mono bm p.2 p.1 (ok.ghs p hp)⟩, kp, iff⟩
  · rcases get_set hf with ⟨e1, e2, e3⟩ | ⟨n, q⟩
    · subst e1; subst e3
      exact ⟨_, h2, a, vs, rfl, upd_same, h.mono bm⟩
    · obtain ⟨o', r1, r2⟩ := ok.ents j f q
      refine ⟨o', r1, ?_⟩
      cases f with
      | no => trivial
      | v d => obtain ⟨x, r1, r2⟩ := r2; exact ⟨x, r1, dp_mono bm d x r2⟩
      | own es' =>
        obtain ⟨b, ws, r3, r4, r5⟩ := r2
        refine ⟨b, ws, r3, ?_, r5.mono bm⟩
        rw [upd_ne (fun z => n (inj j _ q rfl (by rw [r1, r3, z])))]
        exact r4
  · have back : ∀ (j : Nat) (f : Ent), (Γ.set i (.own es))[j]? = some f → f.isOwn = true → ∃ g, Γ[j]? = some g ∧ g.isOwn = true := fun j f z w => by
      rcases get_set z with ⟨e1, _, _⟩ | ⟨_, q⟩
      · subst e1; exact ⟨_, h1, rfl⟩
      · exact ⟨f, q, w⟩
    obtain ⟨f', z1, z2⟩ := back j f q1 q2
    obtain ⟨g', w1, w2⟩ := back k g q4 q5
    exact ok.nd j k b f' g' z1 z2 q3 w1 w2 q6
  · rcases ok.new b z with e | e
    · rw [e] at q1; cases q1
    · exact q2 e
  · rcases ok.tape with z | ⟨b, ds', z, q1, q2⟩
    · exact .inl z
    · by_cases e : i = 0
      · subst e
        rcases h0 with w | w | ⟨es', w⟩
        · exact .inl w
        · exact absurd rfl w
        · subst w; exact .inr ⟨b, es', z, q1, List.getElem?_set_self hi⟩
      · exact .inr ⟨b, ds', z, q1, by rw [List.getElem?_set_ne e]; exact q2⟩

/-- an owned list becomes a value; a value is forgotten -/
theorem EnvOk.thaw (ok : EnvOk C Γ σ H) {i : Nat} {ds : Ct} (h1 : Γ[i]? = some (.own ds)) (ht : NoT C i) : EnvOk C (Γ.set i (.v ds.toD)) σ H := by
  obtain ⟨o, q1, a, vs, q2, q3, q4⟩ := ok.ents i _ h1
  subst q2
  have hi : i < Γ.length := (List.getElem?_eq_some_iff.mp h1).1
  have oa : Own Γ σ a := ⟨i, _, h1, rfl, q1⟩
  have inj : ∀ (j : Nat) (f : Ent), Γ[j]? = some f → f.isOwn = true → σ[j]? = some (some (.ref a)) → j = i := fun j f z1 z2 z3 => ok.nd j i a f _ z1 z2 z3 h1 rfl q1
  have sub : ∀ b, Own (Γ.set i (.v ds.toD)) σ b → Own Γ σ b ∧ b ≠ a := fun b ⟨j, f, z1, z2, z3⟩ => by
    rcases get_set z1 with ⟨e1, _, e3⟩ | ⟨n, q⟩
    · subst e3; cases z2
    · exact ⟨⟨j, f, q, z2, z3⟩, fun y => n (inj j f q z2 (y ▸ z3))⟩
  have bm := bas_anti (C := C) (H := H) fun b z => (sub b z).1
  have na : ¬ Own (Γ.set i (.v ds.toD)) σ a := fun z => (sub a z).2 rfl
  have a0 : C.H0 a = none := by
    rcases ok.new a oa with e | e
    · exact e
    · rcases ok.tape with z | ⟨b, ds', z, w1, w2⟩
      · rw [z] at e; cases e
      · rw [z] at e
        have : a = b := by simpa using e
        subst this
        have := inj 0 _ w2 rfl w1
        rcases ht with y | y
        · rw [y] at z; cases z
        · exact absurd this.symm y
  refine ⟨fun j f hf => ?_, fun j k b f g z1 z2 z3 z4 z5 z6 => ?_, fun b z => ok.new b (sub b z).1, ok.keep, ok.base, ok.mu0, ?_, fun p hp => dp_mono bm p.2 p.1 (ok.ghs p hp)⟩
  · rcases get_set hf with ⟨e1, e2, e3⟩ | ⟨n, q⟩
    · subst e1; subst e3
      refine ⟨_, q1, _, rfl, ?_⟩
      have q3' : bas C (Own (Γ.set j (.v ds.toD)) σ) H a = some vs := by
        rw [bas_eq na, a0]
        exact q3
      cases ds with
      | lst es => obtain ⟨us, e5, e6⟩ := q4.lst; subst e5; exact .lst q3' (dps_mono bm _ _ e6)
      | dic es => obtain ⟨us, e5, e6⟩ := q4.dic; subst e5; exact .dic q3' (dpk_mono' bm e6)
    · obtain ⟨o', r1, r2⟩ := ok.ents j f q
      refine ⟨o', r1, ?_⟩
      cases f with
      | no => trivial
      | v d => obtain ⟨x, r1, r2⟩ := r2; exact ⟨x, r1, dp_mono bm d x r2⟩
      | own es => obtain ⟨b, ws, r3, r4, r5⟩ := r2; exact ⟨b, ws, r3, r4, r5.mono bm⟩
  · rcases get_set z1 with ⟨_, _, e3⟩ | ⟨n, q⟩
    · subst e3; cases z2
    · rcases get_set z4 with ⟨_, _, e3⟩ | ⟨n', q'⟩
      · subst e3; cases z5
      · exact ok.nd j k b f g q z2 z3 q' z5 z6
  · rcases ok.tape with z | ⟨b, ds', z, w1, w2⟩
    · exact .inl z
    · rcases ht with y | y
      · exact .inl y
      · exact .inr ⟨b, ds', z, w1, by rw [List.getElem?_set_ne y]; exact w2⟩

/-- weaker: entry by entry the same, or nothing -/
def Wk : List Ent → List Ent → Prop
  | [], [] => True
  | e :: Γ, f :: Γ' => (f = e ∨ f = .no) ∧ Wk Γ Γ'
  | _, _ => False
theorem Wk.get : ∀ {Γ Γ' : List Ent}, Wk Γ Γ' → ∀ (i : Nat) (f : Ent), Γ'[i]? = some f → ∃ e, Γ[i]? = some e ∧ (f = e ∨ f = .no)
  | [], [], _, i, f, h => by simp at h
  | e :: Γ, f :: Γ', ⟨h1, h2⟩, i, g, h => by
    cases i with
    | zero => simp at h; subst h; exact ⟨e, rfl, h1⟩
    | succ i => exact Wk.get h2 i g (by simpa using h)
  | [], _ :: _, h, _, _, _ => h.elim
  | _ :: _, [], h, _, _, _ => h.elim
theorem Wk.refl : ∀ Γ : List Ent, Wk Γ Γ
  | [] => trivial
  | _ :: Γ => ⟨.inl rfl, Wk.refl Γ⟩
theorem EnvOk.weak (ok : EnvOk C Γ σ H) (w : Wk Γ Γ') (ht : C.mu = [] ∨ Γ'[0]? = Γ[0]?) : EnvOk C Γ' σ H := by
  have up : ∀ (i : Nat) (f : Ent), Γ'[i]? = some f → f.isOwn = true → Γ[i]? = some f := fun i f h1 h2 => by
    obtain ⟨e, q, r⟩ := w.get i f h1
    rcases r with r | r
    · subst r; exact q
    · subst r; cases h2
  have sub : ∀ a, Own Γ' σ a → Own Γ σ a := fun a ⟨i, f, h1, h2, h3⟩ => ⟨i, f, up i f h1 h2, h2, h3⟩
  have bm := bas_anti (C := C) (H := H) sub
  refine ⟨fun j f hf => ?_, fun j k b f g z1 z2 z3 z4 z5 z6 => ok.nd j k b f g (up j f z1 z2) z2 z3 (up k g z4 z5) z5 z6, fun b z => ok.new b (sub b z), ok.keep, ok.base, ok.mu0, ?_, fun p hp => dp_mono bm p.2 p.1 (ok.ghs p hp)⟩
  · obtain ⟨e, q, r⟩ := w.get j f hf
    obtain ⟨o', r1, r2⟩ := ok.ents j e q
    refine ⟨o', r1, ?_⟩
    rcases r with r | r
    · subst r
      cases f with
      | no => trivial
      | v d => obtain ⟨x, r1, r2⟩ := r2; exact ⟨x, r1, dp_mono bm d x r2⟩
      | own es => obtain ⟨b, ws, r3, r4, r5⟩ := r2; exact ⟨b, ws, r3, r4, r5.mono bm⟩
    · subst r; trivial
  · rcases ok.tape with z | ⟨b, ds', z, w1, w2⟩
    · exact .inl z
    · rcases ht with y | y
      · exact .inl y
      · exact .inr ⟨b, ds', z, w1, by rw [y]; exact w2⟩
end
end TL

namespace TL
open PySem PySem.Spec
open L2 hiding Dp DpAll
open PyProof.Rows hiding St

/-! ### shapes, results -/
def Sh (Γ Γ' : List Ent) : Prop := ∀ i : Nat, (Γ'[i]?).map Ent.isOwn = (Γ[i]?).map Ent.isOwn
theorem Sh.refl {Γ : List Ent} : Sh Γ Γ := fun _ => rfl
theorem Sh.trans {Γ Γ1 Γ2 : List Ent} (a : Sh Γ Γ1) (b : Sh Γ1 Γ2) : Sh Γ Γ2 := fun i => (b i).trans (a i)
theorem Sh.own {Γ Γ' : List Ent} {σ : St} (s : Sh Γ Γ') : Own Γ' σ = Own Γ σ := by
  funext a
  refine propext ⟨fun ⟨i, e, h1, h2, h3⟩ => ?_, fun ⟨i, e, h1, h2, h3⟩ => ?_⟩
  · have q := s i
    rw [h1] at q
    cases w : Γ[i]? with
    | none => rw [w] at q; cases q
    | some f => rw [w] at q; exact ⟨i, f, w, by have := Option.some.inj q; rw [← this]; exact h2, h3⟩
  · have q := s i
    rw [h1] at q
    cases w : Γ'[i]? with
    | none => rw [w] at q; cases q
    | some f => rw [w] at q; exact ⟨i, f, w, by have := Option.some.inj q; rw [this]; exact h2, h3⟩
theorem Sh.set {Γ : List Ent} {i : Nat} {ds es : Ct} (h : Γ[i]? = some (.own ds)) : Sh Γ (Γ.set i (.own es)) := fun j => by
  by_cases e : j = i
  · subst e; rw [List.getElem?_set_self (List.getElem?_eq_some_iff.mp h).1, h]; rfl
  · rw [List.getElem?_set_ne (Ne.symm e)]

/-- what is built of F and what is new -/
def Gr (F H H' : Hp) : Hp := fun b => if (H b).isSome then F b else H' b
theorem gr_same {F H H' : Hp} (s : Same F H) : Same F (Gr F H H') := fun b o h => by
  unfold Gr; rw [s b o h]; exact h
theorem gr_new {F H H' : Hp} {p : Addr} (h : H p = none) : Gr F H H' p = H' p := by unfold Gr; rw [h]; rfl
theorem gr_to {F H H' G : Hp} (s : Same F G) (n : ∀ b o, H b = none → H' b = some o → G b = some o) : Same (Gr F H H') G := fun b o h => by
  unfold Gr at h
  cases q : H b with
  | none => rw [q] at h; exact n b o q h
  | some u => rw [q] at h; exact s b o h
def Gv (K : PySem.W.Frag) (F H : Hp) (d : D) (Q : VK) : Prop := ∀ z H', Same H H' → Dp K (Gr F H H') z d → Q z H'
/-- a new list is given -/
def GvL (K : PySem.W.Frag) (F H : Hp) (ds : List D) (Q : VK) : Prop := ∀ p vs H', H p = none → Same H H' → H' p = some (.lst vs) → DpAll K (del (Gr F H H') p) vs ds → Q (.ref p) H'
theorem GvL.gv {K : PySem.W.Frag} {F H : Hp} {ds : List D} {Q : VK} (g : Gv K F H (.list ds) Q) : GvL K F H ds Q := fun p vs H' n s h a =>
  g (.ref p) H' s (.lst (by rw [gr_new n]; exact h) (dps_mono del_sub ds vs a))

/-- kinds of answers -/
abbrev Rel := PySem.W.Frag → Hp → Hp → V → Prop
def rD (d : D) : Rel := fun K F _ x => Dp K F x d
def LsOf (K : PySem.W.Frag) (F H : Hp) (x : V) (ds : List D) : Prop := ∃ a vs, x = .ref a ∧ H a = some (.lst vs) ∧ DpAll K F vs ds
def rL (ds : List D) : Rel := fun K F H x => LsOf K F H x ds
def TpOf (K : PySem.W.Frag) (F H : Hp) (x : V) (ds : List D) : Prop := ∃ a vs, x = .ref a ∧ SqT K H a vs ∧ DpAll K F vs ds
theorem ls_of {K : PySem.W.Frag} {F H : Hp} {x : V} {ds : List D} (s : Same F H) (h : Dp K F x (.list ds)) : LsOf K F H x ds := by
  cases h with
  | lst q r => exact ⟨_, _, rfl, s _ _ q, r⟩
theorem tp_of {K : PySem.W.Frag} {F H : Hp} {x : V} {ds : List D} (s : Same F H) (h : Dp K F x (.tuple ds)) : TpOf K F H x ds := by
  cases h with
  | tup q r => exact ⟨_, _, rfl, same_t s q, r⟩

/-! ### judgements -/
def J (C : Ctx) (e : Expr) (Γ : List Ent) (A : Rel) (Γ' : List Ent) : Prop := Sh Γ Γ' ∧ ∀ (σ : St) (H : Hp) (Q : VK), EnvOk C Γ σ H →
  (∀ x H', Keep (Own Γ σ) H H' → EnvOk C Γ' σ H' → A C.X.K (bas C (Own Γ σ) H') H' x → Q x H') → Wp C.X e σ H Q
abbrev E (C : Ctx) (e : Expr) (Γ : List Ent) (d : D) (Γ' : List Ent) : Prop := J C e Γ (rD d) Γ'
abbrev R (C : Ctx) (e : Expr) (Γ : List Ent) (ds : List D) (Γ' : List Ent) : Prop := J C e Γ (rL ds) Γ'
/-- a new list -/
def EL (C : Ctx) (e : Expr) (Γ : List Ent) (ds : List D) (Γ' : List Ent) : Prop := Sh Γ Γ' ∧ ∀ (σ : St) (H : Hp) (Q : VK), EnvOk C Γ σ H →
  (∀ p vs H', H p = none → Keep (Own Γ σ) H H' → H' p = some (.lst vs) → EnvOk C Γ' σ (del H' p) → DpAll C.X.K (bas C (Own Γ σ) (del H' p)) vs ds → Q (.ref p) H') → Wp C.X e σ H Q
def T (C : Ctx) (e : Expr) (Γ : List Ent) (b : Bool) (Γ' : List Ent) : Prop := Sh Γ Γ' ∧ ∀ (σ : St) (H : Hp) (Q : Bool → Hp → Prop), EnvOk C Γ σ H →
  (∀ H', Keep (Own Γ σ) H H' → EnvOk C Γ' σ H' → Q b H') → Wt C.X e σ H Q
def TW (C : Ctx) (e : Expr) (Γ : List Ent) (b : Bool) (Γ' : List Ent) : Prop := Sh Γ Γ' ∧ ∀ (σ : St) (H : Hp) (Q : Bool → Hp → Prop), EnvOk C Γ σ H →
  (∀ H', Keep (Own Γ σ) H H' → EnvOk C Γ' σ H' → Q b H') → Ww C.X e σ H Q
def EA (C : Ctx) (es : List Expr) (Γ : List Ent) (ds : List D) (Γ' : List Ent) : Prop := Sh Γ Γ' ∧ ∀ (σ : St) (H : Hp) (Q : List V → Hp → Prop), EnvOk C Γ σ H →
  (∀ xs H', Keep (Own Γ σ) H H' → EnvOk C Γ' σ H' → DpAll C.X.K (bas C (Own Γ σ) H') xs ds → Q xs H') → Wa C.X es σ H Q

section
variable {C : Ctx} {Γ Γ1 Γ2 Γ3 : List Ent} {σ : St} {H H' : Hp} {a b c e : Expr} {es : List Expr} {d dx dy dz : D} {ds : List D} {pos : Pos}

/-- from an operation's gift to the continuation -/
theorem gv_of {Q : VK} (ok : EnvOk C Γ σ H) (k : ∀ x H', Keep (Own Γ σ) H H' → EnvOk C Γ σ H' → Dp C.X.K (bas C (Own Γ σ) H') x d → Q x H') : Gv C.X.K (bas C (Own Γ σ) H) H d Q := fun z H' s q => by
  refine k z H' (.same s) (ok.mono s) (dp_mono (gr_to (bas_mono (.same s)) fun b o n h => ?_) d z q)
  obtain ⟨h0, n1⟩ := ok.fresh n
  rw [bas_eq n1, h0]; exact h
theorem gvl_of {Q : VK} (ok : EnvOk C Γ σ H) (k : ∀ p vs H', H p = none → Keep (Own Γ σ) H H' → H' p = some (.lst vs) → EnvOk C Γ σ (del H' p) → DpAll C.X.K (bas C (Own Γ σ) (del H' p)) vs ds → Q (.ref p) H') :
    GvL C.X.K (bas C (Own Γ σ) H) H ds Q := fun p vs H' n s h q => by
  have sd : Same H (del H' p) := fun b o e => by rw [del_ne (ne_of_none e n)]; exact s b o e
  refine k p vs H' n (.same s) h (ok.mono sd) (dps_mono (fun b o q => ?_) ds vs q)
  by_cases e : b = p
  · subst e; rw [del_same] at q; cases q
  · rw [del_ne e] at q
    unfold Gr at q
    cases w : H b with
    | none =>
      rw [w] at q
      obtain ⟨h0, n1⟩ := ok.fresh w
      rw [bas_eq n1, h0, del_ne e]; exact q
    | some u =>
      rw [w] at q
      exact bas_mono (.same sd) b o q

/-- an answer stays behind what keeps all but the owned -/
theorem dp_keep {O : Addr → Prop} (k : Keep O H H') {x : V} (h : Dp C.X.K (bas C O H) x d) : Dp C.X.K (bas C O H') x d := dp_mono (bas_mono k) d x h
theorem dps_keep {O : Addr → Prop} (k : Keep O H H') {xs : List V} (h : DpAll C.X.K (bas C O H) xs ds) : DpAll C.X.K (bas C O H') xs ds := dps_mono (bas_mono k) ds xs h

/-! ### names, constants -/
theorem e_var (i : Nat) {x : Str} (h : Γ[i]? = some (.v d)) (hN : C.X.N[i]? = some x := by rfl) (hv : Vis C.X.env.scope x := by first | exact Or.inl rfl | exact Or.inr (Or.inl rfl) | exact Or.inr (Or.inr rfl))
    (hd : (x == ("__debug__" : Str)) = false := by decide) (hcd : (x == ("__classdict__" : Str)) = false := by decide) : E C (.Name x pos) Γ d Γ := by
  refine ⟨.refl, fun σ H Q ok k => ⟨_, pe_var (i := i) hN hv hd hcd, ?_⟩⟩
  obtain ⟨o, q, x, e, r⟩ := ok.ents i _ h
  subst e
  exact ⟨x, q, k x H .refl ok r⟩
/-- an owned list, read -/
theorem r_var (i : Nat) {x : Str} (h : Γ[i]? = some (.own (.lst ds))) (hN : C.X.N[i]? = some x := by rfl) (hv : Vis C.X.env.scope x := by first | exact Or.inl rfl | exact Or.inr (Or.inl rfl) | exact Or.inr (Or.inr rfl))
    (hd : (x == ("__debug__" : Str)) = false := by decide) (hcd : (x == ("__classdict__" : Str)) = false := by decide) : R C (.Name x pos) Γ ds Γ := by
  refine ⟨.refl, fun σ H Q ok k => ⟨_, pe_var (i := i) hN hv hd hcd, ?_⟩⟩
  obtain ⟨o, q, a, vs, e, r, t⟩ := ok.ents i _ h
  subst e
  obtain ⟨us, e2, t2⟩ := t.lst
  subst e2
  exact ⟨_, q, k _ H .refl ok ⟨a, us, rfl, r, t2⟩⟩
theorem e_int {i : Int} {j : Nat} : E C (.Constant (.int i) j pos) Γ (.int i) Γ := ⟨.refl, fun σ H Q ok k => ⟨_, pe_int, k _ H .refl ok (.int i)⟩⟩
theorem e_bl {b : Bool} {j : Nat} : E C (.Constant (.bool b) j pos) Γ (.bool b) Γ := ⟨.refl, fun σ H Q ok k => ⟨_, pe_bl, k _ H .refl ok (.bl b)⟩⟩
theorem e_str {x : Str} {j : Nat} : E C (.Constant (.str x) j pos) Γ (.str x) Γ := ⟨.refl, fun σ H Q ok k => ⟨_, pe_str, k _ H .refl ok (.str x)⟩⟩
theorem e_non {j : Nat} : E C (.Constant .none j pos) Γ .none Γ := ⟨.refl, fun σ H Q ok k => ⟨_, pe_non, k _ H .refl ok .non⟩⟩
/-- a constant of the module: a written value -/
theorem e_glob {x : Str} {v : V} {u : Value} (hg : Gl C.X x) (hm : C.X.mg x = some u) (r : RelV v u) (hd : ∀ F, Dp C.X.K F v d) (hb : (x == ("__debug__" : Str)) = false := by decide) : E C (.Name x pos) Γ d Γ :=
  ⟨.refl, fun σ H Q ok k => ⟨_, pe_glob hg hm r hb, k _ H .refl ok (hd _)⟩⟩

/-! ### from one judgement to another -/
theorem r_e (h : E C e Γ (.list ds) Γ1) : R C e Γ ds Γ1 := ⟨h.1, fun σ H Q ok k => h.2 σ H Q ok fun x H' k1 ok1 q => k x H' k1 ok1 (ls_of (EnvOk.sub ok1) q)⟩
theorem e_el (h : EL C e Γ ds Γ1) : E C e Γ (.list ds) Γ1 := ⟨h.1, fun σ H Q ok k => h.2 σ H Q ok fun p vs H' n k1 e1 ok1 q => by
  obtain ⟨h0, n1⟩ := ok1.fresh (del_same (H := H') (p := p))
  rw [h.1.own] at n1
  refine k (.ref p) H' k1 (ok1.mono del_sub) (.lst ?_ (dps_mono (bas_mono (.same del_sub)) ds vs q))
  rw [bas_eq n1, h0]; exact e1⟩
theorem r_el (h : EL C e Γ ds Γ1) : R C e Γ ds Γ1 := r_e (e_el h)
theorem J.imp {A B : Rel} (h : J C e Γ A Γ1) (f : ∀ F H x, A C.X.K F H x → B C.X.K F H x) : J C e Γ B Γ1 := ⟨h.1, fun σ H Q ok k => h.2 σ H Q ok fun x H' k1 ok1 q => k x H' k1 ok1 (f _ _ _ q)⟩

/-! ### operators -/
def Op2 (K : PySem.W.Frag) (r : R2) (dx dy dz : D) : Prop := ∀ F H x y Q, Same F H → Dp K F x dx → Dp K F y dy → Gv K F H dz Q → r x y H Q
/-- the second operand a list or tuple that is read -/
def Op2B (K : PySem.W.Frag) (r : R2) (dx : D) (B : Rel) (dz : D) : Prop := ∀ F H x y Q, Same F H → Dp K F x dx → B K F H y → Gv K F H dz Q → r x y H Q
theorem op2b {K : PySem.W.Frag} {r : R2} (h : Op2 K r dx dy dz) : Op2B K r dx (rD dy) dz := h
theorem bin_run {r : R2} {B : Rel} (hr : Op2B C.X.K r dx B dz) (ha : E C a Γ dx Γ1) (hb : J C b Γ1 B Γ2) (ok : EnvOk C Γ σ H) {Q : VK}
    (k : ∀ x H', Keep (Own Γ σ) H H' → EnvOk C Γ2 σ H' → Dp C.X.K (bas C (Own Γ σ) H') x dz → Q x H') : Wp C.X a σ H fun x H1 => Wp C.X b σ H1 fun y H2 => r x y H2 Q := by
  refine ha.2 σ H _ ok fun x H1 k1 ok1 q1 => hb.2 σ H1 _ ok1 fun y H2 k2 ok2 q2 => ?_
  have e1 : Own Γ1 σ = Own Γ σ := ha.1.own
  have e2 : Own Γ2 σ = Own Γ1 σ := hb.1.own
  rw [e1] at k2 q2
  refine hr (bas C (Own Γ σ) H2) H2 x y Q ok2.sub (dp_keep k2 q1) q2 ?_
  have g := gv_of (d := dz) (Q := Q) ok2 (by
    rw [e2, e1]
    exact fun x H' k3 ok3 q3 => k x H' ((k1.trans k2).trans k3) ok3 q3)
  rw [e2, e1] at g
  exact g
theorem e_op {op : Operator} {r : R2} {B : Rel} (ho : OpR C.X (binaryOp op) r) (hr : Op2B C.X.K r dx B dz) (ha : E C a Γ dx Γ1) (hb : J C b Γ1 B Γ2) : E C (.BinOp a op b pos) Γ dz Γ2 :=
  ⟨ha.1.trans hb.1, fun σ H Q ok k => ⟨_, pe_op ho (wp _ a) (wp _ b), bin_run hr ha hb ok k⟩⟩
theorem e_cmp {op : CmpOp} {r : R2} {B : Rel} (ho : OpR C.X (compareOp op) r) (hm : behindInMarks op b = false) (hr : Op2B C.X.K r dx B dz) (ha : E C a Γ dx Γ1) (hb : J C b Γ1 B Γ2) : E C (.Compare a [op] [b] pos) Γ dz Γ2 :=
  ⟨ha.1.trans hb.1, fun σ H Q ok k => ⟨_, pe_cmpR ho (wp _ a) (wp _ b) hm, bin_run hr ha hb ok k⟩⟩
theorem t_cmp {op : CmpOp} {r : R2} {B : Rel} {k : Bool} (ho : OpR C.X (compareOp op) r) (hm : behindInMarks op b = false) (hr : Op2B C.X.K r dx B (.bool k)) (ha : E C a Γ dx Γ1) (hb : J C b Γ1 B Γ2) : T C (.Compare a [op] [b] pos) Γ k Γ2 :=
  ⟨ha.1.trans hb.1, fun σ H Q ok kk => ⟨_, pt_cmpR ho (wp _ a) (wp _ b) hm, bin_run hr ha hb ok fun x H' k1 ok1 q => by
    cases q
    exact ⟨k, rfl, kk H' k1 ok1⟩⟩⟩
def Op1 (K : PySem.W.Frag) (r : V → Hp → VK → Prop) (A : Rel) (dz : D) : Prop := ∀ F H x Q, Same F H → A K F H x → Gv K F H dz Q → r x H Q
theorem un_run {r : V → Hp → VK → Prop} {A : Rel} (hr : Op1 C.X.K r A dz) (ha : J C a Γ A Γ1) (ok : EnvOk C Γ σ H) {Q : VK}
    (k : ∀ x H', Keep (Own Γ σ) H H' → EnvOk C Γ1 σ H' → Dp C.X.K (bas C (Own Γ σ) H') x dz → Q x H') : Wp C.X a σ H fun x H1 => r x H1 Q := by
  refine ha.2 σ H _ ok fun x H1 k1 ok1 q1 => ?_
  have e1 : Own Γ1 σ = Own Γ σ := ha.1.own
  refine hr (bas C (Own Γ σ) H1) H1 x Q ok1.sub q1 ?_
  have g := gv_of (d := dz) (Q := Q) ok1 (by
    rw [e1]
    exact fun x H' k3 ok3 q3 => k x H' (k1.trans k3) ok3 q3)
  rw [e1] at g
  exact g
theorem e_un {op : UnaryOp} {r : V → Hp → VK → Prop} {A : Rel} (ho : UnR C.X (unaryOp op) r) (hr : Op1 C.X.K r A dz) (ha : J C a Γ A Γ1) : E C (.UnaryOp op a pos) Γ dz Γ1 :=
  ⟨ha.1, fun σ H Q ok k => ⟨_, pe_un ho (wp _ a), un_run hr ha ok k⟩⟩

/-! ### arguments, displays -/
theorem ea_nil : EA C [] Γ [] Γ := ⟨.refl, fun σ H Q ok k => ⟨_, pa_nil, k [] H .refl ok .nil⟩⟩
theorem ea_cons (ha : E C e Γ d Γ1) (hr : EA C es Γ1 ds Γ2) (hs : starEach (e :: es) C.X.env = (false, eval e C.X.env) :: starEach es C.X.env := by rfl) : EA C (e :: es) Γ (d :: ds) Γ2 :=
  ⟨ha.1.trans hr.1, fun σ H Q ok k => ⟨_, pa_cons (wp _ e) (wa _ es) hs, ha.2 σ H _ ok fun x H1 k1 ok1 q1 => hr.2 σ H1 _ ok1 fun xs H2 k2 ok2 q2 => by
    rw [ha.1.own] at k2 q2
    exact k (x :: xs) H2 (k1.trans k2) ok2 (.cons (dp_keep k2 q1) q2)⟩⟩
theorem e_tup {x1} (h : EA C es Γ ds Γ1) (hl : ds.length ≤ 1000 := by decide) : E C (.Tuple es x1 pos) Γ (.tuple ds) Γ1 :=
  ⟨h.1, fun σ H Q ok k => ⟨_, pe_tup (wa _ es), h.2 σ H _ ok fun xs H1 k1 ok1 q1 => ⟨by rw [dps_len q1]; exact Nat.le_trans hl (by decide), fun p hp => by
    have g := gv_of (d := .tuple ds) (Q := Q) ok1 (by
      rw [h.1.own]
      exact fun x H' k3 ok3 q3 => k x H' (k1.trans k3) ok3 q3)
    rw [h.1.own] at g
    exact g _ _ (same_new hp) (.tup (.of (by rw [gr_new hp]; exact upd_same)) (dps_mono (gr_same ok1.sub) ds xs q1))⟩⟩⟩
theorem el_lst (h : EA C es Γ ds Γ1) (hl : ds.length ≤ 1000 := by decide) : EL C (.List es pos) Γ ds Γ1 :=
  ⟨h.1, fun σ H Q ok k => ⟨_, pe_lst (wa _ es), h.2 σ H _ ok fun xs H1 k1 ok1 q1 => ⟨by rw [dps_len q1]; exact Nat.le_trans hl (by decide), fun p hp => by
    have hn : H p = none := by
      cases w : H p with
      | none => rfl
      | some o =>
        by_cases n : Own Γ σ p
        · obtain ⟨vs, w2⟩ := ok1.ownAt (h.1.own ▸ n : Own Γ1 σ p)
          rw [w2] at hp; cases hp
        · rw [k1 p o n w] at hp; cases hp
    refine k p xs (upd H1 p (.lst xs)) hn (k1.trans (.same (same_new hp))) upd_same ?_ ?_
    · rw [del_upd hp]; exact ok1
    · rw [del_upd hp]; exact q1⟩⟩⟩

/-! ### and, or, not, if else -/
theorem e_one {op : BoolOp} (h : E C a Γ d Γ1) : E C (.BoolOp op [a] pos) Γ d Γ1 := ⟨h.1, fun σ H Q ok k => ⟨_, pe_one (wp _ a), h.2 σ H Q ok k⟩⟩
theorem e_and {k : Bool} {f : Bool → D} (ha : E C a Γ (.bool k) Γ1) (hb : k = true → E C (.BoolOp .And (b :: es) pos) Γ1 d Γ1) (hd : k = false → d = .bool false) : E C (.BoolOp .And (a :: b :: es) pos) Γ d Γ1 :=
  ⟨ha.1, fun σ H Q ok kk => ⟨_, pe_and (wp _ a) (wp _ _), ha.2 σ H _ ok fun x H1 k1 ok1 q1 => by
    cases q1
    refine ⟨k, rfl, ?_⟩
    cases k with
    | true =>
      refine iteT ((hb rfl).2 σ H1 Q ok1 fun x H2 k2 ok2 q2 => ?_)
      rw [ha.1.own] at k2 q2
      exact kk x H2 (k1.trans k2) ok2 q2
    | false =>
      refine iteF ?_
      refine kk _ H1 k1 ok1 ?_
      rw [hd rfl]; exact .bl false⟩⟩
theorem e_andB {k l : Bool} (ha : E C a Γ (.bool k) Γ1) (hb : k = true → E C (.BoolOp .And (b :: es) pos) Γ1 (.bool l) Γ1) : E C (.BoolOp .And (a :: b :: es) pos) Γ (.bool (k && l)) Γ1 :=
  e_and (f := .bool) ha (fun h => by subst h; exact hb rfl) (fun h => by subst h; rfl)
theorem e_orB {k l : Bool} (ha : E C a Γ (.bool k) Γ1) (hb : k = false → E C (.BoolOp .Or (b :: es) pos) Γ1 (.bool l) Γ1) : E C (.BoolOp .Or (a :: b :: es) pos) Γ (.bool (k || l)) Γ1 :=
  ⟨ha.1, fun σ H Q ok kk => ⟨_, pe_or (wp _ a) (wp _ _), ha.2 σ H _ ok fun x H1 k1 ok1 q1 => by
    cases q1
    refine ⟨k, rfl, ?_⟩
    cases k with
    | false =>
      refine iteF ((hb rfl).2 σ H1 Q ok1 fun x H2 k2 ok2 q2 => ?_)
      rw [ha.1.own] at k2 q2
      exact kk x H2 (k1.trans k2) ok2 q2
    | true => exact iteT (kk _ H1 k1 ok1 (.bl true))⟩⟩
theorem e_not {k : Bool} (ha : E C a Γ (.bool k) Γ1) : E C (.UnaryOp .Not a pos) Γ (.bool (!k)) Γ1 :=
  ⟨ha.1, fun σ H Q ok kk => ⟨_, pe_not (wp _ a), ha.2 σ H _ ok fun x H1 k1 ok1 q1 => by
    cases q1
    exact ⟨k, rfl, kk _ H1 k1 ok1 (.bl _)⟩⟩⟩
theorem tw_t {k : Bool} (h : TW C a Γ k Γ1) : T C a Γ k Γ1 := ⟨h.1, fun σ H Q ok kk => ⟨_, (ww _ a).pt, h.2 σ H Q ok kk⟩⟩
theorem t_and1 {k : Bool} (h : T C a Γ k Γ1) : TW C (.BoolOp .And [a] pos) Γ k Γ1 := ⟨h.1, fun σ H Q ok kk => ⟨_, pw_and1 (wt _ a), h.2 σ H Q ok kk⟩⟩
theorem t_or1 {k : Bool} (h : T C a Γ k Γ1) : TW C (.BoolOp .Or [a] pos) Γ k Γ1 := ⟨h.1, fun σ H Q ok kk => ⟨_, pw_or1 (wt _ a), h.2 σ H Q ok kk⟩⟩
theorem t_and {k l : Bool} (ha : T C a Γ k Γ1) (hb : k = true → TW C (.BoolOp .And (b :: es) pos) Γ1 l Γ1) : TW C (.BoolOp .And (a :: b :: es) pos) Γ (k && l) Γ1 :=
  ⟨ha.1, fun σ H Q ok kk => ⟨_, pw_and (wt _ a) (ww _ _), ha.2 σ H _ ok fun H1 k1 ok1 => by
    cases k with
    | true =>
      refine iteT ((hb rfl).2 σ H1 Q ok1 fun H2 k2 ok2 => ?_)
      rw [ha.1.own] at k2
      exact kk H2 (k1.trans k2) ok2
    | false => exact iteF (kk H1 k1 ok1)⟩⟩
theorem t_or {k l : Bool} (ha : T C a Γ k Γ1) (hb : k = false → TW C (.BoolOp .Or (b :: es) pos) Γ1 l Γ1) : TW C (.BoolOp .Or (a :: b :: es) pos) Γ (k || l) Γ1 :=
  ⟨ha.1, fun σ H Q ok kk => ⟨_, pw_or (wt _ a) (ww _ _), ha.2 σ H _ ok fun H1 k1 ok1 => by
    cases k with
    | false =>
      refine iteF ((hb rfl).2 σ H1 Q ok1 fun H2 k2 ok2 => ?_)
      rw [ha.1.own] at k2
      exact kk H2 (k1.trans k2) ok2
    | true => exact iteT (kk H1 k1 ok1)⟩⟩
theorem t_not {k : Bool} (ha : T C a Γ k Γ1) : T C (.UnaryOp .Not a pos) Γ (!k) Γ1 :=
  ⟨ha.1, fun σ H Q ok kk => ⟨_, pt_not (wt _ a), ha.2 σ H _ ok fun H1 k1 ok1 => kk H1 k1 ok1⟩⟩
/-- a value that is a bool, as a test -/
theorem t_val {k : Bool} (h : E C e Γ (.bool k) Γ1) (he : ∀ whole, isTrue e C.X.env whole = (do let v ← whole; standAt e.pos; holding [v] (truthy v)) := by intro _; rfl) : T C e Γ k Γ1 :=
  ⟨h.1, fun σ H Q ok kk => ⟨_, pt_val (wp _ e) he, h.2 σ H _ ok fun x H1 k1 ok1 q1 => by
    cases q1
    exact ⟨k, rfl, kk H1 k1 ok1⟩⟩⟩
/-- a list or tuple, by its truth -/
theorem t_lst (h : R C e Γ ds Γ1) (he : ∀ whole, isTrue e C.X.env whole = (do let v ← whole; standAt e.pos; holding [v] (truthy v)) := by intro _; rfl) : T C e Γ (!ds.isEmpty) Γ1 :=
  ⟨h.1, fun σ H Q ok kk => ⟨_, pt_truth (wp _ e) he, h.2 σ H _ ok fun x H1 k1 ok1 ⟨a, vs, e1, q1, q2⟩ => by
    subst e1
    refine ⟨!ds.isEmpty, .inl ⟨vs, .of q1, ?_⟩, kk H1 k1 ok1⟩
    cases q2 <;> rfl⟩⟩
theorem t_tup (h : E C e Γ (.tuple ds) Γ1) (he : ∀ whole, isTrue e C.X.env whole = (do let v ← whole; standAt e.pos; holding [v] (truthy v)) := by intro _; rfl) : T C e Γ (!ds.isEmpty) Γ1 :=
  ⟨h.1, fun σ H Q ok kk => ⟨_, pt_truth (wp _ e) he, h.2 σ H _ ok fun x H1 k1 ok1 q => by
    obtain ⟨a, vs, e1, w1, w2⟩ := tp_of ok1.sub q
    subst e1
    refine ⟨!ds.isEmpty, .inr (.inl ⟨vs, w1, ?_⟩), kk H1 k1 ok1⟩
    cases w2 <;> rfl⟩⟩
theorem e_if {k : Bool} (hc : T C c Γ k Γ1) (ha : k = true → E C a Γ1 d Γ2) (hb : k = false → E C b Γ1 d Γ2) : E C (.IfExp c a b pos) Γ d Γ2 :=
  ⟨by cases k with
    | true => exact hc.1.trans (ha rfl).1
    | false => exact hc.1.trans (hb rfl).1, fun σ H Q ok kk => ⟨_, pe_ifExp (wt _ c) (wp _ a) (wp _ b), hc.2 σ H _ ok fun H1 k1 ok1 => by
    have fin : ∀ {e : Expr}, E C e Γ1 d Γ2 → Wp C.X e σ H1 Q := fun {e} h => h.2 σ H1 Q ok1 fun x H2 k2 ok2 q2 => by
      rw [hc.1.own] at k2 q2
      exact kk x H2 (k1.trans k2) ok2 q2
    cases k with
    | true => exact iteT (fin (ha rfl))
    | false => exact iteF (fin (hb rfl))⟩⟩
end
end TL

namespace TL
open PySem PySem.Spec
open L2 hiding Dp DpAll
open PyProof.Rows hiding St

/-! ### targets -/
def Agree (js : List Nat) (σ σ' : St) : Prop := σ'.length = σ.length ∧ ∀ i : Nat, i ∉ js → σ'[i]? = σ[i]?
theorem Agree.refl {js : List Nat} {σ : St} : Agree js σ σ := ⟨rfl, fun _ _ => rfl⟩
theorem Agree.trans {js : List Nat} {σ σ1 σ2 : St} (a : Agree js σ σ1) (b : Agree js σ1 σ2) : Agree js σ σ2 := ⟨b.1.trans a.1, fun i h => (b.2 i h).trans (a.2 i h)⟩
theorem wipe_get (σ : St) : ∀ (vs : List Nat) (i : Nat), (wipe σ vs)[i]? = if i ∈ vs then (if i < σ.length then some none else none) else σ[i]?
  | [], i => by simp [wipe]
  | v :: vs, i => by
    have e : wipe σ (v :: vs) = (wipe σ vs).set v none := rfl
    rw [e]
    by_cases h : i = v
    · subst h
      by_cases l : i < σ.length
      · rw [List.getElem?_set_self (by rw [wipe_length]; exact l)]; simp [l]
      · rw [List.getElem?_eq_none (by simp [wipe_length]; omega)]; simp [l]
    · rw [List.getElem?_set_ne (Ne.symm h), wipe_get σ vs i]; simp [h]
theorem wipe_agree {js vs : List Nat} {σ σ' : St} (a : Agree js σ σ') (h : ∀ j ∈ js, j ∈ vs) : wipe σ' vs = wipe σ vs := by
  apply List.ext_getElem?
  intro i
  rw [wipe_get, wipe_get, a.1]
  by_cases e : i ∈ vs
  · rw [if_pos e, if_pos e]
  · rw [if_neg e, if_neg e, a.2 i fun z => e (h i z)]

def Wg (X : Cx) (tg : Expr) : TG := fun x σ H Q => ∃ t, PG X tg t ∧ t x σ H Q
theorem wg (X : Cx) (tg : Expr) : PG X tg (Wg X tg) := ⟨fun pins s σ H v u Q I r ⟨_, ht, q⟩ => ht.run pins s σ H v u Q I r q⟩
def Wgs (X : Cx) (es : List Expr) : TGs := fun x σ H Q => ∃ t, PGs X es t ∧ t x σ H Q
theorem wgs (X : Cx) (es : List Expr) : PGs X es (Wgs X es) := ⟨fun pins s σ H v u Q I r ⟨_, ht, q⟩ => ht.run pins s σ H v u Q I r q⟩
def AgE (js : List Nat) (Γ Γ' : List Ent) : Prop := Γ'.length = Γ.length ∧ ∀ i : Nat, i ∉ js → Γ'[i]? = Γ[i]?
def Tg (C : Ctx) (tg : Expr) (Γ : List Ent) (d : D) (Γ' : List Ent) (js : List Nat) : Prop := AgE js Γ Γ' ∧ ∀ (σ : St) (H : Hp) (x : V) (Q : St → Hp → Prop), EnvOk C Γ σ H → Dp C.X.K (bas C (Own Γ σ) H) x d →
  (∀ σ', Agree js σ σ' → (∀ a, Own Γ' σ' a → Own Γ σ a) → EnvOk C Γ' σ' H → Q σ' H) → Wg C.X tg x σ H Q
def Tgs (C : Ctx) (es : List Expr) (Γ : List Ent) (ds : List D) (Γ' : List Ent) (js : List Nat) : Prop := AgE js Γ Γ' ∧ ∀ (σ : St) (H : Hp) (xs : List V) (Q : St → Hp → Prop), EnvOk C Γ σ H → DpAll C.X.K (bas C (Own Γ σ) H) xs ds →
  (∀ σ', Agree js σ σ' → (∀ a, Own Γ' σ' a → Own Γ σ a) → EnvOk C Γ' σ' H → Q σ' H) → Wgs C.X es xs σ H Q

section
variable {C : Ctx} {Γ Γ1 Γ2 Γ3 : List Ent} {σ : St} {H H' : Hp} {e tg : Expr} {es : List Expr} {d : D} {ds : List D} {pos : Pos}
theorem put_own {i : Nat} {e : Ent} {o : Option V} (he : e.isOwn = false) {a : Addr} (h : Own (Γ.set i e) (σ.set i o) a) : Own Γ σ a := by
  rcases own_set h with ⟨z, _⟩ | ⟨j, f, _, q1, q2, q3⟩
  · rw [he] at z; cases z
  · exact ⟨j, f, q1, q2, q3⟩
theorem tg_name (i : Nat) {x : Str} (hN : C.X.N.Nodup) (hi : C.X.N[i]? = some x) (hx : Loc C.X.env.scope x) (hl : i < Γ.length) (ht : NoT C i) (hf : C.X.fn x = true ∨ C.X.env.scope.names.lookup x = some .local) : Tg C (.Name x pos) Γ d (Γ.set i (.v d)) [i] :=
  ⟨⟨List.length_set .., fun j hj => List.getElem?_set_ne (fun z => hj (by simp [z]))⟩, fun σ H v Q ok q k => ⟨_, pg_name (i := i) hN hi hx hf, k _ ⟨List.length_set .., fun j hj => List.getElem?_set_ne (fun z => hj (by simp [z]))⟩ (fun a h => put_own rfl h) (ok.put hl ht rfl ⟨v, rfl, q⟩)⟩⟩
theorem tgs_nil : Tgs C [] Γ [] Γ [] := ⟨⟨rfl, fun _ _ => rfl⟩, fun σ H xs Q ok q k => ⟨_, pgs_nil, by
  cases q
  exact ⟨rfl, k σ .refl (fun _ h => h) ok⟩⟩⟩
theorem tgs_cons {j1 j2 : List Nat} (h1 : Tg C e Γ d Γ1 j1) (h2 : Tgs C es Γ1 ds Γ2 j2) (hs : (assignEach (e :: es) C.X.env).map (·.2) = assign e C.X.env :: (assignEach es C.X.env).map (·.2) := by rfl) : Tgs C (e :: es) Γ (d :: ds) Γ2 (j1 ++ j2) :=
  ⟨⟨h2.1.1.trans h1.1.1, fun i hi => (h2.1.2 i fun z => hi (by simp [z])).trans (h1.1.2 i fun z => hi (by simp [z]))⟩, fun σ H xs Q ok q k => ⟨_, pgs_cons (wg _ e) (wgs _ es) hs, by
    cases q with
    | cons q r =>
      refine ⟨_, _, rfl, h1.2 σ H _ _ ok q fun σ1 a1 s1 ok1 => ?_⟩
      refine h2.2 σ1 H _ _ ok1 (dps_mono (bas_anti s1) _ _ r) fun σ2 a2 s2 ok2 => ?_
      exact k σ2 ⟨a2.1.trans a1.1, fun i hi => (a2.2 i fun z => hi (by simp [z])).trans (a1.2 i fun z => hi (by simp [z]))⟩ (fun a h => s1 a (s2 a h)) ok2⟩⟩
theorem tg_tup {k : Nat} {js : List Nat} {n : Nat} (hc : C.X.calm = true) (h : Tgs C es Γ ds Γ1 js) (hd : ds.length = n) (hn : (assignEach es C.X.env).length = n := by rfl) (hst : (assignEach es C.X.env).findIdx? (·.1) = none := by rfl) : Tg C (.Tuple es k pos) Γ (.tuple ds) Γ1 js :=
  ⟨h.1, fun σ H x Q ok q kk => ⟨_, pg_tup hc (wgs _ es) hn hst, by
    obtain ⟨a, vs, e1, q1, q2⟩ := tp_of ok.sub q
    subst e1
    exact ⟨a, vs, rfl, q1, (dps_len q2).trans hd, h.2 σ H vs Q ok q2 kk⟩⟩⟩
end

/-! ### outcomes, statements -/
inductive Out where
  | nx (Γ : List Ent)
  | nl (Γ : List Ent)
  | rt (d : D) (M : List D)
  | bk (Γ : List Ent)
  | xx (c : Value) (Γ : List Ent)
  | rn (ds : List D) (M : List D)
  | rz (M : List D)
def Fin (C : Ctx) (H' : Hp) (M : List D) : Prop := (∀ b o, C.H0 b = some o → b ∉ C.mu → H' b = some o) ∧ ∀ a ∈ C.mu, ∃ vs, H' a = some (.lst vs) ∧ DpAll C.X.K (bas C (· ∈ C.mu) H') vs M
def Post (C : Ctx) (Z : Ends) : Out → Prop
  | .nx Γ => ∀ σ' H', EnvOk C Γ σ' H' → Z.nx σ' H'
  | .nl Γ => ∀ σ' H', EnvOk C Γ σ' H' → Z.nx σ' H' ∧ Z.ct σ' H'
  | .bk Γ => ∀ σ' H', EnvOk C Γ σ' H' → Z.bk σ' H'
  | .rt d M => ∀ x H', Fin C H' M → Dp C.X.K (bas C (· ∈ C.mu) H') x d → Z.rt x H'
  | .xx c Γ => ∀ σ' H', EnvOk C Γ σ' H' → C.xw c none σ' H'
  | .rn ds M => ∀ p vs H', C.H0 p = none → Fin C (del H' p) M → H' p = some (.lst vs) → DpAll C.X.K (bas C (· ∈ C.mu) (del H' p)) vs ds → Z.rt (.ref p) H'
  | .rz M => ∀ σ' H', Fin C H' M → Z.nx σ' H' ∧ Z.rt .non H'
def Out.isEnd : Out → Bool
  | .rt _ _ => true
  | .xx _ _ => true
  | .rn _ _ => true
  | _ => false
def Out.noNx : Out → Bool
  | .nx _ => false
  | .nl _ => false
  | .rz _ => false
  | _ => true
def S (C : Ctx) (ss : List Stmt) (Γ : List Ent) (o : Out) : Prop := ∀ (σ : St) (H : Hp) (Z : Ends), EnvOk C Γ σ H → Post C Z o → Ws C.X ss Z σ H
def B (C : Ctx) (st : Stmt) (Γ : List Ent) (o : Out) : Prop := ∀ (σ : St) (H : Hp) (Z : Ends), EnvOk C Γ σ H → Post C Z o → Wb C.X st Z σ H

section
variable {C : Ctx} {Γ Γ1 Γ2 Γ3 : List Ent} {σ : St} {H H' : Hp} {e tg c : Expr} {es : List Expr} {d : D} {ds : List D} {pos : Pos} {st : Stmt} {ss rest A : List Stmt} {o : Out}
theorem fin_of (ok : EnvOk C Γ σ H) {M : List D} (hM : C.mu = [] ∨ Γ[0]? = some (.own (.lst M))) : Fin C H M ∧ (∀ {x : V} {d : D}, Dp C.X.K (bas C (Own Γ σ) H) x d → Dp C.X.K (bas C (· ∈ C.mu) H) x d) := by
  have bm := bas_anti (C := C) (H := H) (O := Own Γ σ) (O' := (· ∈ C.mu)) fun a h => ok.mus h
  refine ⟨⟨ok.keep, fun a ha => ?_⟩, fun q => dp_mono bm _ _ q⟩
  rcases ok.tape with z | ⟨b, ds, z, q1, q2⟩
  · rw [z] at ha; cases ha
  · rw [z] at ha
    have e : a = b := by simpa using ha
    subst e
    rcases hM with w | w
    · rw [w] at z; cases z
    · obtain ⟨o, r1, a', vs, r2, r3, r4⟩ := ok.ents 0 _ w
      rw [q1] at r1
      have : some (V.ref a) = some (V.ref a') := (Option.some.inj r1).trans r2
      cases this
      obtain ⟨us, e2, t2⟩ := r4.lst
      subst e2
      exact ⟨us, r3, dps_mono bm _ _ t2⟩
theorem s_nil : S C [] Γ (.nx Γ) := fun σ H Z ok k => ⟨_, pss_nil, k σ H ok⟩
theorem s_nilL : S C [] Γ (.nl Γ) := fun σ H Z ok k => ⟨_, pss_nil, (k σ H ok).1⟩
theorem b_cont : B C (.Continue pos) Γ (.nl Γ) := fun σ H Z ok k => ⟨_, ps_continue, (k σ H ok).2⟩
theorem b_break : B C (.Break pos) Γ (.bk Γ) := fun σ H Z ok k => ⟨_, ps_break, k σ H ok⟩
theorem b_pass : B C (.Pass pos) Γ (.nx Γ) := fun σ H Z ok k => ⟨_, ps_pass, k σ H ok⟩
/-- the end of a def that gives None there -/
theorem s_endN {M : List D} (hM : C.mu = [] ∨ Γ[0]? = some (.own (.lst M))) : S C [] Γ (.rz M) := fun σ H Z ok k => ⟨_, pss_nil, (k σ H (fin_of ok hM).1).1⟩
theorem s_retZ {M : List D} (hM : C.mu = [] ∨ Γ[0]? = some (.own (.lst M))) : S C [.Return none pos] Γ (.rz M) := fun σ H Z ok k => ⟨_, pss_one ps_retN, (k σ H (fin_of ok hM).1).2⟩
theorem s_cons (h1 : B C st Γ (.nx Γ1)) (h2 : S C rest Γ1 o) : S C (st :: rest) Γ o := fun σ H Z ok k => ⟨_, pss_cons (wb _ st) (ws _ rest), h1 σ H _ ok fun σ' H' ok' => h2 σ' H' Z ok' k⟩
theorem s_end (h1 : B C st Γ o) (ho : o.noNx = true) : S C (st :: rest) Γ o := fun σ H Z ok k => ⟨_, pss_cons (wb _ st) (ws _ rest), h1 σ H _ ok (by
  cases o with
  | nx _ => cases ho
  | nl _ => cases ho
  | rt d M => exact k
  | bk _ => exact k
  | xx c M => exact k
  | rn ds M => exact k
  | rz _ => cases ho)⟩
theorem s_one (h1 : B C st Γ o) : S C [st] Γ o := fun σ H Z ok k => ⟨_, pss_one (wb _ st), h1 σ H Z ok k⟩
theorem s_weak (w : Wk Γ Γ1) (ht : C.mu = [] ∨ Γ1[0]? = Γ[0]?) (h : S C ss Γ1 o) : S C ss Γ o := fun σ H Z ok k => h σ H Z (ok.weak w ht) k
/-- the end of a block: something is forgotten -/
theorem s_nilW (w : Wk Γ Γ1) (ht : C.mu = [] ∨ Γ1[0]? = Γ[0]?) : S C [] Γ (.nx Γ1) := s_weak w ht s_nil
theorem s_nilLW (w : Wk Γ Γ1) (ht : C.mu = [] ∨ Γ1[0]? = Γ[0]?) : S C [] Γ (.nl Γ1) := s_weak w ht s_nilL
theorem s_thaw (i : Nat) {ct : Ct} (h1 : Γ[i]? = some (.own ct)) (ht : NoT C i) (h : S C ss (Γ.set i (.v ct.toD)) o) : S C ss Γ o := fun σ H Z ok k => h σ H Z (ok.thaw h1 ht) k
theorem b_ret {M : List D} (h : E C e Γ d Γ1) (hM : C.mu = [] ∨ Γ1[0]? = some (.own (.lst M))) : B C (.Return (some e) pos) Γ (.rt d M) := fun σ H Z ok k => ⟨_, ps_ret (wp _ e), h.2 σ H _ ok fun x H1 k1 ok1 q1 => by
  obtain ⟨f1, f2⟩ := fin_of ok1 hM
  rw [h.1.own] at f2
  exact k x H1 f1 (f2 q1)⟩
theorem b_retN {M : List D} (hM : C.mu = [] ∨ Γ[0]? = some (.own (.lst M))) : B C (.Return none pos) Γ (.rt .none M) := fun σ H Z ok k => ⟨_, ps_retN, k .non H (fin_of ok hM).1 .non⟩
theorem s_ret {M : List D} (h : E C e Γ d Γ1) (hM : C.mu = [] ∨ Γ1[0]? = some (.own (.lst M))) : S C (.Return (some e) pos :: rest) Γ (.rt d M) := s_end (b_ret h hM) rfl
theorem s_retN {M : List D} (hM : C.mu = [] ∨ Γ[0]? = some (.own (.lst M))) : S C (.Return none pos :: rest) Γ (.rt .none M) := s_end (b_retN hM) rfl
theorem b_expr (h : E C e Γ d Γ1) (hs : swapsWith e none pos.line C.X.env = pure false := by rfl) : B C (.Expr e pos) Γ (.nx Γ1) := fun σ H Z ok k => ⟨_, ps_expr (wp _ e) hs, h.2 σ H _ ok fun x H1 k1 ok1 q1 => k σ H1 ok1⟩
theorem b_set (i : Nat) {x : Str} {p' : Pos} (hN : C.X.N.Nodup) (hi : C.X.N[i]? = some x) (hx : Loc C.X.env.scope x) (hf : C.X.fn x = true ∨ C.X.env.scope.names.lookup x = some .local) (hl : i < Γ1.length) (ht : NoT C i)
    (h : E C e Γ d Γ1) (hs : swapsWith e (some (.Name x p')) pos.line C.X.env = pure false) : B C (.Assign [.Name x p'] e pos) Γ (.nx (Γ1.set i (.v d))) := fun σ H Z ok k =>
  ⟨_, ps_set (i := i) hN hi hx (wp _ e) hs hf, h.2 σ H _ ok fun x H1 k1 ok1 q1 => k _ H1 (ok1.put hl ht rfl ⟨x, rfl, h.1.own (σ := σ) ▸ q1⟩)⟩
/-- a new list, owned -/
theorem b_setO (i : Nat) {x : Str} {p' : Pos} (hN : C.X.N.Nodup) (hi : C.X.N[i]? = some x) (hx : Loc C.X.env.scope x) (hf : C.X.fn x = true ∨ C.X.env.scope.names.lookup x = some .local) (hl : i < Γ1.length) (ht : NoT C i)
    (h : EL C e Γ ds Γ1) (hs : swapsWith e (some (.Name x p')) pos.line C.X.env = pure false) : B C (.Assign [.Name x p'] e pos) Γ (.nx (Γ1.set i (.own (.lst ds)))) := fun σ H Z ok k =>
  ⟨_, ps_set (i := i) hN hi hx (wp _ e) hs hf, h.2 σ H _ ok fun p vs H1 n k1 e1 ok1 q1 => k _ H1 (ok1.putOwn hl ht e1 (h.1.own (σ := σ) ▸ q1))⟩
theorem b_asg {js : List Nat} (h : E C e Γ d Γ1) (hg : Tg C tg Γ1 d Γ2 js) (hs : swapsWithSole [tg] e pos.line C.X.env = pure false := by rfl) (hw : swappedStores [tg] e C.X.env = pure none := by rfl)
    (h1 : (assignEach [tg] C.X.env).map (·.2) = [assign tg C.X.env] := by rfl) : B C (.Assign [tg] e pos) Γ (.nx Γ2) := fun σ H Z ok k =>
  ⟨_, ps_asg (wp _ e) (wg _ tg) hs hw h1, h.2 σ H _ ok fun x H1 k1 ok1 q1 => hg.2 σ H1 x _ ok1 (h.1.own (σ := σ) ▸ q1) fun σ' _ _ ok' => k σ' H1 ok'⟩
theorem b_if {k : Bool} {ss' : List Stmt} (hc : T C c Γ k Γ1) (h1 : k = true → S C ss Γ1 o) (h2 : k = false → S C ss' Γ1 o) : B C (.If c ss ss' pos) Γ o := fun σ H Z ok kk =>
  ⟨_, ps_if (wt _ c) (ws _ ss) (ws _ ss'), hc.2 σ H _ ok fun H1 k1 ok1 => by
    cases k with
    | true => exact iteT (h1 rfl σ H1 Z ok1 kk)
    | false => exact iteF (h2 rfl σ H1 Z ok1 kk)⟩
/-- if c: .. that doesn't go on; the rest -/
theorem s_if {α : Type} {k : Bool} {v1 v2 : α} (mk : α → Out) (hc : T C c Γ k Γ1) (h1 : k = true → S C ss Γ1 (mk v1)) (hn : (mk v1).noNx = true) (h2 : k = false → S C rest Γ1 (mk v2)) : S C (.If c ss [] pos :: rest) Γ (mk (if k then v1 else v2)) := fun σ H Z ok kk =>
  ⟨_, pss_cons (ps_if (wt _ c) (ws _ ss) pss_nil) (ws _ rest), hc.2 σ H _ ok fun H1 k1 ok1 => by
    cases k with
    | true =>
      refine iteT (h1 rfl σ H1 _ ok1 ?_)
      rw [if_pos rfl] at kk
      cases q : mk v1 with
      | nx _ => rw [q] at hn; cases hn
      | nl _ => rw [q] at hn; cases hn
      | rt d M => rw [q] at kk; exact kk
      | bk _ => rw [q] at kk; exact kk
      | xx c M => rw [q] at kk; exact kk
      | rn ds M => rw [q] at kk; exact kk
      | rz _ => rw [q] at hn; cases hn
    | false =>
      rw [if_neg Bool.false_ne_true] at kk
      exact iteF (h2 rfl σ H1 Z ok1 kk)⟩
/-- if c: .. else: .. as the last statement -/
theorem s_ifE {α : Type} {k : Bool} {v1 v2 : α} {ss' : List Stmt} (mk : α → Out) (hc : T C c Γ k Γ1) (h1 : k = true → S C ss Γ1 (mk v1)) (h2 : k = false → S C ss' Γ1 (mk v2)) : S C [.If c ss ss' pos] Γ (mk (if k then v1 else v2)) :=
  s_one (b_if hc (fun h => by subst h; exact h1 rfl) (fun h => by subst h; exact h2 rfl))
/-- if c: .. that goes on (both ways to the same form), then the rest -/
theorem s_ifN {k : Bool} {ss' : List Stmt} (Γ2 : List Ent) (hc : T C c Γ k Γ1) (h1 : k = true → S C ss Γ1 (.nx Γ2)) (h2 : k = false → S C ss' Γ1 (.nx Γ2)) (h3 : S C rest Γ2 o) : S C (.If c ss ss' pos :: rest) Γ o :=
  s_cons (b_if hc h1 h2) h3
end

/-! ### what is walked -/
def ItOk (K : PySem.W.Frag) (gs : List (V × D)) (Jt : It) (ds : List D) : Prop := ∀ (i : Nat) (F H : Hp), Same F H → (∀ p ∈ gs, Dp K F p.1 p.2) →
  (∀ d, ds[i]? = some d → Jt.go i H ∧ ∀ x H', Jt.yld i H x H' → Same H H' ∧ Dp K (Gr F H H') x d) ∧ (ds.length ≤ i → Jt.stop i H)
def Wi (X : Cx) (tg e : Expr) : TI := fun σ H R => ∃ t, PI X tg e t ∧ t σ H R
theorem wi (X : Cx) (tg e : Expr) : PI X tg e (Wi X tg e) := ⟨fun pins s σ H R I ⟨_, ht, q⟩ => ht.run pins s σ H R I q⟩
def IT (C : Ctx) (tg e : Expr) (Γ : List Ent) (ds : List D) (Γ' : List Ent) : Prop := Sh Γ Γ' ∧ ∀ (σ : St) (H : Hp) (Rr : It → Hp → Prop), EnvOk C Γ σ H →
  (∀ gs Jt H', Keep (Own Γ σ) H H' → EnvOk C Γ' σ H' → (∀ p ∈ gs, Dp C.X.K (bas C (Own Γ σ) H') p.1 p.2) → ItOk C.X.K gs Jt ds → Rr Jt H') → Wi C.X tg e σ H Rr
@[reducible] def Ctx.gho (C : Ctx) (gs : List (V × D)) : Ctx := { C with gh := gs ++ C.gh }
section
variable {C : Ctx} {Γ Γ1 Γ2 Γ3 : List Ent} {σ : St} {H H' : Hp} {e tg c : Expr} {es : List Expr} {d : D} {ds : List D} {pos : Pos} {p : Pos}
theorem EnvOk.gho {gs : List (V × D)} (ok : EnvOk C Γ σ H) (h : ∀ p ∈ gs, Dp C.X.K (bas C (Own Γ σ) H) p.1 p.2) : EnvOk (C.gho gs) Γ σ H :=
  ⟨ok.ents, ok.nd, ok.new, ok.keep, ok.base, ok.mu0, ok.tape, fun p hp => (List.mem_append.mp hp).elim (h p) (ok.ghs p)⟩
theorem EnvOk.ungho {gs : List (V × D)} (ok : EnvOk (C.gho gs) Γ σ H) : EnvOk C Γ σ H :=
  ⟨ok.ents, ok.nd, ok.new, ok.keep, ok.base, ok.mu0, ok.tape, fun p hp => ok.ghs p (List.mem_append.mpr (.inr hp))⟩
theorem gr_bas (ok : EnvOk C Γ σ H) (s : Same H H') {x : V} (q : Dp C.X.K (Gr (bas C (Own Γ σ) H) H H') x d) : Dp C.X.K (bas C (Own Γ σ) H') x d :=
  dp_mono (gr_to (bas_mono (.same s)) fun b o n h => by
    obtain ⟨h0, n1⟩ := ok.fresh n
    rw [bas_eq n1, h0]; exact h) d x q
theorem sc_of {K : PySem.W.Frag} {F H : Hp} {x : V} {ds : List D} (s : Same F H) (h : Dp K F x (.dict [(.none, .list ds)])) : ∃ a vs, x = .ref a ∧ SqL K H a vs ∧ DpAll K F vs ds := by
  generalize hd : PyData.dict [(.none, .list ds)] = d at h
  cases h with
  | scr q r => cases hd; exact ⟨_, _, rfl, s.seq q, r⟩
  | dic q r =>
    cases hd
    generalize hk : [(PyData.none, PyData.list ds)] = kvs at r
    cases r with
    | nil => cases hk
    | cons a b =>
      rename_i k v ws d kvs
      have e := (Prod.mk.inj (List.cons.inj hk).1).1
      cases k <;> cases e
  | _ => cases hd
theorem it_list (h : E C e Γ (.list ds) Γ1) : IT C tg e Γ ds Γ1 := ⟨h.1, fun σ H Rr ok k => ⟨_, pi_list (wp _ e), h.2 σ H _ ok fun x H1 k1 ok1 q1 => by
  obtain ⟨a, vs, e1, w1, w2⟩ := ls_of ok1.sub q1
  subst e1
  refine ⟨a, rfl, ⟨vs, .of w1⟩, k [(.ref a, .list ds)] _ H1 k1 ok1 (fun p hp => ?_) fun i F H' s g => ?_⟩
  · have : p = (V.ref a, PyData.list ds) := by simpa using hp
    subst this; exact q1
  · obtain ⟨a', us, e2, u1, u2⟩ := ls_of s (g (.ref a, .list ds) (by simp))
    cases e2
    refine ⟨fun d hd => ?_, fun hl => ⟨us, .of u1, by rw [dps_len u2]; exact hl⟩⟩
    obtain ⟨x, hx, dx⟩ := dps_get' u2 i d hd
    refine ⟨⟨us, x, .of u1, hx⟩, fun y H2 ⟨e3, hy⟩ => ?_⟩
    subst e3
    refine ⟨Same.refl _, ?_⟩
    have : y = x := Option.some.inj ((hy us (.of u1)).symm.trans hx)
    subst this
    exact dp_mono (gr_same s) _ _ dx⟩⟩
theorem it_scr (h : E C e Γ (.dict [(.none, .list ds)]) Γ1) : IT C tg e Γ ds Γ1 := ⟨h.1, fun σ H Rr ok k => ⟨_, pi_list (wp _ e), h.2 σ H _ ok fun x H1 k1 ok1 q1 => by
  obtain ⟨a, vs, e1, w1, w2⟩ := sc_of ok1.sub q1
  subst e1
  refine ⟨a, rfl, ⟨vs, w1⟩, k [(.ref a, .dict [(.none, .list ds)])] _ H1 k1 ok1 (fun p hp => ?_) fun i F H' s g => ?_⟩
  · have : p = (V.ref a, PyData.dict [(.none, .list ds)]) := by simpa using hp
    subst this; exact q1
  · obtain ⟨a', us, e2, u1, u2⟩ := sc_of s (g (.ref a, .dict [(.none, .list ds)]) (by simp))
    cases e2
    refine ⟨fun d hd => ?_, fun hl => ⟨us, u1, by rw [dps_len u2]; exact hl⟩⟩
    obtain ⟨x, hx, dx⟩ := dps_get' u2 i d hd
    refine ⟨⟨us, x, u1, hx⟩, fun y H2 ⟨e3, hy⟩ => ?_⟩
    subst e3
    refine ⟨Same.refl _, ?_⟩
    have : y = x := Option.some.inj ((hy us (u1)).symm.trans hx)
    subst this
    exact dp_mono (gr_same s) _ _ dx⟩⟩
theorem it_tup (h : E C e Γ (.tuple ds) Γ1) : IT C tg e Γ ds Γ1 := ⟨h.1, fun σ H Rr ok k => ⟨_, pi_tup (wp _ e), h.2 σ H _ ok fun x H1 k1 ok1 q1 => by
  obtain ⟨a, vs, e1, w1, w2⟩ := tp_of ok1.sub q1
  subst e1
  refine ⟨a, rfl, ⟨vs, w1⟩, k [(.ref a, .tuple ds)] _ H1 k1 ok1 (fun p hp => ?_) fun i F H' s g => ?_⟩
  · have : p = (V.ref a, PyData.tuple ds) := by simpa using hp
    subst this; exact q1
  · obtain ⟨a', us, e2, u1, u2⟩ := tp_of s (g (.ref a, .tuple ds) (by simp))
    cases e2
    refine ⟨fun d hd => ?_, fun hl => ⟨us, u1, by rw [dps_len u2]; exact hl⟩⟩
    obtain ⟨x, hx, dx⟩ := dps_get' u2 i d hd
    refine ⟨⟨us, x, u1, hx⟩, fun y H2 ⟨e3, hy⟩ => ?_⟩
    subst e3
    refine ⟨Same.refl _, ?_⟩
    have : y = x := Option.some.inj ((hy us u1).symm.trans hx)
    subst this
    exact dp_mono (gr_same s) _ _ dx⟩⟩
def rng (lo hi : Int) : List Int := (List.range (hi - lo).toNat).map fun (i : Nat) => lo + (i : Int)
theorem rng_get {lo hi : Int} {i : Nat} {d : D} (h : ((rng lo hi).map PyData.int)[i]? = some d) : i < (hi - lo).toNat ∧ d = .int (lo + i) := by
  unfold rng at h
  rw [List.map_map, List.getElem?_map] at h
  by_cases l : i < (hi - lo).toNat
  · rw [List.getElem?_range l] at h
    exact ⟨l, (Option.some.inj h).symm⟩
  · rw [List.getElem?_eq_none (by simpa using l)] at h; cases h
theorem it_ok_rng {K : PySem.W.Frag} {lo hi : Int} : ItOk K [] (Itr lo (hi - lo).toNat) ((rng lo hi).map .int) := fun i F H s g =>
  ⟨fun d hd => by
    obtain ⟨l, e⟩ := rng_get hd
    subst e
    refine ⟨l, fun x H' ⟨e1, e2⟩ => ?_⟩
    subst e1; subst e2
    exact ⟨Same.refl _, .int _⟩, fun hl => by
    show (hi - lo).toNat ≤ i
    unfold rng at hl
    rw [List.length_map, List.length_map, List.length_range] at hl
    exact hl⟩
theorem it_range1 {n : Int} (hg : Gl C.X "range") (hm : C.X.mg "range" = none) (h : EA C [e] Γ [.int n] Γ1) (hn : -(2 ^ 62) ≤ n ∧ n < 2 ^ 62) (hs : starEach [e] C.X.env = [(false, eval e C.X.env)] := by rfl) : IT C tg (.Call (.Name "range" p) [e] [] pos) Γ ((rng 0 n).map .int) Γ1 :=
  ⟨h.1, fun σ H Rr ok k => ⟨_, pi_range1 hg hm (wa _ _) hs, h.2 σ H _ ok fun xs H1 k1 ok1 q1 => by
    cases q1 with
    | cons a b =>
      cases a; cases b
      refine ⟨n, rfl, hn.1, hn.2, ?_⟩
      have := k [] (Itr 0 n.toNat) H1 k1 ok1 (fun p hp => nomatch hp) (by simpa using it_ok_rng (K := C.X.K) (lo := 0) (hi := n))
      exact this⟩⟩
theorem it_range2 {e2 : Expr} {lo n : Int} (hg : Gl C.X "range") (hm : C.X.mg "range" = none) (h : EA C [e, e2] Γ [.int lo, .int n] Γ1) (hn : -(2 ^ 62) ≤ lo ∧ lo < 2 ^ 62 ∧ -(2 ^ 62) ≤ n ∧ n < 2 ^ 62) (hs : starEach [e, e2] C.X.env = [(false, eval e C.X.env), (false, eval e2 C.X.env)] := by rfl) (hs2 : starEach [e2] C.X.env = [(false, eval e2 C.X.env)] := by rfl) : IT C tg (.Call (.Name "range" p) [e, e2] [] pos) Γ ((rng lo n).map .int) Γ1 :=
  ⟨h.1, fun σ H Rr ok k => ⟨_, pi_range2 hg hm (wa _ _) hs hs2, h.2 σ H _ ok fun xs H1 k1 ok1 q1 => by
    cases q1 with
    | cons a b =>
      cases a
      cases b with
      | cons a b =>
        cases a; cases b
        exact ⟨lo, n, rfl, hn, k [] _ H1 k1 ok1 (fun p hp => nomatch hp) it_ok_rng⟩⟩⟩
end

/-! ### for -/
inductive Lp (β γ : Type) where
  | go (b : β)
  | brk (b : β)
  | ret (c : γ)
def runL {β α γ : Type} (step : β → α → Lp β γ) : β → List α → Lp β γ
  | a, [] => .go a
  | a, x :: r => match step a x with
    | .go a' => runL step a' r
    | .brk a' => .brk a'
    | .ret c => .ret c
theorem runL_cons {β α γ : Type} (step : β → α → Lp β γ) (a : β) (x : α) (r : List α) : runL step a (x :: r) = match step a x with
    | .go a' => runL step a' r
    | .brk a' => .brk a'
    | .ret c => .ret c := rfl
def lpO {β γ : Type} (G : β → List Ent) (rO : γ → Out) : Lp β γ → Out
  | .go a => .nl (G a)
  | .brk a => .bk (G a)
  | .ret c => rO c
def lpE {β γ : Type} (G : β → List Ent) (rO : γ → Out) : Lp β γ → Out
  | .go a => .nx (G a)
  | .brk a => .nx (G a)
  | .ret c => rO c
section
variable {C : Ctx} {Γ Γ1 Γ2 Γ3 : List Ent} {σ : St} {H H' : Hp} {e tg c : Expr} {pos : Pos} {body rest : List Stmt} {o : Out}
theorem post_end {Z Z' : Ends} {gs : List (V × D)} (h : o.isEnd = true) (hr : Z'.rt = Z.rt) (k : Post C Z o) : Post (C.gho gs) Z' o := by
  cases o with
  | rt d M => intro x H' f q; rw [hr]; exact k x H' f q
  | xx c M => exact fun σ' H' z => k σ' H' z.ungho
  | rn ds M => intro p vs H' h0 f e q; rw [hr]; exact k p vs H' h0 f e q
  | rz _ => cases h
  | nx _ => cases h
  | nl _ => cases h
  | bk _ => cases h
theorem b_for {α β γ : Type} {l : List α} {f : α → D} {a0 : β} (step : β → α → Lp β γ) (G : β → List Ent) (rO : γ → Out) (Gt : β → α → List Ent) (js : List Nat) (P : Nat → β → Prop) (hP0 : P 0 a0) (hPs : ∀ (i : Nat) a x a', P i a → l[i]? = some x → step a x = .go a' → P (i + 1) a') (hp : PassesOwn (model C.X.prog C.X.w) C.X.A C.X.env C.X.xe) (hc : C.X.calm = true)
    (hr : ∀ c, (rO c).isEnd = true) (hi : IT C tg e Γ (l.map f) (G a0)) (hg : ∀ gs x a, x ∈ l → Tg (C.gho gs) tg (G a) (f x) (Gt a x) js) (hb : ∀ gs (i : Nat) x a, l[i]? = some x → x ∈ l → P i a → S (C.gho gs) body (Gt a x) (lpO G rO (step a x)))
    (hs : ∀ x, foldedSetIterable e C.X.env x = pure x := by intro _; rfl) : B C (.For tg e body [] pos) Γ (lpE G rO (runL step a0 l)) := fun σ H Z ok kk =>
  ⟨_, ps_for hp hc (wi _ tg e) (wg _ tg) (ws _ body) hs, hi.2 σ H _ ok fun gs Jt H1 k1 ok1 g1 it => by
    rw [← hi.1.own (σ := σ)] at g1
    have lm : (l.map f).length = l.length := List.length_map ..
    refine ⟨fun i m σ' H' => m = l.length - i ∧ i ≤ l.length ∧ ∃ a, EnvOk (C.gho gs) (G a) σ' H' ∧ runL step a (l.drop i) = runL step a0 l ∧ P i a, ⟨l.length, rfl, Nat.zero_le _, a0, ok1.gho g1, rfl, hP0⟩, ?_⟩
    rintro i m σ' H' ⟨rfl, hl, a, ok', hrun, pa⟩
    obtain ⟨t1, t2⟩ := it i _ H' ok'.sub (fun p hp => ok'.ghs p (List.mem_append.mpr (.inl hp)))
    by_cases lt : i < l.length
    · have hd : l.drop i = l[i] :: l.drop (i + 1) := List.drop_eq_getElem_cons lt
      have hx : l[i] ∈ l := List.getElem_mem lt
      rw [hd] at hrun
      obtain ⟨g, y⟩ := t1 (f l[i]) (by rw [List.getElem?_map, List.getElem?_eq_getElem lt]; rfl)
      refine .inr ⟨g, fun σ2 H2 => ∃ a', EnvOk (C.gho gs) (G a') σ2 H2 ∧ runL step a' (l.drop (i + 1)) = runL step a0 l ∧ P (i + 1) a', fun σ2 H2 ⟨a', z1, z2⟩ => ⟨l.length - (i + 1), by omega, rfl, lt, a', z1, z2⟩, fun x H2 hy => ?_⟩
      obtain ⟨s2, dx⟩ := y x H2 hy
      have ok2 := ok'.mono s2
      refine (hg gs l[i] a hx).2 σ' H2 x _ ok2 (gr_bas ok' s2 dx) fun σ3 _ _ ok3 => ?_
      refine hb gs i l[i] a (List.getElem?_eq_getElem lt) hx pa σ3 H2 _ ok3 ?_
      rw [runL_cons] at hrun
      cases q : step a l[i] with
      | go a' =>
        rw [q] at hrun
        exact fun σ4 H4 ok4 => ⟨⟨a', ok4, hrun, hPs i a l[i] a' pa (List.getElem?_eq_getElem lt) q⟩, ⟨a', ok4, hrun, hPs i a l[i] a' pa (List.getElem?_eq_getElem lt) q⟩⟩
      | brk a' =>
        rw [q] at hrun
        rw [← hrun] at kk
        exact fun σ4 H4 ok4 => kk σ4 H4 ok4.ungho
      | ret c =>
        rw [q] at hrun
        rw [← hrun] at kk
        have kk' : Post C Z (rO c) := kk
        exact (show Post (C.gho gs) _ (rO c) from post_end (Z := Z) (hr c) rfl kk')
    · have e1 : i = l.length := by omega
      refine .inl ⟨t2 (by rw [lm]; omega), ?_⟩
      rw [List.drop_eq_nil_of_le (by omega)] at hrun
      rw [← hrun] at kk
      exact kk σ' H' ok'.ungho⟩

def runW {β γ : Type} (c : β → Bool) (step : β → Lp β γ) : Nat → β → Option (Lp β γ)
  | 0, _ => none
  | n + 1, a => if c a then (match step a with
    | .go a' => runW c step n a'
    | .brk a' => some (.brk a')
    | .ret r => some (.ret r)) else some (.go a)
theorem b_while {β γ : Type} {a0 : β} {r : Lp β γ} (cn : β → Bool) (step : β → Lp β γ) (G : β → List Ent) (rO : γ → Out) (n : Nat) (P : β → Prop) (hP0 : P a0) (hPs : ∀ a a', P a → cn a = true → step a = .go a' → P a') (hp : PassesOwn (model C.X.prog C.X.w) C.X.A C.X.env C.X.xe)
    (hr : ∀ c, (rO c).isEnd = true) (ht : ∀ a, P a → T C c (G a) (cn a) (G a)) (hb : ∀ a, P a → cn a = true → S C body (G a) (lpO G rO (step a))) (hrun : runW cn step n a0 = some r) (hΓ : Γ = G a0) : B C (.While c body [] pos) Γ (lpE G rO r) := fun σ H Z ok kk =>
  ⟨_, ps_while hp (wt _ c) (ws _ body), by
    subst hΓ
    refine ⟨fun m σ' H' => ∃ a, P a ∧ EnvOk C (G a) σ' H' ∧ runW cn step m a = some r, ⟨n, a0, hP0, ok, hrun⟩, ?_⟩
    rintro m σ' H' ⟨a, pa, ok', hr'⟩
    cases m with
    | zero => cases hr'
    | succ m =>
      unfold runW at hr'
      refine (ht a pa).2 σ' H' _ ok' fun H1 k1 ok1 => ?_
      cases q : cn a with
      | true =>
        rw [q, if_pos rfl] at hr'
        refine iteT ⟨fun σ2 H2 => ∃ a', P a' ∧ EnvOk C (G a') σ2 H2 ∧ runW cn step m a' = some r, fun σ2 H2 ⟨a', z1, z2, z3⟩ => ⟨m, Nat.lt_succ_self _, a', z1, z2, z3⟩, ?_⟩
        refine hb a pa q σ' H1 _ ok1 ?_
        cases w : step a with
        | go a' =>
          rw [w] at hr'
          exact fun σ4 H4 ok4 => ⟨⟨a', hPs a a' pa q w, ok4, hr'⟩, ⟨a', hPs a a' pa q w, ok4, hr'⟩⟩
        | brk a' =>
          rw [w] at hr'
          cases hr'
          exact fun σ4 H4 ok4 => kk σ4 H4 ok4
        | ret c =>
          rw [w] at hr'
          cases hr'
          have := post_end (C := C) (gs := []) (Z := Z) (Z' := { Z with nx := fun σ2 H2 => ∃ a', P a' ∧ EnvOk C (G a') σ2 H2 ∧ runW cn step m a' = some (.ret c), ct := fun σ2 H2 => ∃ a', P a' ∧ EnvOk C (G a') σ2 H2 ∧ runW cn step m a' = some (.ret c), bk := Z.nx }) (hr c) rfl kk
          exact this
      | false =>
        rw [q, if_neg Bool.false_ne_true] at hr'
        cases hr'
        exact iteF (kk σ' H1 ok1)⟩
end
end TL

namespace TL
open PySem PySem.Spec
open L2 hiding Dp DpAll
open PyProof.Rows hiding St

/-! ### comprehensions -/
structure Sb where
  s : Shared
  H : Hp
  A : Addr
  cl : List (Str × Addr)
  fp : List Addr
  H0 : Hp
  gs : List (V × D)
@[reducible] def Ctx.sub (C : Ctx) (scope : Scope) (y : Sb) : Ctx := { C with X := C.X.blk y.s y.H scope (compEnvC scope y.cl y.A C.X.env) y.fp, H0 := y.H0, gh := y.gs ++ C.gh }
def wE (Γ : List Ent) : List Nat → List Ent
  | [] => Γ
  | v :: vs => (wE Γ vs).set v .no
theorem wE_length (Γ : List Ent) : ∀ vs : List Nat, (wE Γ vs).length = Γ.length
  | [] => rfl
  | v :: vs => by unfold wE; rw [List.length_set, wE_length Γ vs]
theorem wE_get (Γ : List Ent) : ∀ (vs : List Nat) (i : Nat), i ∉ vs → (wE Γ vs)[i]? = Γ[i]?
  | [], i, _ => rfl
  | v :: vs, i, h => by
    unfold wE
    rw [List.getElem?_set_ne (fun z => h (by simp [z])), wE_get Γ vs i fun z => h (by simp [z])]
def Wts (X : Cx) (ifs : List Expr) : TT := fun σ H Q => ∃ t, PTs X ifs t ∧ t σ H Q
theorem wts (X : Cx) (ifs : List Expr) : PTs X ifs (Wts X ifs) := ⟨fun pins s σ H Q I ⟨_, ht, q⟩ => ht.run pins s σ H Q I q⟩
/-- one turn, in every block -/
def CE (C : Ctx) (scope : Scope) (ifs : List Expr) (elt : Expr) (Γ : List Ent) (r : Option D) (Γ' : List Ent) : Prop := Sh Γ Γ' ∧ ∀ (y : Sb) (σ : St) (H : Hp) (Qn : Hp → Prop) (Qs : V → Hp → Prop), EnvOk (C.sub scope y) Γ σ H →
  (r = none → ∀ H', Keep (Own Γ σ) H H' → EnvOk (C.sub scope y) Γ' σ H' → Qn H') → (∀ d, r = some d → ∀ v H', Keep (Own Γ σ) H H' → EnvOk (C.sub scope y) Γ' σ H' → Dp C.X.K (bas (C.sub scope y) (Own Γ σ) H') v d → Qs v H') →
  Wts (C.sub scope y).X ifs σ H fun b H3 => if b = true then (∀ (s : Shared) (Hh : Hp) (A : Addr) (cl : List (Str × Addr)) (fp : List Addr), Wp (C.X.blk s Hh scope (compEnvC scope cl A C.X.env) fp) elt σ H3 Qs) else Qn H3
def runC {β α γ : Type} (step : β → α → Option γ × β) : β → List α → List γ × β
  | a, [] => ([], a)
  | a, x :: r => match step a x with
    | (none, a') => runC step a' r
    | (some z, a') => (z :: (runC step a' r).1, (runC step a' r).2)
/-- all but the last -/
theorem runC_take {β α γ : Type} (step : β → α → Option γ × β) : ∀ (l : List α) (a : β) (i : Nat) (x : α), l[i]? = some x →
    runC step a (l.take (i + 1)) = (match step (runC step a (l.take i)).2 x with
      | (none, a') => ((runC step a (l.take i)).1, a')
      | (some z, a') => ((runC step a (l.take i)).1 ++ [z], a'))
  | [], _, i, x, h => by simp at h
  | y :: l, a, 0, x, h => by
    simp at h; subst h
    show runC step a [y] = _
    simp only [List.take_zero, runC]
    cases step a y with
    | mk o a' => cases o <;> rfl
  | y :: l, a, i + 1, x, h => by
    have h' : l[i]? = some x := by simpa using h
    rw [List.take_succ_cons, List.take_succ_cons]
    simp only [runC]
    cases q : step a y with
    | mk o a' =>
      cases o with
      | none => simp only []; exact runC_take step l a' i x h'
      | some z =>
        simp only []
        rw [runC_take step l a' i x h']
        cases w : step (runC step a' (l.take i)).2 x with
        | mk o2 a2 => cases o2 <;> simp

section
variable {C : Ctx} {Γ Γ1 Γ2 Γ3 : List Ent} {σ σ' : St} {H H' Ha Hb : Hp} {e tg elt iter c : Expr} {ifs : List Expr} {d : D} {ds : List D} {pos : Pos} {vs : List Nat}
/-- another block of the same written part -/
theorem EnvOk.inX {X' : Cx} (hK : X'.K = C.X.K) (ok : EnvOk C Γ σ H) : EnvOk { C with X := X' } Γ σ H :=
  ⟨fun i e h => by
    obtain ⟨o, q, r⟩ := ok.ents i e h
    refine ⟨o, q, ?_⟩
    show EntOk X'.K _ _ _ _
    rw [hK]; exact r, ok.nd, ok.new, ok.keep, ok.base, ok.mu0, ok.tape, fun p hp => by
    show Dp X'.K _ _ _
    rw [hK]; exact ok.ghs p hp⟩
theorem ce_all {scope : Scope} (h : ∀ y, E (C.sub scope y) elt Γ d Γ1) : CE C scope [] elt Γ (some d) Γ1 := ⟨(h ⟨C.X.s_0, fun _ => none, 0, [], [], fun _ => none, []⟩).1, fun y σ H Qn Qs ok k1 k2 => ⟨_, pts_nil, by
  unfold tYes
  refine iteT fun s Hh A cl fp => ?_
  exact (h ⟨s, Hh, A, cl, fp, y.H0, y.gs⟩).2 σ H _ (EnvOk.inX (C := C.sub scope y) (X' := C.X.blk s Hh scope (compEnvC scope cl A C.X.env) fp) rfl ok) fun x H' q1 q2 q3 => k2 d rfl x H' q1 (EnvOk.inX (C := C.sub scope ⟨s, Hh, A, cl, fp, y.H0, y.gs⟩) (X' := (C.sub scope y).X) rfl q2) q3⟩⟩
theorem ce_one {scope : Scope} {k : Bool} (hc : ∀ y, T (C.sub scope y) c Γ k Γ1) (h : k = true → ∀ y, E (C.sub scope y) elt Γ1 d Γ1) : CE C scope [c] elt Γ (if k then some d else none) Γ1 := ⟨(hc ⟨C.X.s_0, fun _ => none, 0, [], [], fun _ => none, []⟩).1, fun y σ H Qn Qs ok k1 k2 => ⟨_, pts_one (wt _ c), (hc y).2 σ H _ ok fun H1 q1 ok1 => by
  cases k with
  | true =>
    refine iteT fun s Hh A cl fp => ?_
    refine (h rfl ⟨s, Hh, A, cl, fp, y.H0, y.gs⟩).2 σ H1 _ (EnvOk.inX (C := C.sub scope y) (X' := C.X.blk s Hh scope (compEnvC scope cl A C.X.env) fp) rfl ok1) fun x H' q2 q3 q4 => ?_
    have e := (hc y).1.own (σ := σ)
    rw [e] at q2 q4
    exact k2 d rfl x H' (q1.trans q2) (EnvOk.inX (C := C.sub scope ⟨s, Hh, A, cl, fp, y.H0, y.gs⟩) (X' := (C.sub scope y).X) rfl q3) q4
  | false => exact iteF (k1 rfl H1 q1 ok1)⟩⟩

/-- a list at p is put among what stood before -/
theorem EnvOk.hide {p : Addr} {acc : HO} (ok : EnvOk C Γ σ (del H p)) (hp : H p = some acc) :
    EnvOk { C with H0 := upd C.H0 p acc } Γ σ H ∧ (∀ O H', bas { C with H0 := upd C.H0 p acc } O H' = bas C O (del H' p)) := by
  obtain ⟨p0, pn⟩ := ok.fresh (del_same (H := H) (p := p))
  have b0 : C.B0 p = none := by
    cases q : C.B0 p with
    | none => rfl
    | some o => rw [ok.base p o q] at p0; cases p0
  have eb : ∀ O H', bas { C with H0 := upd C.H0 p acc } O H' = bas C O (del H' p) := fun O H' => by
    funext b
    unfold bas
    by_cases ho : O b
    · rw [if_pos ho, if_pos ho]
    · rw [if_neg ho, if_neg ho]
      show (if ((upd C.H0 p acc) b).isSome = true then C.B0 b else H' b) = _
      by_cases e : b = p
      · subst e; rw [upd_same, p0, del_same]
        simp [b0]
      · rw [upd_ne e, del_ne e]
  refine ⟨⟨fun i e h => ?_, ok.nd, fun a h => ?_, fun b o h1 h2 => ?_, fun b o h => ?_, ok.mu0, ok.tape, fun q hq => ?_⟩, eb⟩
  · obtain ⟨o, e1, e2⟩ := ok.ents i e h
    refine ⟨o, e1, ?_⟩
    rw [eb]
    cases e with
    | no => trivial
    | v d => exact e2
    | own ds => obtain ⟨a, vs, q, r, t⟩ := e2; exact ⟨a, vs, q, del_sub _ _ r, t⟩
  · rcases ok.new a h with q | q
    · left
      show (upd C.H0 p acc) a = none
      rw [upd_ne (fun z : a = p => pn (by rw [← z]; exact h))]; exact q
    · exact .inr q
  · have h1 : (upd C.H0 p acc) b = some o := h1
    by_cases e : b = p
    · subst e
      rw [upd_same] at h1
      cases h1; exact hp
    · rw [upd_ne e] at h1
      exact del_sub b o (ok.keep b o h1 h2)
  · show (upd C.H0 p acc) b = some o
    rw [upd_ne (fun z => by subst z; rw [b0] at h; cases h)]
    exact ok.base b o h
  · rw [eb]; exact ok.ghs q hq
theorem EnvOk.unhide {p : Addr} {acc : HO} (p0 : C.H0 p = none) (b0 : C.B0 p = none) (ok : EnvOk { C with H0 := upd C.H0 p acc } Γ σ H) (hm : p ∉ C.mu) : EnvOk C Γ σ (del H p) ∧ H p = some acc := by
  have hp : H p = some acc := ok.keep p _ (show (upd C.H0 p acc) p = _ from upd_same) hm
  have pn : ¬ Own Γ σ p := fun z => by
    rcases ok.new p z with q | q
    · have q : (upd C.H0 p acc) p = none := q
      rw [upd_same] at q; cases q
    · exact hm q
  have eb : ∀ O, bas { C with H0 := upd C.H0 p acc } O H = bas C O (del H p) := fun O => by
    funext b
    unfold bas
    by_cases ho : O b
    · rw [if_pos ho, if_pos ho]
    · rw [if_neg ho, if_neg ho]
      show (if ((upd C.H0 p acc) b).isSome = true then C.B0 b else H b) = _
      by_cases e : b = p
      · subst e; rw [upd_same, p0, del_same]
        simp [b0]
      · rw [upd_ne e, del_ne e]
  refine ⟨⟨fun i e h => ?_, ok.nd, fun a h => ?_, fun b o h1 h2 => ?_, fun b o h => ?_, ok.mu0, ok.tape, fun q hq => ?_⟩, hp⟩
  · obtain ⟨o, e1, e2⟩ := ok.ents i e h
    refine ⟨o, e1, ?_⟩
    rw [eb] at e2
    cases e with
    | no => trivial
    | v d => exact e2
    | own ds =>
      obtain ⟨a, vs, q, r, t⟩ := e2
      exact ⟨a, vs, q, by rw [del_ne (fun z => pn ⟨i, _, h, rfl, by rw [e1, q, z]⟩)]; exact r, t⟩
  · rcases ok.new a h with q | q
    · have q : (upd C.H0 p acc) a = none := q
      rw [upd_ne (fun z : a = p => pn (by rw [← z]; exact h))] at q; exact .inl q
    · exact .inr q
  · have e : b ≠ p := fun z => by subst z; rw [p0] at h1; cases h1
    rw [del_ne e]
    exact ok.keep b o (show (upd C.H0 p acc) b = some o by rw [upd_ne e]; exact h1) h2
  · have q : (upd C.H0 p acc) b = some o := ok.base b o h
    rw [upd_ne (fun z => by subst z; rw [b0] at h; cases h)] at q
    exact q
  · have := ok.ghs q hq
    rw [eb] at this; exact this
theorem EnvOk.wiped (ok : EnvOk C Γ σ H) : ∀ vs : List Nat, (∀ v ∈ vs, v < Γ.length ∧ NoT C v) → EnvOk C (wE Γ vs) (wipe σ vs) H
  | [], _ => ok
  | v :: vs, h => (EnvOk.wiped ok vs fun u hu => h u (by simp [hu])).put (by rw [wE_length]; exact (h v (by simp)).1) (h v (by simp)).2 rfl trivial
theorem own_wiped : ∀ (vs : List Nat) (a : Addr), Own (wE Γ vs) (wipe σ vs) a → Own Γ σ a
  | [], a, h => h
  | v :: vs, a, h => own_wiped vs a (put_own rfl h)
/-- back from a block: outside vs what the block says, inside vs what was -/
theorem EnvOk.back (oa : EnvOk C Γ σ Ha) (ob : EnvOk C Γ2 σ' Hb) (k : Keep (Own Γ σ) Ha Hb) (sh : Sh Γ Γ1) (h1 : ∀ i : Nat, i ∉ vs → Γ2[i]? = Γ1[i]?) (h2 : ∀ i : Nat, i ∉ vs → σ'[i]? = σ[i]?)
    (h3 : ∀ i : Nat, i ∈ vs → Γ1[i]? = Γ[i]?) (h4 : ∀ (i : Nat) (e : Ent), i ∈ vs → Γ[i]? = some e → e.isOwn = false) (ht : ∀ v ∈ vs, NoT C v) : EnvOk C Γ1 σ Hb := by
  have eo : Own Γ1 σ = Own Γ σ := sh.own
  have noin : ∀ (i : Nat) (e : Ent), Γ1[i]? = some e → e.isOwn = true → i ∉ vs := fun i e q w z => by
    rw [h3 i z] at q
    rw [h4 i e z q] at w; cases w
  have sub : ∀ a, Own Γ1 σ a → Own Γ2 σ' a := fun a ⟨i, e, q1, q2, q3⟩ => by
    have n := noin i e q1 q2
    exact ⟨i, e, by rw [h1 i n]; exact q1, q2, by rw [h2 i n]; exact q3⟩
  have bm := bas_anti (C := C) (H := Hb) sub
  refine ⟨fun i e h => ?_, fun i j a e f q1 q2 q3 q4 q5 q6 => ?_, fun a h => oa.new a (eo ▸ h), ob.keep, oa.base, oa.mu0, ?_, fun p hp => dp_mono bm _ _ (ob.ghs p hp)⟩
  · by_cases z : i ∈ vs
    · rw [h3 i z] at h
      obtain ⟨o, q, r⟩ := oa.ents i e h
      refine ⟨o, q, ?_⟩
      cases e with
      | no => trivial
      | v d =>
        obtain ⟨x, r1, r2⟩ := r
        refine ⟨x, r1, ?_⟩
        rw [eo]; exact dp_mono (bas_mono k) d x r2
      | own ds => exact absurd (h4 i _ z h) (by intro w; cases w)
    · obtain ⟨o, q, r⟩ := ob.ents i e (by rw [h1 i z]; exact h)
      rw [h2 i z] at q
      refine ⟨o, q, ?_⟩
      cases e with
      | no => trivial
      | v d => obtain ⟨x, r1, r2⟩ := r; exact ⟨x, r1, dp_mono bm d x r2⟩
      | own ds => obtain ⟨a, ws, r1, r2, r3⟩ := r; exact ⟨a, ws, r1, r2, r3.mono bm⟩
  · have n := noin i e q1 q2
    have m := noin j f q4 q5
    exact ob.nd i j a e f (by rw [h1 i n]; exact q1) q2 (by rw [h2 i n]; exact q3) (by rw [h1 j m]; exact q4) q5 (by rw [h2 j m]; exact q6)
  · rcases ob.tape with z | ⟨a, ds, z, q1, q2⟩
    · exact .inl z
    · have n0 : 0 ∉ vs := fun w => by
        rcases ht 0 w with y | y
        · rw [z] at y; cases y
        · exact y rfl
      exact .inr ⟨a, ds, z, by rw [← h2 0 n0]; exact q1, by rw [← h1 0 n0]; exact q2⟩

def gAll (C : Ctx) (scope : Scope) (tg : Expr) : TG := fun x σ H Q => ∀ (s : Shared) (Hh : Hp) (A : Addr) (cl : List (Str × Addr)) (fp : List Addr), Wg (C.X.blk s Hh scope (compEnvC scope cl A C.X.env) fp) tg x σ H Q
def tAll (C : Ctx) (scope : Scope) (ifs : List Expr) : TT := fun σ H Q => ∀ (s : Shared) (Hh : Hp) (A : Addr) (cl : List (Str × Addr)) (fp : List Addr), Wts (C.X.blk s Hh scope (compEnvC scope cl A C.X.env) fp) ifs σ H Q
def eAll (C : Ctx) (scope : Scope) (elt : Expr) : TE := fun σ H Q => ∀ (s : Shared) (Hh : Hp) (A : Addr) (cl : List (Str × Addr)) (fp : List Addr), Wp (C.X.blk s Hh scope (compEnvC scope cl A C.X.env) fp) elt σ H Q
theorem gAll_pg {scope : Scope} (s : Shared) (Hh : Hp) (A : Addr) (cl : List (Str × Addr)) (fp : List Addr) : PG (C.X.blk s Hh scope (compEnvC scope cl A C.X.env) fp) tg (gAll C scope tg) := ⟨fun pins s' σ H v u Q I r h => (wg _ tg).run pins s' σ H v u Q I r (h s Hh A cl fp)⟩
theorem tAll_pt {scope : Scope} (s : Shared) (Hh : Hp) (A : Addr) (cl : List (Str × Addr)) (fp : List Addr) : PTs (C.X.blk s Hh scope (compEnvC scope cl A C.X.env) fp) ifs (tAll C scope ifs) := ⟨fun pins s' σ H Q I h => (wts _ ifs).run pins s' σ H Q I (h s Hh A cl fp)⟩
theorem eAll_pe {scope : Scope} (s : Shared) (Hh : Hp) (A : Addr) (cl : List (Str × Addr)) (fp : List Addr) : PE (C.X.blk s Hh scope (compEnvC scope cl A C.X.env) fp) elt (eAll C scope elt) := ⟨fun pins s' σ H Q I h => (wp _ elt).run pins s' σ H Q I (h s Hh A cl fp)⟩
/-- what holds behind a comprehension's reading: a new list -/
def LcR (C : Ctx) (tg iter elt : Expr) (ifs : List Expr) (scope : Scope) (vs : List Nat) (Γ : List Ent) (ds : List D) (Γ' : List Ent) : Prop := Sh Γ Γ' ∧ ∀ (σ : St) (H : Hp) (Q : VK), EnvOk C Γ σ H →
  (∀ p ws H', H p = none → Keep (Own Γ σ) H H' → H' p = some (.lst ws) → EnvOk C Γ' σ (del H' p) → DpAll C.X.K (bas C (Own Γ σ) (del H' p)) ws ds → Q (.ref p) H') → tLc (Wi C.X tg iter) (gAll C scope tg) (tAll C scope ifs) (eAll C scope elt) vs σ H Q
theorem lc_read {α β γ : Type} {l : List α} {f : α → D} {a0 : β} {scope : Scope} {js : List Nat} {own : List (Str × Nat)} (step : β → α → Option γ × β) (g : γ → D) (G : β → List Ent) (Gt : β → α → List Ent)
    (hi : IT C tg iter Γ (l.map f) (G a0)) (hl : l.length ≤ 1000000)
    (hv : ∀ v ∈ own.map (·.2), v < (G a0).length ∧ NoT C v) (ho : ∀ a (i : Nat) (e : Ent), i ∈ own.map (·.2) → (G a)[i]? = some e → e.isOwn = false) (hjs : ∀ j ∈ js, j ∈ own.map (·.2))
    (hsh : ∀ a, Sh (G a0) (G a)) (hin : ∀ a (i : Nat), i ∈ own.map (·.2) → (G a)[i]? = (G a0)[i]?)
    (hg : ∀ (y : Sb) x a, x ∈ l → Tg (C.sub scope y) tg (wE (G a) (own.map (·.2))) (f x) (Gt a x) js)
    (he : ∀ x a, x ∈ l → CE C scope ifs elt (Gt a x) ((step a x).1.map g) (Gt (step a x).2 x)) : LcR C tg iter elt ifs scope (own.map (·.2)) Γ ((runC step a0 l).1.map g) (G (runC step a0 l).2) := by
  refine ⟨hi.1.trans (hsh _), fun σ H Q ok kk => ?_⟩
  refine hi.2 σ H _ ok fun gs Jt H1 k1 ok1 g1 it Dl hD => ?_
  generalize hvs : own.map (·.2) = vs at *
  have lm : (l.map f).length = l.length := List.length_map ..
  have e1 : Own (G a0) σ = Own Γ σ := hi.1.own
  rw [← e1] at g1
  have hn0 : H Dl = none := by
    cases w : H Dl with
    | none => rfl
    | some o =>
      by_cases n : Own Γ σ Dl
      · obtain ⟨us, w2⟩ := ok1.ownAt (e1 ▸ n : Own (G a0) σ Dl)
        rw [w2] at hD; cases hD
      · rw [k1 Dl o n w] at hD; cases hD
  have oka : EnvOk (C.gho gs) (G a0) σ H1 := ok1.gho g1
  obtain ⟨D0, Dn⟩ := oka.fresh hD
  have Db : C.B0 Dl = none := by
    cases q : C.B0 Dl with
    | none => rfl
    | some o => rw [oka.base Dl o q] at D0; cases D0
  have Dm : Dl ∉ C.mu := fun z => Dn (oka.mus z)
  have eO : ∀ a, Own (G a) σ = Own (G a0) σ := fun a => (hsh a).own
  refine ⟨fun i m H' => m = l.length - i ∧ i ≤ l.length ∧ Keep (Own (G a0) σ) H1 H' ∧ EnvOk (C.gho gs) (G (runC step a0 (l.take i)).2) σ (del H' Dl) ∧
      ∃ acc, H' Dl = some (.lst acc) ∧ DpAll C.X.K (bas (C.gho gs) (Own (G a0) σ) (del H' Dl)) acc ((runC step a0 (l.take i)).1.map g), ⟨l.length, rfl, Nat.zero_le _, .same (same_new hD), ?_, [], upd_same, .nil⟩, ?_⟩
  · rw [del_upd hD]; exact oka
  rintro i m H' ⟨rfl, hli, kp, ok', acc, ha, da⟩
  generalize hr : runC step a0 (l.take i) = r at ok' da
  obtain ⟨out, a⟩ := r
  simp only [] at ok' da
  obtain ⟨okh, eb⟩ := ok'.hide ha
  have eoa : Own (G a) σ = Own (G a0) σ := eO a
  obtain ⟨t1, t2⟩ := it i _ H' okh.sub (fun p hp => okh.ghs p (List.mem_append.mpr (.inl hp)))
  by_cases lt : i < l.length
  · have hx : l[i] ∈ l := List.getElem_mem lt
    have hget : l[i]? = some l[i] := List.getElem?_eq_getElem lt
    have hrun := runC_take step l a0 i l[i] hget
    rw [hr] at hrun
    simp only [] at hrun
    generalize l[i] = x at hx hget hrun
    obtain ⟨go, yl⟩ := t1 (f x) (by rw [List.getElem?_map, hget]; rfl)
    refine .inr ⟨go, fun H2 => Keep (Own (G a0) σ) H1 H2 ∧ EnvOk (C.gho gs) (G (runC step a0 (l.take (i + 1))).2) σ (del H2 Dl) ∧
      ∃ acc, H2 Dl = some (.lst acc) ∧ DpAll C.X.K (bas (C.gho gs) (Own (G a0) σ) (del H2 Dl)) acc ((runC step a0 (l.take (i + 1))).1.map g), fun H2 ⟨z1, z2, z3⟩ => ⟨l.length - (i + 1), by omega, rfl, lt, z1, z2, z3⟩, fun v H2 hy => ?_⟩
    obtain ⟨s2, dx⟩ := yl v H2 hy
    have ok2 := okh.mono s2
    have dx2 := gr_bas okh s2 dx
    -- the context of the block, for every block
    have kp2 : Keep (Own (G a0) σ) H1 H2 := kp.trans (.same s2)
    have ha2 : H2 Dl = some (.lst acc) := s2 _ _ ha
    intro s Hh A cl fp
    let y : Sb := ⟨s, Hh, A, cl, fp, upd C.H0 Dl (.lst acc), gs⟩
    have okw : EnvOk (C.sub scope y) (wE (G a) vs) (wipe σ vs) H2 := EnvOk.inX (C := { (C.gho gs) with H0 := upd C.H0 Dl (.lst acc) }) (X' := C.X.blk s Hh scope (compEnvC scope cl A C.X.env) fp) rfl (ok2.wiped vs fun v hv' => ⟨by
      have := (hsh a)
      have q := (hv v hv').1
      have w := this v
      rw [List.getElem?_eq_getElem q] at w
      cases z : (G a)[v]? with
      | none => rw [z] at w; cases w
      | some _ => exact (List.getElem?_eq_some_iff.mp z).1, (hv v hv').2⟩)
    have dxw : Dp C.X.K (bas (C.sub scope y) (Own (wE (G a) vs) (wipe σ vs)) H2) v (f x) := dp_mono (bas_anti fun b => own_wiped vs b) _ _ dx2
    refine (hg y x a hx).2 _ H2 v _ okw dxw fun σ2 ag sub2 ok3 => ?_
    have agv : ∀ i : Nat, i ∉ vs → σ2[i]? = σ[i]? := fun i hi => by
      rw [ag.2 i fun z => hi (hjs i z), wipe_get, if_neg hi]
    refine ⟨by
      rw [wipe_agree ag hjs]
      apply List.ext_getElem?
      intro i
      rw [wipe_get, wipe_get, wipe_length]
      by_cases z : i ∈ vs
      · rw [if_pos z, if_pos z]
      · rw [if_neg z, if_neg z], ?_⟩
    have subO : ∀ b, Own (Gt a x) σ2 b → Own (G a0) σ b := fun b h => by
      have := own_wiped vs b (sub2 b h)
      rw [eoa] at this; exact this
    have subO' : ∀ b, Own (G a0) σ b → Own (Gt a x) σ2 b := fun b h => by
      rw [← eoa] at h
      obtain ⟨i, e, q1, q2, q3⟩ := h
      have n : i ∉ vs := fun z => by rw [ho a i e z q1] at q2; cases q2
      exact ⟨i, e, by rw [(hg y x a hx).1.2 i fun z => n (hjs i z), wE_get _ _ _ n]; exact q1, q2, by rw [agv i n]; exact q3⟩
    -- what holds behind the turn
    have after : ∀ H4, Keep (Own (Gt a x) σ2) H2 H4 → EnvOk (C.sub scope y) (Gt (step a x).2 x) σ2 H4 → Keep (Own (G a0) σ) H1 H4 ∧ H4 Dl = some (.lst acc) ∧ EnvOk (C.gho gs) (G (step a x).2) σ (del H4 Dl) := fun H4 k4 ok4 => by
      have k4' : Keep (Own (G a0) σ) H2 H4 := fun b o n h => k4 b o (fun z => n (subO b z)) h
      have ok4' : EnvOk { (C.gho gs) with H0 := upd C.H0 Dl (.lst acc) } (Gt (step a x).2 x) σ2 H4 := EnvOk.inX (C := C.sub scope y) (X' := C.X) rfl ok4
      obtain ⟨ok5, h5⟩ := EnvOk.unhide (C := C.gho gs) D0 Db ok4' Dm
      refine ⟨kp2.trans k4', h5, EnvOk.back (Γ := G a) (Γ2 := Gt (step a x).2 x) (σ' := σ2) (Ha := del H' Dl) (vs := vs) ok' ok5 ?_ ?_ (fun i hi => ?_) agv (fun i hi => ?_) (fun i e hi he' => ho a i e hi he') (fun v hv' => (hv v hv').2)⟩
      · intro b o n h
        have nb : b ≠ Dl := fun z => by subst z; rw [del_same] at h; cases h
        rw [del_ne nb] at h ⊢
        exact k4' b o (by rw [← eoa]; exact n) (s2 b o h)
      · intro i
        rw [(hsh _ i), (hsh a i)]
      · rw [(hg y x (step a x).2 hx).1.2 i fun z => hi (hjs i z), wE_get _ _ _ hi]
      · rw [hin _ i hi, hin a i hi]
    have db : DpAll C.X.K (bas (C.gho gs) (Own (G a0) σ) (del H2 Dl)) acc (out.map g) := dps_mono (bas_mono fun b o n h => by
      have nb : b ≠ Dl := fun z => by subst z; rw [del_same] at h; cases h
      rw [del_ne nb] at h ⊢
      exact s2 b o h) _ _ da
    have db4 : ∀ H4, Keep (Own (Gt a x) σ2) H2 H4 → DpAll C.X.K (bas (C.gho gs) (Own (G a0) σ) (del H4 Dl)) acc (out.map g) := fun H4 k4 => dps_mono (bas_mono fun b o n h => by
      have nb : b ≠ Dl := fun z => by subst z; rw [del_same] at h; cases h
      rw [del_ne nb] at h ⊢
      exact k4 b o (fun z => n (subO b z)) h) _ _ db
    intro s' Hh' A' cl' fp'
    have okT : EnvOk (C.sub scope ⟨s', Hh', A', cl', fp', upd C.H0 Dl (.lst acc), gs⟩) (Gt a x) σ2 H2 := EnvOk.inX (C := C.sub scope y) (X' := C.X.blk s' Hh' scope (compEnvC scope cl' A' C.X.env) fp') rfl ok3
    refine (he x a hx).2 ⟨s', Hh', A', cl', fp', upd C.H0 Dl (.lst acc), gs⟩ σ2 H2 _ _ okT (fun hno H4 k4 ok4 => ?_) fun d hd v H4 k4 ok4 dv => ?_
    · obtain ⟨z1, z2, z3⟩ := after H4 k4 (EnvOk.inX (C := C.sub scope ⟨s', Hh', A', cl', fp', upd C.H0 Dl (.lst acc), gs⟩) (X' := (C.sub scope y).X) rfl ok4)
      cases q : step a x with
      | mk o a' =>
        rw [q] at hno hrun z3
        cases o with
        | some z => cases hno
        | none =>
          simp only [] at hrun z3
          rw [hrun]
          exact ⟨z1, z3, acc, z2, db4 H4 k4⟩
    · obtain ⟨z1, z2, z3⟩ := after H4 k4 (EnvOk.inX (C := C.sub scope ⟨s', Hh', A', cl', fp', upd C.H0 Dl (.lst acc), gs⟩) (X' := (C.sub scope y).X) rfl ok4)
      cases q : step a x with
      | mk o a' =>
        rw [q] at hd hrun z3
        cases o with
        | none => cases hd
        | some z =>
          simp only [] at hrun z3
          have ed : g z = d := Option.some.inj hd
          rw [hrun]
          have len : acc.length ≤ i := by
            have h1 := dps_len da
            rw [List.length_map] at h1
            have h2 : ∀ (l : List α) (a : β), (runC step a l).1.length ≤ l.length := by
              intro l
              induction l with
              | nil => intro a; exact Nat.le_refl _
              | cons x l ih =>
                intro a
                simp only [runC]
                cases step a x with
                | mk o a' =>
                  cases o with
                  | none => exact Nat.le_succ_of_le (ih a')
                  | some z => exact Nat.succ_le_succ (ih a')
            have h3 := h2 (l.take i) a0
            rw [hr] at h3
            simp only [List.length_take] at h3
            omega
          have dd : del (upd H4 Dl (.lst (acc ++ [v]))) Dl = del H4 Dl := by
            funext b
            by_cases e : b = Dl
            · subst e; rw [del_same, del_same]
            · rw [del_ne e, del_ne e, upd_ne e]
          refine ⟨acc, z2, by rw [sizeLine_eq]; omega, fun b o n h => ?_, by rw [dd]; exact z3, acc ++ [v], upd_same, ?_⟩
          · rw [upd_ne (fun w => by subst w; rw [hD] at h; cases h)]
            exact z1 b o n h
          · rw [dd, List.map_append]
            refine dps_app (db4 H4 k4) (.cons ?_ .nil)
            show Dp C.X.K _ v (g z)
            rw [ed, ← eb]
            have eO2 : Own (Gt a x) σ2 = Own (G a0) σ := funext fun b => propext ⟨subO b, subO' b⟩
            rw [eO2] at dv
            exact dv
  · have e2 : i = l.length := by omega
    refine .inl ⟨t2 (by rw [lm]; omega), ?_⟩
    rw [e2, List.take_length] at hr
    rw [hr] at kk
    refine kk Dl acc H' hn0 (k1.trans (by rw [← e1]; exact kp)) ha ok'.ungho ?_
    rw [← e1]; exact da
/-- [elt for tg in iter if ..]: a new list -/
theorem el_lc {scope : Scope} {own : List (Str × Nat)} {Γ' : List Ent} (hc : C.X.calm = true) (hN : C.X.N.Nodup) (okb : BlkOk C.X.N C.X.env.scope scope own) (r : LcR C tg iter elt ifs scope (own.map (·.2)) Γ ds Γ')
    (hs : ∀ x, foldedSetIterable iter C.X.env x = pure x := by intro _; rfl) : EL C (.ListComp elt [⟨tg, iter, ifs, 0⟩] scope pos) Γ ds Γ' :=
  ⟨r.1, fun σ H Q ok kk => ⟨_, pe_lc (own := own) hc hN (wi _ tg iter) okb gAll_pg tAll_pt eAll_pe hs, r.2 σ H Q ok kk⟩⟩
/-- x = [elt ..] on one line, x a local that is no cell: owned -/
theorem b_setLc (i : Nat) {x : Str} {py : Pos} {spos : Pos} {scope : Scope} {own : List (Str × Nat)} {Γ' : List Ent} (hc : C.X.calm = true) (hN : C.X.N.Nodup) (hy : C.X.N[i]? = some x) (hyl : C.X.env.scope.names.lookup x = some .local) (hl : i < Γ'.length) (ht : NoT C i)
    (hsw : swapsWith (.ListComp elt [⟨tg, iter, ifs, 0⟩] scope pos) (some (.Name x py)) spos.line C.X.env = pure true) (okb : BlkOk C.X.N C.X.env.scope scope own) (r : LcR C tg iter elt ifs scope (own.map (·.2)) Γ ds Γ')
    (hs : ∀ x, foldedSetIterable iter C.X.env x = pure x := by intro _; rfl) : B C (.Assign [.Name x py] (.ListComp elt [⟨tg, iter, ifs, 0⟩] scope pos) spos) Γ (.nx (Γ'.set i (.own (.lst ds)))) := fun σ H Z ok kk =>
  ⟨_, ps_setLc (own := own) (i := i) hc hN hy hyl hsw (wi _ tg iter) okb gAll_pg tAll_pt eAll_pe hs, r.2 σ H _ ok fun p ws H' n k1 e1 ok1 q1 => kk _ H' (ok1.putOwn hl ht e1 (r.1.own (σ := σ) ▸ q1))⟩
end
end TL

namespace TL
open PySem hiding start
open PySem.Spec
open L2 hiding Dp DpAll
open PyProof.Rows hiding St

/-! ### promises -/
/-- a def that changes nothing: arguments by their trees, the answer's tree -/
def spV (K : PySem.W.Frag) {A : Type} (ein : A → List D) (pre : A → Prop) (eout : A → D) : Sp := fun vs H Q _ => ∃ F a, Same F H ∧ DpAll K F vs (ein a) ∧ pre a ∧ Gv K F H (eout a) Q
/-- a def whose first argument is a list that it changes -/
def spM (K : PySem.W.Frag) {A : Type} (tin : A → List D) (ein : A → List D) (pre : A → Prop) (eout : A → D) (tout : A → List D) : Sp := fun vs H Q _ => ∃ F a p ws rest, vs = .ref p :: rest ∧ Same F H ∧ F p = none ∧ H p = some (.lst ws) ∧
  DpAll K F ws (tin a) ∧ DpAll K F rest (ein a) ∧ pre a ∧ ∀ z H' ws', (∀ b o, b ≠ p → H b = some o → H' b = some o) → H' p = some (.lst ws') → DpAll K (Gr F H H') ws' (tout a) → Dp K (Gr F H H') z (eout a) → Q z H'

structure Db where
  cdv : Value
  A : Around
  outer : List Env
  s : Shared
  H : Hp
  E : XK
  F : Hp
  p : Addr
section
variable {P : Program} {w : World} {K : PySem.W.Frag} {mg : Str → Option Value} {base : Heap}
@[reducible] def dctx (P : Program) (w : World) (K : PySem.W.Frag) (mg : Str → Option Value) (base : Heap) (N : List Str) (qual : Str) (scope : Scope) (f : Addr) (mu : List Addr) (y : Db) : Ctx :=
  ⟨(cxOf CX0 P w K mg base N qual scope f y.cdv y.A y.outer y.s y.H y.E).nox, y.H, y.F, mu, [], fun _ _ _ _ => False⟩
def ini (ds : List D) (n : Nat) : List Ent := ds.map .v ++ List.replicate (n - ds.length) .no

theorem start_get {N : List Str} {vs : List V} {i : Nat} {o : Option V} (h : (start N vs)[i]? = some o) : (∃ v, vs[i]? = some v ∧ o = some v) ∨ (vs.length ≤ i ∧ i < N.length ∧ o = none) := by
  unfold start at h
  by_cases hi : i < vs.length
  · rw [List.getElem?_append_left (by simpa using hi), List.getElem?_map, List.getElem?_eq_getElem hi] at h
    exact .inl ⟨vs[i], List.getElem?_eq_getElem hi, (Option.some.inj h).symm⟩
  · rw [List.getElem?_append_right (by simpa using hi), List.getElem?_replicate] at h
    split at h
    · rename_i l
      simp only [List.length_map] at l
      exact .inr ⟨by omega, by omega, (Option.some.inj h).symm⟩
    · cases h
theorem start_at {N : List Str} {vs : List V} {i : Nat} {v : V} (h : vs[i]? = some v) : (start N vs)[i]? = some (some v) := by
  unfold start
  have hi := (List.getElem?_eq_some_iff.mp h).1
  rw [List.getElem?_append_left (by simpa using hi), List.getElem?_map, h]; rfl
theorem start_none {N : List Str} {vs : List V} {i : Nat} (h : vs.length ≤ i) (h2 : i < N.length) : (start N vs)[i]? = some none := by
  unfold start
  rw [List.getElem?_append_right (by simpa using h), List.getElem?_replicate, if_pos (by simp; omega)]
theorem ini_get {ds : List D} {n i : Nat} {e : Ent} (h : (ini ds n)[i]? = some e) : (∃ d, ds[i]? = some d ∧ e = .v d) ∨ (ds.length ≤ i ∧ i < n ∧ e = .no) := by
  unfold ini at h
  by_cases hi : i < ds.length
  · rw [List.getElem?_append_left (by simpa using hi), List.getElem?_map, List.getElem?_eq_getElem hi] at h
    exact .inl ⟨ds[i], List.getElem?_eq_getElem hi, (Option.some.inj h).symm⟩
  · rw [List.getElem?_append_right (by simpa using hi), List.getElem?_replicate] at h
    split at h
    · rename_i l
      simp only [List.length_map] at l
      exact .inr ⟨by omega, by omega, (Option.some.inj h).symm⟩
    · cases h

theorem ok_start {C : Ctx} {N : List Str} {vs : List V} {ds : List D} (hm : C.mu = []) (hg : C.gh = []) (hs : Same C.B0 C.H0) (h : DpAll C.X.K C.B0 vs ds) : EnvOk C (ini ds N.length) (start N vs) C.H0 := by
  have no : ∀ a, ¬ Own (ini ds N.length) (start N vs) a := fun a ⟨i, e, h1, h2, _⟩ => by
    rcases ini_get h1 with ⟨d, _, q⟩ | ⟨_, _, q⟩ <;> (subst q; cases h2)
  have bs : Same C.B0 (bas C (Own (ini ds N.length) (start N vs)) C.H0) := fun b o q => by
    rw [bas_eq (no b), hs b o q]; exact q
  refine ⟨fun i e q => ?_, fun i j a e f h1 h2 => ?_, fun a q => absurd q (no a), fun b o q _ => q, hs, (fun a ha => by rw [hm] at ha; cases ha), .inl hm, (fun p hp => by rw [hg] at hp; cases hp)⟩
  · rcases ini_get q with ⟨d, q1, q2⟩ | ⟨q1, q2, q3⟩
    · subst q2
      obtain ⟨x, x1, x2⟩ := dps_get' h i d q1
      exact ⟨_, start_at x1, x, rfl, dp_mono' bs x2⟩
    · subst q3
      exact ⟨_, start_none (by rw [dps_len h]; exact q1) q2, trivial⟩
  · rcases ini_get h1 with ⟨d, _, q⟩ | ⟨_, _, q⟩ <;> (subst q; cases h2)
theorem bas_gr {C : Ctx} {H' : Hp} (hm : C.mu = []) : bas C (· ∈ C.mu) H' = Gr C.B0 C.H0 H' := by
  funext b
  rw [bas_eq (by rw [hm]; exact List.not_mem_nil)]; rfl

/-- A DEF that changes nothing, by its body -/
theorem fn_pure {x qual : Str} {st : Stmt} {f : Addr} {fd : FuncData} {N ps : List Str} {k : Nat} {A : Type} {ein : A → List D} {pre : A → Prop} {eout : A → D} (F : Fun K x qual st f fd) (Sc : FnScope N ps (defScope st)) (hl : ∀ a, (ein a).length = ps.length)
    (hbody : ∀ (y : Db) (a : A), Room k (y.A.deeper (envOfC qual (defScope st) y.s.heap.objs.size f y.cdv)) → pre a → S (dctx P w K mg base N qual (defScope st) f [] y) (defBody st) (ini (ein a) N.length) (.rt (eout a) [])) :
    FnOk P w K mg base CX0 (k + 1) f fd ps (spV K ein pre eout) :=
  F.ok Sc (fun vs H Q E ⟨F0, a, _, h, _, _⟩ => (dps_len h).trans (hl a)) fun cdv A0 outer s H vs Q E hr ⟨F0, a, hs, h, hp, g⟩ => ⟨_, ws _ _, by
    let y : Db := ⟨cdv, A0, outer, s, H, E, F0, 0⟩
    refine hbody y a hr hp (start N vs) H { nx := fun _ H' => Q .non H', rt := Q } (ok_start (C := dctx P w K mg base N qual (defScope st) f [] y) rfl rfl hs h) fun z H' f1 q => ?_
    rw [bas_gr rfl] at q
    exact g z H' (fun b o e => f1.1 b o e List.not_mem_nil) q⟩
/-- .. that gives None at its end -/
theorem fn_none {x qual : Str} {st : Stmt} {f : Addr} {fd : FuncData} {N ps : List Str} {k : Nat} {A : Type} {ein : A → List D} {pre : A → Prop} {Γ : A → List Ent} (F : Fun K x qual st f fd) (Sc : FnScope N ps (defScope st)) (hl : ∀ a, (ein a).length = ps.length)
    (hbody : ∀ (y : Db) (a : A), Room k (y.A.deeper (envOfC qual (defScope st) y.s.heap.objs.size f y.cdv)) → pre a → S (dctx P w K mg base N qual (defScope st) f [] y) (defBody st) (ini (ein a) N.length) (.nx (Γ a))) :
    FnOk P w K mg base CX0 (k + 1) f fd ps (spV K ein pre fun _ => .none) :=
  F.ok Sc (fun vs H Q E ⟨F0, a, _, h, _, _⟩ => (dps_len h).trans (hl a)) fun cdv A0 outer s H vs Q E hr ⟨F0, a, hs, h, hp, g⟩ => ⟨_, ws _ _, by
    let y : Db := ⟨cdv, A0, outer, s, H, E, F0, 0⟩
    refine hbody y a hr hp (start N vs) H { nx := fun _ H' => Q .non H', rt := Q } (ok_start (C := dctx P w K mg base N qual (defScope st) f [] y) rfl rfl hs h) fun σ' H' ok => ?_
    exact g .non H' (fun b o e => ok.keep b o e List.not_mem_nil) .non⟩
theorem bas_gr1 {C : Ctx} {H' : Hp} {p : Addr} {o : HO} (hm : C.mu = [p]) (hp : C.H0 p = some o) (fp : C.B0 p = none) : bas C (· ∈ C.mu) H' = Gr C.B0 C.H0 H' := by
  funext b
  by_cases e : b = p
  · subst e
    have n : ∀ O : Addr → Prop, O b → bas C O H' b = none := fun O ho => by unfold bas; rw [if_pos ho]
    rw [n _ (by rw [hm]; exact List.mem_singleton.mpr rfl)]
    unfold Gr; rw [hp]; simp [fp]
  · rw [bas_eq (fun z => e (by rw [hm] at z; exact List.mem_singleton.mp z))]; rfl
theorem ok_tape {C : Ctx} {N : List Str} {rest : List V} {ws : List V} {tn ds : List D} {p : Addr} (hm : C.mu = [p]) (hg : C.gh = []) (hN : ds.length + 1 ≤ N.length) (hs : Same C.B0 C.H0) (fp : C.B0 p = none) (hp : C.H0 p = some (.lst ws)) (ht : DpAll C.X.K C.B0 ws tn) (h : DpAll C.X.K C.B0 rest ds) :
    EnvOk C (.own (.lst tn) :: ini ds (N.length - 1)) (start N (.ref p :: rest)) C.H0 := by
  have e0 : start N (.ref p :: rest) = some (.ref p) :: (start N (.ref p :: rest)).tail := rfl
  have et : ∀ i : Nat, (start N (V.ref p :: rest))[i + 1]? = (start (N.drop 1) rest)[i]? := fun i => by
    unfold start
    simp only [List.map_cons, List.cons_append, List.getElem?_cons_succ, List.length_drop, List.length_cons]
    rw [show N.length - (rest.length + 1) = N.length - 1 - rest.length by omega]
  have own1 : ∀ b, Own (.own (.lst tn) :: ini ds (N.length - 1)) (start N (.ref p :: rest)) b ↔ b = p := fun b => by
    constructor
    · rintro ⟨i, e, h1, h2, h3⟩
      cases i with
      | zero => rw [e0] at h3; simp at h3; exact h3.symm
      | succ i =>
        simp only [List.getElem?_cons_succ] at h1
        rcases ini_get h1 with ⟨d, _, q⟩ | ⟨_, _, q⟩ <;> (subst q; cases h2)
    · intro e; subst e; exact ⟨0, _, rfl, rfl, rfl⟩
  have bs : Same C.B0 (bas C (Own (.own (.lst tn) :: ini ds (N.length - 1)) (start N (.ref p :: rest))) C.H0) := fun b o q => by
    have nb : b ≠ p := fun z => by subst z; rw [fp] at q; cases q
    rw [bas_eq (fun z => nb ((own1 b).mp z))]
    rw [hs b o q]; exact q
  refine ⟨fun i e q => ?_, fun i j b e f h1 h2 h3 h4 h5 h6 => ?_, fun b q => .inr (by rw [(own1 b).mp q, hm]; exact List.mem_singleton.mpr rfl), fun b o q _ => q, hs, fun b hb => ?_, .inr ⟨p, tn, hm, rfl, rfl⟩, fun q hq => by rw [hg] at hq; cases hq⟩
  · cases i with
    | zero =>
      simp at q; subst q
      exact ⟨_, rfl, p, _, rfl, hp, dps_mono' bs ht⟩
    | succ i =>
      simp only [List.getElem?_cons_succ] at q
      rw [et]
      rcases ini_get q with ⟨d, q1, q2⟩ | ⟨q1, q2, q3⟩
      · subst q2
        obtain ⟨x, x1, x2⟩ := dps_get' h i d q1
        exact ⟨_, start_at x1, x, rfl, dp_mono' bs x2⟩
      · subst q3
        exact ⟨_, start_none (by rw [dps_len h]; exact q1) (by rw [List.length_drop]; exact q2), trivial⟩
  · have z1 : i = 0 := by
      cases i with
      | zero => rfl
      | succ i =>
        simp only [List.getElem?_cons_succ] at h1
        rcases ini_get h1 with ⟨d, _, q⟩ | ⟨_, _, q⟩ <;> (subst q; cases h2)
    have z2 : j = 0 := by
      cases j with
      | zero => rfl
      | succ i =>
        simp only [List.getElem?_cons_succ] at h4
        rcases ini_get h4 with ⟨d, _, q⟩ | ⟨_, _, q⟩ <;> (subst q; cases h5)
    rw [z1, z2]
  · rw [hm] at hb
    have : b = p := List.mem_singleton.mp hb
    subst this; exact fp
/-- A DEF with a tape -/
theorem fn_tape {x qual : Str} {st : Stmt} {f : Addr} {fd : FuncData} {N ps : List Str} {k : Nat} {A : Type} {tin ein : A → List D} {pre : A → Prop} {eout : A → D} {tout : A → List D} (F : Fun K x qual st f fd) (Sc : FnScope N ps (defScope st)) (hl : ∀ a, (ein a).length + 1 = ps.length)
    (hbody : ∀ (y : Db) (a : A), Room k (y.A.deeper (envOfC qual (defScope st) y.s.heap.objs.size f y.cdv)) → pre a → S (dctx P w K mg base N qual (defScope st) f [y.p] y) (defBody st) (.own (.lst (tin a)) :: ini (ein a) (N.length - 1)) (.rt (eout a) (tout a))) :
    FnOk P w K mg base CX0 (k + 1) f fd ps (spM K tin ein pre eout tout) :=
  F.ok Sc (fun vs H Q E ⟨F0, a, p, ws, rest, e, _, _, _, _, h, _⟩ => by subst e; rw [List.length_cons, dps_len h]; exact hl a) fun cdv A0 outer s H vs Q E hr ⟨F0, a, p, ws', rest, e, hs, fp, hp, ht, h, hpre, g⟩ => ⟨_, ws _ _, by
    subst e
    let y : Db := ⟨cdv, A0, outer, s, H, E, F0, p⟩
    have hN : ps.length ≤ N.length := by
      have := congrArg List.length Sc.pre
      rw [List.length_take] at this
      omega
    refine hbody y a hr hpre (start N (.ref p :: rest)) H { nx := fun _ H' => Q .non H', rt := Q } (ok_tape (C := dctx P w K mg base N qual (defScope st) f [p] y) rfl rfl (by have := hl a; omega) hs fp hp ht h) fun z H' f1 q => ?_
    have eg : bas (dctx P w K mg base N qual (defScope st) f [p] y) (· ∈ (dctx P w K mg base N qual (defScope st) f [p] y).mu) H' = Gr F0 H H' := bas_gr1 (C := dctx P w K mg base N qual (defScope st) f [p] y) rfl hp fp
    rw [eg] at q
    obtain ⟨ws2, r1, r2⟩ := f1.2 p (List.mem_singleton.mpr rfl)
    rw [eg] at r2
    exact g z H' ws2 (fun b o n e => f1.1 b o e (fun z => n (List.mem_singleton.mp z))) r1 r2 q⟩
end

/-! ### calls of defs -/
section
variable {C : Ctx} {Γ Γ1 Γ2 Γ3 : List Ent} {σ : St} {H H' : Hp} {a b e : Expr} {es : List Expr} {d dz : D} {ds : List D} {pos p p' : Pos} {x : Str} {k j : Nat}
theorem e_call {A : Type} {ein : A → List D} {pre : A → Prop} {eout : A → D} (c : C8.Cal C.X.prog C.X.w C.X.K C.X.mg C.X.base k x (spV C.X.K ein pre eout) []) (hr : Room j C.X.A) (hk : k ≤ j) (hg : Gl C.X x) (v : A) (hd : eout v = d) (ha : EA C (e :: es) Γ (ein v) Γ1) (hp : pre v)
    (hdb : (x == ("__debug__" : Str)) = false := by decide) (he : starEach (e :: es) C.X.env = (false, eval e C.X.env) :: starEach es C.X.env := by rfl) (hpl : (backTo pos (starEach es C.X.env)).any (·.1) = false := by rfl) : E C (.Call (.Name x p) (e :: es) [] pos) Γ d Γ1 := by
  subst hd
  exact ⟨ha.1, fun σ H Q ok kk => ⟨_, C8.pe_c c hr hk hg (wa _ _) hdb he hpl, ha.2 σ H _ ok fun xs H1 k1 ok1 q1 => by
    have g := gv_of (d := eout v) (Q := Q) ok1 (by
      rw [ha.1.own]
      exact fun x H' k3 ok3 q3 => kk x H' (k1.trans k3) ok3 q3)
    rw [ha.1.own] at g
    refine ⟨_, v, ok1.sub, ?_, hp, g⟩
    rw [List.append_nil]; exact q1⟩⟩
/-- .. whose result is a new list (promised so) is read as any other -/
theorem mutN (ok : EnvOk C Γ σ H) {i : Nat} {ds es : Ct} {a : Addr} {ho : HO} (h1 : Γ[i]? = some (.own ds)) (h2 : σ[i]? = some (some (.ref a))) (hk : ∀ b o, b ≠ a → H b = some o → H' b = some o) (ha : H' a = some ho)
    (h : CtOk C.X.K (bas C (Own Γ σ) H') ho es) (h0 : C.mu = [] ∨ i ≠ 0 ∨ ∃ ds, es = .lst ds) : EnvOk C (Γ.set i (.own es)) σ H' ∧ Keep (Own Γ σ) H H' := by
  have oa : Own Γ σ a := ⟨i, _, h1, rfl, h2⟩
  let H2 : Hp := fun b => if b = a then H a else H' b
  have e2 : ∀ b, b ≠ a → H2 b = H' b := fun b n => if_neg n
  have ea : H2 a = H a := if_pos rfl
  have s2 : Same H H2 := fun b o q => by
    by_cases n : b = a
    · subst n; rw [ea]; exact q
    · rw [e2 b n]; exact hk b o n q
  have eu : upd H2 a ho = H' := by
    funext b
    by_cases n : b = a
    · subst n; rw [upd_same, ha]
    · rw [upd_ne n, e2 b n]
  have hb : bas C (Own Γ σ) H2 = bas C (Own Γ σ) H' := by
    funext b
    by_cases n : b = a
    · subst n; unfold bas; rw [if_pos oa, if_pos oa]
    · unfold bas; rw [e2 b n]
  obtain ⟨m1, _, _⟩ := (ok.mono s2).mut (es := es) (vs := ho) h1 h2 (by rw [hb]; exact h) h0
  rw [eu] at m1
  exact ⟨m1, fun b o n q => hk b o (fun z => n (z ▸ oa)) q⟩
/-- a call that changes the list in slot i: its first argument -/
theorem e_callM {A : Type} {tin ein : A → List D} {pre : A → Prop} {eout : A → D} {tout : A → List D} (i : Nat) {nm : Str} (c : C8.Cal C.X.prog C.X.w C.X.K C.X.mg C.X.base k x (spM C.X.K tin ein pre eout tout) []) (hr : Room j C.X.A) (hk : k ≤ j) (hg : Gl C.X x) (v : A) (hdv : eout v = d)
    (hi : Γ1[i]? = some (.own (.lst (tin v)))) (hN : C.X.N[i]? = some nm) (hv : Vis C.X.env.scope nm) (ha : EA C es Γ (ein v) Γ1) (hp : pre v) (hd : (nm == ("__debug__" : Str)) = false := by decide) (hcd : (nm == ("__classdict__" : Str)) = false := by decide)
    (hdb : (x == ("__debug__" : Str)) = false := by decide) (hs : starEach (.Name nm p' :: es) C.X.env = (false, eval (.Name nm p') C.X.env) :: starEach es C.X.env := by rfl) (hpl : (backTo pos (starEach es C.X.env)).any (·.1) = false := by rfl) :
    E C (.Call (.Name x p) (.Name nm p' :: es) [] pos) Γ d (Γ1.set i (.own (.lst (tout v)))) := by
  subst hdv
  exact ⟨ha.1.trans (Sh.set hi), fun σ H Q ok kk => ⟨_, C8.pe_c c hr hk hg (pa_cons (pe_var (i := i) hN hv hd hcd) (wa _ es) hs) hdb hs hpl, by
    have own0 : ∃ c0, Γ[i]? = some (.own c0) := by
      have q := ha.1 i
      rw [hi] at q
      cases w : Γ[i]? with
      | none => rw [w] at q; cases q
      | some f =>
        rw [w] at q
        cases f with
        | own c0 => exact ⟨c0, rfl⟩
        | no => cases q
        | v d => cases q
    obtain ⟨c0, h0⟩ := own0
    obtain ⟨o, q0, a, ho, q1, q2, q3⟩ := ok.ents i _ h0
    subst q1
    refine ⟨_, q0, ha.2 σ H _ ok fun xs H1 k1 ok1 q1 => ?_⟩
    have eo : Own Γ1 σ = Own Γ σ := ha.1.own
    obtain ⟨o', w0, a', ho', w1, w2, w3⟩ := ok1.ents i _ hi
    rw [q0] at w0
    have : some (V.ref a) = some (V.ref a') := (Option.some.inj w0).trans w1
    cases this
    obtain ⟨ws0, e5, w4⟩ := w3.lst
    subst e5
    have oa : Own Γ1 σ a := ⟨i, _, hi, rfl, q0⟩
    rw [eo] at w4 oa
    refine ⟨bas C (Own Γ σ) H1, v, a, ws0, xs ++ [], rfl, ok1.sub, by unfold bas; rw [if_pos oa], w2, w4, by rw [List.append_nil]; exact q1, hp, fun z H2 ws2 n1 n2 n3 n4 => ?_⟩
    have hk1 : Keep (Own Γ σ) H1 H2 := fun b o n q => n1 b o (fun z => n (z ▸ oa)) q
    have sub : Same (Gr (bas C (Own Γ σ) H1) H1 H2) (bas C (Own Γ σ) H2) := gr_to (bas_mono hk1) fun b o n h => by
      obtain ⟨z0, z1⟩ := ok1.fresh n
      rw [eo] at z1
      rw [bas_eq z1, z0]; exact h
    obtain ⟨m1, m2⟩ := mutN (es := .lst (tout v)) ok1 hi q0 n1 n2 (by rw [eo]; exact dps_mono' sub n3) (.inr (.inr ⟨_, rfl⟩))
    exact kk z H2 (k1.trans hk1) m1 (dp_mono' sub n4)⟩⟩

/-! ### built-ins -/
def OpC (K : PySem.W.Frag) (r : List V → Hp → VK → Prop) (A : Rel) (dz : D) : Prop := ∀ F H x Q, Same F H → A K F H x → Gv K F H dz Q → r [x] H Q
def OpCL (K : PySem.W.Frag) (r : List V → Hp → VK → Prop) (A : Rel) (ds : List D) : Prop := ∀ F H x Q, Same F H → A K F H x → GvL K F H ds Q → r [x] H Q
theorem cb_run {r : List V → Hp → VK → Prop} {A : Rel} (hr : OpC C.X.K r A dz) (ha : J C a Γ A Γ1) (ok : EnvOk C Γ σ H) {Q : VK}
    (kk : ∀ x H', Keep (Own Γ σ) H H' → EnvOk C Γ1 σ H' → Dp C.X.K (bas C (Own Γ σ) H') x dz → Q x H') : tCB r (tCons (Wp C.X a) tNil) σ H Q :=
  ha.2 σ H _ ok fun x H1 k1 ok1 q1 => by
    have g := gv_of (d := dz) (Q := Q) ok1 (by
      rw [ha.1.own]
      exact fun x H' k3 ok3 q3 => kk x H' (k1.trans k3) ok3 q3)
    rw [ha.1.own] at g
    exact hr _ H1 x Q ok1.sub q1 g
theorem cbl_run {r : List V → Hp → VK → Prop} {A : Rel} (hr : OpCL C.X.K r A ds) (ha : J C a Γ A Γ1) (ok : EnvOk C Γ σ H) {Q : VK}
    (kk : ∀ p vs H', H p = none → Keep (Own Γ σ) H H' → H' p = some (.lst vs) → EnvOk C Γ1 σ (del H' p) → DpAll C.X.K (bas C (Own Γ σ) (del H' p)) vs ds → Q (.ref p) H') : tCB r (tCons (Wp C.X a) tNil) σ H Q :=
  ha.2 σ H _ ok fun x H1 k1 ok1 q1 => by
    have g := gvl_of (ds := ds) (Q := Q) ok1 (by
      rw [ha.1.own]
      intro p vs H' n k3 e3 ok3 q3
      refine kk p vs H' ?_ (k1.trans k3) e3 ok3 q3
      cases w : H p with
      | none => rfl
      | some o =>
        by_cases nn : Own Γ σ p
        · obtain ⟨ho, w2⟩ := ok1.ownAt (ha.1.own ▸ nn : Own Γ1 σ p)
          rw [w2] at n; cases n
        · rw [k1 p o nn w] at n; cases n)
    rw [ha.1.own] at g
    exact hr _ H1 x Q ok1.sub q1 g
theorem e_cb {id : String} {r : List V → Hp → VK → Prop} {A : Rel} (hc : CallR C.X (.builtin id) r) (hr : OpC C.X.K r A dz) (hg : Gl C.X x) (hm : C.X.mg x = none) (hv : bootBuiltins x = some (.builtin id)) (ha : J C a Γ A Γ1)
    (hn : x ≠ "__name__" := by decide) (hdb : (x == ("__debug__" : Str)) = false := by decide) (he : starEach [a] C.X.env = (false, eval a C.X.env) :: starEach [] C.X.env := by rfl) (hpl : (backTo pos (starEach [] C.X.env)).any (·.1) = false := by rfl) : E C (.Call (.Name x p) [a] [] pos) Γ dz Γ1 :=
  ⟨ha.1, fun σ H Q ok kk => ⟨_, pe_callB hc hg hm hv (pa_cons (wp _ a) pa_nil he) hn hdb he hpl, cb_run hr ha ok kk⟩⟩
theorem e_ct {id : String} {r : List V → Hp → VK → Prop} {A : Rel} (hc : CallR C.X (.type id) r) (hr : OpC C.X.K r A dz) (hg : Gl C.X x) (hm : C.X.mg x = none) (hv : bootBuiltins x = some (.type id)) (ha : J C a Γ A Γ1)
    (hn : x ≠ "__name__" := by decide) (hdb : (x == ("__debug__" : Str)) = false := by decide) (he : starEach [a] C.X.env = (false, eval a C.X.env) :: starEach [] C.X.env := by rfl) (hpl : (backTo pos (starEach [] C.X.env)).any (·.1) = false := by rfl) : E C (.Call (.Name x p) [a] [] pos) Γ dz Γ1 :=
  ⟨ha.1, fun σ H Q ok kk => ⟨_, pe_callTy hc hg hm hv (pa_cons (wp _ a) pa_nil he) hn hdb he hpl, cb_run hr ha ok kk⟩⟩
theorem el_cb {id : String} {r : List V → Hp → VK → Prop} {A : Rel} (hc : CallR C.X (.builtin id) r) (hr : OpCL C.X.K r A ds) (hg : Gl C.X x) (hm : C.X.mg x = none) (hv : bootBuiltins x = some (.builtin id)) (ha : J C a Γ A Γ1)
    (hn : x ≠ "__name__" := by decide) (hdb : (x == ("__debug__" : Str)) = false := by decide) (he : starEach [a] C.X.env = (false, eval a C.X.env) :: starEach [] C.X.env := by rfl) (hpl : (backTo pos (starEach [] C.X.env)).any (·.1) = false := by rfl) : EL C (.Call (.Name x p) [a] [] pos) Γ ds Γ1 :=
  ⟨ha.1, fun σ H Q ok kk => ⟨_, pe_callB hc hg hm hv (pa_cons (wp _ a) pa_nil he) hn hdb he hpl, cbl_run hr ha ok kk⟩⟩
theorem el_ct {id : String} {r : List V → Hp → VK → Prop} {A : Rel} (hc : CallR C.X (.type id) r) (hr : OpCL C.X.K r A ds) (hg : Gl C.X x) (hm : C.X.mg x = none) (hv : bootBuiltins x = some (.type id)) (ha : J C a Γ A Γ1)
    (hn : x ≠ "__name__" := by decide) (hdb : (x == ("__debug__" : Str)) = false := by decide) (he : starEach [a] C.X.env = (false, eval a C.X.env) :: starEach [] C.X.env := by rfl) (hpl : (backTo pos (starEach [] C.X.env)).any (·.1) = false := by rfl) : EL C (.Call (.Name x p) [a] [] pos) Γ ds Γ1 :=
  ⟨ha.1, fun σ H Q ok kk => ⟨_, pe_callTy hc hg hm hv (pa_cons (wp _ a) pa_nil he) hn hdb he hpl, cbl_run hr ha ok kk⟩⟩
end
end TL

namespace TL
open PySem hiding start
open PySem.Spec
open L2 hiding Dp DpAll
open PyProof.Rows hiding St

/-! ### embeddings -/
abbrev eI : Int → D := PyData.int
abbrev eB : Bool → D := PyData.bool
abbrev eS : Str → D := PyData.str
@[reducible] def eL {α : Type} (f : α → D) (l : List α) : D := .list (l.map f)
@[reducible] def eT {α : Type} (f : α → D) (l : List α) : D := .tuple (l.map f)
@[reducible] def eP {α β : Type} (f : α → D) (g : β → D) (p : α × β) : D := .tuple [f p.1, g p.2]
@[reducible] def eP3 {α β γ : Type} (f : α → D) (g : β → D) (h : γ → D) (p : α × β × γ) : D := .tuple [f p.1, g p.2.1, h p.2.2]
def eO {α : Type} (f : α → D) : Option α → D
  | none => .none
  | some a => f a

theorem dps_int {K : PySem.W.Frag} {F : Hp} : ∀ {l : List Int} {vs : List V}, DpAll K F vs (l.map eI) → vs = l.map V.int
  | [], _, h => by cases h; rfl
  | i :: l, _, h => by
    cases h with
    | cons q r => cases q; rw [dps_int r]; rfl
theorem dps_bool {K : PySem.W.Frag} {F : Hp} : ∀ {l : List Bool} {vs : List V}, DpAll K F vs (l.map eB) → vs = l.map V.bl
  | [], _, h => by cases h; rfl
  | i :: l, _, h => by
    cases h with
    | cons q r => cases q; rw [dps_bool r]; rfl
theorem dps_str {K : PySem.W.Frag} {F : Hp} : ∀ {l : List Str} {vs : List V}, DpAll K F vs (l.map eS) → vs = l.map V.str
  | [], _, h => by cases h; rfl
  | i :: l, _, h => by
    cases h with
    | cons q r => cases q; rw [dps_str r]; rfl
theorem dps_of_int {K : PySem.W.Frag} {F : Hp} : ∀ {l : List Int}, DpAll K F (l.map V.int) (l.map eI)
  | [] => .nil
  | i :: l => .cons (.int i) dps_of_int
theorem dps_of_str {K : PySem.W.Frag} {F : Hp} : ∀ {l : List Str}, DpAll K F (l.map V.str) (l.map eS)
  | [] => .nil
  | i :: l => .cons (.str i) dps_of_str

theorem Gv.sc {K : PySem.W.Frag} {F H : Hp} {d : D} {Q : VK} {z : V} (g : Gv K F H d Q) (h : ∀ G, Dp K G z d) : Q z H := g z H (Same.refl H) (h _)
theorem Gv.int {K : PySem.W.Frag} {F H : Hp} {i : Int} {Q : VK} (g : Gv K F H (.int i) Q) : Q (.int i) H := g.sc fun _ => .int i
theorem Gv.bl {K : PySem.W.Frag} {F H : Hp} {i : Bool} {Q : VK} (g : Gv K F H (.bool i) Q) : Q (.bl i) H := g.sc fun _ => .bl i
theorem Gv.at {K : PySem.W.Frag} {F H : Hp} {d : D} {Q : VK} {z : V} (g : Gv K F H d Q) (s : Same F H) (h : Dp K F z d) : Q z H := g z H (Same.refl H) (dp_mono' (gr_same s) h)
theorem GvL.new {K : PySem.W.Frag} {F H : Hp} {ds : List D} {Q : VK} {p : Addr} {vs : List V} (g : GvL K F H ds Q) (s : Same F H) (hp : H p = none) (h : DpAll K F vs ds) : Q (.ref p) (upd H p (.lst vs)) :=
  g p vs _ hp (same_new hp) upd_same (dps_mono' (fun b o q => by
    have n : b ≠ p := fun z => by subst z; rw [s b o q] at hp; cases hp
    rw [del_ne n]; exact gr_same s b o q) h)
theorem Gv.tup {K : PySem.W.Frag} {F H : Hp} {ds : List D} {Q : VK} {p : Addr} {vs : List V} (g : Gv K F H (.tuple ds) Q) (s : Same F H) (hp : H p = none) (h : DpAll K F vs ds) : Q (.ref p) (upd H p (.tup vs)) :=
  g _ _ (same_new hp) (.tup (.of (by rw [gr_new hp]; exact upd_same)) (dps_mono' (gr_same s) h))

section
variable {C : Ctx} {Γ Γ1 Γ2 Γ3 : List Ent} {σ : St} {H H' : Hp} {a b c e o : Expr} {es : List Expr} {d dx dy dz : D} {ds : List D} {pos p pos' p' apos : Pos} {x : Str} {i j : Int} {k l : Bool}

/-! ### ints -/
theorem o_I0 {K : PySem.W.Frag} {g : Int → Int → Int} : Op2 K (rI0 fun i j => .int (g i j)) (.int i) (.int j) (.int (g i j)) := fun F H x y Q s hx hy q => by
  cases hx; cases hy; exact ⟨i, j, rfl, rfl, q.int⟩
theorem o_I {K : PySem.W.Frag} {P : Int → Int → Prop} {g : Int → Int → Int} (h : P i j) : Op2 K (rI P fun i j => .int (g i j)) (.int i) (.int j) (.int (g i j)) := fun F H x y Q s hx hy q => by
  cases hx; cases hy; exact ⟨i, j, rfl, rfl, h, q.int⟩
theorem o_B0 {K : PySem.W.Frag} {g : Int → Int → Bool} : Op2 K (rI0 fun i j => .bl (g i j)) (.int i) (.int j) (.bool (g i j)) := fun F H x y Q s hx hy q => by
  cases hx; cases hy; exact ⟨i, j, rfl, rfl, q.bl⟩
theorem e_add (ha : E C a Γ (.int i) Γ1) (hb : E C b Γ1 (.int j) Γ2) : E C (.BinOp a .Add b pos) Γ (.int (i + j)) Γ2 := e_op op_add (B := rD (.int j)) o_I0 ha hb
theorem e_sub (ha : E C a Γ (.int i) Γ1) (hb : E C b Γ1 (.int j) Γ2) : E C (.BinOp a .Sub b pos) Γ (.int (i - j)) Γ2 := e_op op_sub (B := rD (.int j)) o_I0 ha hb
theorem e_mul (h : CMul i j) (ha : E C a Γ (.int i) Γ1) (hb : E C b Γ1 (.int j) Γ2) : E C (.BinOp a .Mult b pos) Γ (.int (i * j)) Γ2 := e_op op_mul (B := rD (.int j)) (o_I h) ha hb
theorem e_mulW (h : CMulW i j) (ha : E C a Γ (.int i) Γ1) (hb : E C b Γ1 (.int j) Γ2) : E C (.BinOp a .Mult b pos) Γ (.int (i * j)) Γ2 := e_op op_mulW (B := rD (.int j)) (o_I h) ha hb
theorem e_fdiv (h : CDiv i j) (ha : E C a Γ (.int i) Γ1) (hb : E C b Γ1 (.int j) Γ2) : E C (.BinOp a .FloorDiv b pos) Γ (.int (i / j)) Γ2 := e_op op_fdiv (B := rD (.int j)) (o_I h) ha hb
theorem e_fdivW (h : CDivW i j) (ha : E C a Γ (.int i) Γ1) (hb : E C b Γ1 (.int j) Γ2) : E C (.BinOp a .FloorDiv b pos) Γ (.int (i / j)) Γ2 := e_op op_fdivW (B := rD (.int j)) (o_I h) ha hb
theorem e_mod (h : 0 < j) (ha : E C a Γ (.int i) Γ1) (hb : E C b Γ1 (.int j) Γ2) : E C (.BinOp a .Mod b pos) Γ (.int (i % j)) Γ2 := e_op op_mod (B := rD (.int j)) (o_I (P := fun _ j => 0 < j) h) ha hb
theorem e_shl (h : CPow i j) (ha : E C a Γ (.int i) Γ1) (hb : E C b Γ1 (.int j) Γ2) : E C (.BinOp a .LShift b pos) Γ (.int (i * 2 ^ j.toNat)) Γ2 := e_op op_shl (B := rD (.int j)) (o_I (g := fun i j => i * 2 ^ j.toNat) h) ha hb
theorem e_pow (h : CPow i j) (ha : E C a Γ (.int i) Γ1) (hb : E C b Γ1 (.int j) Γ2) : E C (.BinOp a .Pow b pos) Γ (.int (i ^ j.toNat)) Γ2 := e_op op_pow (B := rD (.int j)) (o_I (g := fun i j => i ^ j.toNat) h) ha hb
theorem e_shr (h : 0 ≤ j) (ha : E C a Γ (.int i) Γ1) (hb : E C b Γ1 (.int j) Γ2) : E C (.BinOp a .RShift b pos) Γ (.int (i / 2 ^ j.toNat)) Γ2 := e_op op_shr (B := rD (.int j)) (o_I (P := fun _ j => 0 ≤ j) (g := fun i j => i / 2 ^ j.toNat) h) ha hb
theorem e_band (ha : E C a Γ (.int i) Γ1) (hb : E C b Γ1 (.int j) Γ2) : E C (.BinOp a .BitAnd b pos) Γ (.int (Builtin.bitAnd i j)) Γ2 := e_op op_and (B := rD (.int j)) o_I0 ha hb
theorem e_bor (ha : E C a Γ (.int i) Γ1) (hb : E C b Γ1 (.int j) Γ2) : E C (.BinOp a .BitOr b pos) Γ (.int (Builtin.bitOr i j)) Γ2 := e_op op_or (B := rD (.int j)) o_I0 ha hb
theorem e_bxor (ha : E C a Γ (.int i) Γ1) (hb : E C b Γ1 (.int j) Γ2) : E C (.BinOp a .BitXor b pos) Γ (.int (Builtin.bitXor i j)) Γ2 := e_op op_xor (B := rD (.int j)) o_I0 ha hb
theorem u_I {K : PySem.W.Frag} {g : Int → Int} : Op1 K (rU fun i => .int (g i)) (rD (.int i)) (.int (g i)) := fun F H x Q s hx q => by
  cases hx; exact ⟨i, rfl, q.int⟩
theorem e_neg (ha : E C a Γ (.int i) Γ1) : E C (.UnaryOp .USub a pos) Γ (.int (-i)) Γ1 := e_un un_neg u_I ha
theorem e_inv (ha : E C a Γ (.int i) Γ1) : E C (.UnaryOp .Invert a pos) Γ (.int (Builtin.bitNot i)) Γ1 := e_un un_inv u_I ha

/-! ### comparisons: as values (e_) and as tests (t_) -/
theorem o_eqI {K : PySem.W.Frag} : Op2 K rEq (.int i) (.int j) (.bool (decide (i = j))) := fun F H x y Q s hx hy q => by
  cases hx; cases hy
  refine ⟨rfl, ?_⟩
  have := q.bl
  rw [show decide (V.int i = V.int j) = decide (i = j) by simp]; exact this
theorem o_neI {K : PySem.W.Frag} : Op2 K rNe (.int i) (.int j) (.bool (!decide (i = j))) := fun F H x y Q s hx hy q => by
  cases hx; cases hy
  refine ⟨rfl, ?_⟩
  have := q.bl
  rw [show decide (V.int i = V.int j) = decide (i = j) by simp]; exact this
theorem o_eqS {K : PySem.W.Frag} {u v : Str} : Op2 K rEq (.str u) (.str v) (.bool (decide (u = v))) := fun F H x y Q s hx hy q => by
  cases hx; cases hy
  refine ⟨rfl, ?_⟩
  have := q.bl
  rw [show decide (V.str u = V.str v) = decide (u = v) by simp]; exact this
theorem o_neS {K : PySem.W.Frag} {u v : Str} : Op2 K rNe (.str u) (.str v) (.bool (!decide (u = v))) := fun F H x y Q s hx hy q => by
  cases hx; cases hy
  refine ⟨rfl, ?_⟩
  have := q.bl
  rw [show decide (V.str u = V.str v) = decide (u = v) by simp]; exact this
theorem o_eqB {K : PySem.W.Frag} {u v : Bool} : Op2 K rEq (.bool u) (.bool v) (.bool (decide (u = v))) := fun F H x y Q s hx hy q => by
  cases hx; cases hy
  refine ⟨rfl, ?_⟩
  have := q.bl
  rw [show decide (V.bl u = V.bl v) = decide (u = v) by simp]; exact this
theorem o_neB {K : PySem.W.Frag} {u v : Bool} : Op2 K rNe (.bool u) (.bool v) (.bool (!decide (u = v))) := fun F H x y Q s hx hy q => by
  cases hx; cases hy
  refine ⟨rfl, ?_⟩
  have := q.bl
  rw [show decide (V.bl u = V.bl v) = decide (u = v) by simp]; exact this
theorem o_eqD {K : PySem.W.Frag} (n1 : NoDict dx) (n2 : NoDict dy) (s1 : SeqAt.shaped dx = true) (s2 : SeqAt.shaped dy = true) : Op2 K (rEqD K) dx dy (.bool (PyData.eqv dx dy)) := fun F H x y Q s hx hy q =>
  ⟨dx, dy, (dp_mono' s hx).l2 n1, (dp_mono' s hy).l2 n2, s1, s2, q.bl⟩
theorem o_neD {K : PySem.W.Frag} (n1 : NoDict dx) (n2 : NoDict dy) (s1 : SeqAt.shaped dx = true) (s2 : SeqAt.shaped dy = true) : Op2 K (rNeD K) dx dy (.bool (!PyData.eqv dx dy)) := fun F H x y Q s hx hy q =>
  ⟨dx, dy, (dp_mono' s hx).l2 n1, (dp_mono' s hy).l2 n2, s1, s2, q.bl⟩
theorem e_lt (ha : E C a Γ (.int i) Γ1) (hb : E C b Γ1 (.int j) Γ2) : E C (.Compare a [.Lt] [b] pos) Γ (.bool (decide (i < j))) Γ2 := e_cmp op_lt (nomark _) (B := rD (.int j)) (o_B0 (g := fun i j => decide (i < j))) ha hb
theorem e_le (ha : E C a Γ (.int i) Γ1) (hb : E C b Γ1 (.int j) Γ2) : E C (.Compare a [.LtE] [b] pos) Γ (.bool (decide (i ≤ j))) Γ2 := e_cmp op_le (nomark _) (B := rD (.int j)) (o_B0 (g := fun i j => decide (i ≤ j))) ha hb
theorem e_gt (ha : E C a Γ (.int i) Γ1) (hb : E C b Γ1 (.int j) Γ2) : E C (.Compare a [.Gt] [b] pos) Γ (.bool (decide (j < i))) Γ2 := e_cmp op_gt (nomark _) (B := rD (.int j)) (o_B0 (g := fun i j => decide (j < i))) ha hb
theorem e_ge (ha : E C a Γ (.int i) Γ1) (hb : E C b Γ1 (.int j) Γ2) : E C (.Compare a [.GtE] [b] pos) Γ (.bool (decide (j ≤ i))) Γ2 := e_cmp op_ge (nomark _) (B := rD (.int j)) (o_B0 (g := fun i j => decide (j ≤ i))) ha hb
theorem e_eqI (ha : E C a Γ (.int i) Γ1) (hb : E C b Γ1 (.int j) Γ2) : E C (.Compare a [.Eq] [b] pos) Γ (.bool (decide (i = j))) Γ2 := e_cmp op_eq (nomark _) (B := rD (.int j)) o_eqI ha hb
theorem e_neI (ha : E C a Γ (.int i) Γ1) (hb : E C b Γ1 (.int j) Γ2) : E C (.Compare a [.NotEq] [b] pos) Γ (.bool (!decide (i = j))) Γ2 := e_cmp op_ne (nomark _) (B := rD (.int j)) o_neI ha hb
theorem e_eqS {u v : Str} (ha : E C a Γ (.str u) Γ1) (hb : E C b Γ1 (.str v) Γ2) : E C (.Compare a [.Eq] [b] pos) Γ (.bool (decide (u = v))) Γ2 := e_cmp op_eq (nomark _) (B := rD (.str v)) o_eqS ha hb
theorem e_neS {u v : Str} (ha : E C a Γ (.str u) Γ1) (hb : E C b Γ1 (.str v) Γ2) : E C (.Compare a [.NotEq] [b] pos) Γ (.bool (!decide (u = v))) Γ2 := e_cmp op_ne (nomark _) (B := rD (.str v)) o_neS ha hb
theorem e_eqB {u v : Bool} (ha : E C a Γ (.bool u) Γ1) (hb : E C b Γ1 (.bool v) Γ2) : E C (.Compare a [.Eq] [b] pos) Γ (.bool (decide (u = v))) Γ2 := e_cmp op_eq (nomark _) (B := rD (.bool v)) o_eqB ha hb
theorem e_neB {u v : Bool} (ha : E C a Γ (.bool u) Γ1) (hb : E C b Γ1 (.bool v) Γ2) : E C (.Compare a [.NotEq] [b] pos) Γ (.bool (!decide (u = v))) Γ2 := e_cmp op_ne (nomark _) (B := rD (.bool v)) o_neB ha hb
theorem e_eqD (hu : C.X.A.units + 64 < cLine) (n1 : NoDict dx) (n2 : NoDict dy) (s1 : SeqAt.shaped dx = true) (s2 : SeqAt.shaped dy = true) (ha : E C a Γ dx Γ1) (hb : E C b Γ1 dy Γ2) : E C (.Compare a [.Eq] [b] pos) Γ (.bool (PyData.eqv dx dy)) Γ2 := e_cmp (op_eqD hu) (nomark _) (B := rD dy) (o_eqD n1 n2 s1 s2) ha hb
theorem e_neD (hu : C.X.A.units + 64 < cLine) (n1 : NoDict dx) (n2 : NoDict dy) (s1 : SeqAt.shaped dx = true) (s2 : SeqAt.shaped dy = true) (ha : E C a Γ dx Γ1) (hb : E C b Γ1 dy Γ2) : E C (.Compare a [.NotEq] [b] pos) Γ (.bool (!PyData.eqv dx dy)) Γ2 := e_cmp (op_neD hu) (nomark _) (B := rD dy) (o_neD n1 n2 s1 s2) ha hb
theorem t_lt (ha : E C a Γ (.int i) Γ1) (hb : E C b Γ1 (.int j) Γ2) : T C (.Compare a [.Lt] [b] pos) Γ (decide (i < j)) Γ2 := t_cmp op_lt (nomark _) (B := rD (.int j)) (o_B0 (g := fun i j => decide (i < j))) ha hb
theorem t_le (ha : E C a Γ (.int i) Γ1) (hb : E C b Γ1 (.int j) Γ2) : T C (.Compare a [.LtE] [b] pos) Γ (decide (i ≤ j)) Γ2 := t_cmp op_le (nomark _) (B := rD (.int j)) (o_B0 (g := fun i j => decide (i ≤ j))) ha hb
theorem t_gt (ha : E C a Γ (.int i) Γ1) (hb : E C b Γ1 (.int j) Γ2) : T C (.Compare a [.Gt] [b] pos) Γ (decide (j < i)) Γ2 := t_cmp op_gt (nomark _) (B := rD (.int j)) (o_B0 (g := fun i j => decide (j < i))) ha hb
theorem t_ge (ha : E C a Γ (.int i) Γ1) (hb : E C b Γ1 (.int j) Γ2) : T C (.Compare a [.GtE] [b] pos) Γ (decide (j ≤ i)) Γ2 := t_cmp op_ge (nomark _) (B := rD (.int j)) (o_B0 (g := fun i j => decide (j ≤ i))) ha hb
theorem t_eqI (ha : E C a Γ (.int i) Γ1) (hb : E C b Γ1 (.int j) Γ2) : T C (.Compare a [.Eq] [b] pos) Γ (decide (i = j)) Γ2 := t_cmp op_eq (nomark _) (B := rD (.int j)) o_eqI ha hb
theorem t_neI (ha : E C a Γ (.int i) Γ1) (hb : E C b Γ1 (.int j) Γ2) : T C (.Compare a [.NotEq] [b] pos) Γ (!decide (i = j)) Γ2 := t_cmp op_ne (nomark _) (B := rD (.int j)) o_neI ha hb
theorem t_eqS {u v : Str} (ha : E C a Γ (.str u) Γ1) (hb : E C b Γ1 (.str v) Γ2) : T C (.Compare a [.Eq] [b] pos) Γ (decide (u = v)) Γ2 := t_cmp op_eq (nomark _) (B := rD (.str v)) o_eqS ha hb
theorem t_neS {u v : Str} (ha : E C a Γ (.str u) Γ1) (hb : E C b Γ1 (.str v) Γ2) : T C (.Compare a [.NotEq] [b] pos) Γ (!decide (u = v)) Γ2 := t_cmp op_ne (nomark _) (B := rD (.str v)) o_neS ha hb
theorem t_eqB {u v : Bool} (ha : E C a Γ (.bool u) Γ1) (hb : E C b Γ1 (.bool v) Γ2) : T C (.Compare a [.Eq] [b] pos) Γ (decide (u = v)) Γ2 := t_cmp op_eq (nomark _) (B := rD (.bool v)) o_eqB ha hb
theorem t_neB {u v : Bool} (ha : E C a Γ (.bool u) Γ1) (hb : E C b Γ1 (.bool v) Γ2) : T C (.Compare a [.NotEq] [b] pos) Γ (!decide (u = v)) Γ2 := t_cmp op_ne (nomark _) (B := rD (.bool v)) o_neB ha hb
theorem t_eqD (hu : C.X.A.units + 64 < cLine) (n1 : NoDict dx) (n2 : NoDict dy) (s1 : SeqAt.shaped dx = true) (s2 : SeqAt.shaped dy = true) (ha : E C a Γ dx Γ1) (hb : E C b Γ1 dy Γ2) : T C (.Compare a [.Eq] [b] pos) Γ (PyData.eqv dx dy) Γ2 := t_cmp (op_eqD hu) (nomark _) (B := rD dy) (o_eqD n1 n2 s1 s2) ha hb
theorem t_neD (hu : C.X.A.units + 64 < cLine) (n1 : NoDict dx) (n2 : NoDict dy) (s1 : SeqAt.shaped dx = true) (s2 : SeqAt.shaped dy = true) (ha : E C a Γ dx Γ1) (hb : E C b Γ1 dy Γ2) : T C (.Compare a [.NotEq] [b] pos) Γ (!PyData.eqv dx dy) Γ2 := t_cmp (op_neD hu) (nomark _) (B := rD dy) (o_neD n1 n2 s1 s2) ha hb
/-- is None -/
def isNone : D → Bool
  | .none => true
  | _ => false
theorem dp_none {K : PySem.W.Frag} {F : Hp} {x : V} (h : Dp K F x d) : decide (x = .non) = isNone d := by
  cases h <;> rfl
theorem o_isN {K : PySem.W.Frag} : Op2 K (fun x y H Q => y = .non ∧ Q (.bl (decide (x = .non))) H) dx .none (.bool (isNone dx)) := fun F H x y Q s hx hy q => by
  cases hy
  refine ⟨rfl, ?_⟩
  rw [dp_none hx]; exact q.bl
theorem o_notN {K : PySem.W.Frag} : Op2 K (fun x y H Q => y = .non ∧ Q (.bl (!decide (x = .non))) H) dx .none (.bool (!isNone dx)) := fun F H x y Q s hx hy q => by
  cases hy
  refine ⟨rfl, ?_⟩
  rw [dp_none hx]; exact q.bl
theorem e_isN (ha : E C a Γ dx Γ1) (hb : E C b Γ1 .none Γ2) : E C (.Compare a [.Is] [b] pos) Γ (.bool (isNone dx)) Γ2 := e_cmp op_isN (nomark _) (B := rD .none) o_isN ha hb
theorem e_notN (ha : E C a Γ dx Γ1) (hb : E C b Γ1 .none Γ2) : E C (.Compare a [.IsNot] [b] pos) Γ (.bool (!isNone dx)) Γ2 := e_cmp op_notN (nomark _) (B := rD .none) o_notN ha hb
theorem t_isN (ha : E C a Γ dx Γ1) (hb : E C b Γ1 .none Γ2) : T C (.Compare a [.Is] [b] pos) Γ (isNone dx) Γ2 := t_cmp op_isN (nomark _) (B := rD .none) o_isN ha hb
theorem t_notN (ha : E C a Γ dx Γ1) (hb : E C b Γ1 .none Γ2) : T C (.Compare a [.IsNot] [b] pos) Γ (!isNone dx) Γ2 := t_cmp op_notN (nomark _) (B := rD .none) o_notN ha hb
/-- x < y < z -/
theorem chain_run {op op' : CmpOp} {r r' : R2} (hr : Op2 C.X.K r dx dy (.bool k)) (hr' : k = true → Op2 C.X.K r' dy dz (.bool l)) (ha : E C a Γ dx Γ) (hb : E C b Γ dy Γ) (hc : k = true → E C c Γ dz Γ) (ok : EnvOk C Γ σ H) {Q : VK}
    (kk : ∀ H', Keep (Own Γ σ) H H' → EnvOk C Γ σ H' → Q (.bl (k && l)) H') : tChain r r' (Wp C.X a) (Wp C.X b) (Wp C.X c) σ H Q := by
  refine ha.2 σ H _ ok fun x H1 k1 ok1 q1 => hb.2 σ H1 _ ok1 fun y H2 k2 ok2 q2 => ?_
  refine hr (bas C (Own Γ σ) H2) H2 x y _ ok2.sub (dp_keep k2 q1) q2 fun z H3 s3 q3 => ?_
  cases q3
  have ok3 := ok2.mono s3
  have k3 : Keep (Own Γ σ) H2 H3 := .same s3
  refine ⟨k, rfl, ?_⟩
  cases k with
  | true =>
    refine iteT ((hc rfl).2 σ H3 _ ok3 fun w H4 k4 ok4 q4 => ?_)
    refine hr' rfl (bas C (Own Γ σ) H4) H4 y w _ ok4.sub (dp_keep (k3.trans k4) q2) q4 fun z H5 s5 q5 => ?_
    cases q5
    exact kk H5 ((((k1.trans k2).trans k3).trans k4).trans (.same s5)) (ok4.mono s5)
  | false => exact iteF (kk H3 ((k1.trans k2).trans k3) ok3)
theorem e_chain {op op' : CmpOp} {r r' : R2} (h1 : OpR C.X (compareOp op) r) (h2 : OpR C.X (compareOp op') r') (hr : Op2 C.X.K r dx dy (.bool k)) (hr' : k = true → Op2 C.X.K r' dy dz (.bool l)) (ha : E C a Γ dx Γ) (hb : E C b Γ dy Γ) (hc : k = true → E C c Γ dz Γ) (hm : lastMarks [op, op'] [b, c] = false := by rfl) : E C (.Compare a [op, op'] [b, c] pos) Γ (.bool (k && l)) Γ :=
  ⟨.refl, fun σ H Q ok kk => ⟨_, pe_chain h1 h2 (wp _ a) (wp _ b) (wp _ c) hm, chain_run (op := op) (op' := op') hr hr' ha hb hc ok fun H' k1 ok1 => kk _ H' k1 ok1 (.bl _)⟩⟩
theorem t_chain {op op' : CmpOp} {r r' : R2} (h1 : OpR C.X (compareOp op) r) (h2 : OpR C.X (compareOp op') r') (hr : Op2 C.X.K r dx dy (.bool k)) (hr' : k = true → Op2 C.X.K r' dy dz (.bool l)) (ha : E C a Γ dx Γ) (hb : E C b Γ dy Γ) (hc : k = true → E C c Γ dz Γ) (hm : lastMarks [op, op'] [b, c] = false := by rfl) : T C (.Compare a [op, op'] [b, c] pos) Γ (k && l) Γ :=
  ⟨.refl, fun σ H Q ok kk => ⟨_, pt_chain h1 h2 (wp _ a) (wp _ b) (wp _ c) hm, chain_run (op := op) (op' := op') hr hr' ha hb hc ok fun H' k1 ok1 => ⟨_, rfl, kk H' k1 ok1⟩⟩⟩

/-! ### in, not in: ints and texts in lists and tuples -/
def rS (ds : List D) : Rel := fun K F H x => ∃ a vs, x = .ref a ∧ (SqL K H a vs ∨ SqT K H a vs) ∧ DpAll K F vs ds
theorem J.sL (h : R C e Γ ds Γ1) : J C e Γ (rS ds) Γ1 := h.imp fun F H x ⟨a, vs, e, q, r⟩ => ⟨a, vs, e, .inl (.of q), r⟩
theorem J.sT (h : E C e Γ (.tuple ds) Γ1) : J C e Γ (rS ds) Γ1 := ⟨h.1, fun σ H Q ok k => h.2 σ H Q ok fun x H' k1 ok1 q => k x H' k1 ok1 (by
  obtain ⟨a, vs, e, q1, q2⟩ := tp_of ok1.sub q
  exact ⟨a, vs, e, .inr q1, q2⟩)⟩
theorem inV_int {l : List Int} : inV (.int i) (l.map V.int) = decide (i ∈ l) := by
  induction l with
  | nil => rfl
  | cons y l ih =>
    unfold inV at ih ⊢
    rw [List.map_cons, List.any_cons, ih]
    show ((y == i) || decide (i ∈ l)) = decide (i ∈ y :: l)
    by_cases h : i = y
    · subst h; simp
    · simp [h, Ne.symm h]
theorem inV_str {u : Str} {l : List Str} : inV (.str u) (l.map V.str) = decide (u ∈ l) := by
  induction l with
  | nil => rfl
  | cons y l ih =>
    unfold inV at ih ⊢
    rw [List.map_cons, List.any_cons, ih]
    show ((y == u) || decide (u ∈ l)) = decide (u ∈ y :: l)
    by_cases h : u = y
    · subst h; simp
    · simp [h, Ne.symm h]
theorem flat_ints (l : List Int) : (l.map V.int).all flatV = true := by induction l <;> simp_all [flatV]
theorem flat_strs (l : List Str) : (l.map V.str).all flatV = true := by induction l <;> simp_all [flatV]
theorem o_inI {K : PySem.W.Frag} {l : List Int} : Op2B K (rIn K false) (.int i) (rS (l.map eI)) (.bool (decide (i ∈ l))) := fun F H x y Q s hx ⟨a, vs, e, q1, q2⟩ q => by
  cases hx; subst e
  obtain rfl := dps_int q2
  refine ⟨a, _, rfl, q1, rfl, flat_ints l, ?_⟩
  rw [inV_int]; exact q.bl
theorem o_ninI {K : PySem.W.Frag} {l : List Int} : Op2B K (rIn K true) (.int i) (rS (l.map eI)) (.bool (!decide (i ∈ l))) := fun F H x y Q s hx ⟨a, vs, e, q1, q2⟩ q => by
  cases hx; subst e
  obtain rfl := dps_int q2
  refine ⟨a, _, rfl, q1, rfl, flat_ints l, ?_⟩
  rw [inV_int]; exact q.bl
theorem o_inS {K : PySem.W.Frag} {u : Str} {l : List Str} : Op2B K (rIn K false) (.str u) (rS (l.map eS)) (.bool (decide (u ∈ l))) := fun F H x y Q s hx ⟨a, vs, e, q1, q2⟩ q => by
  cases hx; subst e
  obtain rfl := dps_str q2
  refine ⟨a, _, rfl, q1, rfl, flat_strs l, ?_⟩
  rw [inV_str]; exact q.bl
theorem o_ninS {K : PySem.W.Frag} {u : Str} {l : List Str} : Op2B K (rIn K true) (.str u) (rS (l.map eS)) (.bool (!decide (u ∈ l))) := fun F H x y Q s hx ⟨a, vs, e, q1, q2⟩ q => by
  cases hx; subst e
  obtain rfl := dps_str q2
  refine ⟨a, _, rfl, q1, rfl, flat_strs l, ?_⟩
  rw [inV_str]; exact q.bl
theorem e_inI {l : List Int} (ha : E C a Γ (.int i) Γ1) (hb : J C b Γ1 (rS (l.map eI)) Γ2) (hm : behindInMarks .In b = false := by rfl) : E C (.Compare a [.In] [b] pos) Γ (.bool (decide (i ∈ l))) Γ2 := e_cmp op_in_seq hm o_inI ha hb
theorem e_ninI {l : List Int} (ha : E C a Γ (.int i) Γ1) (hb : J C b Γ1 (rS (l.map eI)) Γ2) (hm : behindInMarks .NotIn b = false := by rfl) : E C (.Compare a [.NotIn] [b] pos) Γ (.bool (!decide (i ∈ l))) Γ2 := e_cmp op_notIn_seq hm o_ninI ha hb
theorem t_inI {l : List Int} (ha : E C a Γ (.int i) Γ1) (hb : J C b Γ1 (rS (l.map eI)) Γ2) (hm : behindInMarks .In b = false := by rfl) : T C (.Compare a [.In] [b] pos) Γ (decide (i ∈ l)) Γ2 := t_cmp op_in_seq hm o_inI ha hb
theorem t_ninI {l : List Int} (ha : E C a Γ (.int i) Γ1) (hb : J C b Γ1 (rS (l.map eI)) Γ2) (hm : behindInMarks .NotIn b = false := by rfl) : T C (.Compare a [.NotIn] [b] pos) Γ (!decide (i ∈ l)) Γ2 := t_cmp op_notIn_seq hm o_ninI ha hb
theorem e_inS {u : Str} {l : List Str} (ha : E C a Γ (.str u) Γ1) (hb : J C b Γ1 (rS (l.map eS)) Γ2) (hm : behindInMarks .In b = false := by rfl) : E C (.Compare a [.In] [b] pos) Γ (.bool (decide (u ∈ l))) Γ2 := e_cmp op_in_seq hm o_inS ha hb
theorem t_inS {u : Str} {l : List Str} (ha : E C a Γ (.str u) Γ1) (hb : J C b Γ1 (rS (l.map eS)) Γ2) (hm : behindInMarks .In b = false := by rfl) : T C (.Compare a [.In] [b] pos) Γ (decide (u ∈ l)) Γ2 := t_cmp op_in_seq hm o_inS ha hb

/-! ### built-ins by name -/
theorem e_len (hg : Gl C.X "len") (hm : C.X.mg "len" = none) (ha : J C a Γ (rS ds) Γ1) (he : starEach [a] C.X.env = (false, eval a C.X.env) :: starEach [] C.X.env := by rfl) (hpl : (backTo pos (starEach [] C.X.env)).any (·.1) = false := by rfl) : E C (.Call (.Name "len" p) [a] [] pos) Γ (.int (ds.length : Int)) Γ1 :=
  e_cb call_len_seq (fun F H x Q s ⟨b, vs, e, q1, q2⟩ q => by
    subst e
    refine ⟨b, vs, rfl, q1, ?_⟩
    rw [dps_len q2]; exact q.int) hg hm PySem.boot_len ha (by decide) (by decide) he hpl
theorem e_lenS {u : Str} (hz : u.length ≤ 1000000) (hg : Gl C.X "len") (hm : C.X.mg "len" = none) (ha : E C a Γ (.str u) Γ1) (he : starEach [a] C.X.env = (false, eval a C.X.env) :: starEach [] C.X.env := by rfl) (hpl : (backTo pos (starEach [] C.X.env)).any (·.1) = false := by rfl) : E C (.Call (.Name "len" p) [a] [] pos) Γ (.int (u.length : Int)) Γ1 :=
  e_cb call_len_str (fun F H x Q s hx q => by
    cases hx
    exact ⟨u, rfl, Nat.le_trans hz (by decide), q.int⟩) hg hm PySem.boot_len ha (by decide) (by decide) he hpl
theorem e_sum {l : List Int} (hc : C.X.calm = true) (hg : Gl C.X "sum") (hm : C.X.mg "sum" = none) (ha : R C a Γ (l.map eI) Γ1) (he : starEach [a] C.X.env = (false, eval a C.X.env) :: starEach [] C.X.env := by rfl) (hpl : (backTo pos (starEach [] C.X.env)).any (·.1) = false := by rfl) : E C (.Call (.Name "sum" p) [a] [] pos) Γ (.int l.sum) Γ1 :=
  e_cb (cr_sum hc) (fun F H x Q s ⟨b, vs, e, q1, q2⟩ q => by
    subst e
    obtain rfl := dps_int q2
    exact ⟨b, l, rfl, .of q1, q.int⟩) hg hm (by decide +kernel) ha (by decide) (by decide) he hpl
def maxL : List Int → Int
  | [] => 0
  | [x] => x
  | x :: y :: r => max x (maxL (y :: r))
def minL : List Int → Int
  | [] => 0
  | [x] => x
  | x :: y :: r => min x (minL (y :: r))
theorem maxL_spec : ∀ l : List Int, l ≠ [] → maxL l ∈ l ∧ ∀ y ∈ l, y ≤ maxL l
  | [], h => absurd rfl h
  | [x], _ => ⟨by simp [maxL], by simp [maxL]⟩
  | x :: y :: r, _ => by
    obtain ⟨h1, h2⟩ := maxL_spec (y :: r) (by simp)
    show max x (maxL (y :: r)) ∈ x :: y :: r ∧ ∀ z ∈ x :: y :: r, z ≤ max x (maxL (y :: r))
    refine ⟨?_, fun z hz => ?_⟩
    · by_cases q : x ≤ maxL (y :: r)
      · rw [Int.max_eq_right q]; exact List.mem_cons_of_mem _ h1
      · rw [Int.max_eq_left (by omega)]; exact List.mem_cons_self
    · rcases List.mem_cons.mp hz with e | e
      · subst e; exact Int.le_max_left _ _
      · exact Int.le_trans (h2 z e) (Int.le_max_right _ _)
theorem minL_spec : ∀ l : List Int, l ≠ [] → minL l ∈ l ∧ ∀ y ∈ l, minL l ≤ y
  | [], h => absurd rfl h
  | [x], _ => ⟨by simp [minL], by simp [minL]⟩
  | x :: y :: r, _ => by
    obtain ⟨h1, h2⟩ := minL_spec (y :: r) (by simp)
    show min x (minL (y :: r)) ∈ x :: y :: r ∧ ∀ z ∈ x :: y :: r, min x (minL (y :: r)) ≤ z
    refine ⟨?_, fun z hz => ?_⟩
    · by_cases q : x ≤ minL (y :: r)
      · rw [Int.min_eq_left q]; exact List.mem_cons_self
      · rw [Int.min_eq_right (by omega)]; exact List.mem_cons_of_mem _ h1
    · rcases List.mem_cons.mp hz with e | e
      · subst e; exact Int.min_le_left _ _
      · exact Int.le_trans (Int.min_le_right _ _) (h2 z e)
theorem e_max {l : List Int} (h0 : l ≠ []) (hc : C.X.calm = true) (hg : Gl C.X "max") (hm : C.X.mg "max" = none) (ha : R C a Γ (l.map eI) Γ1) (he : starEach [a] C.X.env = (false, eval a C.X.env) :: starEach [] C.X.env := by rfl) (hpl : (backTo pos (starEach [] C.X.env)).any (·.1) = false := by rfl) : E C (.Call (.Name "max" p) [a] [] pos) Γ (.int (maxL l)) Γ1 :=
  e_cb (cr_max hc) (fun F H x Q s ⟨b, vs, e, q1, q2⟩ q => by
    subst e
    obtain rfl := dps_int q2
    refine ⟨b, l, rfl, .of q1, List.length_pos_iff.mpr h0, fun m hm hle => ?_⟩
    obtain ⟨z1, z2⟩ := maxL_spec l h0
    have : m = maxL l := Int.le_antisymm (z2 m hm) (hle _ z1)
    rw [this]; exact q.int) hg hm (by decide +kernel) ha (by decide) (by decide) he hpl
theorem e_min {l : List Int} (h0 : l ≠ []) (hc : C.X.calm = true) (hg : Gl C.X "min") (hm : C.X.mg "min" = none) (ha : R C a Γ (l.map eI) Γ1) (he : starEach [a] C.X.env = (false, eval a C.X.env) :: starEach [] C.X.env := by rfl) (hpl : (backTo pos (starEach [] C.X.env)).any (·.1) = false := by rfl) : E C (.Call (.Name "min" p) [a] [] pos) Γ (.int (minL l)) Γ1 :=
  e_cb (cr_min hc) (fun F H x Q s ⟨b, vs, e, q1, q2⟩ q => by
    subst e
    obtain rfl := dps_int q2
    refine ⟨b, l, rfl, .of q1, List.length_pos_iff.mpr h0, fun m hm hle => ?_⟩
    obtain ⟨z1, z2⟩ := minL_spec l h0
    have : m = minL l := Int.le_antisymm (hle _ z1) (z2 m hm)
    rw [this]; exact q.int) hg hm (by decide +kernel) ha (by decide) (by decide) he hpl
theorem e_all {l : List Bool} (hc : C.X.calm = true) (hg : Gl C.X "all") (hm : C.X.mg "all" = none) (ha : R C a Γ (l.map eB) Γ1) (he : starEach [a] C.X.env = (false, eval a C.X.env) :: starEach [] C.X.env := by rfl) (hpl : (backTo pos (starEach [] C.X.env)).any (·.1) = false := by rfl) : E C (.Call (.Name "all" p) [a] [] pos) Γ (.bool (l.all id)) Γ1 :=
  e_cb (cr_all hc) (fun F H x Q s ⟨b, vs, e, q1, q2⟩ q => by
    subst e
    obtain rfl := dps_bool q2
    exact ⟨b, l, rfl, .of q1, q.bl⟩) hg hm (by decide +kernel) ha (by decide) (by decide) he hpl
theorem e_any {l : List Bool} (hc : C.X.calm = true) (hg : Gl C.X "any") (hm : C.X.mg "any" = none) (ha : R C a Γ (l.map eB) Γ1) (he : starEach [a] C.X.env = (false, eval a C.X.env) :: starEach [] C.X.env := by rfl) (hpl : (backTo pos (starEach [] C.X.env)).any (·.1) = false := by rfl) : E C (.Call (.Name "any" p) [a] [] pos) Γ (.bool (l.any id)) Γ1 :=
  e_cb (cr_any hc) (fun F H x Q s ⟨b, vs, e, q1, q2⟩ q => by
    subst e
    obtain rfl := dps_bool q2
    exact ⟨b, l, rfl, .of q1, q.bl⟩) hg hm (by decide +kernel) ha (by decide) (by decide) he hpl
theorem e_intI (hg : Gl C.X "int") (hm : C.X.mg "int" = none) (ha : E C a Γ (.int i) Γ1) (he : starEach [a] C.X.env = (false, eval a C.X.env) :: starEach [] C.X.env := by rfl) (hpl : (backTo pos (starEach [] C.X.env)).any (·.1) = false := by rfl) : E C (.Call (.Name "int" p) [a] [] pos) Γ (.int i) Γ1 :=
  e_ct call_int1 (A := rD (.int i)) (fun F H x Q s hx q => by
    cases hx
    exact .inl ⟨i, rfl, q.int⟩) hg hm PyProof.Rows.boot_int ha (by decide) (by decide) he hpl
theorem e_intB (hg : Gl C.X "int") (hm : C.X.mg "int" = none) (ha : E C a Γ (.bool k) Γ1) (he : starEach [a] C.X.env = (false, eval a C.X.env) :: starEach [] C.X.env := by rfl) (hpl : (backTo pos (starEach [] C.X.env)).any (·.1) = false := by rfl) : E C (.Call (.Name "int" p) [a] [] pos) Γ (.int (if k then 1 else 0)) Γ1 :=
  e_ct call_int1 (A := rD (.bool k)) (fun F H x Q s hx q => by
    cases hx
    exact .inr ⟨k, rfl, q.int⟩) hg hm PyProof.Rows.boot_int ha (by decide) (by decide) he hpl
theorem e_abs (hg : Gl C.X "abs") (hm : C.X.mg "abs" = none) (ha : E C a Γ (.int i) Γ1) (he : starEach [a] C.X.env = (false, eval a C.X.env) :: starEach [] C.X.env := by rfl) (hpl : (backTo pos (starEach [] C.X.env)).any (·.1) = false := by rfl) : E C (.Call (.Name "abs" p) [a] [] pos) Γ (.int (if i < 0 then -i else i)) Γ1 :=
  e_cb call_abs (A := rD (.int i)) (fun F H x Q s hx q => by
    cases hx
    exact ⟨i, rfl, q.int⟩) hg hm PyProof.Rows.boot_abs ha (by decide) (by decide) he hpl
theorem e_tupL (hg : Gl C.X "tuple") (hm : C.X.mg "tuple" = none) (ha : R C a Γ ds Γ1) (he : starEach [a] C.X.env = (false, eval a C.X.env) :: starEach [] C.X.env := by rfl) (hpl : (backTo pos (starEach [] C.X.env)).any (·.1) = false := by rfl) : E C (.Call (.Name "tuple" p) [a] [] pos) Γ (.tuple ds) Γ1 :=
  e_ct call_tuple_of (fun F H x Q s ⟨b, vs, e, q1, q2⟩ q => by
    subst e
    exact ⟨b, vs, rfl, .inl ⟨.of q1, fun l hl => q.tup s hl q2⟩⟩) hg hm PyProof.Rows.boot_tuple ha (by decide) (by decide) he hpl
theorem e_tupT (hg : Gl C.X "tuple") (hm : C.X.mg "tuple" = none) (ha : E C a Γ (.tuple ds) Γ1) (he : starEach [a] C.X.env = (false, eval a C.X.env) :: starEach [] C.X.env := by rfl) (hpl : (backTo pos (starEach [] C.X.env)).any (·.1) = false := by rfl) : E C (.Call (.Name "tuple" p) [a] [] pos) Γ (.tuple ds) Γ1 :=
  e_ct call_tuple_of (A := rD (.tuple ds)) (fun F H x Q s hx q => by
    obtain ⟨b, vs, e, q1, q2⟩ := tp_of s hx
    subst e
    exact ⟨b, vs, rfl, .inr ⟨q1, q.at s hx⟩⟩) hg hm PyProof.Rows.boot_tuple ha (by decide) (by decide) he hpl
theorem el_list (hg : Gl C.X "list") (hm : C.X.mg "list" = none) (ha : J C a Γ (rS ds) Γ1) (he : starEach [a] C.X.env = (false, eval a C.X.env) :: starEach [] C.X.env := by rfl) (hpl : (backTo pos (starEach [] C.X.env)).any (·.1) = false := by rfl) : EL C (.Call (.Name "list" p) [a] [] pos) Γ ds Γ1 :=
  el_ct call_list_of (fun F H x Q s ⟨b, vs, e, q1, q2⟩ q => by
    subst e
    exact ⟨b, vs, rfl, q1, fun l hl => q.new s hl q2⟩) hg hm PyProof.Rows.boot_list ha (by decide) (by decide) he hpl
/-- sorted, of ints -/
def insI (x : Int) : List Int → List Int
  | [] => [x]
  | y :: r => if x ≤ y then x :: y :: r else y :: insI x r
def srt : List Int → List Int
  | [] => []
  | x :: r => insI x (srt r)
theorem insI_perm (x : Int) : ∀ l, (insI x l).Perm (x :: l)
  | [] => .refl _
  | y :: r => by
    unfold insI
    split
    · exact .refl _
    · exact ((insI_perm x r).cons y).trans (.swap x y r)
theorem srt_perm : ∀ l, (srt l).Perm l
  | [] => .refl _
  | x :: r => (insI_perm x (srt r)).trans ((srt_perm r).cons x)
theorem insI_sorted (x : Int) : ∀ l : List Int, l.Pairwise (· ≤ ·) → (insI x l).Pairwise (· ≤ ·)
  | [], _ => by simp [insI]
  | y :: r, h => by
    obtain ⟨h1, h2⟩ := List.pairwise_cons.mp h
    unfold insI
    split
    · rename_i q
      refine List.pairwise_cons.mpr ⟨fun z hz => ?_, h⟩
      rcases List.mem_cons.mp hz with e | e
      · rw [e]; exact q
      · exact Int.le_trans q (h1 z e)
    · rename_i q
      refine List.pairwise_cons.mpr ⟨fun z hz => ?_, insI_sorted x r h2⟩
      rcases List.mem_cons.mp ((insI_perm x r).mem_iff.mp hz) with e | e
      · rw [e]; omega
      · exact h1 z e
theorem srt_sorted : ∀ l, (srt l).Pairwise (· ≤ ·)
  | [] => .nil
  | x :: r => insI_sorted x _ (srt_sorted r)
theorem sorted_unique : ∀ {l m : List Int}, l.Perm m → l.Pairwise (· ≤ ·) → m.Pairwise (· ≤ ·) → l = m
  | [], m, p, _, _ => by rw [List.nil_perm.mp p]
  | x :: l, m, p, h, g => by
    cases m with
    | nil => exact absurd p.symm (by intro z; cases (List.nil_perm.mp z))
    | cons y m =>
      obtain ⟨h1, h2⟩ := List.pairwise_cons.mp h
      obtain ⟨g1, g2⟩ := List.pairwise_cons.mp g
      have e : x = y := by
        have a1 : x ∈ y :: m := p.mem_iff.mp List.mem_cons_self
        have a2 : y ∈ x :: l := p.mem_iff.mpr List.mem_cons_self
        rcases List.mem_cons.mp a1 with q | q
        · exact q
        · rcases List.mem_cons.mp a2 with r | r
          · exact r.symm
          · exact Int.le_antisymm (h1 y r) (g1 x q)
      subst e
      rw [sorted_unique (List.Perm.cons_inv p) h2 g2]
theorem el_sorted {l : List Int} (hg : Gl C.X "sorted") (hm : C.X.mg "sorted" = none) (ha : R C a Γ (l.map eI) Γ1) (he : starEach [a] C.X.env = (false, eval a C.X.env) :: starEach [] C.X.env := by rfl) (hpl : (backTo pos (starEach [] C.X.env)).any (·.1) = false := by rfl) : EL C (.Call (.Name "sorted" p) [a] [] pos) Γ ((srt l).map eI) Γ1 :=
  el_cb cr_sortedI (fun F H x Q s ⟨b, vs, e, q1, q2⟩ q => by
    subst e
    obtain rfl := dps_int q2
    refine ⟨b, l, rfl, .of q1, fun ns' p hp hs hn => ?_⟩
    have : ns' = srt l := sorted_unique (hp.trans (srt_perm l).symm) hs (srt_sorted l)
    subst this
    exact q.new s hn dps_of_int) hg hm (by decide +kernel) ha (by decide) (by decide) he hpl
theorem e_bits (ha : E C o Γ (.int i) Γ1) (hb : attributeBase o "bit_length" C.X.env (eval o C.X.env) = eval o C.X.env := by rfl) (hline : (apos.endLine == pos.line) = true := by rfl) : E C (.Call (.Attribute o "bit_length" apos) [] [] pos) Γ (.int (Builtin.Int.intBits i : Nat)) Γ1 :=
  ⟨ha.1, fun σ H Q ok kk => ⟨_, pe_bits (wp _ o) hb hline, ha.2 σ H _ ok fun x H1 k1 ok1 q1 => by
    cases q1
    exact ⟨i, rfl, kk _ H1 k1 ok1 (.int _)⟩⟩⟩
end
end TL

namespace TL
open PySem hiding start
open PySem.Spec
open L2 hiding Dp DpAll
open PyProof.Rows hiding St

/-! ### comprehensions with a name as target -/
def runT {β α γ : Type} (step : β → α → γ × β) : β → List α → List γ × β
  | a, [] => ([], a)
  | a, x :: r => ((step a x).1 :: (runT step (step a x).2 r).1, (runT step (step a x).2 r).2)
theorem runC_some {β α γ : Type} (step : β → α → γ × β) : ∀ (l : List α) (a : β), runC (fun a x => (some (step a x).1, (step a x).2)) a l = runT step a l
  | [], a => rfl
  | x :: l, a => by simp only [runC, runT, runC_some step l]
theorem runC_pure {α γ : Type} (c : α → Bool) (h : α → γ) : ∀ l : List α, (runC (fun (_ : Unit) x => (if c x then some (h x) else none, ())) () l).1 = (l.filter c).map h
  | [] => rfl
  | x :: l => by
    simp only [runC]
    cases q : c x with
    | true => simp only [if_pos rfl, List.filter_cons, q, List.map_cons, runC_pure c h l, if_true]
    | false => simp only [Bool.false_eq_true, if_false, List.filter_cons, q, runC_pure c h l]
section
variable {C : Ctx} {Γ Γ1 Γ2 Γ3 : List Ent} {σ : St} {H H' : Hp} {a b c e o elt iter : Expr} {es ifs : List Expr} {d dx dy dz : D} {ds : List D} {pos p pos' p' apos pg spos : Pos} {nm : Str} {i j : Int} {k l : Bool} {scope : Scope}
theorem wE1 {jn : Nat} : wE Γ1 [jn] = Γ1.set jn .no := rfl
theorem set2 {jn : Nat} {e : Ent} : (wE Γ1 [jn]).set jn e = Γ1.set jn e := by rw [wE1, List.set_set]
theorem lc1s {α β γ : Type} {l : List α} {f : α → D} {a0 : β} (jn iT : Nat) (t : β → List D) (step : β → α → γ × β) (g : γ → D) (hN : C.X.N.Nodup) (hj : C.X.N[jn]? = some nm) (hx : ∀ y : Sb, Loc (C.sub scope y).X.env.scope nm ∧ ((C.sub scope y).X.fn nm = true ∨ (C.sub scope y).X.env.scope.names.lookup nm = some .local)) (hl : jn < Γ1.length) (ht : NoT C jn)
    (ho : ((Γ1[jn]?).getD .no).isOwn = false) (hT : Γ1[iT]? = some (.own (.lst (t a0)))) (hi : IT C (.Name nm pg) iter Γ (l.map f) Γ1) (hz : l.length ≤ 1000000)
    (he : ∀ x a, x ∈ l → CE C scope [] elt ((Γ1.set iT (.own (.lst (t a)))).set jn (.v (f x))) (some (g (step a x).1)) ((Γ1.set iT (.own (.lst (t (step a x).2)))).set jn (.v (f x)))) :
    LcR C (.Name nm pg) iter elt [] scope [jn] Γ ((runT step a0 l).1.map g) (Γ1.set iT (.own (.lst (t (runT step a0 l).2)))) := by
  have iTl : iT < Γ1.length := (List.getElem?_eq_some_iff.mp hT).1
  have nj : iT ≠ jn := fun z => by
    subst z
    rw [hT] at ho; cases ho
  have h0 : Γ1.set iT (.own (.lst (t a0))) = Γ1 := by
    apply List.ext_getElem?
    intro i
    by_cases q : i = iT
    · subst q; rw [List.getElem?_set_self iTl, hT]
    · rw [List.getElem?_set_ne (Ne.symm q)]
  have r := lc_read (C := C) (Γ := Γ) (tg := .Name nm pg) (iter := iter) (elt := elt) (ifs := []) (l := l) (f := f) (a0 := a0) (scope := scope) (js := [jn]) (own := [(nm, jn)]) (fun a x => (some (step a x).1, (step a x).2)) g (fun a => Γ1.set iT (.own (.lst (t a)))) (fun a x => (wE (Γ1.set iT (.own (.lst (t a)))) [jn]).set jn (.v (f x)))
    (by rw [h0]; exact hi) hz (fun v hv => by
      have : v = jn := by simpa using hv
      subst this
      exact ⟨by rw [List.length_set]; exact hl, ht⟩) (fun a i e hi hq => by
      have hij : i = jn := by simpa using hi
      rw [hij, List.getElem?_set_ne nj] at hq
      rw [hq] at ho; exact ho) (fun j hj => by simpa using hj) (fun a i => by
      by_cases q : i = iT
      · subst q; rw [List.getElem?_set_self iTl, List.getElem?_set_self iTl]; rfl
      · rw [List.getElem?_set_ne (Ne.symm q), List.getElem?_set_ne (Ne.symm q)]) (fun a i hi => by
      have hij : i = jn := by simpa using hi
      rw [hij, List.getElem?_set_ne nj, List.getElem?_set_ne nj]) (fun y x a hx' => tg_name jn hN hj (hx y).1 (by
      show jn < (wE (Γ1.set iT (.own (.lst (t a)))) [jn]).length
      rw [wE_length, List.length_set]; exact hl) ht (hx y).2) (fun x a hx' => by
      rw [set2, set2]
      exact he x a hx')
  rw [runC_some] at r
  exact r
theorem lc1 {α γ : Type} {l : List α} {f : α → D} (jn : Nat) (c : α → Bool) (h : α → γ) (g : γ → D) (hN : C.X.N.Nodup) (hj : C.X.N[jn]? = some nm) (hx : ∀ y : Sb, Loc (C.sub scope y).X.env.scope nm ∧ ((C.sub scope y).X.fn nm = true ∨ (C.sub scope y).X.env.scope.names.lookup nm = some .local)) (hl : jn < Γ1.length) (ht : NoT C jn)
    (ho : ((Γ1[jn]?).getD .no).isOwn = false) (hi : IT C (.Name nm pg) iter Γ (l.map f) Γ1) (hz : l.length ≤ 1000000)
    (he : ∀ x, x ∈ l → CE C scope ifs elt (Γ1.set jn (.v (f x))) (if c x then some (g (h x)) else none) (Γ1.set jn (.v (f x)))) : LcR C (.Name nm pg) iter elt ifs scope [jn] Γ (((l.filter c).map h).map g) Γ1 := by
  have r := lc_read (C := C) (Γ := Γ) (tg := .Name nm pg) (iter := iter) (elt := elt) (ifs := ifs) (l := l) (f := f) (a0 := ()) (scope := scope) (js := [jn]) (own := [(nm, jn)]) (fun _ x => (if c x then some (h x) else none, ())) g (fun _ => Γ1) (fun _ x => (wE Γ1 [jn]).set jn (.v (f x)))
    hi hz (fun v hv => by
      have : v = jn := by simpa using hv
      subst this
      exact ⟨hl, ht⟩) (fun a i e hi hq => by
      have hij : i = jn := by simpa using hi
      rw [hij] at hq
      rw [hq] at ho; exact ho) (fun j hj => by simpa using hj) (fun a => .refl) (fun a i hi => rfl) (fun y x a hx' => tg_name jn hN hj (hx y).1 (by
      show jn < (wE Γ1 [jn]).length
      rw [wE_length]; exact hl) ht (hx y).2) (fun x a hx' => by
      rw [set2]
      have := he x hx'
      cases q : c x with
      | true => rw [q] at this; exact this
      | false => rw [q] at this; exact this)
  rw [runC_pure] at r
  exact r
theorem lc1m {α γ : Type} {l : List α} {f : α → D} (jn : Nat) (h : α → γ) (g : γ → D) (hN : C.X.N.Nodup) (hj : C.X.N[jn]? = some nm) (hx : ∀ y : Sb, Loc (C.sub scope y).X.env.scope nm ∧ ((C.sub scope y).X.fn nm = true ∨ (C.sub scope y).X.env.scope.names.lookup nm = some .local)) (hl : jn < Γ1.length) (ht : NoT C jn)
    (ho : ((Γ1[jn]?).getD .no).isOwn = false) (hi : IT C (.Name nm pg) iter Γ (l.map f) Γ1) (hz : l.length ≤ 1000000)
    (he : ∀ x, x ∈ l → CE C scope [] elt (Γ1.set jn (.v (f x))) (some (g (h x))) (Γ1.set jn (.v (f x)))) : LcR C (.Name nm pg) iter elt [] scope [jn] Γ ((l.map h).map g) Γ1 := by
  have r := lc1 (C := C) (Γ := Γ) (iter := iter) (elt := elt) (ifs := []) (pg := pg) jn (fun _ => true) h g hN hj hx hl ht ho hi hz fun x hx' => by rw [if_pos rfl]; exact he x hx'
  rw [List.filter_eq_self.mpr fun _ _ => rfl] at r
  exact r

/-! ### subscripts -/
def ati {α : Type} (l : List α) (i : Int) (d : α) : α := (atI l i).getD d
def InB (n : Nat) (i : Int) : Prop := -(n : Int) ≤ i ∧ i < n
theorem ixN_in {n : Nat} {i : Int} (h : InB n i) : ∃ j, ixN n i = some j ∧ j < n := by
  unfold ixN
  by_cases q : 0 ≤ i
  · rw [if_pos q, if_pos h.2]; exact ⟨_, rfl, by have := h.2; omega⟩
  · rw [if_neg q, if_pos h.1]; exact ⟨_, rfl, by have := h.1; omega⟩
theorem atI_map {α : Type} {l : List α} {f : α → D} {i : Int} (d0 : α) (h : InB l.length i) : atI (l.map f) i = some (f (ati l i d0)) := by
  obtain ⟨j, e, hj⟩ := ixN_in h
  unfold ati atI
  rw [List.length_map, e]
  show (l.map f)[j]? = some (f ((l[j]?).getD d0))
  rw [List.getElem?_map, List.getElem?_eq_getElem hj]; rfl
theorem atI_dps {K : PySem.W.Frag} {F : Hp} {vs : List V} (h : DpAll K F vs ds) (e : atI ds i = some d) : ∃ v, atI vs i = some v ∧ Dp K F v d := by
  unfold atI at e ⊢
  rw [dps_len h]
  cases q : ixN ds.length i with
  | none => rw [q] at e; cases e
  | some n =>
    rw [q] at e
    exact dps_get' h n d e
theorem e_ixT (hx : atI ds i = some d) (ha : E C a Γ (.tuple ds) Γ1) (hb : E C b Γ1 (.int i) Γ2) (hs : PlainIx b := by exact fun _ _ => rfl) : E C (.Subscript a b pos) Γ d Γ2 :=
  ⟨ha.1.trans hb.1, fun σ H Q ok k => ⟨_, pe_ix ix_tup (wp _ a) (wp _ b) hs, bin_run (B := rD (.int i)) (fun F H x y Q s hx' hy q => by
    cases hy
    obtain ⟨p, vs, e, q1, q2⟩ := tp_of s hx'
    subst e
    obtain ⟨v, w1, w2⟩ := atI_dps q2 hx
    exact ⟨p, vs, i, v, rfl, rfl, q1, w1, q.at s w2⟩) ha hb ok k⟩⟩
theorem e_ixL (hx : atI ds i = some d) (ha : E C a Γ (.list ds) Γ1) (hb : E C b Γ1 (.int i) Γ2) (hs : PlainIx b := by exact fun _ _ => rfl) : E C (.Subscript a b pos) Γ d Γ2 :=
  ⟨ha.1.trans hb.1, fun σ H Q ok k => ⟨_, pe_ix ix_list (wp _ a) (wp _ b) hs, bin_run (B := rD (.int i)) (fun F H x y Q s hx' hy q => by
    cases hy
    obtain ⟨p, vs, e, q1, q2⟩ := ls_of s hx'
    subst e
    obtain ⟨v, w1, w2⟩ := atI_dps q2 hx
    exact ⟨p, vs, i, v, rfl, rfl, .of q1, w1, q.at s w2⟩) ha hb ok k⟩⟩
/-- an owned list's item -/
theorem e_ixO (n : Nat) {x : Str} (hx : atI ds i = some d) (hn : Γ1[n]? = some (.own (.lst ds))) (hb : E C b Γ (.int i) Γ1) (hN : C.X.N[n]? = some x) (hv : Vis C.X.env.scope x)
    (hd : (x == ("__debug__" : Str)) = false := by decide) (hcd : (x == ("__classdict__" : Str)) = false := by decide) (hs : PlainIx b := by exact fun _ _ => rfl) : E C (.Subscript (.Name x p') b pos) Γ d Γ1 :=
  ⟨hb.1, fun σ H Q ok k => ⟨_, pe_ix ix_list (pe_var (i := n) hN hv hd hcd) (wp _ b) hs, by
    have own0 : ∃ c0, Γ[n]? = some (.own c0) := by
      have q := hb.1 n
      rw [hn] at q
      cases w : Γ[n]? with
      | none => rw [w] at q; cases q
      | some f =>
        rw [w] at q
        cases f with
        | own c0 => exact ⟨c0, rfl⟩
        | no => cases q
        | v d => cases q
    obtain ⟨c0, h0⟩ := own0
    obtain ⟨o, q0, a, ho, q1, q2, q3⟩ := ok.ents n _ h0
    subst q1
    refine ⟨_, q0, hb.2 σ H _ ok fun y H1 k1 ok1 q1 => ?_⟩
    cases q1
    obtain ⟨o', w0, a', ho', w1, w2, w3⟩ := ok1.ents n _ hn
    rw [q0] at w0
    have : some (V.ref a) = some (V.ref a') := (Option.some.inj w0).trans w1
    cases this
    obtain ⟨ws0, e5, w4⟩ := w3.lst
    subst e5
    obtain ⟨v, z1, z2⟩ := atI_dps w4 hx
    rw [hb.1.own] at z2
    exact ⟨a, ws0, i, v, rfl, rfl, .of w2, z1, k v H1 k1 ok1 z2⟩⟩⟩

/-! ### slices -/
def cut {α : Type} (xs : List α) (lo hi : Option Int) : List α := (xs.drop (HT.sIx xs.length 0 lo)).take (HT.sIx xs.length xs.length hi - HT.sIx xs.length 0 lo)
theorem cut_map {α : Type} (l : List α) (f : α → D) (lo hi : Option Int) : cut (l.map f) lo hi = (cut l lo hi).map f := by
  unfold cut
  rw [List.length_map, List.map_take, List.map_drop]
theorem cut_dps {K : PySem.W.Frag} {F : Hp} {vs : List V} (h : DpAll K F vs ds) (lo hi : Option Int) : DpAll K F (cutV vs lo hi) (cut ds lo hi) := by
  unfold cutV cut
  rw [dps_len h]
  exact dps_take _ (dps_drop _ h)
/-- an optional part -/
def EO (C : Ctx) (o : Option Expr) (Γ : List Ent) (v : Option Int) : Prop := ∀ (σ : St) (H : Hp) (Q : Option Int → Hp → Prop), EnvOk C Γ σ H → (∀ H', Keep (Own Γ σ) H H' → EnvOk C Γ σ H' → Q v H') → ∃ t, PO C.X o t ∧ t σ H Q
theorem eo_none : EO C none Γ none := fun σ H Q ok k => ⟨_, po_none, k H .refl ok⟩
theorem eo_some (h : E C e Γ (.int i) Γ) : EO C (some e) Γ (some i) := fun σ H Q ok k => ⟨_, po_some (wp _ e), h.2 σ H _ ok fun x H1 k1 ok1 q1 => by
  cases q1; exact ⟨i, rfl, k H1 k1 ok1⟩⟩
def Wo (X : Cx) (o : Option Expr) : TO := fun σ H Q => ∃ t, PO X o t ∧ t σ H Q
theorem wo (X : Cx) (o : Option Expr) : PO X o (Wo X o) := ⟨fun pins s σ H Q I ⟨_, ht, q⟩ => ht.run pins s σ H Q I q⟩
theorem el_slL {lo hi : Option Expr} {u v : Option Int} {p2 : Pos} (ha : E C a Γ (.list ds) Γ) (h1 : EO C lo Γ u) (h2 : EO C hi Γ v) : EL C (.Subscript a (.Slice lo hi none p2) pos) Γ (cut ds u v) Γ :=
  ⟨.refl, fun σ H Q ok k => ⟨_, pe_slice sl_list (wp _ a) (wo _ lo) (wo _ hi), ha.2 σ H _ ok fun x H1 k1 ok1 q1 => h1 σ H1 _ ok1 fun H2 k2 ok2 => h2 σ H2 _ ok2 fun H3 k3 ok3 => by
    obtain ⟨b, vs, e, w1, w2⟩ := ls_of ok3.sub (dp_keep (k2.trans k3) q1)
    subst e
    refine ⟨b, vs, rfl, .of w1, fun p hp => ?_⟩
    have g := gvl_of (ds := cut ds u v) (Q := Q) ok3 fun p vs H' n k4 e4 ok4 q4 => k p vs H' (by
      cases w : H p with
      | none => rfl
      | some o =>
        by_cases nn : Own Γ σ p
        · obtain ⟨ho, w2⟩ := ok3.ownAt nn
          rw [w2] at n; cases n
        · rw [k3 p o nn (k2 p o nn (k1 p o nn w))] at n; cases n) (((k1.trans k2).trans k3).trans k4) e4 ok4 q4
    exact g.new ok3.sub hp (cut_dps w2 u v)⟩⟩
theorem e_slT {lo hi : Option Expr} {u v : Option Int} {p2 : Pos} (ha : E C a Γ (.tuple ds) Γ) (h1 : EO C lo Γ u) (h2 : EO C hi Γ v) : E C (.Subscript a (.Slice lo hi none p2) pos) Γ (.tuple (cut ds u v)) Γ :=
  ⟨.refl, fun σ H Q ok k => ⟨_, pe_slice sl_tupA (wp _ a) (wo _ lo) (wo _ hi), ha.2 σ H _ ok fun x H1 k1 ok1 q1 => h1 σ H1 _ ok1 fun H2 k2 ok2 => h2 σ H2 _ ok2 fun H3 k3 ok3 => by
    have q3 := dp_keep (k2.trans k3) q1
    obtain ⟨b, vs, e, w1, w2⟩ := tp_of ok3.sub q3
    subst e
    have g := gv_of (d := .tuple (cut ds u v)) (Q := Q) ok3 fun x H' k4 ok4 q4 => k x H' (((k1.trans k2).trans k3).trans k4) ok4 q4
    refine ⟨b, vs, rfl, w1, fun ⟨z1, z2⟩ => ?_, fun _ p hp => g.tup ok3.sub hp (cut_dps w2 u v)⟩
    have : cut ds u v = ds := by
      unfold cut
      rw [← dps_len w2, z1, z2]; simp [dps_len w2]
    rw [this] at g
    exact g.at ok3.sub q3⟩⟩

/-! ### sums of lists, of tuples -/
theorem el_cat {ys : List D} (hz : ds.length + ys.length ≤ 1000000) (ha : E C a Γ (.list ds) Γ1) (hb : R C b Γ1 ys Γ2) : EL C (.BinOp a .Add b pos) Γ (ds ++ ys) Γ2 :=
  ⟨ha.1.trans hb.1, fun σ H Q ok k => ⟨_, pe_op op_cat (wp _ a) (wp _ b), ha.2 σ H _ ok fun x H1 k1 ok1 q1 => hb.2 σ H1 _ ok1 fun y H2 k2 ok2 ⟨b', us, e2, w1, w2⟩ => by
    have e1 : Own Γ1 σ = Own Γ σ := ha.1.own
    have e3 : Own Γ2 σ = Own Γ1 σ := hb.1.own
    rw [e1] at k2 w2
    obtain ⟨a', vs, e, u1, u2⟩ := ls_of ok2.sub (dp_keep k2 q1)
    subst e; subst e2
    refine ⟨a', b', vs, us, rfl, rfl, u1, w1, by rw [dps_len u2, dps_len w2]; exact Nat.le_trans hz (by decide), fun p hp => ?_⟩
    have g := gvl_of (ds := ds ++ ys) (Q := Q) ok2 (by
      rw [e3, e1]
      exact fun p vs H' n k4 e4 ok4 q4 => k p vs H' (by
      cases w : H p with
      | none => rfl
      | some o =>
        by_cases nn : Own Γ σ p
        · obtain ⟨ho, w2⟩ := ok2.ownAt (by rw [e3, e1]; exact nn)
          rw [w2] at n; cases n
        · rw [k2 p o nn (k1 p o nn w)] at n; cases n) ((k1.trans k2).trans k4) e4 ok4 q4)
    rw [e3, e1] at g
    exact g.new ok2.sub hp (dps_app u2 w2)⟩⟩
theorem o_catT {K : PySem.W.Frag} {xs ys : List D} (hz : xs.length + ys.length ≤ 1000000) : Op2 K (rCatA K) (.tuple xs) (.tuple ys) (.tuple (xs ++ ys)) := fun F H x y Q s hx hy q => by
  obtain ⟨a, vs, e1, u1, u2⟩ := tp_of s hx
  obtain ⟨b, us, e2, w1, w2⟩ := tp_of s hy
  subst e1; subst e2
  refine ⟨a, b, vs, us, rfl, rfl, u1, w1, by rw [dps_len u2, dps_len w2]; exact Nat.le_trans hz (by decide), fun z => ?_, fun _ z => ?_, fun _ _ p hp => q.tup s hp (dps_app u2 w2)⟩
  · subst z
    cases u2
    exact q.at s hy
  · subst z
    cases w2
    rw [List.append_nil] at q
    exact q.at s hx
theorem e_catT {xs ys : List D} (hz : xs.length + ys.length ≤ 1000000) (ha : E C a Γ (.tuple xs) Γ1) (hb : E C b Γ1 (.tuple ys) Γ2) : E C (.BinOp a .Add b pos) Γ (.tuple (xs ++ ys)) Γ2 := e_op op_catA (B := rD (.tuple ys)) (o_catT hz) ha hb

/-! ### methods that change an owned list: as statements x.m(..) -/
theorem own_of {n : Nat} {ct : Ct} (hs : Sh Γ Γ1) (hn : Γ1[n]? = some (.own ct)) : ∃ c0, Γ[n]? = some (.own c0) := by
  have q := hs n
  rw [hn] at q
  cases w : Γ[n]? with
  | none => rw [w] at q; cases q
  | some f =>
    rw [w] at q
    cases f with
    | own c0 => exact ⟨c0, rfl⟩
    | no => cases q
    | v d => cases q
/-- the owner's slot holds its address throughout -/
theorem own_at {n : Nat} {c0 c1 : Ct} (ok : EnvOk C Γ σ H) (h0 : Γ[n]? = some (.own c0)) : ∃ (a : Addr) (ho : HO), σ[n]? = some (some (.ref a)) ∧ H a = some ho ∧ CtOk C.X.K (bas C (Own Γ σ) H) ho c0 ∧ Own Γ σ a := by
  obtain ⟨o, q0, a, ho, q1, q2, q3⟩ := ok.ents n _ h0
  subst q1
  exact ⟨a, ho, q0, q2, q3, n, _, h0, rfl, q0⟩
theorem own_at' {n : Nat} {c0 : Ct} {a : Addr} (ok : EnvOk C Γ σ H) (h0 : Γ[n]? = some (.own c0)) (q0 : σ[n]? = some (some (.ref a))) : ∃ ho : HO, H a = some ho ∧ CtOk C.X.K (bas C (Own Γ σ) H) ho c0 := by
  obtain ⟨a', ho, q1, q2, q3, _⟩ := own_at (c1 := c0) ok h0
  rw [q0] at q1
  cases q1
  exact ⟨ho, q2, q3⟩
theorem b_app (n : Nat) {x : Str} {ds0 : List D} (h0 : Γ[n]? = some (.own (.lst ds0))) (hn : Γ1[n]? = some (.own (.lst ds))) (hz : ds.length ≤ 1000000) (ha : E C e Γ d Γ1) (hN : C.X.N[n]? = some x) (hv : Vis C.X.env.scope x) (hd : (x == ("__debug__" : Str)) = false := by decide) (hcd : (x == ("__classdict__" : Str)) = false := by decide)
    (hbase : attributeBase (.Name x p') "append" C.X.env (eval (.Name x p') C.X.env) = eval (.Name x p') C.X.env := by rfl)
    (hfew : ((backTo pos (starEach [e] C.X.env)).all (fun x => !x.1) && (backToKw pos (keywordEach [] C.X.env)).all (fun x => x.1.isSome) && decide ([e].length + ([] : List Keyword).length + (if ([] : List Keyword).isEmpty then 0 else 1) < 30)) = true := by rfl)
    (hline : (apos.endLine == pos.line) = true := by rfl) (hs : starEach [e] C.X.env = (false, eval e C.X.env) :: starEach [] C.X.env := by rfl) (hplain : (backTo pos (starEach [] C.X.env)).any (·.1) = false := by rfl)
    (hsw : swapsWith (.Call (.Attribute (.Name x p') "append" apos) [e] [] pos) none spos.line C.X.env = pure false := by rfl) :
    B C (.Expr (.Call (.Attribute (.Name x p') "append" apos) [e] [] pos) spos) Γ (.nx (Γ1.set n (.own (.lst (ds ++ [d]))))) := fun σ H Z ok k =>
  ⟨_, ps_expr (pe_bm PySem.F.plainAttrs_list PySem.F.slot_list_append PySem.F.type_list_append mt_append (pe_var (i := n) hN hv hd hcd) (pa_cons (wp _ e) pa_nil hs) hbase hfew hline hs hplain) hsw, by
    obtain ⟨a, ho, q0, q1, q2, q3⟩ := own_at (c1 := .lst ds0) ok h0
    refine ⟨_, q0, ?_, ha.2 σ H _ ok fun y H1 k1 ok1 w => ?_⟩
    · obtain ⟨vs, e5, w4⟩ := q2.lst
      subst e5
      exact .inl ⟨rfl, vs, .of q1⟩
    · obtain ⟨ho1, w1, w2⟩ := own_at' ok1 hn q0
      obtain ⟨vs, e5, w4⟩ := w2.lst
      subst e5
      refine ⟨a, vs, y, rfl, rfl, w1, by rw [dps_len w4, sizeLine_eq]; omega, ?_⟩
      rw [← ha.1.own (σ := σ)] at w
      exact k σ _ (ok1.mut hn q0 (show CtOk _ _ (.lst (vs ++ [y])) (.lst (ds ++ [d])) from dps_app w4 (.cons w .nil)) (.inr (.inr ⟨_, rfl⟩))).1⟩
theorem b_ext (n : Nat) {x : Str} {ds0 ys : List D} (h0 : Γ[n]? = some (.own (.lst ds0))) (hn : Γ1[n]? = some (.own (.lst ds))) (hz : ds.length + ys.length ≤ 1000000) (ha : R C e Γ ys Γ1) (hN : C.X.N[n]? = some x) (hv : Vis C.X.env.scope x) (hd : (x == ("__debug__" : Str)) = false := by decide) (hcd : (x == ("__classdict__" : Str)) = false := by decide)
    (hbase : attributeBase (.Name x p') "extend" C.X.env (eval (.Name x p') C.X.env) = eval (.Name x p') C.X.env := by rfl)
    (hfew : ((backTo pos (starEach [e] C.X.env)).all (fun x => !x.1) && (backToKw pos (keywordEach [] C.X.env)).all (fun x => x.1.isSome) && decide ([e].length + ([] : List Keyword).length + (if ([] : List Keyword).isEmpty then 0 else 1) < 30)) = true := by rfl)
    (hline : (apos.endLine == pos.line) = true := by rfl) (hs : starEach [e] C.X.env = (false, eval e C.X.env) :: starEach [] C.X.env := by rfl) (hplain : (backTo pos (starEach [] C.X.env)).any (·.1) = false := by rfl)
    (hsw : swapsWith (.Call (.Attribute (.Name x p') "extend" apos) [e] [] pos) none spos.line C.X.env = pure false := by rfl) :
    B C (.Expr (.Call (.Attribute (.Name x p') "extend" apos) [e] [] pos) spos) Γ (.nx (Γ1.set n (.own (.lst (ds ++ ys))))) := fun σ H Z ok k =>
  ⟨_, ps_expr (pe_bm PySem.F.plainAttrs_list PySem.F.slot_list_extend PySem.F.type_list_extend mt_extend (pe_var (i := n) hN hv hd hcd) (pa_cons (wp _ e) pa_nil hs) hbase hfew hline hs hplain) hsw, by
    obtain ⟨a, ho, q0, q1, q2, q3⟩ := own_at (c1 := .lst ds0) ok h0
    refine ⟨_, q0, ?_, ha.2 σ H _ ok fun y H1 k1 ok1 ⟨b, us, e2, w1, w2⟩ => ?_⟩
    · obtain ⟨vs, e5, w4⟩ := q2.lst
      subst e5
      exact .inl ⟨rfl, vs, .of q1⟩
    · obtain ⟨ho1, z1, z2⟩ := own_at' ok1 hn q0
      obtain ⟨vs, e5, w4⟩ := z2.lst
      subst e5; subst e2
      refine ⟨a, b, vs, us, rfl, rfl, z1, w1, by rw [dps_len w4, dps_len w2, sizeLine_eq]; omega, ?_⟩
      rw [← ha.1.own (σ := σ)] at w2
      exact k σ _ (ok1.mut hn q0 (show CtOk _ _ (.lst (vs ++ us)) (.lst (ds ++ ys)) from dps_app w4 w2) (.inr (.inr ⟨_, rfl⟩))).1⟩
theorem b_rev (n : Nat) {x : Str} (h0 : Γ[n]? = some (.own (.lst ds))) (hN : C.X.N[n]? = some x) (hv : Vis C.X.env.scope x) (hd : (x == ("__debug__" : Str)) = false := by decide) (hcd : (x == ("__classdict__" : Str)) = false := by decide)
    (hbase : attributeBase (.Name x p') "reverse" C.X.env (eval (.Name x p') C.X.env) = eval (.Name x p') C.X.env := by rfl)
    (hline : (apos.endLine == pos.line) = true := by rfl) (hsw : swapsWith (.Call (.Attribute (.Name x p') "reverse" apos) [] [] pos) none spos.line C.X.env = pure false := by rfl) :
    B C (.Expr (.Call (.Attribute (.Name x p') "reverse" apos) [] [] pos) spos) Γ (.nx (Γ.set n (.own (.lst ds.reverse)))) := fun σ H Z ok k =>
  ⟨_, ps_expr (pe_bm0 PySem.F.plainAttrs_list PySem.F.slot_list_reverse PySem.F.type_list_reverse mt_reverse (pe_var (i := n) hN hv hd hcd) hbase hline) hsw, by
    obtain ⟨a, ho, q0, q1, q2, q3⟩ := own_at (c1 := .lst ds) ok h0
    obtain ⟨vs, e5, w4⟩ := q2.lst
    subst e5
    exact ⟨_, q0, .inl ⟨rfl, vs, .of q1⟩, a, vs, rfl, rfl, q1, k σ _ (ok.mut h0 q0 (show CtOk _ _ (.lst vs.reverse) (.lst ds.reverse) from dps_rev w4) (.inr (.inr ⟨_, rfl⟩))).1⟩⟩
/-- x.pop(), a value: the last one -/
theorem e_pop (n : Nat) {x : Str} (h0 : Γ[n]? = some (.own (.lst (ds ++ [d])))) (hN : C.X.N[n]? = some x) (hv : Vis C.X.env.scope x) (hd : (x == ("__debug__" : Str)) = false := by decide) (hcd : (x == ("__classdict__" : Str)) = false := by decide)
    (hbase : attributeBase (.Name x p') "pop" C.X.env (eval (.Name x p') C.X.env) = eval (.Name x p') C.X.env := by rfl) (hline : (apos.endLine == pos.line) = true := by rfl) :
    E C (.Call (.Attribute (.Name x p') "pop" apos) [] [] pos) Γ d (Γ.set n (.own (.lst ds))) := ⟨Sh.set h0, fun σ H Q ok k =>
  ⟨_, pe_bm0 PySem.F.plainAttrs_list PySem.F.slot_list_pop PySem.F.type_list_pop mt_pop (pe_var (i := n) hN hv hd hcd) hbase hline, by
    obtain ⟨a, ho, q0, q1, q2, q3⟩ := own_at (c1 := .lst ds) ok h0
    obtain ⟨vs, e5, w4⟩ := q2.lst
    subst e5
    have hl := dps_len w4
    rw [List.length_append, List.length_singleton] at hl
    obtain ⟨y, y1, y2⟩ := dps_get' w4 ds.length d (by rw [List.getElem?_append_right (Nat.le_refl _)]; simp)
    have wd : DpAll C.X.K (bas C (Own Γ σ) H) vs.dropLast ds := by
      have := dps_take ds.length w4
      rw [List.take_left' rfl] at this
      rw [List.dropLast_eq_take, hl]; exact this
    refine ⟨_, q0, .inl ⟨rfl, vs, .of q1⟩, a, vs, y, rfl, rfl, q1, by rw [hl]; exact y1, ?_⟩
    obtain ⟨m1, m2, m3⟩ := ok.mut h0 q0 (show CtOk _ _ (.lst vs.dropLast) (.lst ds) from wd) (.inr (.inr ⟨_, rfl⟩))
    exact k y _ m2 m1 (dp_keep m2 y2)⟩⟩
/-- x[i] = e, x an owned list -/
theorem b_setI (n : Nat) {x : Str} {be : Expr} {jn : Nat} (hn : Γ2[n]? = some (.own (.lst ds))) (hi : ixN ds.length i = some jn) (ha : E C e Γ d Γ1) (hb : E C be Γ1 (.int i) Γ2) (hN : C.X.N[n]? = some x) (hv : Vis C.X.env.scope x) (hd : (x == ("__debug__" : Str)) = false := by decide) (hcd : (x == ("__classdict__" : Str)) = false := by decide)
    (hs : swapsWithSole [.Subscript (.Name x p') be pos'] e pos.line C.X.env = pure false := by rfl) (hw : swappedStores [.Subscript (.Name x p') be pos'] e C.X.env = pure none := by rfl)
    (h1 : (assignEach [.Subscript (.Name x p') be pos'] C.X.env).map (·.2) = [assign (.Subscript (.Name x p') be pos') C.X.env] := by rfl)
    (hq : ∀ v, assign (.Subscript (.Name x p') be pos') C.X.env v = (do
      let ov ← holding [v] (eval (.Name x p') C.X.env)
      let iv ← holding [v, ov] (eval be C.X.env)
      standAt pos'
      holding [v, ov, iv] (setItem ov iv v)
      release [v, ov, iv] []) := by intro _; rfl) :
    B C (.Assign [.Subscript (.Name x p') be pos'] e pos) Γ (.nx (Γ2.set n (.own (.lst (ds.set jn d))))) := fun σ H Z ok k =>
  ⟨_, ps_asg (wp _ e) (pg_sub (pe_var (i := n) hN hv hd hcd) (wp _ be) set_list hq) hs hw h1, by
    refine ha.2 σ H _ ok fun y H1 k1 ok1 w => ?_
    obtain ⟨c0, h0⟩ := own_of hb.1 hn
    obtain ⟨a, ho, q0, q1, q2, q3⟩ := own_at (c1 := c0) ok1 h0
    refine ⟨_, q0, hb.2 σ H1 _ ok1 fun z H2 k2 ok2 w2 => ?_⟩
    cases w2
    obtain ⟨ho1, z1, z2⟩ := own_at' ok2 hn q0
    obtain ⟨vs, e5, w4⟩ := z2.lst
    subst e5
    have e1 : Own Γ1 σ = Own Γ σ := ha.1.own
    have e2 : Own Γ2 σ = Own Γ1 σ := hb.1.own
    refine ⟨a, vs, i, jn, rfl, rfl, z1, by rw [dps_len w4]; exact hi, ?_⟩
    have w' : Dp C.X.K (bas C (Own Γ2 σ) H2) y d := by
      rw [e2, e1]
      rw [e1] at k2
      exact dp_keep k2 w
    exact k σ _ (ok2.mut hn q0 (show CtOk _ _ (.lst (vs.set jn y)) (.lst (ds.set jn d)) from dps_set jn w4 w') (.inr (.inr ⟨_, rfl⟩))).1⟩
/-- x += e: ints -/
theorem b_augAdd (n : Nat) {x : Str} (h0 : Γ[n]? = some (.v (.int i))) (hN : C.X.N.Nodup) (hi : C.X.N[n]? = some x) (hx : Loc C.X.env.scope x) (hf : C.X.fn x = true ∨ C.X.env.scope.names.lookup x = some .local) (ht : NoT C n) (hb : E C e Γ (.int j) Γ1) (h1 : Γ1[n]? = some (.v (.int i))) :
    B C (.AugAssign (.Name x p') .Add e pos) Γ (.nx (Γ1.set n (.v (.int (i + j))))) := fun σ H Z ok k =>
  ⟨_, ps_aug (i := n) hN hi hx (wp _ e) ip_add hf, by
    obtain ⟨o, q0, v, e1, q1⟩ := ok.ents n _ h0
    subst e1
    refine ⟨v, q0, hb.2 σ H _ ok fun y H1 k1 ok1 w => ?_⟩
    cases q1; cases w
    exact ⟨i, j, rfl, rfl, k _ H1 (ok1.put (List.getElem?_eq_some_iff.mp h1).1 ht rfl ⟨_, rfl, .int _⟩)⟩⟩
end
end TL

namespace TL
open PySem hiding start
open PySem.Spec
open L2 hiding Dp DpAll
open PyProof.Rows hiding St

@[reducible] def eD (d : D) : D := d
@[reducible] def oL {α : Type} (f : α → D) (l : List α) : Ent := .own (.lst (l.map f))
section
variable {C : Ctx} {Γ Γ1 Γ2 Γ3 : List Ent} {σ : St} {H H' : Hp} {a b c e o elt iter tg : Expr} {es ifs : List Expr} {d dx dy dz : D} {ds : List D} {pos p pos' p' apos pg spos : Pos} {nm x : Str} {i j : Int} {k l : Bool} {scope : Scope} {α β γ : Type} {body rest : List Stmt}

theorem e_lenT {xs : List α} {f : α → D} (hg : Gl C.X "len") (hm : C.X.mg "len" = none) (ha : J C a Γ (rS (xs.map f)) Γ1) (he : starEach [a] C.X.env = (false, eval a C.X.env) :: starEach [] C.X.env := by rfl) (hpl : (backTo pos (starEach [] C.X.env)).any (·.1) = false := by rfl) : E C (.Call (.Name "len" p) [a] [] pos) Γ (.int (xs.length : Int)) Γ1 := by
  have := e_len (pos := pos) (p := p) hg hm ha he hpl
  rw [List.length_map] at this
  exact this
theorem t_lstT {xs : List α} {f : α → D} (h : R C e Γ (xs.map f) Γ1) (he : ∀ whole, isTrue e C.X.env whole = (do let v ← whole; standAt e.pos; holding [v] (truthy v)) := by intro _; rfl) : T C e Γ (!xs.isEmpty) Γ1 := by
  have := t_lst h he
  cases xs <;> exact this
theorem t_tupT {xs : List α} {f : α → D} (h : E C e Γ (eT f xs) Γ1) (he : ∀ whole, isTrue e C.X.env whole = (do let v ← whole; standAt e.pos; holding [v] (truthy v)) := by intro _; rfl) : T C e Γ (!xs.isEmpty) Γ1 := by
  have := t_tup h he
  cases xs <;> exact this
theorem e_ixTT {xs : List α} {f : α → D} (d0 : α) (hx : InB xs.length i) (ha : E C a Γ (eT f xs) Γ1) (hb : E C b Γ1 (.int i) Γ2) (hs : PlainIx b := by exact fun _ _ => rfl) : E C (.Subscript a b pos) Γ (f (ati xs i d0)) Γ2 := e_ixT (atI_map d0 hx) ha hb hs
theorem e_ixLT {xs : List α} {f : α → D} (d0 : α) (hx : InB xs.length i) (ha : E C a Γ (eL f xs) Γ1) (hb : E C b Γ1 (.int i) Γ2) (hs : PlainIx b := by exact fun _ _ => rfl) : E C (.Subscript a b pos) Γ (f (ati xs i d0)) Γ2 := e_ixL (atI_map d0 hx) ha hb hs
theorem e_ixOT (n : Nat) {xs : List α} {f : α → D} (d0 : α) (hx : InB xs.length i) (hn : Γ1[n]? = some (oL f xs)) (hb : E C b Γ (.int i) Γ1) (hN : C.X.N[n]? = some x) (hv : Vis C.X.env.scope x)
    (hd : (x == ("__debug__" : Str)) = false := by decide) (hcd : (x == ("__classdict__" : Str)) = false := by decide) (hs : PlainIx b := by exact fun _ _ => rfl) : E C (.Subscript (.Name x p') b pos) Γ (f (ati xs i d0)) Γ1 := e_ixO n (atI_map d0 hx) hn hb hN hv hd hcd hs
theorem el_slLT {xs : List α} {f : α → D} {lo hi : Option Expr} {u v : Option Int} {p2 : Pos} (ha : E C a Γ (eL f xs) Γ) (h1 : EO C lo Γ u) (h2 : EO C hi Γ v) : EL C (.Subscript a (.Slice lo hi none p2) pos) Γ ((cut xs u v).map f) Γ := by
  rw [← cut_map]; exact el_slL ha h1 h2
theorem e_slTT {xs : List α} {f : α → D} {lo hi : Option Expr} {u v : Option Int} {p2 : Pos} (ha : E C a Γ (eT f xs) Γ) (h1 : EO C lo Γ u) (h2 : EO C hi Γ v) : E C (.Subscript a (.Slice lo hi none p2) pos) Γ (eT f (cut xs u v)) Γ := by
  show E C _ Γ (.tuple ((cut xs u v).map f)) Γ
  rw [← cut_map]; exact e_slT ha h1 h2
theorem el_catT {xs ys : List α} {f : α → D} (hz : xs.length + ys.length ≤ 1000000) (ha : E C a Γ (eL f xs) Γ1) (hb : R C b Γ1 (ys.map f) Γ2) : EL C (.BinOp a .Add b pos) Γ ((xs ++ ys).map f) Γ2 := by
  rw [List.map_append]; exact el_cat (by rw [List.length_map, List.length_map]; exact hz) ha hb
theorem e_catTT {xs ys : List α} {f : α → D} (hz : xs.length + ys.length ≤ 1000000) (ha : E C a Γ (eT f xs) Γ1) (hb : E C b Γ1 (eT f ys) Γ2) : E C (.BinOp a .Add b pos) Γ (eT f (xs ++ ys)) Γ2 := by
  show E C _ Γ (.tuple ((xs ++ ys).map f)) Γ2
  rw [List.map_append]; exact e_catT (by rw [List.length_map, List.length_map]; exact hz) ha hb
theorem b_appT (n : Nat) {xs xs0 : List α} {f : α → D} {v : α} (h0 : Γ[n]? = some (oL f xs0)) (hn : Γ1[n]? = some (oL f xs)) (hz : xs.length ≤ 1000000) (ha : E C e Γ (f v) Γ1) (hN : C.X.N[n]? = some x) (hv : Vis C.X.env.scope x) (hd : (x == ("__debug__" : Str)) = false := by decide) (hcd : (x == ("__classdict__" : Str)) = false := by decide)
    (hbase : attributeBase (.Name x p') "append" C.X.env (eval (.Name x p') C.X.env) = eval (.Name x p') C.X.env := by rfl)
    (hfew : ((backTo pos (starEach [e] C.X.env)).all (fun x => !x.1) && (backToKw pos (keywordEach [] C.X.env)).all (fun x => x.1.isSome) && decide ([e].length + ([] : List Keyword).length + (if ([] : List Keyword).isEmpty then 0 else 1) < 30)) = true := by rfl)
    (hline : (apos.endLine == pos.line) = true := by rfl) (hs : starEach [e] C.X.env = (false, eval e C.X.env) :: starEach [] C.X.env := by rfl) (hplain : (backTo pos (starEach [] C.X.env)).any (·.1) = false := by rfl)
    (hsw : swapsWith (.Call (.Attribute (.Name x p') "append" apos) [e] [] pos) none spos.line C.X.env = pure false := by rfl) :
    B C (.Expr (.Call (.Attribute (.Name x p') "append" apos) [e] [] pos) spos) Γ (.nx (Γ1.set n (oL f (xs ++ [v])))) := by
  have := b_app n h0 hn (by rw [List.length_map]; exact hz) ha hN hv hd hcd hbase hfew hline hs hplain hsw
  rw [show xs.map f ++ [f v] = (xs ++ [v]).map f by rw [List.map_append]; rfl] at this
  exact this
theorem b_extT (n : Nat) {xs xs0 ys : List α} {f : α → D} (h0 : Γ[n]? = some (oL f xs0)) (hn : Γ1[n]? = some (oL f xs)) (hz : xs.length + ys.length ≤ 1000000) (ha : R C e Γ (ys.map f) Γ1) (hN : C.X.N[n]? = some x) (hv : Vis C.X.env.scope x) (hd : (x == ("__debug__" : Str)) = false := by decide) (hcd : (x == ("__classdict__" : Str)) = false := by decide)
    (hbase : attributeBase (.Name x p') "extend" C.X.env (eval (.Name x p') C.X.env) = eval (.Name x p') C.X.env := by rfl)
    (hfew : ((backTo pos (starEach [e] C.X.env)).all (fun x => !x.1) && (backToKw pos (keywordEach [] C.X.env)).all (fun x => x.1.isSome) && decide ([e].length + ([] : List Keyword).length + (if ([] : List Keyword).isEmpty then 0 else 1) < 30)) = true := by rfl)
    (hline : (apos.endLine == pos.line) = true := by rfl) (hs : starEach [e] C.X.env = (false, eval e C.X.env) :: starEach [] C.X.env := by rfl) (hplain : (backTo pos (starEach [] C.X.env)).any (·.1) = false := by rfl)
    (hsw : swapsWith (.Call (.Attribute (.Name x p') "extend" apos) [e] [] pos) none spos.line C.X.env = pure false := by rfl) :
    B C (.Expr (.Call (.Attribute (.Name x p') "extend" apos) [e] [] pos) spos) Γ (.nx (Γ1.set n (oL f (xs ++ ys)))) := by
  have := b_ext n h0 hn (by rw [List.length_map, List.length_map]; exact hz) ha hN hv hd hcd hbase hfew hline hs hplain hsw
  rw [show xs.map f ++ ys.map f = (xs ++ ys).map f by rw [List.map_append]] at this
  exact this
theorem b_revT (n : Nat) {xs : List α} {f : α → D} (h0 : Γ[n]? = some (oL f xs)) (hN : C.X.N[n]? = some x) (hv : Vis C.X.env.scope x) (hd : (x == ("__debug__" : Str)) = false := by decide) (hcd : (x == ("__classdict__" : Str)) = false := by decide)
    (hbase : attributeBase (.Name x p') "reverse" C.X.env (eval (.Name x p') C.X.env) = eval (.Name x p') C.X.env := by rfl)
    (hline : (apos.endLine == pos.line) = true := by rfl) (hsw : swapsWith (.Call (.Attribute (.Name x p') "reverse" apos) [] [] pos) none spos.line C.X.env = pure false := by rfl) :
    B C (.Expr (.Call (.Attribute (.Name x p') "reverse" apos) [] [] pos) spos) Γ (.nx (Γ.set n (oL f xs.reverse))) := by
  have := b_rev n h0 hN hv hd hcd hbase hline hsw
  rw [← List.map_reverse] at this
  exact this
theorem b_setIT (n : Nat) {be : Expr} {xs : List α} {f : α → D} {v : α} (hn : Γ2[n]? = some (oL f xs)) (hi : 0 ≤ i ∧ i < xs.length) (ha : E C e Γ (f v) Γ1) (hb : E C be Γ1 (.int i) Γ2) (hN : C.X.N[n]? = some x) (hv : Vis C.X.env.scope x) (hd : (x == ("__debug__" : Str)) = false := by decide) (hcd : (x == ("__classdict__" : Str)) = false := by decide)
    (hs : swapsWithSole [.Subscript (.Name x p') be pos'] e pos.line C.X.env = pure false := by rfl) (hw : swappedStores [.Subscript (.Name x p') be pos'] e C.X.env = pure none := by rfl)
    (h1 : (assignEach [.Subscript (.Name x p') be pos'] C.X.env).map (·.2) = [assign (.Subscript (.Name x p') be pos') C.X.env] := by rfl)
    (hq : ∀ v, assign (.Subscript (.Name x p') be pos') C.X.env v = (do
      let ov ← holding [v] (eval (.Name x p') C.X.env)
      let iv ← holding [v, ov] (eval be C.X.env)
      standAt pos'
      holding [v, ov, iv] (setItem ov iv v)
      release [v, ov, iv] []) := by intro _; rfl) :
    B C (.Assign [.Subscript (.Name x p') be pos'] e pos) Γ (.nx (Γ2.set n (oL f (xs.set i.toNat v)))) := by
  have := b_setI n (jn := i.toNat) hn (by
    unfold ixN
    rw [if_pos hi.1, List.length_map, if_pos hi.2]) ha hb hN hv hd hcd hs hw h1 hq
  rw [← List.map_set] at this
  exact this

/-! ### loops that only go on -/
theorem runL_go {step : β → α → β} : ∀ (l : List α) (a : β), runL (γ := Unit) (fun a x => .go (step a x)) a l = .go (l.foldl step a)
  | [], a => rfl
  | x :: l, a => by rw [runL_cons]; exact runL_go l (step a x)
theorem b_forF {l : List α} {f : α → D} {a0 : β} (step : β → α → β) (G : β → List Ent) (Gt : β → α → List Ent) (js : List Nat) (P : Nat → β → Prop) (hP0 : P 0 a0) (hPs : ∀ (i : Nat) a x, P i a → l[i]? = some x → P (i + 1) (step a x)) (hp : PassesOwn (model C.X.prog C.X.w) C.X.A C.X.env C.X.xe) (hc : C.X.calm = true)
    (hi : IT C tg e Γ (l.map f) (G a0)) (hg : ∀ gs x a, x ∈ l → Tg (C.gho gs) tg (G a) (f x) (Gt a x) js) (hb : ∀ gs (i : Nat) x a, l[i]? = some x → x ∈ l → P i a → S (C.gho gs) body (Gt a x) (.nl (G (step a x))))
    (hs : ∀ x, foldedSetIterable e C.X.env x = pure x := by intro _; rfl) : B C (.For tg e body [] pos) Γ (.nx (G (l.foldl step a0))) := by
  have := b_for (C := C) (Γ := Γ) (pos := pos) (γ := Unit) (a0 := a0) (fun a x => .go (step a x)) G (fun _ => .rt .none []) Gt js P hP0 (fun i a x a' pa hx q => by
    have e : step a x = a' := by injection q
    rw [← e]; exact hPs i a x pa hx) hp hc (fun _ => rfl) hi hg hb hs
  rw [runL_go] at this
  exact this
/-- .. with an invariant -/
theorem foldl_inv {step : β → α → β} {P : β → Prop} : ∀ (l : List α) (a : β), P a → (∀ a x, P a → x ∈ l → P (step a x)) → P (l.foldl step a)
  | [], _, h, _ => h
  | x :: l, a, h, g => foldl_inv l (step a x) (g a x h (by simp)) fun a y h' hy => g a y h' (by simp [hy])
theorem runL_pre {step step' : β → α → Lp β γ} {P : β → Prop} : ∀ (l : List α) (a : β), P a → (∀ a x, P a → x ∈ l → step' a x = step a x ∧ ∀ a', step a x = .go a' → P a') → runL step' a l = runL step a l
  | [], _, _, _ => rfl
  | x :: l, a, h, g => by
    rw [runL_cons, runL_cons, (g a x h (by simp)).1]
    cases q : step a x with
    | go a' => exact runL_pre l a' ((g a x h (by simp)).2 a' q) fun a y h' hy => g a y h' (by simp [hy])
    | brk a' => rfl
    | ret c => rfl
/-- a loop, then what follows it -/
def lpK {δ : Type} (r : Lp β γ) (k : β → δ) (kr : γ → δ) : δ := match r with
  | .go a => k a
  | .brk a => k a
  | .ret c => kr c
theorem s_loop {δ : Type} {st : Stmt} {r : Lp β γ} {G : β → List Ent} {rO : γ → Out} (mk : δ → Out) (k : β → δ) (kr : γ → δ) (h : B C st Γ (lpE G rO r)) (hr : ∀ c, rO c = mk (kr c)) (hn : ∀ c, (rO c).noNx = true) (h2 : ∀ a, (r = .go a ∨ r = .brk a) → S C rest (G a) (mk (k a))) : S C (st :: rest) Γ (mk (lpK r k kr)) := by
  cases r with
  | go a => exact s_cons h (h2 a (.inl rfl))
  | brk a => exact s_cons h (h2 a (.inr rfl))
  | ret c =>
    show S C _ Γ (mk (kr c))
    rw [← hr c]
    exact s_end h (hn c)
/-- a if c else b, of one kind -/
theorem e_ifT {k : Bool} {f : α → D} {v1 v2 : α} (hc : T C c Γ k Γ1) (ha : k = true → E C a Γ1 (f v1) Γ2) (hb : k = false → E C b Γ1 (f v2) Γ2) : E C (.IfExp c a b pos) Γ (f (if k then v1 else v2)) Γ2 :=
  e_if hc (fun h => by subst h; exact ha rfl) (fun h => by subst h; exact hb rfl)
theorem e_isNO {f : α → D} {v : Option α} (hf : ∀ x, isNone (f x) = false) (ha : E C a Γ (eO f v) Γ1) (hb : E C b Γ1 .none Γ2) : E C (.Compare a [.Is] [b] pos) Γ (.bool v.isNone) Γ2 := by
  have := e_isN (pos := pos) ha hb
  cases v with
  | none => exact this
  | some x => rw [show isNone (eO f (some x)) = (some x).isNone from hf x] at this; exact this
theorem e_notNO {f : α → D} {v : Option α} (hf : ∀ x, isNone (f x) = false) (ha : E C a Γ (eO f v) Γ1) (hb : E C b Γ1 .none Γ2) : E C (.Compare a [.IsNot] [b] pos) Γ (.bool (!v.isNone)) Γ2 := by
  have := e_notN (pos := pos) ha hb
  cases v with
  | none => exact this
  | some x => rw [show isNone (eO f (some x)) = (some x).isNone from hf x] at this; exact this
theorem t_isNO {f : α → D} {v : Option α} (hf : ∀ x, isNone (f x) = false) (ha : E C a Γ (eO f v) Γ1) (hb : E C b Γ1 .none Γ2) : T C (.Compare a [.Is] [b] pos) Γ v.isNone Γ2 := by
  have := t_isN (pos := pos) ha hb
  cases v with
  | none => exact this
  | some x => rw [show isNone (eO f (some x)) = (some x).isNone from hf x] at this; exact this
theorem t_notNO {f : α → D} {v : Option α} (hf : ∀ x, isNone (f x) = false) (ha : E C a Γ (eO f v) Γ1) (hb : E C b Γ1 .none Γ2) : T C (.Compare a [.IsNot] [b] pos) Γ (!v.isNone) Γ2 := by
  have := t_notN (pos := pos) ha hb
  cases v with
  | none => exact this
  | some x => rw [show isNone (eO f (some x)) = (some x).isNone from hf x] at this; exact this
theorem rng_mem {lo hi x : Int} (h : x ∈ rng lo hi) : lo ≤ x ∧ x < hi := by
  unfold rng at h
  obtain ⟨i, h1, h2⟩ := List.mem_map.mp h
  have := List.mem_range.mp h1
  omega
theorem rng_len {lo hi : Int} : (rng lo hi).length = (hi - lo).toNat := by unfold rng; rw [List.length_map, List.length_range]
end
end TL

namespace TL
open PySem hiding start
open PySem.Spec
open L2 hiding Dp DpAll
open PyProof.Rows hiding St

/-! ### defs that return a new list -/
def spN (K : PySem.W.Frag) {A : Type} (ein : A → List D) (pre : A → Prop) (eout : A → List D) : Sp := fun vs H Q _ => ∃ F a, Same F H ∧ DpAll K F vs (ein a) ∧ pre a ∧ GvL K F H (eout a) Q
def spMN (K : PySem.W.Frag) {A : Type} (tin : A → List D) (ein : A → List D) (pre : A → Prop) (eout : A → List D) (tout : A → List D) : Sp := fun vs H Q _ => ∃ F a p ws rest, vs = .ref p :: rest ∧ Same F H ∧ F p = none ∧ H p = some (.lst ws) ∧
  DpAll K F ws (tin a) ∧ DpAll K F rest (ein a) ∧ pre a ∧ ∀ z H' ws' us, H z = none → (∀ b o, b ≠ p → H b = some o → H' b = some o) → H' p = some (.lst ws') → H' z = some (.lst us) → DpAll K (Gr F H (del H' z)) ws' (tout a) → DpAll K (Gr F H (del H' z)) us (eout a) → Q (.ref z) H'

section
variable {C : Ctx} {Γ Γ1 Γ2 Γ3 : List Ent} {σ : St} {H H' : Hp} {a b e : Expr} {es : List Expr} {d dz : D} {ds : List D} {pos p p' : Pos} {x : Str} {k j : Nat} {rest : List Stmt}
/-- return x, x an owned list -/
theorem s_retO (i : Nat) {M : List D} {nm : Str} (h0 : Γ[i]? = some (.own (.lst ds))) (hi : NoT C i) (hM : C.mu = [] ∨ Γ[0]? = some (.own (.lst M))) (hN : C.X.N[i]? = some nm) (hv : Vis C.X.env.scope nm) (hd : (nm == ("__debug__" : Str)) = false := by decide) (hcd : (nm == ("__classdict__" : Str)) = false := by decide) :
    S C (.Return (some (.Name nm p)) pos :: rest) Γ (.rn ds M) := s_end (fun σ H Z ok kk => ⟨_, ps_ret (pe_var (i := i) hN hv hd hcd), by
  obtain ⟨a, ho, q0, q1, q2, q3⟩ := own_at (c1 := .lst ds) ok h0
  obtain ⟨vs, e5, w4⟩ := q2.lst
  subst e5
  have nm : a ∉ C.mu := fun z => by
    rcases ok.tape with t | ⟨b, ds', t, w1, w2⟩
    · rw [t] at z; cases z
    · rw [t] at z
      have : a = b := by simpa using z
      subst this
      have := ok.nd i 0 a _ _ h0 rfl q0 w2 rfl w1
      rcases hi with y | y
      · rw [y] at t; cases t
      · exact y this
  have a0 : C.H0 a = none := (ok.new a q3).resolve_right nm
  have bm : Same (bas C (Own Γ σ) H) (bas C (· ∈ C.mu) (del H a)) := fun b o q => by
    obtain ⟨n, q⟩ := bas_some q
    rw [bas_eq (fun z => n (ok.mus z))]
    rw [del_ne (fun z : b = a => n (by rw [z]; exact q3))]; exact q
  obtain ⟨f1, f2⟩ := fin_of ok hM
  refine ⟨_, q0, kk a vs H a0 ⟨fun b o h1 h2 => ?_, fun b hb => ?_⟩ q1 (dps_mono' bm w4)⟩
  · rw [del_ne (fun z => by subst z; rw [a0] at h1; cases h1)]; exact f1.1 b o h1 h2
  · have nb : b ≠ a := fun z => nm (by rw [← z]; exact hb)
    rcases ok.tape with t | ⟨b', ds', t, w1, w2⟩
    · rw [t] at hb; cases hb
    · rw [t] at hb
      have : b = b' := by simpa using hb
      subst this
      rcases hM with w | w
      · rw [w] at t; cases t
      · obtain ⟨ho', y1, y2⟩ := own_at' ok w w1
        obtain ⟨us, e6, w5⟩ := y2.lst
        subst e6
        exact ⟨us, by rw [del_ne nb]; exact y1, dps_mono' bm w5⟩⟩) rfl
/-- return e, e a new list -/
theorem s_retE {M : List D} (h : EL C e Γ ds Γ1) (hM : C.mu = [] ∨ Γ1[0]? = some (.own (.lst M))) : S C (.Return (some e) pos :: rest) Γ (.rn ds M) := s_end (fun σ H Z ok kk => ⟨_, ps_ret (wp _ e), h.2 σ H _ ok fun p vs H1 n k1 e1 ok1 q1 => by
  obtain ⟨f1, f2⟩ := fin_of ok1 hM
  obtain ⟨p0, pn⟩ := ok1.fresh (del_same (H := H1) (p := p))
  rw [← h.1.own (σ := σ)] at q1
  exact kk p vs H1 p0 f1 e1 (dps_mono' (bas_anti fun b hb => ok1.mus hb) q1)⟩) rfl
theorem el_call {A : Type} {ein : A → List D} {pre : A → Prop} {eout : A → List D} (c : C8.Cal C.X.prog C.X.w C.X.K C.X.mg C.X.base k x (spN C.X.K ein pre eout) []) (hr : Room j C.X.A) (hk : k ≤ j) (hg : Gl C.X x) (v : A) (hd : eout v = ds) (ha : EA C (e :: es) Γ (ein v) Γ1) (hp : pre v)
    (hdb : (x == ("__debug__" : Str)) = false := by decide) (he : starEach (e :: es) C.X.env = (false, eval e C.X.env) :: starEach es C.X.env := by rfl) (hpl : (backTo pos (starEach es C.X.env)).any (·.1) = false := by rfl) : EL C (.Call (.Name x p) (e :: es) [] pos) Γ ds Γ1 := by
  subst hd
  exact ⟨ha.1, fun σ H Q ok kk => ⟨_, C8.pe_c c hr hk hg (wa _ _) hdb he hpl, ha.2 σ H _ ok fun xs H1 k1 ok1 q1 => by
    have g := gvl_of (ds := eout v) (Q := Q) ok1 (by
      rw [ha.1.own]
      intro p vs H' n k3 e3 ok3 q3
      refine kk p vs H' ?_ (k1.trans k3) e3 ok3 q3
      cases w : H p with
      | none => rfl
      | some o =>
        by_cases nn : Own Γ σ p
        · obtain ⟨ho, w2⟩ := ok1.ownAt (ha.1.own ▸ nn : Own Γ1 σ p)
          rw [w2] at n; cases n
        · rw [k1 p o nn w] at n; cases n)
    rw [ha.1.own] at g
    refine ⟨_, v, ok1.sub, ?_, hp, g⟩
    rw [List.append_nil]; exact q1⟩⟩
theorem el_callM {A : Type} {tin ein : A → List D} {pre : A → Prop} {eout : A → List D} {tout : A → List D} (i : Nat) {nm : Str} (c : C8.Cal C.X.prog C.X.w C.X.K C.X.mg C.X.base k x (spMN C.X.K tin ein pre eout tout) []) (hr : Room j C.X.A) (hk : k ≤ j) (hg : Gl C.X x) (v : A) (hdv : eout v = ds)
    (hi : Γ1[i]? = some (.own (.lst (tin v)))) (hN : C.X.N[i]? = some nm) (hv : Vis C.X.env.scope nm) (ha : EA C es Γ (ein v) Γ1) (hp : pre v) (hd : (nm == ("__debug__" : Str)) = false := by decide) (hcd : (nm == ("__classdict__" : Str)) = false := by decide)
    (hdb : (x == ("__debug__" : Str)) = false := by decide) (hs : starEach (.Name nm p' :: es) C.X.env = (false, eval (.Name nm p') C.X.env) :: starEach es C.X.env := by rfl) (hpl : (backTo pos (starEach es C.X.env)).any (·.1) = false := by rfl) :
    EL C (.Call (.Name x p) (.Name nm p' :: es) [] pos) Γ ds (Γ1.set i (.own (.lst (tout v)))) := by
  subst hdv
  exact ⟨ha.1.trans (Sh.set hi), fun σ H Q ok kk => ⟨_, C8.pe_c c hr hk hg (pa_cons (pe_var (i := i) hN hv hd hcd) (wa _ es) hs) hdb hs hpl, by
    obtain ⟨c0, h0⟩ := own_of ha.1 hi
    obtain ⟨a, ho, q0, q1', q2', q3'⟩ := own_at (c1 := c0) ok h0
    refine ⟨_, q0, ha.2 σ H _ ok fun xs H1 k1 ok1 q1 => ?_⟩
    have eo : Own Γ1 σ = Own Γ σ := ha.1.own
    obtain ⟨ho', w2, w3⟩ := own_at' ok1 hi q0
    obtain ⟨ws0, e5, w4⟩ := w3.lst
    subst e5
    have oa : Own Γ σ a := q3'
    rw [eo] at w4
    refine ⟨bas C (Own Γ σ) H1, v, a, ws0, xs ++ [], rfl, ok1.sub, by unfold bas; rw [if_pos oa], w2, w4, by rw [List.append_nil]; exact q1, hp, fun z H2 ws2 us zn n1 n2 n3 n4 n5 => ?_⟩
    have nz : a ≠ z := fun q => by subst q; rw [w2] at zn; cases zn
    have hk1 : Keep (Own Γ σ) H1 (del H2 z) := fun b o n q => by
      rw [del_ne (fun y => by subst y; rw [q] at zn; cases zn)]
      exact n1 b o (fun y : b = a => n (by rw [y]; exact oa)) q
    have sub : Same (Gr (bas C (Own Γ σ) H1) H1 (del H2 z)) (bas C (Own Γ σ) (del H2 z)) := gr_to (bas_mono hk1) fun b o n h => by
      obtain ⟨z0, z1⟩ := ok1.fresh n
      rw [eo] at z1
      rw [bas_eq z1, z0]; exact h
    obtain ⟨m1, m2⟩ := mutN (H' := del H2 z) (es := .lst (tout v)) ok1 hi q0 (fun b o nb hb => by
      rw [del_ne (fun y => by subst y; rw [hb] at zn; cases zn)]; exact n1 b o nb hb) (by rw [del_ne nz]; exact n2) (by rw [eo]; exact dps_mono' sub n4) (.inr (.inr ⟨_, rfl⟩))
    refine kk z us H2 ?_ (k1.trans fun b o n h => ?_) n3 m1 (dps_mono' sub n5)
    · cases w : H z with
      | none => rfl
      | some o =>
        by_cases nn : Own Γ σ z
        · obtain ⟨ho, w2⟩ := ok1.ownAt (eo ▸ nn : Own Γ1 σ z)
          rw [w2] at zn; cases zn
        · rw [k1 z o nn w] at zn; cases zn
    · exact n1 b o (fun y : b = a => n (by rw [y]; exact oa)) h⟩⟩
end
section
variable {P : Program} {w : World} {K : PySem.W.Frag} {mg : Str → Option Value} {base : Heap}
theorem fn_new {x qual : Str} {st : Stmt} {f : Addr} {fd : FuncData} {N ps : List Str} {k : Nat} {A : Type} {ein : A → List D} {pre : A → Prop} {eout : A → List D} (F : Fun K x qual st f fd) (Sc : FnScope N ps (defScope st)) (hl : ∀ a, (ein a).length = ps.length)
    (hbody : ∀ (y : Db) (a : A), Room k (y.A.deeper (envOfC qual (defScope st) y.s.heap.objs.size f y.cdv)) → pre a → S (dctx P w K mg base N qual (defScope st) f [] y) (defBody st) (ini (ein a) N.length) (.rn (eout a) [])) :
    FnOk P w K mg base CX0 (k + 1) f fd ps (spN K ein pre eout) :=
  F.ok Sc (fun vs H Q E ⟨F0, a, _, h, _, _⟩ => (dps_len h).trans (hl a)) fun cdv A0 outer s H vs Q E hr ⟨F0, a, hs, h, hp, g⟩ => ⟨_, ws _ _, by
    let y : Db := ⟨cdv, A0, outer, s, H, E, F0, 0⟩
    refine hbody y a hr hp (start N vs) H { nx := fun _ H' => Q .non H', rt := Q } (ok_start (C := dctx P w K mg base N qual (defScope st) f [] y) rfl rfl hs h) fun p vs' H' h0 f1 e q => ?_
    rw [bas_gr rfl] at q
    refine g p vs' H' h0 (fun b o e => del_sub b o (f1.1 b o e List.not_mem_nil)) e (dps_mono' (fun b o z => ?_) q)
    have z : Gr F0 H (del H' p) b = some o := z
    have nb : b ≠ p := fun y => by
      subst y
      unfold Gr at z
      rw [show H b = none from h0, del_same] at z; cases z
    rw [del_ne nb]
    unfold Gr at z ⊢
    rw [del_ne nb] at z
    exact z⟩
theorem fn_tapeN {x qual : Str} {st : Stmt} {f : Addr} {fd : FuncData} {N ps : List Str} {k : Nat} {A : Type} {tin ein : A → List D} {pre : A → Prop} {eout : A → List D} {tout : A → List D} (F : Fun K x qual st f fd) (Sc : FnScope N ps (defScope st)) (hl : ∀ a, (ein a).length + 1 = ps.length)
    (hbody : ∀ (y : Db) (a : A), Room k (y.A.deeper (envOfC qual (defScope st) y.s.heap.objs.size f y.cdv)) → pre a → S (dctx P w K mg base N qual (defScope st) f [y.p] y) (defBody st) (.own (.lst (tin a)) :: ini (ein a) (N.length - 1)) (.rn (eout a) (tout a))) :
    FnOk P w K mg base CX0 (k + 1) f fd ps (spMN K tin ein pre eout tout) :=
  F.ok Sc (fun vs H Q E ⟨F0, a, p, ws, rest, e, _, _, _, _, h, _⟩ => by subst e; rw [List.length_cons, dps_len h]; exact hl a) fun cdv A0 outer s H vs Q E hr ⟨F0, a, p, ws', rest, e, hs, fp, hp, ht, h, hpre, g⟩ => ⟨_, ws _ _, by
    subst e
    let y : Db := ⟨cdv, A0, outer, s, H, E, F0, p⟩
    have hN : ps.length ≤ N.length := by
      have := congrArg List.length Sc.pre
      rw [List.length_take] at this
      omega
    refine hbody y a hr hpre (start N (.ref p :: rest)) H { nx := fun _ H' => Q .non H', rt := Q } (ok_tape (C := dctx P w K mg base N qual (defScope st) f [p] y) rfl rfl (by have := hl a; omega) hs fp hp ht h) fun z vs' H' h0 f1 e q => ?_
    have eg : bas (dctx P w K mg base N qual (defScope st) f [p] y) (· ∈ (dctx P w K mg base N qual (defScope st) f [p] y).mu) (del H' z) = Gr F0 H (del H' z) := bas_gr1 (C := dctx P w K mg base N qual (defScope st) f [p] y) rfl hp fp
    rw [eg] at q
    obtain ⟨ws2, r1, r2⟩ := f1.2 p (List.mem_singleton.mpr rfl)
    rw [eg] at r2
    exact g z H' ws2 vs' h0 (fun b o n e => del_sub b o (f1.1 b o e (fun z => n (List.mem_singleton.mp z)))) (del_sub _ _ r1) e r2 q⟩
end
end TL

namespace TL
open PySem hiding start
open PySem.Spec
open L2 hiding Dp DpAll
open PyProof.Rows hiding St

/-! ### repr -/
mutual
theorem nd_hd : ∀ {d : D}, NoDict d → d.hasDict = false
  | .none, _ => rfl
  | .bool _, _ => rfl
  | .int _, _ => rfl
  | .str _, _ => rfl
  | .list xs, h => by
    unfold PyData.hasDict
    cases h with
    | lst h => exact nd_hds xs h
  | .tuple xs, h => by
    unfold PyData.hasDict
    cases h with
    | tup h => exact nd_hds xs h
  | .dict _, h => by cases h
theorem nd_hds : ∀ (xs : List D), (∀ d ∈ xs, NoDict d) → PyData.hasDictAll xs = false
  | [], _ => rfl
  | x :: xs, h => by
    unfold PyData.hasDictAll
    rw [nd_hd (h x List.mem_cons_self), nd_hds xs fun d q => h d (List.mem_cons_of_mem _ q)]; rfl
end
structure Rp (d : D) : Prop where
  sh : d.showable = true
  nd : NoDict d
  dp : d.depth ≤ 60
  ln : d.shown.length ≤ sizeLine
theorem call_reprD {X : Cx} (hg : X.A.guards = some []) (hu : X.A.units + 64 < cLine) : CallR X (.builtin "repr") (fun xs H Q => ∃ x d, xs = [x] ∧ L2.Dp X.K H x d ∧ Rp d ∧ Q (.str d.shown) H) := by
  intro pins s σ H xs us Q I r h
  obtain ⟨x, d, rfl, hd, hr, q⟩ := h
  cases r with
  | cons r0 rr =>
    cases rr
    rename_i u
    obtain ⟨as, hR⟩ := L2.Dp.reads I d x u hd r0
    have fin : ∀ tk, EP X pins σ Q (.str d.shown tk) { s with toks := s.toks + 1 } := fun tk => ⟨.str d.shown, H, I.tok _, ⟨_, rfl⟩, q⟩
    cases hR with
    | none => exact PySem.P.repr_of_none (fin _)
    | bool b => exact PySem.P.repr_of_bool (by have := fin s.toks; unfold PyData.shown at this; exact this)
    | int i t => exact PySem.P.repr_of_int (by have := hr.sh; unfold PyData.showable at this; exact of_decide_eq_true this) (by have := fin s.toks; unfold PyData.shown at this; exact this)
    | str y t => exact PySem.P.repr_of_str (by have := fin s.toks; unfold PyData.shown at this; exact this) (by have := hr.ln; unfold PyData.shown at this; exact this)
    | list h1 h2 h3 h4 => exact PySem.repr_of_reads' (.list h1 h2 h3 h4) hr.sh (fun z => by rw [nd_hd hr.nd] at z; cases z) hg (by have := hr.dp; omega) (fun _ _ e => e) (fun h' u tk k => ⟨.str _, H, I.kept (t' := tk) k, ⟨_, rfl⟩, q⟩) hr.ln
    | tuple h1 h2 h3 h4 => exact PySem.repr_of_reads' (.tuple h1 h2 h3 h4) hr.sh (fun z => by rw [nd_hd hr.nd] at z; cases z) hg (by have := hr.dp; omega) (fun _ _ e => e) (fun h' u tk k => ⟨.str _, H, I.kept (t' := tk) k, ⟨_, rfl⟩, q⟩) hr.ln
    | dict _ _ _ _ _ => exact absurd hr.nd (fun z => by cases z)
section
variable {C : Ctx} {Γ Γ1 Γ2 Γ3 : List Ent} {σ : St} {H H' : Hp} {a b e : Expr} {es : List Expr} {d dz : D} {ds : List D} {pos p p' : Pos} {x : Str} {k j : Nat} {rest : List Stmt}
theorem e_repr (hgd : C.X.A.guards = some []) (hr : Room j C.X.A) (hd : Rp d) (hg : Gl C.X "repr") (hm : C.X.mg "repr" = none) (ha : E C a Γ d Γ1) (he : starEach [a] C.X.env = (false, eval a C.X.env) :: starEach [] C.X.env := by rfl) (hpl : (backTo pos (starEach [] C.X.env)).any (·.1) = false := by rfl) :
    E C (.Call (.Name "repr" p) [a] [] pos) Γ (.str d.shown) Γ1 :=
  e_cb (call_reprD hgd hr.units) (A := rD d) (fun F H x Q s hx q => ⟨x, d, rfl, (dp_mono' s hx).l2 hd.nd, hd, q.sc fun _ => .str _⟩) hg hm (by decide +kernel) ha (by decide) (by decide) he hpl
end
/-! ### the law's own def: it is entered with no guards -/
/-- the script's tree -/
def scD (ns : List Int) : D := .dict [(.none, .list (ns.map .int))]
theorem fn_law {P : Program} {w : World} {K : PySem.W.Frag} {mg : Str → Option Value} {base : Heap} {x qual px : Str} {st : Stmt} {f : Addr} {fd : FuncData} {N : List Str} {k : Nat} (F : Fun K x qual st f fd) (Sc : FnScope N [px] (defScope st)) {ns : List Int}
    (hbody : ∀ y : Db, y.A = callerA → Room k (y.A.deeper (envOfC qual (defScope st) y.s.heap.objs.size f y.cdv)) → S (dctx P w K mg base N qual (defScope st) f [] y) (defBody st) (ini [scD ns] N.length) (.rt (.bool true) []))
    {s : Shared} {H : Hp} {u : Value} {v : V} (hr : Room (k + 1) callerA) (e0 : Env0 P w K mg base callerA [] s H) (hb : BindsTo s fd ⟨[u], []⟩ [(px, u)]) (rv : RelV v u) (hv : Dp K H v (scD ns)) :
    codeAny (model P w) callerA (.call (.ref f) ⟨[u], []⟩) (CR CX0 [] P w H s (fun v _ => v = .bl true) (fun _ _ _ => False)) s := by
  obtain ⟨oc, od, kV, doc, pm, an, cdv, ct, osl, rfl, lk, hcd⟩ := F.ex
  have keep := e0.mod.kin.keeps fun b o e => (e0.bs b o e).1
  have nolim := e0.mod.nolimit.keeps fun b o e => (e0.bs b o e).1
  have kinds : ∀ z ∈ [(px, u)], (defScope st).names.lookup z.1 = some .local ∨ ((defScope st).names.lookup z.1 = some .cell ∧ ((cellsFrom (s.heap.objs.size + 1) (defScope st).names []).lookup z.1).isSome = true) := fun z hz => by
    rw [List.mem_singleton.mp hz]
    rcases Sc.par px List.mem_cons_self with q | q
    · exact .inl q
    · exact .inr ⟨q, PySem.W.cellsFrom_some _ _ _ (.inl q)⟩
  refine codeAny_call_function hr.depth (keep _ _ lk) rfl Sc.co Sc.gen rfl (PySem.W.codeRec_of keep hcd) (hb _ _ _ _ (wpAny_newFunctionEnv_cells Sc.kind kinds fun env he s1 c => ?_))
  subst he
  refine ⟨nolim.keeps c.toInCall.keep, codeAny_func ?_⟩
  let y : Db := ⟨cdv, callerA, [], s, H, fun _ _ _ => False, H, 0⟩
  let Z : Ends := { nx := fun _ _ => False, rt := fun v _ => v = .bl true }
  have g := hbody y rfl (hr.deeper _) (start N [v]) H Z (ok_start (C := dctx P w K mg base N qual (defScope st) f [] y) rfl rfl (fun _ _ e => e) (.cons hv .nil)) fun z H' f1 q => by cases q; rfl
  obtain ⟨t, ht, hq⟩ := g
  have I : Inv (cxOf CX0 P w K mg base N qual (defScope st) f cdv callerA [] s H fun _ _ _ => False) [] (start N [v]) H s1 := inv_start (ps := [px]) Sc hr.hd e0 rfl (.cons rv .nil) c
  refine wpAny_mono (ht.nox.run [] s1 (start N [v]) H Z I hq) (fun fl s' hs => ?_) fun e s' hs => hs
  cases fl with
  | ret u' =>
    obtain ⟨v', σ', H', J, rv', q⟩ := hs
    exact ⟨v', H', J.os, J.bare, J.base, J.hok, rv', q⟩
  | next => obtain ⟨_, _, _, q⟩ := hs; exact False.elim q
  | brk => obtain ⟨_, _, _, q⟩ := hs; exact False.elim q
  | cont => obtain ⟨_, _, _, q⟩ := hs; exact False.elim q

/-- the law's promise, at the heap behind the top -/
theorem law_go {P : Program} {w : World} {K : PySem.W.Frag} {mg mb : Str → Option Value} {fa a : Addr} {t₁ : Shared} {vs : List Value} {ns : List Int}
    (KX : K.In t₁.heap) (gG : t₁.heap.Ns mainGlobals mg) (gB : t₁.heap.Ns builtinsNs mb) (gBB : ∀ x : Str, x ≠ "__name__" → mb x = bootBuiltins x) (lim : t₁.heap.NoLimit) (noG : t₁.gens = #[])
    (ga : t₁.heap.get? a = some { cls := .type "list", data := .seq vs.toArray }) (isI : IntsAre vs ns) (len : ns.length ≤ sizeLine)
    (go : ∀ (base : Heap) (H : Hp), K.In base → base.Ns mainGlobals mg → Env0 P w K mg base callerA [] t₁ H → Dp K H (.ref a) (scD ns) → codeAny (model P w) callerA (.call (.ref fa) ⟨[.ref a], []⟩) (CR CX0 [] P w H t₁ (fun v _ => v = .bl true) (fun _ _ _ => False)) t₁) :
    codeAny (model P w) callerA (.call (.ref fa) ⟨[.ref a], []⟩) (fun r t₂ => r = .ok (.ret (.bool true)) ∧ OldK t₁.heap t₂.heap ∧ t₂.os = t₁.os ∧ AllBare t₂.gens) t₁ := by
  have ys : ∀ F : Hp, DpAll K F (ns.map V.int) (ns.map PyData.int) := fun F => by
    clear isI len go
    induction ns with
    | nil => exact .nil
    | cons n ns ih => exact .cons (.int n) ih
  have theEnd : ∀ {H : Hp}, (∀ b u, H b = some u → ∃ o xs, u = .frz o (.lst xs) ∧ t₁.heap.get? b = some o) → ∀ {r : Result} {t₂ : Shared}, CR CX0 [] P w H t₁ (fun v _ => v = .bl true) (fun _ _ _ => False) r t₂ → r = .ok (.ret (.bool true)) ∧ OldK t₁.heap t₂.heap ∧ t₂.os = t₁.os ∧ AllBare t₂.gens := by
    intro H hH r t₂ q
    match r, q with
    | .ok (.ret u), ⟨v, H', os, bare, un, ok2, rv, e⟩ =>
      subst e
      cases rv
      refine ⟨rfl, OldK.of_keep fun b o z => ?_, os, bare⟩
      match hb : H b with
      | none => exact un.keep b o z hb (fun y => List.not_mem_nil y) (by simp)
      | some u =>
        obtain ⟨o1, xs, e1, e2⟩ := hH b u hb
        subst e1
        have e3 := (ok2 b _ (un.frzs b o1 _ hb)).1
        rw [z] at e2
        cases e2
        exact e3
  match hk : K.lookup a with
  | some o =>
    have e := KX a o hk
    rw [ga] at e
    cases e
    have e0 : Env0 P w K mg t₁.heap callerA [] t₁ (fun _ => none) := ⟨rfl, ⟨KX, gG, ⟨mb, gB, gBB⟩, let ⟨mc, l1, l2⟩ := lim; ⟨mc, l1, l2⟩⟩, fun b o z => ⟨z, rfl⟩, Nat.le_refl _, trivial, fun _ _ => rfl, (fun b u z => by cases z), .of_eq noG⟩
    exact codeAny_mono (go _ _ KX gG e0 (.scr (.inr ⟨_, vs.toArray, _, hk, rfl, rfl, rfl, by rw [List.size_toArray, isI.length]; exact len, by simpa using vals_ints isI⟩) (ys _))) fun r t₂ q => theEnd (fun b u z => by cases z) q
  | none =>
    let ob : Obj := { cls := .type "list", data := .seq vs.toArray }
    let H : Hp := fun b => if b = a then some (.frz ob (.lst (ns.map V.int))) else none
    have Ha : H a = some (.frz ob (.lst (ns.map V.int))) := if_pos rfl
    have Hn : ∀ {b : Addr}, b ≠ a → H b = none := fun n => if_neg n
    have get : ∀ {b : Addr} {o : Obj}, t₁.heap.get? b = some o → b ≠ a → (hidT t₁.heap H).get? b = some o := fun e n => hidT_get e (Hn n)
    have nsp : ∀ {b : Addr} {m : Str → Option Value}, t₁.heap.Ns b m → (hidT t₁.heap H).Ns b m := fun {b m} ⟨o, es, ep, e, d, r⟩ => ⟨o, es, ep, get e (fun z => by
      rw [z, ga] at e
      cases e
      cases (show Data.seq vs.toArray _ = Data.dict es ep from d)), d, r⟩
    have KH : K.In (hidT t₁.heap H) := fun b o e => get (KX b o e) (fun z => by rw [z, hk] at e; cases e)
    have hok : HOk P w H t₁.heap := fun b u z => by
      by_cases n : b = a
      · subst n
        rw [Ha] at z
        cases z
        exact ⟨ga, by rw [List.length_map]; exact len, vs, _, vals_ints isI, ga⟩
      · rw [Hn n] at z; cases z
    have e0 : Env0 P w K mg (hidT t₁.heap H) callerA [] t₁ H := ⟨rfl, ⟨KH, nsp gG, ⟨mb, nsp gB, gBB⟩, let ⟨mc, l1, l2⟩ := lim; ⟨mc, nsp l1, l2⟩⟩, fun b o z => of_hidT z, Nat.le_of_eq (hidT_size _ _), trivial, fun _ z => (List.not_mem_nil z).elim, hok, .of_eq noG⟩
    exact codeAny_mono (go _ _ KH (nsp gG) e0 (.scr (.inl (.inr ⟨ob, Ha⟩)) (ys _))) fun r t₂ q => theEnd (fun b u z => by
      by_cases n : b = a
      · subst n
        rw [Ha] at z
        cases z
        exact ⟨ob, _, rfl, ga⟩
      · rw [Hn n] at z; cases z) q
/-- the goal that k_head leaves -/
theorem law_walk {l : PySem.W.OpenLaw} {n k : Nat} {q : Program} {loose : List Str} {XP : (Str → Option Value) → Heap → Prop} {YP : World → Heap → Prop} {d : DefRec} {K : Params → PySem.W.Frag} {px : Str}
    (hn : l.most = some n) (hn2 : n ≤ sizeLine) (hdf : d.params.defaults = []) (hr : Room (k + 1) callerA) (hY : ∀ (w : World) (h : Heap), YP w h → (K w.params).In h)
    (go : ∀ (w : World) (mg : Str → Option Value) (fa : Addr) (h : Heap), (K w.params).In h → h.Ns mainGlobals mg → mg d.name = some (.ref fa) → ∃ (qual : Str) (st : Stmt) (fd : FuncData) (N : List Str), Fun (K w.params) d.name qual st fa fd ∧ FnScope N [px] (defScope st) ∧
      (∀ (s : Shared) (u : Value), BindsTo s fd ⟨[u], []⟩ [(px, u)]) ∧ ∀ (base : Heap) (ns : List Int), (K w.params).In base → base.Ns mainGlobals mg → ns.length ≤ n → ∀ y : Db, y.A = callerA → Room k (y.A.deeper (envOfC qual (defScope st) y.s.heap.objs.size fa y.cdv)) →
        S (dctx l.prog w (K w.params) mg base N qual (defScope st) fa [] y) (defBody st) (ini [scD ns] N.length) (.rt (.bool true) [])) :
    PySem.W.WalkO q loose XP YP l.row.toRowW d [] (fun f vs => PySem.call f vs) := by
  refine Att.attach_call hn hdf fun w s₀ t₁ mg mb fa o pm cd doc a vs ns G Y ho hd hcd hmg hobj hints hlen hg => ?_
  have KX := hY w _ Y
  obtain ⟨qual, st, fd, N, F, Sc, hb, hS⟩ := go w mg fa _ KX G.T.g hmg
  exact law_go KX G.T.g G.T.b G.T.builtins G.T.nolimit hg hobj hints (Nat.le_trans hlen hn2) fun base H k1 k2 e0 hv => fn_law (k := k) F Sc (hS base ns k1 k2 hlen) (v := .ref a) hr e0 (hb _ _) rfl hv
end TL

namespace TL
open PySem hiding start
open PySem.Spec
open L2 hiding Dp DpAll
open PyProof.Rows hiding St

/-! ### an address as a tree; what raises -/
def adrD (a : Addr) : D := .dict [(.list [], .int a)]
theorem kd_ne : ∀ k : Key, kd k ≠ .list []
  | .inl _, h => by cases h
  | .inr _, h => by cases h
theorem adr_inv {K : PySem.W.Frag} {F : Hp} {x : V} {a : Addr} (h : Dp K F x (adrD a)) : x = .ref a := by
  have g : ∀ d, Dp K F x d → d = adrD a → x = .ref a := by
    intro d h e
    unfold adrD at e
    cases h with
    | dic q r =>
      injection e with e
      subst e
      generalize hz : ([(PyData.list [], PyData.int (a : Int))] : List (D × D)) = z at r
      cases r with
      | nil => cases hz
      | cons r1 r2 =>
        injection hz with hz _
        injection hz with hz _
        rename_i k _ _ _ _ _ _
        exact absurd hz.symm (kd_ne k)
    | scr q r =>
      injection e with e
      injection e with e _
      injection e with e _
      cases e
    | adr b =>
      injection e with e
      injection e with e _
      injection e with _ e
      injection e with e
      have : b = a := Int.ofNat.inj e
      rw [this]
    | _ => cases e
  exact g _ h rfl
/-- the classes' addresses -/
abbrev XA := Str → Addr
/-- calls of what may raise -/
structure CalX (P : Program) (w : World) (K : PySem.W.Frag) (mg : Str → Option Value) (base : Heap) (k : Nat) (x : Str) (sp : Sp) : Prop where
  ex : ∃ (f : Addr) (fd : FuncData) (ps : List Str), FnOk P w K mg base (L2N.CX P w) k f fd ps sp ∧ mg x = some (.ref f) ∧ PySem.W.keepIn K (.ref f) = true ∧ Binds K fd ps []
/-- a def that gives a value or raises an own error without fields -/
def spX (K : PySem.W.Frag) (xa : XA) {A : Type} (ein : A → List D) (pre : A → Prop) (eo : A → Except Str D) : Sp := fun vs H Q E => ∃ F a, Same F H ∧ DpAll K F vs (ein a) ∧ pre a ∧ match eo a with
  | .ok d => Gv K F H d Q
  | .error c => ∀ H', Same H H' → E (.ref (xa c)) none H'
theorem fnok_cx {P : Program} {w : World} {K : PySem.W.Frag} {mg : Str → Option Value} {base : Heap} {k : Nat} {f : Addr} {fd : FuncData} {ps : List Str} {sp : Sp} (F : FnOk P w K mg base CX0 k f fd ps sp) : FnOk P w K mg base (L2N.CX P w) k f fd ps sp :=
  ⟨F.len, fun A outer s H args us vs Q E h1 h2 h3 h4 h5 => codeAny_mono (F.run A outer s H args us vs Q E h1 h2 h3 h4 h5) fun r s' q => by
    cases r with
    | error e => exact False.elim q
    | ok fl => cases fl <;> exact q⟩
/-- a pure def's promise as one of this kind -/
theorem calx_pure {P : Program} {w : World} {K : PySem.W.Frag} {mg : Str → Option Value} {base : Heap} {k : Nat} {x : Str} {xa : XA} {A : Type} {ein : A → List D} {pre : A → Prop} {eout : A → D} (c : C8.Cal P w K mg base k x (spV K ein pre eout) []) : CalX P w K mg base k x (spX K xa ein pre fun a => .ok (eout a)) := by
  obtain ⟨f, fd, ps, ds, F, hm, kp, b, d⟩ := c.ex
  cases d
  exact ⟨f, fd, ps, (fnok_cx F).imp fun vs H Q E ⟨F0, a, h1, h2, h3, h4⟩ => ⟨F0, a, h1, h2, h3, h4⟩, hm, kp, b⟩
def mapX {α : Type} (f : α → D) : Except Str α → Except Str D
  | .ok v => .ok (f v)
  | .error c => .error c
/-- e raises c -/
def XX (C : Ctx) (e : Expr) (Γ : List Ent) (c : Value) (Γ' : List Ent) : Prop := Sh Γ Γ' ∧ ∀ (σ : St) (H : Hp) (Q : VK), EnvOk C Γ σ H → (∀ H', EnvOk C Γ' σ H' → C.xw c none σ H') → Wp C.X e σ H Q
def EX (C : Ctx) (xa : XA) (e : Expr) (Γ : List Ent) (r : Except Str D) (Γ' : List Ent) : Prop := match r with
  | .ok d => E C e Γ d Γ'
  | .error c => XX C e Γ (.ref (xa c)) Γ'
def noN (n : Nat) : List Ent := List.replicate n .no
def rX (xa : XA) (n : Nat) {α : Type} (f : α → D) : Except Str α → Out
  | .ok v => .rt (f v) []
  | .error c => .xx (.ref (xa c)) (noN n)
/-- .. None at the def's end -/
def rN (xa : XA) (n : Nat) : Except Str Unit → Out
  | .ok _ => .rz []
  | .error c => .xx (.ref (xa c)) (noN n)
theorem rX_noNx {xa : XA} {n : Nat} {α : Type} {f : α → D} (r : Except Str α) : (rX xa n f r).noNx = true := by cases r <;> rfl
theorem rX_end {xa : XA} {n : Nat} {α : Type} {f : α → D} (r : Except Str α) : (rX xa n f r).isEnd = true := by cases r <;> rfl
theorem wk_no : ∀ (Γ : List Ent), Wk Γ (noN Γ.length)
  | [] => trivial
  | e :: Γ => ⟨.inr rfl, wk_no Γ⟩
section
variable {C : Ctx} {Γ Γ1 Γ2 Γ3 : List Ent} {σ : St} {H H' : Hp} {a b e : Expr} {es : List Expr} {d dz : D} {ds : List D} {pos p p' : Pos} {x : Str} {k j n : Nat} {rest : List Stmt} {xa : XA} {c : Value} {α β : Type}
theorem Sh.len {Γ Γ' : List Ent} (h : Sh Γ Γ') : Γ'.length = Γ.length := by
  have g : ∀ i : Nat, (Γ'[i]?).isSome = (Γ[i]?).isSome := fun i => by
    have := congrArg Option.isSome (h i)
    simpa using this
  have up : ∀ {A B : List Ent}, (∀ i : Nat, (A[i]?).isSome = (B[i]?).isSome) → A.length ≤ B.length := fun {A B} g => by
    by_cases q : A.length ≤ B.length
    · exact q
    · have := g B.length
      rw [List.getElem?_eq_getElem (by omega), List.getElem?_eq_none (Nat.le_refl _)] at this
      cases this
  have a1 := up g
  have a2 := up fun i => (g i).symm
  omega
theorem xx_no (hm : C.mu = []) (hl : Γ.length = n) {st : Stmt} (h : B C st Γ1 (.xx c Γ)) : B C st Γ1 (.xx c (noN n)) := fun σ H Z ok k => h σ H Z ok fun σ' H' ok' => k σ' H' (by rw [← hl]; exact ok'.weak (wk_no Γ) (.inl hm))
theorem bx_expr (h : XX C e Γ c Γ1) (hs : swapsWith e none pos.line C.X.env = pure false := by rfl) : B C (.Expr e pos) Γ (.xx c Γ1) := fun σ H Z ok k => ⟨_, ps_expr (wp _ e) hs, h.2 σ H _ ok fun H' ok' => k σ H' ok'⟩
theorem bx_ret (h : XX C e Γ c Γ1) : B C (.Return (some e) pos) Γ (.xx c Γ1) := fun σ H Z ok k => ⟨_, ps_ret (wp _ e), h.2 σ H _ ok fun H' ok' => k σ H' ok'⟩
theorem bx_set (i : Nat) {p' : Pos} (hN : C.X.N.Nodup) (hi : C.X.N[i]? = some x) (hx : Loc C.X.env.scope x) (hf : C.X.fn x = true ∨ C.X.env.scope.names.lookup x = some .local)
    (h : XX C e Γ c Γ1) (hs : swapsWith e (some (.Name x p')) pos.line C.X.env = pure false) : B C (.Assign [.Name x p'] e pos) Γ (.xx c Γ1) := fun σ H Z ok k =>
  ⟨_, ps_set (i := i) hN hi hx (wp _ e) hs hf, h.2 σ H _ ok fun H' ok' => k σ H' ok'⟩
theorem s_exprX {r : Except Str α} {f : α → D} {mk : Except Str β → Out} {kk : α → Except Str β} (hmk : ∀ c, mk (.error c) = .xx (.ref (xa c)) (noN n)) (hm : C.mu = []) (hl : Γ1.length = n) (h : EX C xa e Γ (mapX f r) Γ1) (h2 : ∀ v, r = .ok v → S C rest Γ1 (mk (kk v))) (hs : swapsWith e none pos.line C.X.env = pure false := by rfl) :
    S C (.Expr e pos :: rest) Γ (mk (Except.bind r kk)) := by
  cases r with
  | ok v => exact s_cons (b_expr h hs) (h2 v rfl)
  | error c =>
    show S _ _ _ (mk (.error c))
    rw [hmk]
    exact s_end (xx_no hm hl (bx_expr h hs)) rfl
theorem s_setX {r : Except Str α} {f : α → D} {mk : Except Str β → Out} {kk : α → Except Str β} (hmk : ∀ c, mk (.error c) = .xx (.ref (xa c)) (noN n)) (hm : C.mu = []) (hln : Γ1.length = n) (i : Nat) {p' : Pos} (hN : C.X.N.Nodup) (hi : C.X.N[i]? = some x) (hx : Loc C.X.env.scope x) (hf : C.X.fn x = true ∨ C.X.env.scope.names.lookup x = some .local) (hl : i < Γ1.length) (ht : NoT C i)
    (h : EX C xa e Γ (mapX f r) Γ1) (hs : swapsWith e (some (.Name x p')) pos.line C.X.env = pure false) (h2 : ∀ v, r = .ok v → S C rest (Γ1.set i (.v (f v))) (mk (kk v))) : S C (.Assign [.Name x p'] e pos :: rest) Γ (mk (Except.bind r kk)) := by
  cases r with
  | ok v => exact s_cons (b_set i hN hi hx hf hl ht h hs) (h2 v rfl)
  | error c =>
    show S _ _ _ (mk (.error c))
    rw [hmk]
    exact s_end (xx_no hm hln (bx_set i hN hi hx hf h hs)) rfl
theorem s_retX {r : Except Str α} {f : α → D} (hm : C.mu = []) (hl : Γ1.length = n) (h : EX C xa e Γ (mapX f r) Γ1) : S C (.Return (some e) pos :: rest) Γ (rX xa n f r) := by
  cases r with
  | ok v => exact s_ret h (.inl hm)
  | error c => exact s_end (xx_no hm hl (bx_ret h)) rfl
/-- what the text's classes of errors are -/
structure ExT (K : PySem.W.Frag) (mg : Str → Option Value) (x : Str) (a : Addr) : Prop where
  g : mg x = some (.ref a)
  q : PySem.W.excIn K a [.type "ValueError", .type "Exception", .type "BaseException", .type "object"] "ValueError.__new__" = true
  k : PySem.W.keepIn K (.ref a) = true
  b : PySem.W.subIn K (.ref a) (.type "BaseException") = some true
  t : PySem.W.typeIn K (.ref a) = some (.type "type")
theorem s_raise {m : Str} {p2 p3 : Pos} {mk : Except Str β → Out} (hmk : mk (.error x) = .xx (.ref (xa x)) (noN n)) (hm : C.mu = []) (hl : Γ.length = n) (hc : C.X.calm = true) (tk : L2N.Takes C.X C.xw) (T : ExT C.X.K C.X.mg x (xa x)) (hg : Gl C.X x) (hdb : (x == ("__debug__" : Str)) = false := by decide) :
    S C (.Raise (some (.Call (.Name x p) [.Constant (.str m) j p2] [] pos)) none p3 :: rest) Γ (mk (.error x)) := by
  rw [hmk]
  exact s_end (xx_no hm hl (fun σ H Z ok k => ⟨_, L2N.ps_raise hc tk (L2N.pmk_own PySem.F.excBase_ValueError T.q T.g T.k (raises_own T.b T.t) hg hdb), k σ H ok⟩)) rfl
theorem x_of {sp : Sp} {pre : α → Prop} {ein : α → List D} {eo : α → Except Str D} {r : Except Str D} (v : α) (hd : eo v = r) (ha : EA C es Γ (ein v) Γ1) (hp : pre v) {e : Expr}
    (hpe : ∀ t, PA C.X es t → PE C.X e (tCallS (spX C.X.K xa ein pre eo) (WE C.xw) t)) : EX C xa e Γ r Γ1 := by
  subst hd
  have base : ∀ {σ : St} {H : Hp} {Q : VK}, EnvOk C Γ σ H → (∀ xs H1, Keep (Own Γ σ) H H1 → EnvOk C Γ1 σ H1 → DpAll C.X.K (bas C (Own Γ σ) H1) xs (ein v) → spX C.X.K xa ein pre eo xs H1 Q (WE C.xw σ)) → Wp C.X e σ H Q := fun {σ H Q} ok g => ⟨_, hpe _ (wa _ es), ha.2 σ H _ ok g⟩
  cases h : eo v with
  | ok d =>
    exact ⟨ha.1, fun σ H Q ok kk => base ok fun xs H1 k1 ok1 q1 => by
      have g := gv_of (d := d) (Q := Q) ok1 (by
        rw [ha.1.own]
        exact fun x H' k3 ok3 q3 => kk x H' (k1.trans k3) ok3 q3)
      rw [ha.1.own] at g
      exact ⟨_, v, ok1.sub, q1, hp, by rw [h]; exact g⟩⟩
  | error c =>
    exact ⟨ha.1, fun σ H Q ok kk => base ok fun xs H1 k1 ok1 q1 => ⟨_, v, ok1.sub, q1, hp, by rw [h]; exact fun H' s => kk H' (ok1.mono s)⟩⟩
theorem x_call {A : Type} {ein : A → List D} {pre : A → Prop} {eo : A → Except Str D} {r : Except Str D} (cl : CalX C.X.prog C.X.w C.X.K C.X.mg C.X.base k x (spX C.X.K xa ein pre eo)) (tk : L2N.Takes C.X C.xw) (hr : Room j C.X.A) (hk : k ≤ j) (hg : Gl C.X x) (v : A) (hd : eo v = r) (ha : EA C (e :: es) Γ (ein v) Γ1) (hp : pre v)
    (hdb : (x == ("__debug__" : Str)) = false := by decide) (he : starEach (e :: es) C.X.env = (false, eval e C.X.env) :: starEach es C.X.env := by rfl) (hpl : (backTo pos (starEach es C.X.env)).any (·.1) = false := by rfl) : EX C xa (.Call (.Name x p) (e :: es) [] pos) Γ r Γ1 := by
  obtain ⟨f, fd, ps, F, hm, kp, b⟩ := cl.ex
  exact x_of (sp := spX C.X.K xa ein pre eo) v hd ha hp fun t ht => pe_callS F (hr.mono hk) hg hm kp b (fun σ => L2N.passAt tk σ) ht hdb he hpl
/-- known not to raise -/
theorem e_callX {A : Type} {ein : A → List D} {pre : A → Prop} {eo : A → Except Str D} (cl : CalX C.X.prog C.X.w C.X.K C.X.mg C.X.base k x (spX C.X.K xa ein pre eo)) (hr : Room j C.X.A) (hk : k ≤ j) (hg : Gl C.X x) (v : A) (hd : eo v = .ok d) (ha : EA C (e :: es) Γ (ein v) Γ1) (hp : pre v)
    (hdb : (x == ("__debug__" : Str)) = false := by decide) (he : starEach (e :: es) C.X.env = (false, eval e C.X.env) :: starEach es C.X.env := by rfl) (hpl : (backTo pos (starEach es C.X.env)).any (·.1) = false := by rfl) : E C (.Call (.Name x p) (e :: es) [] pos) Γ d Γ1 := by
  obtain ⟨f, fd, ps, F, hm, kp, b⟩ := cl.ex
  exact ⟨ha.1, fun σ H Q ok kk => ⟨_, pe_callS (E := WE fun _ _ _ _ => False) F (hr.mono hk) hg hm kp b (fun σ => fun pins H s e s' I c => by
    obtain ⟨_, _, _, _, _, _, _, _, _, _, _, _, z⟩ := c
    exact z.elim) (wa _ (e :: es)) hdb he hpl, ha.2 σ H _ ok fun xs H1 k1 ok1 q1 => by
    have g := gv_of (d := d) (Q := Q) ok1 (by
      rw [ha.1.own]
      exact fun x H' k3 ok3 q3 => kk x H' (k1.trans k3) ok3 q3)
    rw [ha.1.own] at g
    exact ⟨_, v, ok1.sub, q1, hp, by rw [hd]; exact g⟩⟩⟩
end
@[reducible] def dctxX (P : Program) (w : World) (K : PySem.W.Frag) (mg : Str → Option Value) (base : Heap) (N : List Str) (qual : Str) (scope : Scope) (f : Addr) (y : Db) : Ctx :=
  ⟨cxOf (L2N.CX P w) P w K mg base N qual scope f y.cdv y.A y.outer y.s y.H y.E, y.H, y.F, [], [], fun c d _ H' => y.E c d H'⟩
section
variable {P : Program} {w : World} {K : PySem.W.Frag} {mg : Str → Option Value} {base : Heap} {xa : XA}
theorem dctxX_tk {N : List Str} {qual : Str} {scope : Scope} {f : Addr} {y : Db} : L2N.Takes (dctxX P w K mg base N qual scope f y).X (dctxX P w K mg base N qual scope f y).xw := L2N.takes_of rfl rfl rfl rfl
theorem dctxX_ps {N : List Str} {qual : Str} {scope : Scope} {f : Addr} {y : Db} : PassesOwn (model (dctxX P w K mg base N qual scope f y).X.prog (dctxX P w K mg base N qual scope f y).X.w) (dctxX P w K mg base N qual scope f y).X.A (dctxX P w K mg base N qual scope f y).X.env (dctxX P w K mg base N qual scope f y).X.xe := PassesOwn.leaving
theorem fn_x {x qual : Str} {st : Stmt} {f : Addr} {fd : FuncData} {N ps : List Str} {k n : Nat} {A : Type} {α : Type} {g : α → D} {ein : A → List D} {pre : A → Prop} {eo : A → Except Str α} (F : Fun K x qual st f fd) (Sc : FnScope N ps (defScope st)) (hl : ∀ a, (ein a).length = ps.length)
    (hbody : ∀ (y : Db) (a : A), Room k (y.A.deeper (envOfC qual (defScope st) y.s.heap.objs.size f y.cdv)) → pre a → S (dctxX P w K mg base N qual (defScope st) f y) (defBody st) (ini (ein a) N.length) (rX xa n g (eo a))) :
    FnOk P w K mg base (L2N.CX P w) (k + 1) f fd ps (spX K xa ein pre fun a => mapX g (eo a)) := by
  obtain ⟨oc, od, kV, doc, pm, an, cdv, ct, osl, rfl, lk, hcd⟩ := F.ex
  refine fn_of lk hcd Sc (fun vs H Q E ⟨F0, a, _, h, _, _⟩ => (dps_len h).trans (hl a)) fun A0 outer s H vs Q E hr ⟨F0, a, hs, h, hp, g⟩ => ⟨_, ws _ _, ?_⟩
  let y : Db := ⟨cdv, A0, outer, s, H, E, F0, 0⟩
  refine hbody y a hr hp (start N vs) H { nx := fun _ H' => Q .non H', rt := Q } (ok_start (C := dctxX P w K mg base N qual (defScope st) f y) rfl rfl hs h) ?_
  revert g
  dsimp only
  cases eo a with
  | ok v =>
    intro g z H' f1 q
    rw [bas_gr rfl] at q
    exact g z H' (fun b o e => f1.1 b o e List.not_mem_nil) q
  | error c => exact fun g σ' H' ok => g H' fun b o e => ok.keep b o e List.not_mem_nil
theorem fn_xN {x qual : Str} {st : Stmt} {f : Addr} {fd : FuncData} {N ps : List Str} {k n : Nat} {A : Type} {ein : A → List D} {pre : A → Prop} {eo : A → Except Str Unit} (F : Fun K x qual st f fd) (Sc : FnScope N ps (defScope st)) (hl : ∀ a, (ein a).length = ps.length)
    (hbody : ∀ (y : Db) (a : A), Room k (y.A.deeper (envOfC qual (defScope st) y.s.heap.objs.size f y.cdv)) → pre a → S (dctxX P w K mg base N qual (defScope st) f y) (defBody st) (ini (ein a) N.length) (rN xa n (eo a))) :
    FnOk P w K mg base (L2N.CX P w) (k + 1) f fd ps (spX K xa ein pre fun a => mapX (fun _ => PyData.none) (eo a)) := by
  obtain ⟨oc, od, kV, doc, pm, an, cdv, ct, osl, rfl, lk, hcd⟩ := F.ex
  refine fn_of lk hcd Sc (fun vs H Q E ⟨F0, a, _, h, _, _⟩ => (dps_len h).trans (hl a)) fun A0 outer s H vs Q E hr ⟨F0, a, hs, h, hp, g⟩ => ⟨_, ws _ _, ?_⟩
  let y : Db := ⟨cdv, A0, outer, s, H, E, F0, 0⟩
  refine hbody y a hr hp (start N vs) H { nx := fun _ H' => Q .non H', rt := Q } (ok_start (C := dctxX P w K mg base N qual (defScope st) f y) rfl rfl hs h) ?_
  revert g
  dsimp only
  cases eo a with
  | ok v =>
    intro g σ' H' f1
    have := g .non H' (fun b o e => f1.1 b o e List.not_mem_nil) .non
    exact ⟨this, this⟩
  | error c => exact fun g σ' H' ok => g H' fun b o e => ok.keep b o e List.not_mem_nil
theorem fn_z {x qual : Str} {st : Stmt} {f : Addr} {fd : FuncData} {N ps : List Str} {k : Nat} {A : Type} {ein : A → List D} {pre : A → Prop} (F : Fun K x qual st f fd) (Sc : FnScope N ps (defScope st)) (hl : ∀ a, (ein a).length = ps.length)
    (hbody : ∀ (y : Db) (a : A), Room k (y.A.deeper (envOfC qual (defScope st) y.s.heap.objs.size f y.cdv)) → pre a → S (dctx P w K mg base N qual (defScope st) f [] y) (defBody st) (ini (ein a) N.length) (.rz [])) :
    FnOk P w K mg base CX0 (k + 1) f fd ps (spV K ein pre fun _ => .none) :=
  F.ok Sc (fun vs H Q E ⟨F0, a, _, h, _, _⟩ => (dps_len h).trans (hl a)) fun cdv A0 outer s H vs Q E hr ⟨F0, a, hs, h, hp, g⟩ => ⟨_, ws _ _, by
    let y : Db := ⟨cdv, A0, outer, s, H, E, F0, 0⟩
    refine hbody y a hr hp (start N vs) H { nx := fun _ H' => Q .non H', rt := Q } (ok_start (C := dctx P w K mg base N qual (defScope st) f [] y) rfl rfl hs h) fun σ' H' f1 => ?_
    have := g .non H' (fun b o e => f1.1 b o e List.not_mem_nil) .non
    exact ⟨this, this⟩⟩
end
end TL

namespace TL
open PySem hiding start
open PySem.Spec
open L2 hiding Dp DpAll
open PyProof.Rows hiding St

/-! ### count and index of flat values; str + str -/
def rCntF (K : PySem.W.Frag) : V → List V → Hp → VK → Prop := fun x xs H Q => ∃ (p : Addr) (ys : List V) (y : V), x = .ref p ∧ xs = [y] ∧ SqL K H p ys ∧ flatV y = true ∧ ys.all flatV = true ∧ Q (.int (ys.countP (fun z => eqV z y) : Nat)) H
theorem cnt_flat {y : V} : ∀ {ys : List V} {us : List Value}, Vals ys us → ys.all flatV = true → us.countP (eqU y) = ys.countP (fun z => eqV z y)
  | _, _, .nil, _ => rfl
  | z :: ys, u :: us, .cons r t, f => by
    rw [List.all_cons, Bool.and_eq_true] at f
    rw [List.countP_cons, List.countP_cons, cnt_flat t f.2, eqU_of r f.1]
theorem mt_cntF {X : Cx} : MtR X "list.count" (rCntF X.K) := by
  intro pins s σ H x xs v us Q I rx rxs h
  obtain ⟨p, ys, y, rfl, rfl, hs, fy, fys, q⟩ := h
  cases rx
  obtain ⟨u, rfl, ru⟩ := rxs.one
  obtain ⟨its, rv, ⟨⟨cls, dd, data, sl⟩, n, ho, hc, hdn, hd⟩, hlen⟩ := I.list hs
  simp only at hc hd
  subst hc hd
  refine call_meets PySem.F.slot_list_count ⟨_, ho, rfl⟩ PySem.F.entry_list_count (PySem.F.args_list_count_2 _ _) (SeqAt.list_countAt p its.toArray n dd sl u (eqU y)) ⟨ho, fun z hz => mem_eqAt ru fy rv fys z (by simpa using hz), ?_⟩
  have ec : its.toArray.toList.countP (eqU y) = ys.countP (fun z => eqV z y) := cnt_flat rv fys
  refine ⟨.int (ys.countP (fun z => eqV z y) : Nat), H, I.tok _, ⟨s.toks, ?_⟩, q⟩
  show Value.int ((its.toArray.toList.countP (eqU y) : Nat) : Int) s.toks = _
  rw [ec]
theorem dps_bools {K : PySem.W.Frag} {F : Hp} : ∀ {l : List Bool} {xs : List V}, DpAll K F xs (l.map PyData.bool) → xs = l.map V.bl
  | [], _, h => by cases h; rfl
  | b :: l, _, h => by
    cases h with
    | cons r t => cases r; rw [dps_bools t]; rfl
section
variable {C : Ctx} {Γ Γ1 Γ2 Γ3 : List Ent} {σ : St} {H H' : Hp} {a b e o : Expr} {es : List Expr} {d dz : D} {ds : List D} {pos p p' apos : Pos} {x : Str} {k j n : Nat} {rest : List Stmt}
theorem e_addS {x y : Str} (hz : x.length + y.length ≤ sizeLine) (ha : E C a Γ (.str x) Γ1) (hb : E C b Γ1 (.str y) Γ2) : E C (.BinOp a .Add b pos) Γ (.str (x ++ y)) Γ2 := e_op op_add_str (B := rD (.str y)) (fun F H v w Q s hx hy q => by
  cases hx; cases hy
  exact ⟨x, y, rfl, rfl, hz, q.sc fun _ => .str _⟩) ha hb
/-- o.name(e), o a list that is read -/
theorem e_lm1 {name : Str} {id : String} {r : V → List V → Hp → VK → Prop} (slot : Slot "list" name id) (hty : typeOf (.builtin id) = pure (.type "method_descriptor")) (hm : MtR C.X id r) {d1 : D}
    (hr : ∀ F H x y Q, Same F H → LsOf C.X.K F H x ds → Dp C.X.K F y d1 → Gv C.X.K F H dz Q → r x [y] H Q) (ho : E C o Γ (.list ds) Γ1) (ha : E C e Γ1 d1 Γ2)
    (hbase : attributeBase o name C.X.env (eval o C.X.env) = eval o C.X.env := by rfl)
    (hfew : ((backTo pos (starEach [e] C.X.env)).all (fun x => !x.1) && (backToKw pos (keywordEach [] C.X.env)).all (fun x => x.1.isSome) && decide ([e].length + ([] : List Keyword).length + (if ([] : List Keyword).isEmpty then 0 else 1) < 30)) = true := by rfl)
    (hline : (apos.endLine == pos.line) = true := by rfl) (hs : starEach [e] C.X.env = (false, eval e C.X.env) :: starEach [] C.X.env := by rfl) (hplain : (backTo pos (starEach [] C.X.env)).any (·.1) = false := by rfl) :
    E C (.Call (.Attribute o name apos) [e] [] pos) Γ dz Γ2 := ⟨ho.1.trans ha.1, fun σ H Q ok kk =>
  ⟨_, pe_bm PySem.F.plainAttrs_list slot hty hm (wp _ o) (pa_cons (wp _ e) pa_nil hs) hbase hfew hline hs hplain, ho.2 σ H _ ok fun x H1 k1 ok1 q1 => by
    obtain ⟨a, vs, e1, e2, e3⟩ := ls_of ok1.sub (ho.1.own (σ := σ) ▸ q1)
    refine ⟨by rw [e1]; exact .inl ⟨rfl, vs, .of e2⟩, ha.2 σ H1 _ ok1 fun y H2 k2 ok2 q2 => ?_⟩
    have eo : Own Γ2 σ = Own Γ σ := (ho.1.trans ha.1).own
    have e1' : Own Γ1 σ = Own Γ σ := ho.1.own
    rw [e1'] at k2 q2
    have q1' := dp_keep k2 q1
    have g := gv_of (d := dz) (Q := Q) ok2 (by
      rw [eo]
      exact fun x H' k3 ok3 q3 => kk x H' ((k1.trans k2).trans k3) ok3 q3)
    rw [eo] at g
    exact hr _ H2 x y Q (eo ▸ ok2.sub) (ls_of (eo ▸ ok2.sub) q1') q2 g⟩⟩
theorem cnt_bools (c : Bool) : ∀ l : List Bool, (l.map V.bl).countP (fun z => eqV z (.bl c)) = l.count c
  | [] => rfl
  | b :: l => by
    rw [List.map_cons, List.countP_cons, List.count_cons, cnt_bools c l]; rfl
theorem flat_bools : ∀ l : List Bool, (l.map V.bl).all flatV = true
  | [] => rfl
  | b :: l => by rw [List.map_cons, List.all_cons, flat_bools l]; rfl
theorem e_cntB {l : List Bool} {c : Bool} (ho : E C o Γ (eL eB l) Γ1) (ha : E C e Γ1 (.bool c) Γ2) (hbase : attributeBase o "count" C.X.env (eval o C.X.env) = eval o C.X.env := by rfl)
    (hfew : ((backTo pos (starEach [e] C.X.env)).all (fun x => !x.1) && (backToKw pos (keywordEach [] C.X.env)).all (fun x => x.1.isSome) && decide ([e].length + ([] : List Keyword).length + (if ([] : List Keyword).isEmpty then 0 else 1) < 30)) = true := by rfl)
    (hline : (apos.endLine == pos.line) = true := by rfl) (hs : starEach [e] C.X.env = (false, eval e C.X.env) :: starEach [] C.X.env := by rfl) (hplain : (backTo pos (starEach [] C.X.env)).any (·.1) = false := by rfl) :
    E C (.Call (.Attribute o "count" apos) [e] [] pos) Γ (.int (l.count c : Nat)) Γ2 := e_lm1 PySem.F.slot_list_count PySem.F.type_list_count mt_cntF (fun F H x y Q s ⟨a, vs, e1, e2, e3⟩ hy q => by
  cases hy
  rw [dps_bools e3] at e2
  refine ⟨a, l.map V.bl, .bl c, e1, rfl, .of e2, rfl, flat_bools l, ?_⟩
  rw [cnt_bools]
  exact q.int) ho ha hbase hfew hline hs hplain
theorem e_ixB {l : List Bool} {c : Bool} (hc : c ∈ l) (ho : E C o Γ (eL eB l) Γ1) (ha : E C e Γ1 (.bool c) Γ2) (hbase : attributeBase o "index" C.X.env (eval o C.X.env) = eval o C.X.env := by rfl)
    (hfew : ((backTo pos (starEach [e] C.X.env)).all (fun x => !x.1) && (backToKw pos (keywordEach [] C.X.env)).all (fun x => x.1.isSome) && decide ([e].length + ([] : List Keyword).length + (if ([] : List Keyword).isEmpty then 0 else 1) < 30)) = true := by rfl)
    (hline : (apos.endLine == pos.line) = true := by rfl) (hs : starEach [e] C.X.env = (false, eval e C.X.env) :: starEach [] C.X.env := by rfl) (hplain : (backTo pos (starEach [] C.X.env)).any (·.1) = false := by rfl) :
    E C (.Call (.Attribute o "index" apos) [e] [] pos) Γ (.int (l.idxOf c : Nat)) Γ2 := e_lm1 PySem.F.slot_list_index PySem.F.type_list_index mt_index (fun F H x y Q s ⟨a, vs, e1, e2, e3⟩ hy q => by
  cases hy
  rw [dps_bools e3] at e2
  have hl : l.idxOf c < l.length := List.idxOf_lt_length_of_mem hc
  refine ⟨a, l.map V.bl, .bl c, l.idxOf c, .bl c, e1, rfl, .of e2, rfl, flat_bools l, ?_, by cases c <;> rfl, fun m z' hm hz => ?_, q.int⟩
  · rw [List.getElem?_map, List.getElem?_eq_getElem hl, List.getElem_idxOf]; rfl
  · rw [List.getElem?_map] at hz
    have hm2 : m < l.length := by omega
    rw [List.getElem?_eq_getElem hm2] at hz
    cases hz
    have := List.not_of_lt_findIdx (xs := l) (p := (· == c)) (i := m) hm
    show (l[m] == c) = false
    simpa using this) ho ha hbase hfew hline hs hplain
end

/-! ### the caught error: isinstance, the def that tells its kind, try -/
def rIs (K : PySem.W.Frag) (D a : Addr) : List V → Hp → VK → Prop := fun xs H Q => ∃ (c : Addr) (b : Bool), xs = [.ref a, .ref c] ∧ PySem.W.kitOne K (.ref D) (.ref c) = some b ∧ Q (.bl b) H
theorem call_isP {X : Cx} {a D : Addr} {oe : Obj} (hp : (a, oe) ∈ X.pn) (C : ExcC X.K D) (hz : Zc (.ref D) none oe) (hf : ∃ vs, oe.data = .fields vs) : CallR X (.builtin "isinstance") (rIs X.K D a) := by
  intro pins s σ H xs us Q I r h
  obtain ⟨c, b, rfl, e, q⟩ := h
  match us, r with
  | [_, _], .cons rfl (.cons rfl .nil) =>
    have got := (I.pin (a, oe) (List.mem_append_left _ hp)).1
    have J : PySem.W.InstAt s.heap a oe D none := by
      obtain ⟨vs, hv⟩ := hf
      obtain ⟨oc, od, oda, osl⟩ := oe
      obtain ⟨h1, h2⟩ := hz
      dsimp only at h1 h2 hv
      subst h1 h2 hv
      exact ⟨got, rfl, rfl, trivial⟩
    exact PySem.W.kia_one (PySem.W.handS_kitx_exc C.hg C.hk C.hs C.hd C.ha C.hn C.ht C.hm) I.kIn J e (fun z => nomatch z) fun tk => ⟨.bl b, H, I.kept (t' := tk) fun _ _ z => z, rfl, q⟩
section
variable {C : Ctx} {Γ Γ1 Γ2 Γ3 : List Ent} {σ : St} {H H' : Hp} {a b e o : Expr} {es : List Expr} {d dz : D} {ds : List D} {pos p p' apos : Pos} {x : Str} {k j n : Nat} {rest : List Stmt}
theorem e_is {ad Dc cc : Addr} {oe : Obj} {bb : Bool} (hp : (ad, oe) ∈ C.X.pn) (T : ExcC C.X.K Dc) (hz : Zc (.ref Dc) none oe) (hf : ∃ vs, oe.data = .fields vs) (hk : PySem.W.kitOne C.X.K (.ref Dc) (.ref cc) = some bb) (hg : Gl C.X "isinstance") (hm : C.X.mg "isinstance" = none)
    (ha : EA C [a, b] Γ [adrD ad, adrD cc] Γ1) (he : starEach [a, b] C.X.env = (false, eval a C.X.env) :: starEach [b] C.X.env := by rfl) (hpl : (backTo pos (starEach [b] C.X.env)).any (·.1) = false := by rfl) :
    E C (.Call (.Name "isinstance" p) [a, b] [] pos) Γ (.bool bb) Γ1 := ⟨ha.1, fun σ H Q ok kk => ⟨_, pe_callB (call_isP hp T hz hf) hg hm (by decide +kernel) (wa _ [a, b]) (by decide) (by decide) he hpl, ha.2 σ H _ ok fun xs H1 k1 ok1 q1 => by
    match xs, q1 with
    | [_, _], .cons q2 (.cons q3 .nil) =>
      cases adr_inv q2
      cases adr_inv q3
      exact ⟨cc, bb, rfl, hk, kk _ H1 k1 ok1 (.bl bb)⟩⟩⟩
theorem e_adr {x : Str} {ad : Addr} (hg : Gl C.X x) (hm : C.X.mg x = some (.ref ad)) (hb : (x == ("__debug__" : Str)) = false := by decide) : E C (.Name x pos) Γ (adrD ad) Γ := e_glob hg hm (v := .ref ad) rfl (fun _ => .adr ad) hb
end

/-- the errors' classes by name, and their words -/
def kn : List Str := ["NotMatroid", "NotFamily", "NotGraph", "NotPaper", "BadNumber", "NoAnswer", "TooLarge"]
def kws : List Str := ["matroid", "family", "graph", "paper", "number", "none", "large"]
def kword (c : Str) : Str := ("!" : Str) ++ kws.getD (kn.idxOf c) ""
structure KindC (K : PySem.W.Frag) (xa : XA) (c : Str) : Prop where
  m : c ∈ kn
  e : ExcC K (xa c)
  k : ∀ n ∈ kn, PySem.W.kitOne K (.ref (xa c)) (.ref (xa n)) = some (decide (c = n))
/-- what the def promises that tells a caught error's kind -/
structure FnK (P : Program) (w : World) (K : PySem.W.Frag) (mg : Str → Option Value) (base : Heap) (xa : XA) (k : Nat) (f : Addr) (fd : FuncData) : Prop where
  run : ∀ (A : Around) (outer : List Env) (s : Shared) (H : Hp) (p : Addr × Obj) (c : Str), L2H.RoomH k A → L2H.Hot1 A p → L2H.PinOk outer H s p → Env0 P w K mg base A outer s H → BindsTo s fd ⟨[.ref p.1], []⟩ [("error", .ref p.1)] → KindC K xa c → Zc (.ref (xa c)) none p.2 →
    codeAny (model P w) A (.call (.ref f) ⟨[.ref p.1], []⟩) (CR CX0 outer P w H s (fun v H' => v = .str (kword c) ∧ Same H H') (fun _ _ _ => False)) s
@[reducible] def kctx (P : Program) (w : World) (K : PySem.W.Frag) (mg : Str → Option Value) (base : Heap) (N : List Str) (qual : Str) (scope : Scope) (f : Addr) (p : Addr × Obj) (y : Db) : Ctx :=
  ⟨(L2H.cxH CX0 P w K mg base N qual scope f y.cdv y.A y.outer y.s y.H y.E p).nox, y.H, y.H, [], [], fun _ _ _ _ => False⟩
theorem fn_kind {P : Program} {w : World} {K : PySem.W.Frag} {mg : Str → Option Value} {base : Heap} {xa : XA} {x qual : Str} {st : Stmt} {f : Addr} {fd : FuncData} {N : List Str} {k : Nat} (F : Fun K x qual st f fd) (Sc : FnScope N ["error"] (defScope st))
    (hbody : ∀ (y : Db) (p : Addr × Obj) (c : Str), KindC K xa c → Zc (.ref (xa c)) none p.2 → (∃ vs, p.2.data = .fields vs) → S (kctx P w K mg base N qual (defScope st) f p y) (defBody st) (ini [adrD p.1] N.length) (.rt (.str (kword c)) [])) : FnK P w K mg base xa (k + 1) f fd := by
  obtain ⟨oc, od, kV, doc, pm, an, cdv, ct, osl, rfl, lk, hcd⟩ := F.ex
  refine ⟨fun A outer s H p c hr hot hpin e0 hb hc hz => ?_⟩
  have keep := e0.mod.kin.keeps fun b o e => (e0.bs b o e).1
  have nolim := e0.mod.nolimit.keeps fun b o e => (e0.bs b o e).1
  have kinds : ∀ z ∈ [(("error" : Str), Value.ref p.1)], (defScope st).names.lookup z.1 = some .local ∨ ((defScope st).names.lookup z.1 = some .cell ∧ ((cellsFrom (s.heap.objs.size + 1) (defScope st).names []).lookup z.1).isSome = true) := fun z hz => by
    rw [List.mem_singleton.mp hz]
    rcases Sc.par _ List.mem_cons_self with q | q
    · exact .inl q
    · exact .inr ⟨q, PySem.W.cellsFrom_some _ _ _ (.inl q)⟩
  refine codeAny_call_function hr.depth (keep _ _ lk) rfl Sc.co Sc.gen rfl (PySem.W.codeRec_of keep hcd) (hb _ _ _ _ (wpAny_newFunctionEnv_cells Sc.kind kinds fun env he s1 q => ?_))
  subst he
  refine ⟨nolim.keeps q.toInCall.keep, codeAny_func ?_⟩
  let y : Db := ⟨cdv, A, outer, s, H, fun _ _ _ => False, H, 0⟩
  let Z : Ends := { nx := fun _ _ => False, rt := fun v H' => v = .str (kword c) ∧ Same H H' }
  obtain ⟨vs, hv, _⟩ := hot.2
  have g := hbody y p c hc hz ⟨vs, hv⟩ (start N [.ref p.1]) H Z (ok_start (C := kctx P w K mg base N qual (defScope st) f p y) rfl rfl (fun _ _ e => e) (.cons (.adr _) .nil)) fun z H' f1 q => by
    cases q
    exact ⟨rfl, fun b o e => f1.1 b o e List.not_mem_nil⟩
  obtain ⟨t, ht, hq⟩ := g
  have I : Inv (L2H.cxH CX0 P w K mg base N qual (defScope st) f cdv A outer s H (fun _ _ _ => False) p) [] (start N [.ref p.1]) H s1 := L2H.inv_startH (ps := ["error"]) Sc hpin e0 rfl (.cons rfl .nil) q
  refine wpAny_mono (ht.nox.run [] s1 (start N [.ref p.1]) H Z I hq) (fun fl s' hs => ?_) fun e s' hs => hs
  cases fl with
  | ret u' =>
    obtain ⟨v', σ', H', J, rv', q⟩ := hs
    exact ⟨v', H', J.os, J.bare, J.base, J.hok, rv', q⟩
  | next => obtain ⟨_, _, _, q⟩ := hs; exact False.elim q
  | brk => obtain ⟨_, _, _, q⟩ := hs; exact False.elim q
  | cont => obtain ⟨_, _, _, q⟩ := hs; exact False.elim q
/-- .. called in the suite of an except clause, on the error in slot i -/
theorem pe_kind {X : Cx} {a : Addr} {oe : Obj} {pn : List (Addr × Obj)} {xa : XA} {k j i : Nat} {f : Addr} {fd : FuncData} {x nm : Str} {p p2 pos : Pos} (F : FnK X.prog X.w X.K X.mg X.base xa k f fd) (hr : Room j X.A) (hk : k ≤ j) (hd0 : ∃ cls d, L2N.Zn cls d oe) (hf : ∃ vs, oe.data = .fields vs) (hg : Gl X x) (hm : X.mg x = some (.ref f)) (kp : PySem.W.keepIn X.K (.ref f) = true) (hb : Binds X.K fd ["error"] [])
    (hN : X.N[i]? = some nm) (hv : Vis X.env.scope nm) (hdb : (x == ("__debug__" : Str)) = false := by decide) (hd : (nm == ("__debug__" : Str)) = false := by decide) (hcd : (nm == ("__classdict__" : Str)) = false := by decide)
    (he : starEach [.Name nm p2] X.env = (false, eval (.Name nm p2) X.env) :: starEach [] X.env := by rfl) (hpl : (backTo pos (starEach [] X.env)).any (·.1) = false := by rfl) :
    PE (X.suite a ((a, oe) :: pn)) (.Call (.Name x p) [.Name nm p2] [] pos) (fun σ H Q => σ[i]? = some (some (.ref a)) ∧ ∃ c, KindC X.K xa c ∧ Zc (.ref (xa c)) none oe ∧ ∀ H', Same H H' → Q (.str (kword c)) H') := by
  refine ⟨fun pins s σ H Q I ⟨h1, c, hc, hz, q⟩ => ?_⟩
  have pv : PE (X.suite a ((a, oe) :: pn)) (.Name nm p2) (tVar i) := pe_var hN hv hd hcd
  refine wpAny_Call_Name_kw (ld_glob (X := X.suite a ((a, oe) :: pn)) I hg hm ?_ hdb)
  refine PySem.W.callWith_K (h₀ := X.base) I.ok.mod.kin kp (thn ((pa_cons pv pa_nil).run pos pins s σ H (fun vs H1 => vs = [V.ref a] ∧ H = H1) I ⟨_, h1, rfl, rfl⟩) fun us s1 ⟨vs, H1, I1, r, e1, e2⟩ => ⟨I1.kIn, ?_⟩) he hpl
  subst e1
  subst e2
  obtain ⟨u, rfl, r0⟩ := Vals.one r
  obtain rfl : u = Value.ref a := r0
  · skip
    have P1 := I1.pin (a, oe) (List.mem_append_left _ List.mem_cons_self)
    have hpin : L2H.PinOk X.stack H s1 (a, oe) := ⟨P1.1, P1.2.1, fun hm => (List.mem_cons.mp (I1.stkSub a hm)).elim P1.2.2.1 P1.2.2.2.1, P1.2.2.2.2⟩
    obtain ⟨cls, d, hzn⟩ := hd0
    obtain ⟨vs, hvs⟩ := hf
    have b := hb s1 [.ref a] I1.kIn rfl
    have rh : L2H.RoomH k (X.A.mark (some (.ref a))) := ⟨(hr.mono hk).dp, (hr.mono hk).un⟩
    have hot : L2H.Hot1 (X.A.mark (some (.ref a))) (a, oe) := ⟨rfl, vs, hvs, hzn.2.2 vs hvs⟩
    have e0 : Env0 X.prog X.w X.K X.mg X.base (X.A.mark (some (.ref a))) X.stack s1 H := I1.env0
    have run := F.run (X.A.mark (some (.ref a))) X.stack s1 H (a, oe) c rh hot hpin e0 b hc hz
    refine wpAny_call (codeAny_mono run fun r s' hq => ?_)
    cases r with
    | error e => exact False.elim hq
    | ok fl =>
      cases fl with
      | next => exact False.elim hq
      | brk => exact False.elim hq
      | cont => exact False.elim hq
      | ret u =>
        obtain ⟨v, H', I2, rv, ev, sm⟩ := I1.after hq
        subst ev
        exact ⟨_, H', I2, rv, q H' sm⟩
end TL

namespace TL
open PySem hiding start
open PySem.Spec
open L2 hiding Dp DpAll
open PyProof.Rows hiding St

/-- what _law_kind is, as a call -/
structure CalK (P : Program) (w : World) (K : PySem.W.Frag) (mg : Str → Option Value) (base : Heap) (xa : XA) (k : Nat) (x : Str) : Prop where
  ex : ∃ (f : Addr) (fd : FuncData), FnK P w K mg base xa k f fd ∧ mg x = some (.ref f) ∧ PySem.W.keepIn K (.ref f) = true ∧ Binds K fd ["error"] []
/-- the answer of a def that tells the caught error's kind -/
def told : Except Str D → D
  | .ok d => d
  | .error c => .str (kword c)
@[reducible] def Ctx.tr (C : Ctx) (pn : List (Addr × Obj)) (xe : Value → Shared → Prop) (W : WX) : Ctx := ⟨C.X.tr pn xe, C.H0, C.B0, C.mu, C.gh, W⟩
theorem EnvOk.inTr {C : Ctx} {Γ : List Ent} {σ : St} {H : Hp} (ok : EnvOk C Γ σ H) {pn : List (Addr × Obj)} {xe : Value → Shared → Prop} {W : WX} : EnvOk (C.tr pn xe W) Γ σ H := ⟨ok.ents, ok.nd, ok.new, ok.keep, ok.base, ok.mu0, ok.tape, ok.ghs⟩
theorem EnvOk.outTr {C : Ctx} {Γ : List Ent} {σ : St} {H : Hp} {pn : List (Addr × Obj)} {xe : Value → Shared → Prop} {W : WX} (ok : EnvOk (C.tr pn xe W) Γ σ H) : EnvOk C Γ σ H := ⟨ok.ents, ok.nd, ok.new, ok.keep, ok.base, ok.mu0, ok.tape, ok.ghs⟩
theorem s_try {C : Ctx} {Γ : List Ent} {body rest : List Stmt} {r : Except Str D} {xa : XA} {k j i n : Nat} {x en nm : Str} {cb : Value} {np p1 p2 p3 p4 pos pos' : Pos}
    (hm : C.mu = []) (hgh : C.gh = []) (hs : C.X.stack = C.X.env :: C.X.outer) (hf : C.X.env.frame = some C.X.env.locals) (hN : C.X.N.Nodup) (hi : C.X.N[i]? = some nm) (hln : C.X.env.kindOf nm = some .local) (hc : Names C.X en cb)
    (cl : CalK C.X.prog C.X.w C.X.K C.X.mg C.X.base xa k x) (hr : Room j C.X.A) (hk : k ≤ j) (hg : Gl C.X x) (hv : Vis C.X.env.scope nm) (hin : i < n)
    (hw : ∀ c, r = .error c → KindC C.X.K xa c ∧ PySem.W.exmOne C.X.K (.ref (xa c)) cb = some true)
    (hbody : ∀ pn xe W, L2N.Takes (C.X.tr pn xe) W → S (C.tr pn xe W) body Γ (rX xa n id r))
    (hdb : (x == ("__debug__" : Str)) = false := by decide) (hd : (nm == ("__debug__" : Str)) = false := by decide) (hcd : (nm == ("__classdict__" : Str)) = false := by decide)
    (he : starEach [.Name nm p2] C.X.env = (false, eval (.Name nm p2) C.X.env) :: starEach [] C.X.env := by rfl) (hpl : (backTo p3 (starEach [] C.X.env)).any (·.1) = false := by rfl) :
    S C (.Try body [.ExceptHandler (some (.Name en np)) (some nm) [.Return (some (.Call (.Name x p1) [.Name nm p2] [] p3)) p4] pos'] [] [] pos :: rest) Γ (.rt (told r) []) := by
  obtain ⟨f, fd, F, hmf, kp, hb⟩ := cl.ex
  refine s_end (fun σ H Z ok kk => ?_) rfl
  let tb : WX → TS := fun W D σ H => ∀ pn xe, L2N.Takes (C.X.tr pn xe) W → Ws (C.X.tr pn xe) body D σ H
  let ts : Addr → Value → Option Addr → TS := fun a cls d D σ H => σ[i]? = some (some (.ref a)) ∧ ∃ c, KindC C.X.K xa c ∧ cls = .ref (xa c) ∧ d = none ∧ ∀ H', Same H H' → D.rt (.str (kword c)) H'
  have take0 : L2N.Takes C.X (fun _ _ _ _ => False) := fun u s' ⟨_, _, _, _, _, _, _, _, _, _, _, _, _, _, _, _, z⟩ => z.elim
  refine ⟨_, L2N.ps_try_as (tb := tb) (ts := ts) (Wout := fun _ _ _ _ => False) hs hf hN hi hln hc take0 (fun W pn xe tk _ => ⟨fun pins s σ H D I h => (ws _ body).run pins s σ H D I (h pn xe tk)⟩) (fun a oe cls d pn hz hfd => pss_one ⟨fun pins s σ H D I ⟨h1, c, h2, h3, h4, h5⟩ => ?_⟩), ?_⟩
  · subst h3 h4
    exact (ps_ret (pe_kind F hr hk ⟨_, _, hz⟩ hfd hg hmf kp hb hi hv hdb hd hcd he hpl)).run pins s σ H D I ⟨h1, c, h2, hz.zc, h5⟩
  · show tb _ Z σ H
    intro pn xe tk
    refine hbody pn xe _ tk σ H Z ok.inTr ?_
    have kk' : ∀ x H', Fin C H' [] → TL.Dp C.X.K (bas C (· ∈ C.mu) H') x (told r) → Z.rt x H' := kk
    revert kk'
    cases r with
    | ok d => exact fun kk' z H' f1 q => kk' z H' f1 q
    | error c =>
      intro kk' σ' H' ok'
      obtain ⟨w1, w2⟩ := hw c rfl
      have ok2 := ok'.outTr
      refine ⟨true, w2, fun _ a na => ⟨?_, c, w1, rfl, rfl, fun H2 s2 => kk' _ H2 ⟨fun b o h1 h2 => s2 b o (ok2.keep b o h1 h2), fun b hb => by rw [hm] at hb; cases hb⟩ (.str _)⟩, fun z => by cases z⟩
      obtain ⟨o, e1, _⟩ := ok2.ents i .no (by unfold noN; rw [List.getElem?_replicate, if_pos hin])
      rw [List.getElem?_set_self (List.getElem?_eq_some_iff.mp e1).1]

/-! ### calls of a function that an expression gives -/
theorem pe_callF {X : Cx} {CX : CXT} {k : Nat} {f : Addr} {fd : FuncData} {ps : List Str} {sp : Sp} {E : St → XK} {fe e : Expr} {es : List Expr} {tf : TE} {t : TA} {pos : Pos} (F : FnOk X.prog X.w X.K X.mg X.base CX k f fd ps sp) (hr : Room k X.A) (kp : PySem.W.keepIn X.K (.ref f) = true) (hb : Binds X.K fd ps []) (hx : ∀ σ, PassesAt CX X σ (E σ))
    (hf : PE X fe tf) (ha : PA X (e :: es) t) (ht : eval (.Call fe (e :: es) [] pos) X.env = (do callWith pos (← eval fe X.env) [] (backTo pos (starEach (e :: es) X.env)) (backToKw pos (keywordEach [] X.env))) := by rfl)
    (he : starEach (e :: es) X.env = (false, eval e X.env) :: starEach es X.env := by rfl) (hpl : (backTo pos (starEach es X.env)).any (·.1) = false := by rfl) : PE X (.Call fe (e :: es) [] pos) (fun σ H Q => tf σ H fun y H1 => y = V.ref f ∧ t σ H1 fun vs H2 => sp vs H2 Q (E σ)) := by
  refine ⟨fun pins s σ H Q I h => PyProof.Rows.Call_ (thn (hf.run pins s σ H _ I h) fun u s1 ⟨y, H1, I1, ry, ey, q⟩ => ?_) ht⟩
  subst ey
  obtain rfl : u = Value.ref f := ry
  refine PySem.W.callWith_K (h₀ := X.base) I.ok.mod.kin kp (thn (ha.run pos pins s1 σ H1 _ I1 q) fun us s2 ⟨vs, H2, I2, r, q2⟩ => ⟨I2.kIn, ?_⟩) he hpl
  exact run_fnS F hr hb (hx σ) I2 r q2
structure CalXA (P : Program) (w : World) (K : PySem.W.Frag) (mg : Str → Option Value) (base : Heap) (k : Nat) (f : Addr) (sp : Sp) : Prop where
  ex : ∃ (fd : FuncData) (ps : List Str), FnOk P w K mg base (L2N.CX P w) k f fd ps sp ∧ PySem.W.keepIn K (.ref f) = true ∧ Binds K fd ps []
theorem CalX.at {P : Program} {w : World} {K : PySem.W.Frag} {mg : Str → Option Value} {base : Heap} {k : Nat} {x : Str} {sp : Sp} (c : CalX P w K mg base k x sp) : ∃ f, mg x = some (.ref f) ∧ CalXA P w K mg base k f sp := by
  obtain ⟨f, fd, ps, F, hm, kp, b⟩ := c.ex
  exact ⟨f, hm, fd, ps, F, kp, b⟩
section
variable {C : Ctx} {Γ Γ1 Γ2 Γ3 : List Ent} {σ : St} {H H' : Hp} {a b e fe : Expr} {es : List Expr} {d dz : D} {ds : List D} {pos p p' : Pos} {x : Str} {k j n : Nat} {rest : List Stmt} {xa : XA} {c : Value} {α β : Type} {f : Addr}
theorem x_callF {A : Type} {ein : A → List D} {pre : A → Prop} {eo : A → Except Str D} {r : Except Str D} (cl : CalXA C.X.prog C.X.w C.X.K C.X.mg C.X.base k f (spX C.X.K xa ein pre eo)) (tk : L2N.Takes C.X C.xw) (hr : Room j C.X.A) (hk : k ≤ j) (hfe : E C fe Γ (adrD f) Γ1) (v : A) (hd : eo v = r) (ha : EA C (e :: es) Γ1 (ein v) Γ2) (hp : pre v)
    (ht : eval (.Call fe (e :: es) [] pos) C.X.env = (do callWith pos (← eval fe C.X.env) [] (backTo pos (starEach (e :: es) C.X.env)) (backToKw pos (keywordEach [] C.X.env))) := by rfl)
    (he : starEach (e :: es) C.X.env = (false, eval e C.X.env) :: starEach es C.X.env := by rfl) (hpl : (backTo pos (starEach es C.X.env)).any (·.1) = false := by rfl) : EX C xa (.Call fe (e :: es) [] pos) Γ r Γ2 := by
  obtain ⟨fd, ps, F, kp, b⟩ := cl.ex
  subst hd
  have hpe : PE C.X (.Call fe (e :: es) [] pos) _ := pe_callF (sp := spX C.X.K xa ein pre eo) F (hr.mono hk) kp b (fun σ => L2N.passAt tk σ) (wp _ fe) (wa _ (e :: es)) ht he hpl
  have sh := hfe.1.trans ha.1
  have base : ∀ {σ : St} {H : Hp} {Q : VK}, EnvOk C Γ σ H → (∀ xs H1, Keep (Own Γ σ) H H1 → EnvOk C Γ2 σ H1 → DpAll C.X.K (bas C (Own Γ σ) H1) xs (ein v) → spX C.X.K xa ein pre eo xs H1 Q (WE C.xw σ)) → Wp C.X (.Call fe (e :: es) [] pos) σ H Q := fun {σ H Q} ok g =>
    ⟨_, hpe, hfe.2 σ H _ ok fun y H1 k1 ok1 q1 => ⟨adr_inv q1, ha.2 σ H1 _ ok1 fun xs H2 k2 ok2 q2 => by
      rw [hfe.1.own] at k2 q2
      exact g xs H2 (k1.trans k2) ok2 q2⟩⟩
  cases h : eo v with
  | ok d =>
    exact ⟨sh, fun σ H Q ok kk => base ok fun xs H1 k1 ok1 q1 => by
      have g := gv_of (d := d) (Q := Q) ok1 (by
        rw [sh.own]
        exact fun x H' k3 ok3 q3 => kk x H' (k1.trans k3) ok3 q3)
      rw [sh.own] at g
      exact ⟨_, v, ok1.sub, q1, hp, by rw [h]; exact g⟩⟩
  | error c =>
    exact ⟨sh, fun σ H Q ok kk => base ok fun xs H1 k1 ok1 q1 => ⟨_, v, ok1.sub, q1, hp, by rw [h]; exact fun H' s => kk H' (ok1.mono s)⟩⟩
/-- one of two expressions that may raise -/
theorem x_if {kb : Bool} {c : Expr} {r1 r2 : Except Str D} (hc : T C c Γ kb Γ1) (h1 : kb = true → EX C xa a Γ1 r1 Γ1) (h2 : kb = false → EX C xa b Γ1 r2 Γ1) : EX C xa (.IfExp c a b pos) Γ (if kb then r1 else r2) Γ1 := by
  cases kb with
  | true =>
    have h1 := h1 rfl
    cases r1 with
    | ok d => exact e_if hc (fun _ => h1) (fun z => by cases z)
    | error c => exact ⟨hc.1.trans h1.1, fun σ H Q ok kk => ⟨_, pe_ifExp (wt _ _) (wp _ a) (wp _ b), hc.2 σ H _ ok fun H1 k1 ok1 => iteT (h1.2 σ H1 Q ok1 kk)⟩⟩
  | false =>
    have h2 := h2 rfl
    cases r2 with
    | ok d => exact e_if hc (fun z => by cases z) (fun _ => h2)
    | error c => exact ⟨hc.1.trans h2.1, fun σ H Q ok kk => ⟨_, pe_ifExp (wt _ _) (wp _ a) (wp _ b), hc.2 σ H _ ok fun H1 k1 ok1 => iteF (h2.2 σ H1 Q ok1 kk)⟩⟩
end

def okV {α : Type} (d : α) : Except Str α → α
  | .ok v => v
  | .error _ => d
def isOkX {α : Type} : Except Str α → Bool
  | .ok _ => true
  | .error _ => false
theorem mapX_ok {α : Type} {f : α → D} {r : Except Str α} (d : α) (h : isOkX r = true) : mapX f r = .ok (f (okV d r)) := by
  cases r with
  | ok v => rfl
  | error c => cases h
section
variable {C : Ctx} {Γ Γ1 Γ2 Γ3 : List Ent} {σ : St} {H H' : Hp} {a b c e fe : Expr} {es : List Expr} {d dz : D} {ds : List D} {pos p p' apos : Pos} {x : Str} {k j n : Nat} {ss rest : List Stmt} {xa : XA} {o : Out}
theorem s_retXD {r : Except Str D} (hm : C.mu = []) (hl : Γ1.length = n) (h : EX C xa e Γ r Γ1) : S C (.Return (some e) pos :: rest) Γ (rX xa n id r) := by
  cases r with
  | ok v => exact s_ret h (.inl hm)
  | error c => exact s_end (xx_no hm hl (bx_ret h)) rfl
theorem s_brkW (w : Wk Γ Γ1) (ht : C.mu = [] ∨ Γ1[0]? = Γ[0]?) : S C (.Break pos :: rest) Γ (.bk Γ1) := s_weak w ht (s_end b_break rfl)
theorem s_contW (w : Wk Γ Γ1) (ht : C.mu = [] ∨ Γ1[0]? = Γ[0]?) : S C [.Continue pos] Γ (.nl Γ1) := s_weak w ht (s_one b_cont)
theorem s_ifTrue (hc : T C c Γ true Γ1) (h1 : S C ss Γ1 o) (hn : o.noNx = true) : S C (.If c ss [] pos :: rest) Γ o := s_end (b_if hc (fun _ => h1) (fun z => by cases z)) hn
theorem s_ifFalse (hc : T C c Γ false Γ1) (h2 : S C rest Γ1 o) : S C (.If c ss [] pos :: rest) Γ o := s_cons (b_if hc (fun z => by cases z) (fun _ => s_nil)) h2
theorem x_ifTrue {r : Except Str D} (hc : T C c Γ true Γ1) (h1 : EX C xa a Γ1 r Γ1) : EX C xa (.IfExp c a b pos) Γ r Γ1 := x_if (r2 := r) hc (fun _ => h1) (fun z => by cases z)
theorem x_ifFalse {r : Except Str D} (hc : T C c Γ false Γ1) (h2 : EX C xa b Γ1 r Γ1) : EX C xa (.IfExp c a b pos) Γ r Γ1 := x_if (r1 := r) hc (fun z => by cases z) (fun _ => h2)
theorem e_popT (n : Nat) {x : Str} {t : List Int} (h0 : Γ[n]? = some (oL eI t.reverse)) (hne : t ≠ []) (hN : C.X.N[n]? = some x) (hv : Vis C.X.env.scope x) (hd : (x == ("__debug__" : Str)) = false := by decide) (hcd : (x == ("__classdict__" : Str)) = false := by decide)
    (hbase : attributeBase (.Name x p') "pop" C.X.env (eval (.Name x p') C.X.env) = eval (.Name x p') C.X.env := by rfl) (hline : (apos.endLine == pos.line) = true := by rfl) :
    E C (.Call (.Attribute (.Name x p') "pop" apos) [] [] pos) Γ (eI (t.headD 0)) (Γ.set n (oL eI t.tail.reverse)) := by
  cases t with
  | nil => exact absurd rfl hne
  | cons i t => exact e_pop n (ds := t.reverse.map eI) (d := eI i) (by rw [h0, oL, List.reverse_cons, List.map_append]; rfl) hN hv hd hcd hbase hline
end

/-! ### the def that tells an error's kind: its answer -/
def lb4 (c : Str) : List Bool := [decide (c = "NotMatroid"), decide (c = "NotFamily"), decide (c = "NotGraph"), decide (c = "NotPaper")]
def lb3 (c : Str) : List Bool := [decide (c = "BadNumber"), decide (c = "NoAnswer"), decide (c = "TooLarge")]
theorem kn_facts {c : Str} (h : c ∈ kn) : (lb4 c ++ lb3 c).count true = 1 ∧ true ∈ lb4 c ++ lb3 c ∧ InB kws.length ((lb4 c ++ lb3 c).idxOf true : Nat) ∧ ("!" : Str).length + (ati kws ((lb4 c ++ lb3 c).idxOf true : Nat) "").length ≤ sizeLine ∧ ("!" : Str) ++ ati kws ((lb4 c ++ lb3 c).idxOf true : Nat) "" = kword c := by
  unfold kn at h
  simp only [List.mem_cons, List.not_mem_nil, or_false] at h
  rcases h with rfl | rfl | rfl | rfl | rfl | rfl | rfl <;> (unfold InB; decide +kernel)
end TL

namespace TL
open PySem hiding start
open PySem.Spec
open L2 hiding Dp DpAll
open PyProof.Rows hiding St

/-! ### zip, enumerate -/
section
variable {C : Ctx} {Γ Γ1 Γ2 Γ3 : List Ent} {σ : St} {H H' : Hp} {a b c e e2 o : Expr} {es : List Expr} {d dz : D} {ds ds' : List D} {pos p p' tpos : Pos} {x : Str} {k j n kk : Nat} {rest elts : List Stmt}
theorem pair_new {K : PySem.W.Frag} {F H : Hp} {T : Addr} {x y : V} {dx dy : D} (n : H T = none) (s : Same F H) (hx : Dp K F x dx) (hy : Dp K F y dy) : Same H (upd H T (.tup [x, y])) ∧ Dp K (Gr F H (upd H T (.tup [x, y]))) (.ref T) (.tuple [dx, dy]) := by
  have s2 : Same H (upd H T (.tup [x, y])) := same_new n
  have g : (Gr F H (upd H T (.tup [x, y]))) T = some (.tup [x, y]) := by rw [gr_new n, upd_same]
  exact ⟨s2, .tup (.inl (.inl g)) (.cons (dp_mono' (gr_same s) hx) (.cons (dp_mono' (gr_same s) hy) .nil))⟩
def zipD (xs ys : List D) : List D := (xs.zip ys).map fun p => .tuple [p.1, p.2]
theorem zipD_get {xs ys : List D} {i : Nat} {d : D} (h : (zipD xs ys)[i]? = some d) : ∃ dx dy, xs[i]? = some dx ∧ ys[i]? = some dy ∧ d = .tuple [dx, dy] := by
  unfold zipD at h
  rw [List.getElem?_map] at h
  cases q : (xs.zip ys)[i]? with
  | none => rw [q] at h; cases h
  | some z =>
    rw [q] at h
    cases h
    obtain ⟨q1, q2⟩ := List.getElem?_zip_eq_some.mp q
    exact ⟨_, _, q1, q2, rfl⟩
theorem zipD_len {xs ys : List D} {i : Nat} (h : (zipD xs ys).length ≤ i) : xs.length ≤ i ∨ ys.length ≤ i := by
  unfold zipD at h
  rw [List.length_map, List.length_zip] at h
  omega
theorem it_zipL {elts : List Expr} (hg : Gl C.X "zip") (hm : C.X.mg "zip" = none) (h : EA C [e, e2] Γ [.list ds, .list ds'] Γ1)
    (hs : starEach [e, e2] C.X.env = (false, eval e C.X.env) :: starEach [e2] C.X.env := by rfl) (hpl : (backTo pos (starEach [e2] C.X.env)).any (·.1) = false := by rfl) :
    IT C (.Tuple elts kk tpos) (.Call (.Name "zip" p) [e, e2] [] pos) Γ (zipD ds ds') Γ1 := ⟨h.1, fun σ H Rr ok kk => ⟨_, RZ.pi_zipA hg hm (wa _ [e, e2]) hs hpl, h.2 σ H _ ok fun xs H1 k1 ok1 q1 => by
  match xs, q1 with
  | [x, y], .cons hx (.cons hy .nil) =>
    obtain ⟨a, us, e1, u1, u2⟩ := ls_of ok1.sub hx
    obtain ⟨b, vs, e2, v1, v2⟩ := ls_of ok1.sub hy
    subst e1 e2
    refine ⟨a, b, us, vs, rfl, .inl ⟨.of u1, .of v1, kk [(.ref a, .list ds), (.ref b, .list ds')] _ H1 k1 ok1 (fun p hp => ?_) fun i F H' s g => ?_⟩⟩
    · rcases List.mem_cons.mp hp with q | q
      · subst q; exact hx
      · rw [List.mem_singleton.mp q]; exact hy
    · obtain ⟨a', us', e3, w1, w2⟩ := ls_of s (g (.ref a, .list ds) List.mem_cons_self)
      obtain ⟨b', vs', e4, w3, w4⟩ := ls_of s (g (.ref b, .list ds') (List.mem_cons_of_mem _ List.mem_cons_self))
      cases e3
      cases e4
      refine ⟨fun d hd => ?_, fun hl => ⟨us', vs', .of w1, .of w3, (zipD_len hl).imp (fun q => by rw [dps_len w2]; exact q) fun q => by rw [dps_len w4]; exact q⟩⟩
      obtain ⟨dx, dy, z1, z2, z3⟩ := zipD_get hd
      subst z3
      obtain ⟨x, x1, x2⟩ := dps_get' w2 i dx z1
      obtain ⟨y, y1, y2⟩ := dps_get' w4 i dy z2
      refine ⟨⟨us', vs', x, y, .of w1, .of w3, x1, y1⟩, fun v H2 ⟨T, x', y', e5, n, e6, hx', hy'⟩ => ?_⟩
      subst e5 e6
      have ex : x' = x := Option.some.inj ((hx' us' (.of w1)).symm.trans x1)
      have ey : y' = y := Option.some.inj ((hy' vs' (.of w3)).symm.trans y1)
      subst ex ey
      exact pair_new n s x2 y2⟩⟩
theorem it_zipT {elts : List Expr} (hg : Gl C.X "zip") (hm : C.X.mg "zip" = none) (h : EA C [e, e2] Γ [.tuple ds, .tuple ds'] Γ1)
    (hs : starEach [e, e2] C.X.env = (false, eval e C.X.env) :: starEach [e2] C.X.env := by rfl) (hpl : (backTo pos (starEach [e2] C.X.env)).any (·.1) = false := by rfl) :
    IT C (.Tuple elts kk tpos) (.Call (.Name "zip" p) [e, e2] [] pos) Γ (zipD ds ds') Γ1 := ⟨h.1, fun σ H Rr ok kk => ⟨_, RZ.pi_zipA hg hm (wa _ [e, e2]) hs hpl, h.2 σ H _ ok fun xs H1 k1 ok1 q1 => by
  match xs, q1 with
  | [x, y], .cons hx (.cons hy .nil) =>
    obtain ⟨a, us, e1, u1, u2⟩ := tp_of ok1.sub hx
    obtain ⟨b, vs, e2, v1, v2⟩ := tp_of ok1.sub hy
    subst e1 e2
    refine ⟨a, b, us, vs, rfl, .inr ⟨u1, v1, kk [(.ref a, .tuple ds), (.ref b, .tuple ds')] _ H1 k1 ok1 (fun p hp => ?_) fun i F H' s g => ?_⟩⟩
    · rcases List.mem_cons.mp hp with q | q
      · subst q; exact hx
      · rw [List.mem_singleton.mp q]; exact hy
    · obtain ⟨a', us', e3, w1, w2⟩ := tp_of s (g (.ref a, .tuple ds) List.mem_cons_self)
      obtain ⟨b', vs', e4, w3, w4⟩ := tp_of s (g (.ref b, .tuple ds') (List.mem_cons_of_mem _ List.mem_cons_self))
      cases e3
      cases e4
      refine ⟨fun d hd => ?_, fun hl => ⟨us', vs', w1, w3, (zipD_len hl).imp (fun q => by rw [dps_len w2]; exact q) fun q => by rw [dps_len w4]; exact q⟩⟩
      obtain ⟨dx, dy, z1, z2, z3⟩ := zipD_get hd
      subst z3
      obtain ⟨x, x1, x2⟩ := dps_get' w2 i dx z1
      obtain ⟨y, y1, y2⟩ := dps_get' w4 i dy z2
      refine ⟨⟨us', vs', x, y, w1, w3, x1, y1⟩, fun v H2 ⟨T, x', y', e5, n, e6, hx', hy'⟩ => ?_⟩
      subst e5 e6
      have ex : x' = x := Option.some.inj ((hx' us' w1).symm.trans x1)
      have ey : y' = y := Option.some.inj ((hy' vs' w3).symm.trans y1)
      subst ex ey
      exact pair_new n s x2 y2⟩⟩
def enumD (xs : List D) : List D := (List.range xs.length).zipWith (fun (i : Nat) d => .tuple [.int (i : Int), d]) xs
theorem it_enum {elts : List Expr} (hg : Gl C.X "enumerate") (hm : C.X.mg "enumerate" = none) (h : EA C [e] Γ [.list ds] Γ1) (hs : starEach [e] C.X.env = [(false, eval e C.X.env)] := by rfl) :
    IT C (.Tuple elts kk tpos) (.Call (.Name "enumerate" p) [e] [] pos) Γ (enumD ds) Γ1 := ⟨h.1, fun σ H Rr ok kk => ⟨_, pi_enum hg hm (wa _ [e]) hs, h.2 σ H _ ok fun xs H1 k1 ok1 q1 => by
  match xs, q1 with
  | [x], .cons hx .nil =>
    obtain ⟨a, us, e1, u1, u2⟩ := ls_of ok1.sub hx
    subst e1
    refine ⟨a, us, rfl, .of u1, kk [(.ref a, .list ds)] _ H1 k1 ok1 (fun p hp => by rw [List.mem_singleton.mp hp]; exact hx) fun i F H' s g => ?_⟩
    obtain ⟨a', us', e3, w1, w2⟩ := ls_of s (g (.ref a, .list ds) List.mem_cons_self)
    cases e3
    have len : (enumD ds).length = ds.length := by unfold enumD; rw [List.length_zipWith, List.length_range, Nat.min_self]
    refine ⟨fun d hd => ?_, fun hl => ⟨us', .of w1, by rw [dps_len w2]; omega⟩⟩
    have lt : i < ds.length := by rw [← len]; exact (List.getElem?_eq_some_iff.mp hd).1
    have hd2 : d = .tuple [.int (i : Int), ds[i]] := by
      unfold enumD at hd
      rw [List.getElem?_zipWith, List.getElem?_range lt, List.getElem?_eq_getElem lt] at hd
      exact (Option.some.inj hd).symm
    subst hd2
    obtain ⟨x, x1, x2⟩ := dps_get' w2 i _ (List.getElem?_eq_getElem lt)
    refine ⟨⟨us', x, .of w1, x1⟩, fun v H2 ⟨T, x', e5, n, e6, hx'⟩ => ?_⟩
    subst e5 e6
    have ex : x' = x := Option.some.inj ((hx' us' (.of w1)).symm.trans x1)
    subst ex
    exact pair_new n s (.int _) x2⟩⟩
/-! ### comprehensions with any target -/
theorem lcT {α γ : Type} {l : List α} {f : α → D} {tg iter elt : Expr} {ifs : List Expr} {scope : Scope} {js : List Nat} (own : List (Str × Nat)) (Gt : α → List Ent) (c : α → Bool) (h : α → γ) (g : γ → D) (hv : ∀ v ∈ own.map (·.2), v < Γ1.length ∧ NoT C v ∧ ((Γ1[v]?).getD .no).isOwn = false) (hjs : ∀ j ∈ js, j ∈ own.map (·.2))
    (hi : IT C tg iter Γ (l.map f) Γ1) (hz : l.length ≤ 1000000) (hg : ∀ (y : Sb) x, x ∈ l → Tg (C.sub scope y) tg (wE Γ1 (own.map (·.2))) (f x) (Gt x) js)
    (he : ∀ x, x ∈ l → CE C scope ifs elt (Gt x) (if c x then some (g (h x)) else none) (Gt x)) : LcR C tg iter elt ifs scope (own.map (·.2)) Γ (((l.filter c).map h).map g) Γ1 := by
  have r := lc_read (C := C) (Γ := Γ) (tg := tg) (iter := iter) (elt := elt) (ifs := ifs) (l := l) (f := f) (a0 := ()) (scope := scope) (js := js) (own := own) (fun (_ : Unit) x => (if c x then some (h x) else none, ())) g (fun _ => Γ1) (fun _ x => Gt x)
    hi hz (fun v q => ⟨(hv v q).1, (hv v q).2.1⟩) (fun a i e q1 q2 => by
      have := (hv i q1).2.2
      rw [q2] at this; exact this) hjs (fun _ => .refl) (fun _ _ _ => rfl) (fun y x _ q => hg y x q) (fun x _ q => by
      have := he x q
      show CE C scope ifs elt (Gt x) (Option.map g (if c x = true then some (h x) else none)) (Gt x)
      have e : Option.map g (if c x = true then some (h x) else none) = if c x = true then some (g (h x)) else none := by cases c x <;> rfl
      rw [e]; exact this)
  rw [runC_pure] at r
  exact r
theorem lcTm {α γ : Type} {l : List α} {f : α → D} {tg iter elt : Expr} {scope : Scope} {js : List Nat} (own : List (Str × Nat)) (Gt : α → List Ent) (h : α → γ) (g : γ → D) (hv : ∀ v ∈ own.map (·.2), v < Γ1.length ∧ NoT C v ∧ ((Γ1[v]?).getD .no).isOwn = false) (hjs : ∀ j ∈ js, j ∈ own.map (·.2))
    (hi : IT C tg iter Γ (l.map f) Γ1) (hz : l.length ≤ 1000000) (hg : ∀ (y : Sb) x, x ∈ l → Tg (C.sub scope y) tg (wE Γ1 (own.map (·.2))) (f x) (Gt x) js)
    (he : ∀ x, x ∈ l → CE C scope [] elt (Gt x) (some (g (h x))) (Gt x)) : LcR C tg iter elt [] scope (own.map (·.2)) Γ ((l.map h).map g) Γ1 := by
  have r := lcT (C := C) (Γ := Γ) (scope := scope) own Gt (fun _ => true) h g hv hjs hi hz hg fun x q => by rw [if_pos rfl]; exact he x q
  rw [List.filter_eq_self.mpr fun _ _ => rfl] at r
  exact r
end
/-! ### dicts with keys that are integers -/
abbrev eDI {β : Type} (f : β → D) (l : List (Int × β)) : D := .dict (l.map fun p => (.int p.1, f p.2))
inductive DpI {β : Type} (K : PySem.W.Frag) (F : Hp) (f : β → D) : List (Key × V) → List (Int × β) → Prop
  | nil : DpI K F f [] []
  | cons {i : Int} {v : V} {b : β} {ws : List (Key × V)} {l : List (Int × β)} : Dp K F v (f b) → DpI K F f ws l → DpI K F f ((.inl i, v) :: ws) ((i, b) :: l)
theorem dpi_kv {β : Type} {K : PySem.W.Frag} {F : Hp} {f : β → D} : ∀ {ws : List (Key × V)} {l : List (Int × β)}, DpI K F f ws l → DpKv K F ws (l.map fun p => (.int p.1, f p.2))
  | _, _, .nil => .nil
  | _, _, .cons q r => DpKv.cons (k := .inl _) q (dpi_kv r)
theorem dpi_of {β : Type} {K : PySem.W.Frag} {F : Hp} {f : β → D} : ∀ {l : List (Int × β)} {ws : List (Key × V)} {ks : List (D × D)}, DpKv K F ws ks → ks = (l.map fun p => (.int p.1, f p.2)) → DpI K F f ws l
  | [], _, _, h, e => by
    cases h with
    | nil => exact .nil
    | cons _ _ => cases e
  | (i, b) :: l, _, _, h, e => by
    cases h with
    | nil => cases e
    | cons q r =>
      rename_i k v ws d kvs
      simp only [List.map_cons, List.cons.injEq, Prod.mk.injEq] at e
      obtain ⟨⟨e1, e2⟩, e3⟩ := e
      subst e2
      cases k with
      | inl j =>
        have : j = i := by injection e1
        subst this
        exact .cons q (dpi_of r e3)
      | inr z => cases e1
theorem dpi_mono {β : Type} {K : PySem.W.Frag} {F G : Hp} {f : β → D} (s : Same F G) : ∀ {ws : List (Key × V)} {l : List (Int × β)}, DpI K F f ws l → DpI K G f ws l
  | _, _, .nil => .nil
  | _, _, .cons q r => .cons (dp_mono' s q) (dpi_mono s r)
theorem di_inv {β : Type} {K : PySem.W.Frag} {F : Hp} {f : β → D} {l : List (Int × β)} {x : V} (h : Dp K F x (eDI f l)) : ∃ a ws, x = .ref a ∧ F a = some (.dK ws) ∧ DpI K F f ws l := by
  have g : ∀ d, Dp K F x d → d = eDI f l → ∃ a ws, x = .ref a ∧ F a = some (.dK ws) ∧ DpI K F f ws l := by
    intro d h e
    unfold eDI at e
    cases h with
    | dic q r =>
      injection e with e
      exact ⟨_, _, rfl, q, dpi_of r e⟩
    | scr q r =>
      injection e with e
      cases l with
      | nil => cases e
      | cons p l =>
        injection e with e _
        injection e with e _
        cases e
    | adr b =>
      injection e with e
      cases l with
      | nil => cases e
      | cons p l =>
        injection e with e _
        injection e with e _
        cases e
    | _ => cases e
  exact g _ h rfl
def getI {β : Type} (l : List (Int × β)) (k : Int) : Option β := (l.find? fun p => decide (p.1 = k)).map (·.2)
def putI {β : Type} (l : List (Int × β)) (k : Int) (b : β) : List (Int × β) := if l.any (fun p => decide (p.1 = k)) then l.map (fun p => if p.1 = k then (p.1, b) else p) else l ++ [(k, b)]
theorem dpi_get {β : Type} {K : PySem.W.Frag} {F : Hp} {f : β → D} (k : Int) : ∀ {ws : List (Key × V)} {l : List (Int × β)}, DpI K F f ws l → (getI l k = none ∧ valV ws (.inl k) = none) ∨ ∃ b v, getI l k = some b ∧ valV ws (.inl k) = some v ∧ Dp K F v (f b)
  | _, _, .nil => .inl ⟨rfl, rfl⟩
  | _, _, .cons (i := i) (v := v) (b := b) q r => by
    by_cases e : i = k
    · subst e
      exact .inr ⟨b, v, by unfold getI; rw [List.find?_cons_of_pos (by simp)]; rfl, valV_pos rfl, q⟩
    · have e1 : ∀ ws : List (Key × V), valV (((Sum.inl i : Key), v) :: ws) (Sum.inl k : Key) = valV ws (Sum.inl k) := fun ws => valV_neg (fun z => e (Sum.inl.inj z))
      rw [e1]
      have e2 : ∀ l : List (Int × β), getI ((i, b) :: l) k = getI l k := fun l => by unfold getI; rw [List.find?_cons_of_neg (by simpa using e)]
      rw [e2]
      exact dpi_get k r
theorem getI_mem {β : Type} {l : List (Int × β)} {k : Int} : (getI l k).isSome = decide (k ∈ l.map (·.1)) := by
  induction l with
  | nil => rfl
  | cons p l ih =>
    by_cases e : p.1 = k
    · unfold getI
      rw [List.find?_cons_of_pos (by simpa using e)]
      simp [e]
    · have : getI (p :: l) k = getI l k := by unfold getI; rw [List.find?_cons_of_neg (by simpa using e)]
      rw [this, ih]
      simp [Ne.symm e]
theorem dpi_put {β : Type} {K : PySem.W.Frag} {F : Hp} {f : β → D} {v : V} {b : β} (k : Int) (hv : Dp K F v (f b)) {ws : List (Key × V)} {l : List (Int × β)} (h : DpI K F f ws l) : DpI K F f (putK ws (.inl k) v) (putI l k b) := by
  have ha : ∀ {ws : List (Key × V)} {l : List (Int × β)}, DpI K F f ws l → (ws.any fun kv => decide (kv.1 = Sum.inl k)) = l.any fun p => decide (p.1 = k) := by
    intro ws l h
    induction h with
    | nil => rfl
    | cons q r ih =>
      rw [List.any_cons, List.any_cons, ih]
      congr 1
      simp
  have hm : ∀ {ws : List (Key × V)} {l : List (Int × β)}, DpI K F f ws l → DpI K F f (ws.map fun kv => if kv.1 = Sum.inl k then (kv.1, v) else kv) (l.map fun p => if p.1 = k then (p.1, b) else p) := by
    intro ws l h
    induction h with
    | nil => exact .nil
    | @cons i w b' ws l q r ih =>
      rw [List.map_cons, List.map_cons]
      by_cases e : i = k
      · subst e
        rw [if_pos rfl, if_pos rfl]
        exact .cons hv ih
      · rw [if_neg (fun z => e (Sum.inl.inj z)), if_neg e]
        exact .cons q ih
  have hp : ∀ {ws : List (Key × V)} {l : List (Int × β)}, DpI K F f ws l → DpI K F f (ws ++ [(.inl k, v)]) (l ++ [(k, b)]) := by
    intro ws l h
    induction h with
    | nil => exact .cons hv .nil
    | cons q r ih => exact .cons q ih
  unfold putK putI
  rw [ha h]
  split
  · exact hm h
  · exact hp h
theorem dpi_len {β : Type} {K : PySem.W.Frag} {F : Hp} {f : β → D} {ws : List (Key × V)} {l : List (Int × β)} (h : DpI K F f ws l) : ws.length = l.length := by
  induction h with
  | nil => rfl
  | cons q r ih => rw [List.length_cons, List.length_cons, ih]
end TL

namespace TL
open PySem hiding start
open PySem.Spec
open L2 hiding Dp DpAll
open PyProof.Rows hiding St

section
variable {C : Ctx} {Γ Γ1 Γ2 Γ3 : List Ent} {σ : St} {H H' : Hp} {a b c e e2 o : Expr} {es : List Expr} {d dz : D} {ds ds' : List D} {pos p p' tpos apos : Pos} {x : Str} {k j n : Nat} {i : Int} {β : Type} {f : β → D} {l : List (Int × β)}
theorem din_run {op : CmpOp} {g : Bool → Bool} (ha : E C a Γ (.int i) Γ1) (hb : E C b Γ1 (eDI f l) Γ2) (ok : EnvOk C Γ σ H) {Q : V → Hp → Prop} (kk : ∀ H', Keep (Own Γ σ) H H' → EnvOk C Γ2 σ H' → Q (.bl (g (decide (i ∈ l.map (·.1))))) H') :
    Wp C.X a σ H fun y H1 => Wp C.X b σ H1 fun x H2 => ∃ a o, x = .ref a ∧ DGet H2 a y o ∧ Q (.bl (g o.isSome)) H2 := by
  refine ha.2 σ H _ ok fun y H1 k1 ok1 q1 => hb.2 σ H1 _ ok1 fun x H2 k2 ok2 q2 => ?_
  cases q1
  rw [ha.1.own] at k2 q2
  obtain ⟨ad, ws, e1, e2, e3⟩ := di_inv q2
  subst e1
  have s2 : Same (bas C (Own Γ σ) H2) H2 := by
    have := ok2.sub (O := Own Γ σ)
    exact this
  refine ⟨ad, valV ws (.inl i), rfl, .inl ⟨ws, .inl i, .inl (s2 _ _ e2), rfl, rfl⟩, ?_⟩
  have e4 : (valV ws (Sum.inl i : Key)).isSome = decide (i ∈ l.map (·.1)) := by
    rw [← getI_mem]
    rcases dpi_get i e3 with ⟨w1, w2⟩ | ⟨bb, v, w1, w2, _⟩ <;> rw [w1, w2] <;> rfl
  rw [e4]
  exact kk H2 (k1.trans k2) ok2
theorem e_inDI (hu : C.X.A.units + 1 < cLine) (ha : E C a Γ (.int i) Γ1) (hb : E C b Γ1 (eDI f l) Γ2) (hm : behindInMarks .In b = false := by rfl) : E C (.Compare a [.In] [b] pos) Γ (.bool (decide (i ∈ l.map (·.1)))) Γ2 :=
  ⟨ha.1.trans hb.1, fun σ H Q ok kk => ⟨_, pe_cmp (pc_din hu (wp _ a) (wp _ b)) hm, din_run (op := .In) (g := id) ha hb ok fun H' k1 ok1 => kk _ H' k1 ok1 (.bl _)⟩⟩
theorem e_ninDI (hu : C.X.A.units + 1 < cLine) (ha : E C a Γ (.int i) Γ1) (hb : E C b Γ1 (eDI f l) Γ2) (hm : behindInMarks .NotIn b = false := by rfl) : E C (.Compare a [.NotIn] [b] pos) Γ (.bool (!decide (i ∈ l.map (·.1)))) Γ2 :=
  ⟨ha.1.trans hb.1, fun σ H Q ok kk => ⟨_, pe_cmp (pc_dnotin hu (wp _ a) (wp _ b)) hm, din_run (op := .NotIn) (g := not) ha hb ok fun H' k1 ok1 => kk _ H' k1 ok1 (.bl _)⟩⟩
theorem t_inDI (hu : C.X.A.units + 1 < cLine) (ha : E C a Γ (.int i) Γ1) (hb : E C b Γ1 (eDI f l) Γ2) (hm : behindInMarks .In b = false := by rfl) : T C (.Compare a [.In] [b] pos) Γ (decide (i ∈ l.map (·.1))) Γ2 :=
  ⟨ha.1.trans hb.1, fun σ H Q ok kk => ⟨_, pt_cmp (pc_din hu (wp _ a) (wp _ b)) hm, din_run (op := .In) (g := id) (Q := fun v H' => ∃ k, v = .bl k ∧ Q k H') ha hb ok fun H' k1 ok1 => ⟨_, rfl, kk H' k1 ok1⟩⟩⟩
theorem t_ninDI (hu : C.X.A.units + 1 < cLine) (ha : E C a Γ (.int i) Γ1) (hb : E C b Γ1 (eDI f l) Γ2) (hm : behindInMarks .NotIn b = false := by rfl) : T C (.Compare a [.NotIn] [b] pos) Γ (!decide (i ∈ l.map (·.1))) Γ2 :=
  ⟨ha.1.trans hb.1, fun σ H Q ok kk => ⟨_, pt_cmp (pc_dnotin hu (wp _ a) (wp _ b)) hm, din_run (op := .NotIn) (g := not) (Q := fun v H' => ∃ k, v = .bl k ∧ Q k H') ha hb ok fun H' k1 ok1 => ⟨_, rfl, kk H' k1 ok1⟩⟩⟩
/-- d[k], k there -/
theorem e_dgetI {v : β} (hv : getI l i = some v) (hu : C.X.A.units + 1 < cLine) (hs : NoSl b) (ha : E C a Γ (eDI f l) Γ1) (hb : E C b Γ1 (.int i) Γ2) : E C (.Subscript a b pos) Γ (f v) Γ2 :=
  ⟨ha.1.trans hb.1, fun σ H Q ok kk => ⟨_, pe_dget hu (wp _ a) (wp _ b) hs, ha.2 σ H _ ok fun x H1 k1 ok1 q1 => hb.2 σ H1 _ ok1 fun y H2 k2 ok2 q2 => by
    cases q2
    rw [ha.1.own] at k2
    have q1' := dp_keep k2 q1
    obtain ⟨ad, ws, e1, e2, e3⟩ := di_inv q1'
    subst e1
    rcases dpi_get i e3 with ⟨w1, _⟩ | ⟨bb, v', w1, w2, w3⟩
    · rw [w1] at hv; cases hv
    · rw [w1] at hv
      cases hv
      exact ⟨ad, v', rfl, .inl ⟨ws, .inl i, .inl (ok2.sub _ _ e2), rfl, w2.symm⟩, kk v' H2 (k1.trans k2) ok2 w3⟩⟩⟩
/-! ### dict comprehensions -/
def IFS (C : Ctx) (scope : Scope) (ifs : List Expr) (Γ : List Ent) (b : Bool) : Prop := ∀ (y : Sb) (σ : St) (H : Hp) (Q : Bool → Hp → Prop), EnvOk (C.sub scope y) Γ σ H → (∀ H', Keep (Own Γ σ) H H' → EnvOk (C.sub scope y) Γ σ H' → Q b H') → Wts (C.sub scope y).X ifs σ H Q
theorem ifs_nil {scope : Scope} : IFS C scope [] Γ true := fun y σ H Q ok k => ⟨_, pts_nil, k H .refl ok⟩
theorem ifs_one {scope : Scope} {kb : Bool} {c : Expr} (h : ∀ y, T (C.sub scope y) c Γ kb Γ) : IFS C scope [c] Γ kb := fun y σ H Q ok k => ⟨_, pts_one (wt _ c), (h y).2 σ H _ ok k⟩
def dcI {α β : Type} (c : α → Bool) (kf : α → Int) (vf : α → β) (l : List α) : List (Int × β) := l.foldl (fun acc x => if c x then putI acc (kf x) (vf x) else acc) []
theorem putI_len {β : Type} (l : List (Int × β)) (k : Int) (b : β) : (putI l k b).length ≤ l.length + 1 := by
  unfold putI
  split
  · rw [List.length_map]; omega
  · rw [List.length_append]; exact Nat.le_refl _
theorem dcI_len {α β : Type} (c : α → Bool) (kf : α → Int) (vf : α → β) (l : List α) : (dcI c kf vf l).length ≤ l.length := by
  have g : ∀ (l : List α) (acc : List (Int × β)), (l.foldl (fun acc x => if c x then putI acc (kf x) (vf x) else acc) acc).length ≤ acc.length + l.length := by
    intro l
    induction l with
    | nil => intro acc; exact Nat.le_refl _
    | cons x l ih =>
      intro acc
      rw [List.foldl_cons, List.length_cons]
      have := ih (if c x then putI acc (kf x) (vf x) else acc)
      have h2 : (if c x then putI acc (kf x) (vf x) else acc).length ≤ acc.length + 1 := by
        split
        · exact putI_len _ _ _
        · omega
      omega
  have := g l []
  rw [List.length_nil] at this
  unfold dcI; omega
theorem dc_read {α : Type} {l : List α} {f : α → D} {fv : β → D} {tg iter kx vx : Expr} {ifs : List Expr} {scope : Scope} {js : List Nat} (own : List (Str × Nat)) (Gt : α → List Ent) (c : α → Bool) (kf : α → Int) (vf : α → β) 
    (hv : ∀ v ∈ own.map (·.2), v < Γ1.length ∧ NoT C v ∧ ((Γ1[v]?).getD .no).isOwn = false) (hjs : ∀ j ∈ js, j ∈ own.map (·.2))
    (hi : IT C tg iter Γ (l.map f) Γ1) (hz : l.length ≤ 1000000) (hg : ∀ (y : Sb) x, x ∈ l → Tg (C.sub scope y) tg (wE Γ1 (own.map (·.2))) (f x) (Gt x) js)
    (hifs : ∀ x, x ∈ l → IFS C scope ifs (Gt x) (c x)) (hk : ∀ x, x ∈ l → c x = true → ∀ y, E (C.sub scope y) kx (Gt x) (.int (kf x)) (Gt x)) (hvx : ∀ x, x ∈ l → c x = true → ∀ y, E (C.sub scope y) vx (Gt x) (fv (vf x)) (Gt x))
    (ok : EnvOk C Γ σ H) {Q : VK} (kk : ∀ x H', Keep (Own Γ σ) H H' → EnvOk C Γ1 σ H' → Dp C.X.K (bas C (Own Γ σ) H') x (eDI fv (dcI c kf vf l)) → Q x H') : tDc (Wi C.X tg iter) (gAll C scope tg) (tAll C scope ifs) (eAll C scope kx) (eAll C scope vx) (own.map (·.2)) σ H Q := by
  refine hi.2 σ H _ ok fun gs Jt H1 k1 ok1 g1 it Dl hD => ?_
  generalize hvs : own.map (·.2) = vs at *
  have lm : (l.map f).length = l.length := List.length_map ..
  have e1 : Own Γ1 σ = Own Γ σ := hi.1.own
  rw [← e1] at g1
  have hn0 : H Dl = none := by
    cases w : H Dl with
    | none => rfl
    | some o =>
      by_cases n : Own Γ σ Dl
      · obtain ⟨us, w2⟩ := ok1.ownAt (e1 ▸ n : Own Γ1 σ Dl)
        rw [w2] at hD; cases hD
      · rw [k1 Dl o n w] at hD; cases hD
  have oka : EnvOk (C.gho gs) Γ1 σ H1 := ok1.gho g1
  obtain ⟨D0, Dn⟩ := oka.fresh hD
  have Db : C.B0 Dl = none := by
    cases q : C.B0 Dl with
    | none => rfl
    | some o => rw [oka.base Dl o q] at D0; cases D0
  have Dm : Dl ∉ C.mu := fun z => Dn (oka.mus z)
  refine ⟨fun i m H' => m = l.length - i ∧ i ≤ l.length ∧ Keep (Own Γ1 σ) H1 H' ∧ EnvOk (C.gho gs) Γ1 σ (del H' Dl) ∧
      ∃ acc, H' Dl = some (.dK acc) ∧ DpI C.X.K (bas (C.gho gs) (Own Γ1 σ) (del H' Dl)) fv acc (dcI c kf vf (l.take i)), ⟨l.length, rfl, Nat.zero_le _, .same (same_new hD), ?_, [], upd_same, .nil⟩, ?_⟩
  · rw [del_upd hD]; exact oka
  rintro i m H' ⟨rfl, hli, kp, ok', acc, ha, da⟩
  obtain ⟨okh, eb⟩ := ok'.hide ha
  obtain ⟨t1, t2⟩ := it i _ H' okh.sub (fun p hp => okh.ghs p (List.mem_append.mpr (.inl hp)))
  by_cases lt : i < l.length
  · have hx : l[i] ∈ l := List.getElem_mem lt
    have hget : l[i]? = some l[i] := List.getElem?_eq_getElem lt
    have hrun : dcI c kf vf (l.take (i + 1)) = if c l[i] then putI (dcI c kf vf (l.take i)) (kf l[i]) (vf l[i]) else dcI c kf vf (l.take i) := by
      have : l.take (i + 1) = l.take i ++ [l[i]] := by rw [List.take_add_one, hget]; rfl
      unfold dcI
      rw [this, List.foldl_append]; rfl
    generalize l[i] = x at hx hget hrun
    obtain ⟨go, yl⟩ := t1 (f x) (by rw [List.getElem?_map, hget]; rfl)
    refine .inr ⟨go, fun H2 => Keep (Own Γ1 σ) H1 H2 ∧ EnvOk (C.gho gs) Γ1 σ (del H2 Dl) ∧
      ∃ acc, H2 Dl = some (.dK acc) ∧ DpI C.X.K (bas (C.gho gs) (Own Γ1 σ) (del H2 Dl)) fv acc (dcI c kf vf (l.take (i + 1))), fun H2 ⟨z1, z2, z3⟩ => ⟨l.length - (i + 1), by omega, rfl, lt, z1, z2, z3⟩, fun v H2 hy => ?_⟩
    obtain ⟨s2, dx⟩ := yl v H2 hy
    have ok2 := okh.mono s2
    have dx2 := gr_bas okh s2 dx
    have kp2 : Keep (Own Γ1 σ) H1 H2 := kp.trans (.same s2)
    have ha2 : H2 Dl = some (.dK acc) := s2 _ _ ha
    intro s Hh A cl fp
    let y : Sb := ⟨s, Hh, A, cl, fp, upd C.H0 Dl (.dK acc), gs⟩
    have okw : EnvOk (C.sub scope y) (wE Γ1 vs) (wipe σ vs) H2 := EnvOk.inX (C := { (C.gho gs) with H0 := upd C.H0 Dl (.dK acc) }) (X' := C.X.blk s Hh scope (compEnvC scope cl A C.X.env) fp) rfl (ok2.wiped vs fun v hv' => ⟨(hv v hv').1, (hv v hv').2.1⟩)
    have dxw : Dp C.X.K (bas (C.sub scope y) (Own (wE Γ1 vs) (wipe σ vs)) H2) v (f x) := dp_mono (bas_anti fun b => own_wiped vs b) _ _ dx2
    refine (hg y x hx).2 _ H2 v _ okw dxw fun σ2 ag sub2 ok3 => ?_
    have agv : ∀ i : Nat, i ∉ vs → σ2[i]? = σ[i]? := fun i hi => by
      rw [ag.2 i fun z => hi (hjs i z), wipe_get, if_neg hi]
    refine ⟨by
      rw [wipe_agree ag hjs]
      apply List.ext_getElem?
      intro i
      rw [wipe_get, wipe_get, wipe_length]
      by_cases z : i ∈ vs
      · rw [if_pos z, if_pos z]
      · rw [if_neg z, if_neg z], ?_⟩
    have subO : ∀ b, Own (Gt x) σ2 b → Own Γ1 σ b := fun b h => own_wiped vs b (sub2 b h)
    have notv : ∀ (i : Nat) (e : Ent), Γ1[i]? = some e → e.isOwn = true → i ∉ vs := fun i e q1 q2 z => by
      have := (hv i z).2.2
      rw [q1] at this
      have : e.isOwn = false := this
      rw [q2] at this; cases this
    have subO' : ∀ b, Own Γ1 σ b → Own (Gt x) σ2 b := fun b h => by
      obtain ⟨i, e, q1, q2, q3⟩ := h
      have n := notv i e q1 q2
      exact ⟨i, e, by rw [(hg y x hx).1.2 i fun z => n (hjs i z), wE_get _ _ _ n]; exact q1, q2, by rw [agv i n]; exact q3⟩
    have eO2 : Own (Gt x) σ2 = Own Γ1 σ := funext fun b => propext ⟨subO b, subO' b⟩
    have after : ∀ H4, Keep (Own (Gt x) σ2) H2 H4 → EnvOk (C.sub scope y) (Gt x) σ2 H4 → Keep (Own Γ1 σ) H1 H4 ∧ H4 Dl = some (.dK acc) ∧ EnvOk (C.gho gs) Γ1 σ (del H4 Dl) := fun H4 k4 ok4 => by
      have k4' : Keep (Own Γ1 σ) H2 H4 := fun b o n h => k4 b o (fun z => n (subO b z)) h
      have ok4' : EnvOk { (C.gho gs) with H0 := upd C.H0 Dl (.dK acc) } (Gt x) σ2 H4 := EnvOk.inX (C := C.sub scope y) (X' := C.X) rfl ok4
      obtain ⟨ok5, h5⟩ := EnvOk.unhide (C := C.gho gs) D0 Db ok4' Dm
      refine ⟨kp2.trans k4', h5, EnvOk.back (Γ := Γ1) (Γ1 := Γ1) (Γ2 := Gt x) (σ' := σ2) (Ha := del H' Dl) (vs := vs) ok' ok5 ?_ .refl (fun i hi => ?_) agv (fun i hi => rfl) (fun i e hi he' => ?_) (fun v hv' => (hv v hv').2.1)⟩
      · intro b o n h
        have nb : b ≠ Dl := fun z => by subst z; rw [del_same] at h; cases h
        rw [del_ne nb] at h ⊢
        exact k4' b o n (s2 b o h)
      · rw [(hg y x hx).1.2 i fun z => hi (hjs i z), wE_get _ _ _ hi]
      · have := (hv i hi).2.2
        rw [he'] at this; exact this
    have db : DpI C.X.K (bas (C.gho gs) (Own Γ1 σ) (del H2 Dl)) fv acc (dcI c kf vf (l.take i)) := dpi_mono (bas_mono fun b o n h => by
      have nb : b ≠ Dl := fun z => by subst z; rw [del_same] at h; cases h
      rw [del_ne nb] at h ⊢
      exact s2 b o h) da
    have db4 : ∀ H4, Keep (Own (Gt x) σ2) H2 H4 → DpI C.X.K (bas (C.gho gs) (Own Γ1 σ) (del H4 Dl)) fv acc (dcI c kf vf (l.take i)) := fun H4 k4 => dpi_mono (bas_mono fun b o n h => by
      have nb : b ≠ Dl := fun z => by subst z; rw [del_same] at h; cases h
      rw [del_ne nb] at h ⊢
      exact k4 b o (fun z => n (subO b z)) h) db
    intro s' Hh' A' cl' fp'
    let y2 : Sb := ⟨s', Hh', A', cl', fp', upd C.H0 Dl (.dK acc), gs⟩
    have okT : EnvOk (C.sub scope y2) (Gt x) σ2 H2 := EnvOk.inX (C := C.sub scope y) (X' := C.X.blk s' Hh' scope (compEnvC scope cl' A' C.X.env) fp') rfl ok3
    refine hifs x hx y2 σ2 H2 _ okT fun H3 k3 ok3' => ?_
    cases hcx : c x with
    | false =>
      refine iteF ?_
      obtain ⟨z1, z2, z3⟩ := after H3 k3 (EnvOk.inX (C := C.sub scope y2) (X' := (C.sub scope y).X) rfl ok3')
      rw [hcx, if_neg Bool.false_ne_true] at hrun
      rw [hrun]
      exact ⟨z1, z3, acc, z2, db4 H3 k3⟩
    | true =>
      refine iteT ?_
      rw [hcx, if_pos rfl] at hrun
      intro s5 Hh5 A5 cl5 fp5
      let y3 : Sb := ⟨s5, Hh5, A5, cl5, fp5, upd C.H0 Dl (.dK acc), gs⟩
      have okK : EnvOk (C.sub scope y3) (Gt x) σ2 H3 := EnvOk.inX (C := C.sub scope y2) (X' := C.X.blk s5 Hh5 scope (compEnvC scope cl5 A5 C.X.env) fp5) rfl ok3'
      refine (hk x hx hcx y3).2 σ2 H3 _ okK fun yk H4 k4 ok4 qk => ?_
      cases qk
      intro s6 Hh6 A6 cl6 fp6
      let y4 : Sb := ⟨s6, Hh6, A6, cl6, fp6, upd C.H0 Dl (.dK acc), gs⟩
      have okV : EnvOk (C.sub scope y4) (Gt x) σ2 H4 := EnvOk.inX (C := C.sub scope y3) (X' := C.X.blk s6 Hh6 scope (compEnvC scope cl6 A6 C.X.env) fp6) rfl ok4
      refine (hvx x hx hcx y4).2 σ2 H4 _ okV fun z H5 k5 ok5 qz => ?_
      have kAll := (k3.trans k4).trans k5
      obtain ⟨z1, z2, z3⟩ := after H5 kAll (EnvOk.inX (C := C.sub scope y4) (X' := (C.sub scope y).X) rfl ok5)
      have len : acc.length ≤ i := by
        rw [dpi_len da]
        refine Nat.le_trans (dcI_len c kf vf _) ?_
        rw [List.length_take]; omega
      have dd : del (upd H5 Dl (.dK (putK acc (.inl (kf x)) z))) Dl = del H5 Dl := by
        funext b
        by_cases e : b = Dl
        · subst e; rw [del_same, del_same]
        · rw [del_ne e, del_ne e, upd_ne e]
      refine ⟨acc, .inl (kf x), rfl, z2, by rw [sizeLine_eq]; omega, fun b o n h => ?_, by rw [dd]; exact z3, putK acc (.inl (kf x)) z, upd_same, ?_⟩
      · rw [upd_ne (fun w => by subst w; rw [hD] at h; cases h)]
        exact z1 b o n h
      · rw [dd, hrun]
        refine dpi_put (kf x) ?_ (db4 H5 kAll)
        show Dp C.X.K _ z (fv (vf x))
        rw [← eb]
        have qz : Dp C.X.K (bas (C.sub scope y4) (Own (Gt x) σ2) H5) z (fv (vf x)) := qz
        rw [eO2] at qz
        exact qz
  · have e2 : i = l.length := by omega
    refine ⟨t2 (by rw [lm]; omega), ?_⟩ |> Or.inl
    rw [e2, List.take_length] at da
    have okF := ok'.ungho
    -- the dict becomes part of what is read
    have hm : Same (del H' Dl) H' := del_sub
    have nD := (ok'.fresh (del_same (H := H') (p := Dl))).2
    refine kk (.ref Dl) H' (k1.trans (by rw [← e1]; exact kp)) (okF.mono hm) ?_
    rw [← e1]
    have hb : bas C (Own Γ1 σ) H' Dl = some (.dK acc) := by
      rw [bas_eq nD, D0]; exact ha
    refine .dic hb (dpi_kv (dpi_mono (bas_mono (Keep.same hm)) da))
theorem e_dc {α : Type} {l : List α} {f : α → D} {fv : β → D} {tg iter kx vx : Expr} {ifs : List Expr} {scope : Scope} {js : List Nat} (own : List (Str × Nat)) (Gt : α → List Ent) (c : α → Bool) (kf : α → Int) (vf : α → β) (hc : C.X.calm = true) (hN : C.X.N.Nodup) (okb : BlkOk C.X.N C.X.env.scope scope own)
    (hv : ∀ v ∈ own.map (·.2), v < Γ1.length ∧ NoT C v ∧ ((Γ1[v]?).getD .no).isOwn = false) (hjs : ∀ j ∈ js, j ∈ own.map (·.2))
    (hi : IT C tg iter Γ (l.map f) Γ1) (hz : l.length ≤ 1000000) (hg : ∀ (y : Sb) x, x ∈ l → Tg (C.sub scope y) tg (wE Γ1 (own.map (·.2))) (f x) (Gt x) js)
    (hifs : ∀ x, x ∈ l → IFS C scope ifs (Gt x) (c x)) (hk : ∀ x, x ∈ l → c x = true → ∀ y, E (C.sub scope y) kx (Gt x) (.int (kf x)) (Gt x)) (hvx : ∀ x, x ∈ l → c x = true → ∀ y, E (C.sub scope y) vx (Gt x) (fv (vf x)) (Gt x))
    (hs : ∀ x, foldedSetIterable iter C.X.env x = pure x := by intro _; rfl) :
    E C (.DictComp kx vx [⟨tg, iter, ifs, 0⟩] scope pos) Γ (eDI fv (dcI c kf vf l)) Γ1 :=
  ⟨hi.1, fun σ H Q ok kk => ⟨_, pe_dc (own := own) hc hN (wi _ tg iter) okb gAll_pg tAll_pt (eAll_pe (elt := kx)) (eAll_pe (elt := vx)) hs, dc_read own Gt c kf vf hv hjs hi hz hg hifs hk hvx ok kk⟩⟩
theorem ps_setDc {X : Cx} {i : Nat} {y : Str} {py : Pos} {kx vx tg iter : Expr} {ifs : List Expr} {scope : Scope} {own : List (Str × Nat)} {pos spos : Pos} {wi : TI} {g : TG} {tt : TT} {tk tv : TE} (hc : X.calm = true) (hN : X.N.Nodup) (hy : X.N[i]? = some y) (hyl : X.env.scope.names.lookup y = some .local)
    (hsw : swapsWith (.DictComp kx vx [⟨tg, iter, ifs, 0⟩] scope pos) (some (.Name y py)) spos.line X.env = pure true) (hi : PI X tg iter wi) (ok : BlkOk X.N X.env.scope scope own)
    (hg : ∀ s H C cl fp, PG (X.blk s H scope (compEnvC scope cl C X.env) fp) tg g) (ht : ∀ s H C cl fp, PTs (X.blk s H scope (compEnvC scope cl C X.env) fp) ifs tt) (hk : ∀ s H C cl fp, PE (X.blk s H scope (compEnvC scope cl C X.env) fp) kx tk) (he : ∀ s H C cl fp, PE (X.blk s H scope (compEnvC scope cl C X.env) fp) vx tv) (hs : ∀ x, foldedSetIterable iter X.env x = pure x := by intro _; rfl) :
    PS X (.Assign [.Name y py] (.DictComp kx vx [⟨tg, iter, ifs, 0⟩] scope pos) spos) (tAsg (tDc wi g tt tk tv (own.map (·.2))) (gName i)) := by
  refine ⟨fun pins s σ H D I h => ?_⟩
  rw [exec_Assign_Name_used _ _ _ _ hsw]
  refine wpAny_bind (wpAny_standAt (wpAny_bind ?_))
  show wpAny _ X.A (comprehension (.DictComp kx vx [⟨tg, iter, ifs, 0⟩] scope pos) scope X.env (firstIterPos [⟨tg, iter, ifs, 0⟩] pos) newDict false (eval iter X.env) (some (assign (.Name y py) X.env)) >>= fun _ => _) _ _ s
  refine wpAny_bind (thn (dc_core (Qf := fun _ t => SP X pins D .next t) hc hN I hi ok hg ht hk he hs h fun L C t m H' I' q hn f => ?_) fun _ t hq => wpAny_pure (wpAny_pure hq))
  obtain ⟨f0, f1, f2, f3, f4, f5⟩ := f
  show wpAny _ _ (assign (.Name y py) X.env (.ref L)) _ _ _
  refine wpAny_assign_Name (store_ok2 (v := V.ref L) I' hN hy (.inl hyl) rfl (fun t2 I2 ⟨a, sb, ha⟩ => ?_) (.inr hyl))
  have far : C ≠ a := ha.elim (fun z => by rw [z]; exact f1) fun z e => f4 y a z e.symm
  exact ⟨m, hn.sameBut sb far, fun h3 sb3 => ⟨_, H', I2.turned (t' := t2.toks) (fun b o hb e => (sb3.2 b hb).trans e) f0 f1 f3 f4 f5, q⟩⟩
theorem sw_trueD {kx vx : Expr} {gs : List Comprehension} {scope : Scope} {pos py : Pos} {y : Str} {n : Nat} {env : Env} (hk : env.scope.kind = .function) (hy : env.scope.names.lookup y = some .local) (hl : (py.line == pos.line) = true)
    (ha : (scope.names.any fun (n, k) => n == y && (k == .local || k == .cell)) = false) : swapsWith (.DictComp kx vx gs scope pos) (some (.Name y py)) n env = pure true := by
  have kb : env.blockKind = .function := by unfold Env.blockKind; rw [hk]; rfl
  have ky : env.kindOf y = some .local := hy
  unfold swapsWith
  simp only [kb, ky, ha, Expr.pos, hl]
  rfl
theorem b_setDc {α : Type} {l : List α} {f : α → D} {fv : β → D} {tg iter kx vx : Expr} {ifs : List Expr} {scope : Scope} {js : List Nat} {py spos : Pos} (n : Nat) (own : List (Str × Nat)) (Gt : α → List Ent) (c : α → Bool) (kf : α → Int) (vf : α → β) (hc : C.X.calm = true) (hN : C.X.N.Nodup) (hy : C.X.N[n]? = some x) (hyl : C.X.env.scope.names.lookup x = some .local) (hl : n < Γ1.length) (ht : NoT C n)
    (hsw : swapsWith (.DictComp kx vx [⟨tg, iter, ifs, 0⟩] scope pos) (some (.Name x py)) spos.line C.X.env = pure true) (okb : BlkOk C.X.N C.X.env.scope scope own)
    (hv : ∀ v ∈ own.map (·.2), v < Γ1.length ∧ NoT C v ∧ ((Γ1[v]?).getD .no).isOwn = false) (hjs : ∀ j ∈ js, j ∈ own.map (·.2))
    (hi : IT C tg iter Γ (l.map f) Γ1) (hz : l.length ≤ 1000000) (hg : ∀ (y : Sb) x, x ∈ l → Tg (C.sub scope y) tg (wE Γ1 (own.map (·.2))) (f x) (Gt x) js)
    (hifs : ∀ x, x ∈ l → IFS C scope ifs (Gt x) (c x)) (hk : ∀ x, x ∈ l → c x = true → ∀ y, E (C.sub scope y) kx (Gt x) (.int (kf x)) (Gt x)) (hvx : ∀ x, x ∈ l → c x = true → ∀ y, E (C.sub scope y) vx (Gt x) (fv (vf x)) (Gt x))
    (hs : ∀ x, foldedSetIterable iter C.X.env x = pure x := by intro _; rfl) :
    B C (.Assign [.Name x py] (.DictComp kx vx [⟨tg, iter, ifs, 0⟩] scope pos) spos) Γ (.nx (Γ1.set n (.v (eDI fv (dcI c kf vf l))))) := fun σ H Z ok kk =>
  ⟨_, ps_setDc (own := own) (i := n) hc hN hy hyl hsw (wi _ tg iter) okb gAll_pg tAll_pt (eAll_pe (elt := kx)) (eAll_pe (elt := vx)) hs, dc_read own Gt c kf vf hv hjs hi hz hg hifs hk hvx ok fun v H1 k1 ok1 q1 => kk _ H1 (ok1.put hl ht rfl ⟨v, rfl, by rw [hi.1.own]; exact q1⟩)⟩
end
end TL

namespace TL
open PySem hiding start
open PySem.Spec
open L2 hiding Dp DpAll
open PyProof.Rows hiding St

section
variable {C : Ctx} {Γ Γ1 Γ2 Γ3 : List Ent} {σ : St} {H H' : Hp} {a b c e e2 o : Expr} {es : List Expr} {d dz : D} {ds ds' : List D} {pos p p' tpos apos : Pos} {x : Str} {k j n : Nat} {i : Int} {β : Type} {f : β → D} {l : List (Int × β)}
abbrev prD (f : β → D) (q : Int × β) : D := .tuple [.int q.1, f q.2]
theorem pairs_dp {K : PySem.W.Frag} {F H : Hp} (s : Same F H) : ∀ {l : List (Int × β)} {vs : List V}, DpAll K F vs (l.map (prD f)) → ∃ (ps : List Addr) (kvs : List (Key × V)), vs = ps.map V.ref ∧ Paired (fun p kv => SqT K H p [kV kv.1, kv.2]) ps kvs ∧ kvs.length = l.length ∧ ∀ (acc : List (Key × V)) (al : List (Int × β)), DpI K F f acc al → DpI K F f (mergeK acc kvs) (l.foldl (fun m q => putI m q.1 q.2) al)
  | [], _, h => by
    cases h
    exact ⟨[], [], rfl, .nil, rfl, fun acc al h => h⟩
  | (k, b) :: l, _, h => by
    cases h with
    | cons h1 h2 =>
      obtain ⟨ps, kvs, e1, e2, e3, e4⟩ := pairs_dp s h2
      obtain ⟨p, us, q1, q2, q3⟩ := tp_of s h1
      cases q3 with
      | cons hy r =>
      cases r with
      | cons hz r2 =>
        cases r2
        cases hy
        rename_i z
        refine ⟨p :: ps, (.inl k, z) :: kvs, by rw [q1, e1]; rfl, .cons q2 e2, by rw [List.length_cons, List.length_cons, e3], fun acc al h => ?_⟩
        exact e4 _ _ (dpi_put k hz h)
theorem e_dictP (hc : C.X.calm = true) (hg : Gl C.X "dict") (hm : C.X.mg "dict" = none) (ha : E C a Γ (.list (l.map (prD f))) Γ1) (he : starEach [a] C.X.env = (false, eval a C.X.env) :: starEach [] C.X.env := by rfl) (hpl : (backTo pos (starEach [] C.X.env)).any (·.1) = false := by rfl) : E C (.Call (.Name "dict" p) [a] [] pos) Γ (eDI f (dcI (fun _ => true) (·.1) (·.2) l)) Γ1 :=
  e_ct (call_dictP hc) (A := rD (.list (l.map (prD f)))) (fun F H x Q s hx q => by
    obtain ⟨ad, vs, e1, e2, e3⟩ := ls_of s hx
    obtain ⟨ps, kvs, w1, w2, w3, w4⟩ := pairs_dp s e3
    subst e1 w1
    refine ⟨ad, ps, kvs, rfl, .of e2, w2, fun p hp => ?_⟩
    have s2 : Same H (upd H p (.dK (mergeK [] kvs))) := same_new hp
    refine q (.ref p) _ s2 (.dic (by rw [gr_new hp, upd_same]) (dpi_kv (dpi_mono (gr_same s) ?_)))
    have := w4 [] [] .nil
    unfold dcI
    simpa using this) hg hm (by decide +kernel) ha (by decide) (by decide) he hpl
theorem el_sortedD (hc : C.X.calm = true) (hl : l.length < 64) (hg : Gl C.X "sorted") (hm : C.X.mg "sorted" = none) (ha : E C a Γ (eDI f l) Γ1) (he : starEach [a] C.X.env = (false, eval a C.X.env) :: starEach [] C.X.env := by rfl) (hpl : (backTo pos (starEach [] C.X.env)).any (·.1) = false := by rfl) : EL C (.Call (.Name "sorted" p) [a] [] pos) Γ ((srt (l.map (·.1))).map eI) Γ1 :=
  el_cb (call_sortedDI hc) (A := rD (eDI f l)) (fun F H x Q s hx q => by
    obtain ⟨ad, ws, e1, e2, e3⟩ := di_inv hx
    subst e1
    have keys : ∀ {ws : List (Key × V)} {l : List (Int × β)}, DpI C.X.K F f ws l → ws.map (·.1) = (l.map (·.1)).map Sum.inl := by
      intro ws l h
      induction h with
      | nil => rfl
      | cons q r ih => rw [List.map_cons, List.map_cons, List.map_cons, ih]
    refine ⟨ad, ws, l.map (·.1), rfl, .inl (s _ _ e2), keys e3, by rw [List.length_map]; exact hl, fun ys p hp hs hn => ?_⟩
    have : ys = srt (l.map (·.1)) := sorted_unique (hp.trans (srt_perm _).symm) hs (srt_sorted _)
    subst this
    exact q.new s hn dps_of_int) hg hm (by decide +kernel) ha (by decide) (by decide) he hpl
def enumI {α : Type} (xs : List α) : List (Int × α) := (List.range xs.length).zipWith (fun (i : Nat) x => ((i : Int), x)) xs
theorem it_zipLT {α γ : Type} {xs : List α} {ys : List γ} {f : α → D} {g : γ → D} {elts : List Expr} {kk : Nat} (hg : Gl C.X "zip") (hm : C.X.mg "zip" = none) (h : EA C [e, e2] Γ [eL f xs, eL g ys] Γ1)
    (hs : starEach [e, e2] C.X.env = (false, eval e C.X.env) :: starEach [e2] C.X.env := by rfl) (hpl : (backTo pos (starEach [e2] C.X.env)).any (·.1) = false := by rfl) :
    IT C (.Tuple elts kk tpos) (.Call (.Name "zip" p) [e, e2] [] pos) Γ ((xs.zip ys).map (eP f g)) Γ1 := by
  have := it_zipL (p := p) (kk := kk) (tpos := tpos) (elts := elts) hg hm h hs hpl
  unfold zipD at this
  rw [List.zip_map, List.map_map] at this
  exact this
theorem it_zipTT {α γ : Type} {xs : List α} {ys : List γ} {f : α → D} {g : γ → D} {elts : List Expr} {kk : Nat} (hg : Gl C.X "zip") (hm : C.X.mg "zip" = none) (h : EA C [e, e2] Γ [eT f xs, eT g ys] Γ1)
    (hs : starEach [e, e2] C.X.env = (false, eval e C.X.env) :: starEach [e2] C.X.env := by rfl) (hpl : (backTo pos (starEach [e2] C.X.env)).any (·.1) = false := by rfl) :
    IT C (.Tuple elts kk tpos) (.Call (.Name "zip" p) [e, e2] [] pos) Γ ((xs.zip ys).map (eP f g)) Γ1 := by
  have := it_zipT (p := p) (kk := kk) (tpos := tpos) (elts := elts) hg hm h hs hpl
  unfold zipD at this
  rw [List.zip_map, List.map_map] at this
  exact this
theorem it_enumT {α : Type} {xs : List α} {f : α → D} {elts : List Expr} {kk : Nat} (hg : Gl C.X "enumerate") (hm : C.X.mg "enumerate" = none) (h : EA C [e] Γ [eL f xs] Γ1) (hs : starEach [e] C.X.env = [(false, eval e C.X.env)] := by rfl) :
    IT C (.Tuple elts kk tpos) (.Call (.Name "enumerate" p) [e] [] pos) Γ ((enumI xs).map (eP eI f)) Γ1 := by
  have := it_enum (p := p) (pos := pos) (kk := kk) (tpos := tpos) (elts := elts) hg hm h hs
  unfold enumD at this
  unfold enumI
  rw [List.map_zipWith]
  rw [List.length_map, List.zipWith_map_right] at this
  exact this
theorem all1 {P : Nat → Prop} {a : Nat} (ha : P a) : ∀ v ∈ [a], P v := fun v hv => by rw [List.mem_singleton.mp hv]; exact ha
theorem all2 {P : Nat → Prop} {a b : Nat} (ha : P a) (hb : P b) : ∀ v ∈ [a, b], P v := fun v hv => by
  rcases List.mem_cons.mp hv with q | q
  · rw [q]; exact ha
  · exact all1 hb v q
theorem all3 {P : Nat → Prop} {a b c : Nat} (ha : P a) (hb : P b) (hc : P c) : ∀ v ∈ [a, b, c], P v := fun v hv => by
  rcases List.mem_cons.mp hv with q | q
  · rw [q]; exact ha
  · exact all2 hb hc v q
theorem all4 {P : Nat → Prop} {a b c d : Nat} (ha : P a) (hb : P b) (hc : P c) (hd : P d) : ∀ v ∈ [a, b, c, d], P v := fun v hv => by
  rcases List.mem_cons.mp hv with q | q
  · rw [q]; exact ha
  · exact all3 hb hc hd v q
theorem b_setTape (i : Nat) {x : Str} {p' : Pos} {cl : List Int} (hN : C.X.N.Nodup) (hi : C.X.N[i]? = some x) (hx : Loc C.X.env.scope x) (hf : C.X.fn x = true ∨ C.X.env.scope.names.lookup x = some .local) (hl : i < Γ1.length) (ht : NoT C i)
    (h : EL C e Γ (cl.map eI) Γ1) (hs : swapsWith e (some (.Name x p')) pos.line C.X.env = pure false) : B C (.Assign [.Name x p'] e pos) Γ (.nx (Γ1.set i (oL eI (List.reverse (List.reverse cl))))) := by
  rw [List.reverse_reverse]
  exact b_setO i hN hi hx hf hl ht h hs
end
end TL
theorem L2.Room.units1 {k : Nat} {A : PySem.Around} (r : L2.Room k A) : A.units + 1 < PySem.cLine := by have := r.un; omega

namespace TL
open PySem hiding start
open PySem.Spec
open L2 hiding Dp DpAll
open PyProof.Rows hiding St

/-! ### truth of a tree -/
def truD : D → Bool
  | .none => false
  | .bool b => b
  | .int i => i != 0
  | .str x => ((x.length : Int) != 0)
  | .list xs => !xs.isEmpty
  | .tuple xs => !xs.isEmpty
  | .dict _ => false
/-- a tree whose truth is known: no dict, no too long text -/
def TrOk : D → Prop
  | .str x => x.length ≤ sizeLine
  | .dict _ => False
  | _ => True
theorem tru_of {K : PySem.W.Frag} {F H : Hp} {x : V} {d : D} (s : Same F H) (h : Dp K F x d) (t : TrOk d) : TruV K x H (truD d) := by
  have emp : ∀ {xs : List V} {ds : List D}, DpAll K F xs ds → xs.isEmpty = ds.isEmpty := fun h => by cases h <;> rfl
  cases d with
  | none => cases h; rfl
  | bool b => cases h; rfl
  | int i => cases h; rfl
  | str y => cases h; exact ⟨t, rfl⟩
  | list ds =>
    obtain ⟨a, vs, e1, e2, e3⟩ := ls_of s h
    subst e1
    exact .inl ⟨vs, .of e2, by show (!ds.isEmpty) = _; rw [emp e3]⟩
  | tuple ds =>
    obtain ⟨a, vs, e1, e2, e3⟩ := tp_of s h
    subst e1
    exact .inr (.inl ⟨vs, e2, by show (!ds.isEmpty) = _; rw [emp e3]⟩)
  | dict _ => exact t.elim
section
variable {C : Ctx} {Γ Γ1 Γ2 Γ3 : List Ent} {σ : St} {H H' : Hp} {a b c e e2 o : Expr} {es : List Expr} {d d1 d2 dz : D} {ds ds' : List D} {pos p p' tpos apos : Pos} {x : Str} {k j n : Nat} {i : Int}
theorem e_notV (t : TrOk d) (ha : E C a Γ d Γ1) : E C (.UnaryOp .Not a pos) Γ (.bool (!truD d)) Γ1 :=
  ⟨ha.1, fun σ H Q ok kk => ⟨_, pe_notT (wp _ a), ha.2 σ H _ ok fun x H1 k1 ok1 q1 => ⟨truD d, tru_of ok1.sub q1 t, kk _ H1 k1 ok1 (.bl _)⟩⟩⟩
theorem t_valV (t : TrOk d) (ha : E C e Γ d Γ1) (he : ∀ whole, isTrue e C.X.env whole = (do let v ← whole; standAt e.pos; holding [v] (truthy v)) := by intro _; rfl) : T C e Γ (truD d) Γ1 :=
  ⟨ha.1, fun σ H Q ok kk => ⟨_, pt_truth (wp _ e) he, ha.2 σ H _ ok fun x H1 k1 ok1 q1 => ⟨truD d, tru_of ok1.sub q1 t, kk H1 k1 ok1⟩⟩⟩
theorem e_notL (ha : R C a Γ ds Γ1) : E C (.UnaryOp .Not a pos) Γ (.bool ds.isEmpty) Γ1 :=
  ⟨ha.1, fun σ H Q ok kk => ⟨_, pe_notT (wp _ a), ha.2 σ H _ ok fun x H1 k1 ok1 ⟨ad, vs, e1, e2, e3⟩ => by
    subst e1
    have emp : vs.isEmpty = ds.isEmpty := by cases e3 <;> rfl
    have := kk (.bl ds.isEmpty) H1 k1 ok1 (.bl _)
    exact ⟨!ds.isEmpty, .inl ⟨vs, .of e2, by rw [emp]⟩, by rw [Bool.not_not]; exact this⟩⟩⟩
/-- a or b, by a's truth -/
theorem e_orV (t : TrOk d1) (ha : E C a Γ d1 Γ1) (hb : truD d1 = false → E C (.BoolOp .Or [b] pos) Γ1 d Γ1) (hd : truD d1 = true → d = d1) : E C (.BoolOp .Or [a, b] pos) Γ d Γ1 :=
  ⟨ha.1, fun σ H Q ok kk => ⟨_, pe_orT (wp _ a) (wp _ (.BoolOp .Or [b] pos)), ha.2 σ H _ ok fun x H1 k1 ok1 q1 => by
    refine ⟨truD d1, tru_of ok1.sub q1 t, ?_⟩
    cases ht : truD d1 with
    | true => exact iteT (kk x H1 k1 ok1 (by rw [hd ht]; exact q1))
    | false =>
      refine iteF ((hb ht).2 σ H1 Q ok1 fun x2 H2 k2 ok2 q2 => ?_)
      rw [ha.1.own] at k2 q2
      exact kk x2 H2 (k1.trans k2) ok2 q2⟩⟩
theorem e_notTu {α : Type} {xs : List α} {f : α → D} (ha : E C a Γ (eT f xs) Γ1) : E C (.UnaryOp .Not a pos) Γ (.bool xs.isEmpty) Γ1 := by
  have := e_notV (d := eT f xs) (pos := pos) (show TrOk (.tuple _) from trivial) ha
  have e : (!truD (eT f xs)) = xs.isEmpty := by cases xs <;> rfl
  rw [e] at this; exact this
theorem e_notLs {α : Type} {xs : List α} {f : α → D} (ha : R C a Γ (xs.map f) Γ1) : E C (.UnaryOp .Not a pos) Γ (.bool xs.isEmpty) Γ1 := by
  have := e_notL (pos := pos) ha
  have e : (xs.map f).isEmpty = xs.isEmpty := by cases xs <;> rfl
  rw [e] at this; exact this
/-- x + b, x an owned list -/
theorem el_catO (n : Nat) {ys : List D} (hz : ds.length + ys.length ≤ 1000000) (hn : Γ1[n]? = some (.own (.lst ds))) (hb : R C b Γ ys Γ1) (hN : C.X.N[n]? = some x) (hv : Vis C.X.env.scope x) (hd : (x == ("__debug__" : Str)) = false := by decide) (hcd : (x == ("__classdict__" : Str)) = false := by decide) :
    EL C (.BinOp (.Name x p') .Add b pos) Γ (ds ++ ys) Γ1 := ⟨hb.1, fun σ H Q ok kk => ⟨_, pe_op op_cat (pe_var (i := n) hN hv hd hcd) (wp _ b), by
    obtain ⟨c0, h0⟩ := own_of hb.1 hn
    obtain ⟨a, ho, q0, q1', q2', q3'⟩ := own_at (c1 := c0) ok h0
    refine ⟨_, q0, hb.2 σ H _ ok fun y H1 k1 ok1 q1 => ?_⟩
    obtain ⟨ho', w2, w3⟩ := own_at' ok1 hn q0
    obtain ⟨vs, e5, w4⟩ := w3.lst
    subst e5
    obtain ⟨b2, us, e6, u1, u2⟩ := q1
    subst e6
    have eo : Own Γ1 σ = Own Γ σ := hb.1.own
    rw [eo] at w4
    refine ⟨a, b2, vs, us, rfl, rfl, w2, u1, by rw [dps_len w4, dps_len u2, sizeLine_eq]; omega, fun p hp => ?_⟩
    have hn0 : H p = none := by
      cases w : H p with
      | none => rfl
      | some o =>
        by_cases nn : Own Γ σ p
        · obtain ⟨ho, w2⟩ := ok1.ownAt (eo ▸ nn : Own Γ1 σ p)
          rw [w2] at hp; cases hp
        · rw [k1 p o nn w] at hp; cases hp
    refine kk p (vs ++ us) (upd H1 p (.lst (vs ++ us))) hn0 (k1.trans (.same (same_new hp))) upd_same ?_ ?_
    · rw [del_upd hp]; exact ok1
    · rw [del_upd hp]; exact dps_app w4 u2⟩⟩
theorem g_catO {α : Type} {f : α → D} {xs zs : List α} (n : Nat) (hz : xs.length + zs.length ≤ 1000000) (hn : Γ1[n]? = some (oL f xs)) (hb : R C b Γ (zs.map f) Γ1) (hN : C.X.N[n]? = some x) (hv : Vis C.X.env.scope x) (hd : (x == ("__debug__" : Str)) = false := by decide) (hcd : (x == ("__classdict__" : Str)) = false := by decide) :
    EL C (.BinOp (.Name x p') .Add b pos) Γ ((xs ++ zs).map f) Γ1 := by
  rw [List.map_append]
  exact el_catO n (by rw [List.length_map, List.length_map]; exact hz) hn hb hN hv hd hcd
end
def Lp.all {β γ : Type} (P : β → Prop) : Lp β γ → Prop
  | .go b => P b
  | .brk b => P b
  | .ret _ => True
theorem runL_len {β α γ : Type} {step : β → α → Lp β γ} (m : β → Nat) (c : Nat) (h : ∀ a x, (step a x).all fun b => m b ≤ m a + c) : ∀ (l : List α) (a : β), (runL step a l).all fun b => m b ≤ m a + c * l.length := by
  intro l
  induction l with
  | nil => intro a; exact Nat.le_add_right _ _
  | cons x l ih =>
    intro a
    rw [runL_cons]
    have h1 := h a x
    cases q : step a x with
    | go b =>
      rw [q] at h1
      have h1 : m b ≤ m a + c := h1
      have h2 := ih b
      simp only
      rw [List.length_cons, Nat.mul_succ]
      revert h2
      cases runL step b l with
      | go d => exact fun (h2 : m d ≤ _) => show m d ≤ _ by omega
      | brk d => exact fun (h2 : m d ≤ _) => show m d ≤ _ by omega
      | ret d => exact fun _ => trivial
    | brk b =>
      rw [q] at h1
      have h1 : m b ≤ m a + c := h1
      simp only
      rw [List.length_cons, Nat.mul_succ]
      show m b ≤ _
      omega
    | ret d => trivial
theorem cut_len {α : Type} (l : List α) (a b : Option Int) : (cut l a b).length ≤ l.length := by
  unfold cut
  rw [List.length_take, List.length_drop]; omega
theorem cut_mem {α : Type} {l : List α} {a b : Option Int} {x : α} (h : x ∈ cut l a b) : x ∈ l := List.mem_of_mem_drop (List.mem_of_mem_take h)
mutual
theorem nd_of : ∀ {d : D}, d.hasDict = false → NoDict d
  | .none, _ => .non
  | .bool b, _ => .bl b
  | .int i, _ => .int i
  | .str x, _ => .str x
  | .list xs, h => .lst (nds_of xs (by unfold PyData.hasDict at h; exact h))
  | .tuple xs, h => .tup (nds_of xs (by unfold PyData.hasDict at h; exact h))
  | .dict _, h => by unfold PyData.hasDict at h; cases h
theorem nds_of : ∀ (xs : List D), PyData.hasDictAll xs = false → ∀ d ∈ xs, NoDict d
  | [], _, d, hd => by cases hd
  | x :: xs, h, d, hd => by
    unfold PyData.hasDictAll at h
    rw [Bool.or_eq_false_iff] at h
    rcases List.mem_cons.mp hd with e | e
    · rw [e]; exact nd_of h.1
    · exact nds_of xs h.2 d e
end
theorem layI : ∀ l : List Int, PyData.canLayAll0 (l.map PyData.int) = true
  | [] => rfl
  | i :: l => by
    rw [List.map_cons]
    unfold PyData.canLayAll0 PyData.canLay0
    rw [layI l]; rfl
theorem depI : ∀ l : List Int, PyData.depthAll (l.map PyData.int) = 0
  | [] => rfl
  | i :: l => by
    rw [List.map_cons]
    unfold PyData.depthAll PyData.depth
    rw [depI l]; rfl
theorem ndI (l : List Int) : ∀ d ∈ l.map PyData.int, NoDict d := fun d hd => by
  obtain ⟨i, _, rfl⟩ := List.mem_map.mp hd
  exact .int i
/-- a loop that may break, and does not return -/
def brkV {β : Type} : Lp β Empty → β
  | .go a => a
  | .brk a => a
  | .ret c => nomatch c
theorem s_loopB {C : Ctx} {Γ : List Ent} {rest : List Stmt} {o : Out} {β : Type} {st : Stmt} {r : Lp β Empty} {G : β → List Ent} {rO : Empty → Out} (h : B C st Γ (lpE G rO r)) (h2 : S C rest (G (brkV r)) o) : S C (st :: rest) Γ o := by
  cases r with
  | go a => exact s_cons h h2
  | brk a => exact s_cons h h2
  | ret c => exact nomatch c
theorem brkV_len {β α : Type} {step : β → α → Lp β Empty} (m : β → Nat) (c : Nat) (h : ∀ a x, (step a x).all fun b => m b ≤ m a + c) (l : List α) (a : β) : m (brkV (runL step a l)) ≤ m a + c * l.length := by
  have := runL_len m c h l a
  revert this
  cases runL step a l with
  | go b => exact fun h => h
  | brk b => exact fun h => h
  | ret c => exact nomatch c
/-- a value with a name -/
def lt {α δ : Type} (a : α) (k : α → δ) : δ := k a
theorem s_let {C : Ctx} {ss : List Stmt} {α δ : Type} {a : α} (G : α → List Ent) (mk : δ → Out) (k : α → δ) (h : ∀ v, a = v → S C ss (G v) (mk (k v))) : S C ss (G a) (mk (lt a k)) := h a rfl
end TL

namespace TL
open PySem hiding start
open PySem.Spec
open L2 hiding Dp DpAll
open PyProof.Rows hiding St

section
variable {C : Ctx} {Γ Γ1 Γ2 Γ3 : List Ent} {σ : St} {H H' : Hp} {a b c e e2 o : Expr} {es : List Expr} {d d1 d2 dz : D} {ds ds' : List D} {pos p p' tpos apos : Pos} {x : Str} {k j n : Nat} {i : Int} {α : Type}
theorem e_cast (h : d = d1) (he : E C e Γ d Γ1) : E C e Γ d1 Γ1 := h ▸ he
theorem t_cast {k l : Bool} (h : k = l) (he : T C e Γ k Γ1) : T C e Γ l Γ1 := h ▸ he
theorem o_isB {K : PySem.W.Frag} {k l : Bool} : Op2 K (fun x y H Q => ∃ a b, x = .bl a ∧ y = .bl b ∧ Q (.bl (decide (a = b))) H) (.bool k) (.bool l) (.bool (decide (k = l))) := fun F H x y Q s hx hy q => by
  cases hx; cases hy; exact ⟨k, l, rfl, rfl, q.bl⟩
theorem o_notB {K : PySem.W.Frag} {k l : Bool} : Op2 K (fun x y H Q => ∃ a b, x = .bl a ∧ y = .bl b ∧ Q (.bl (!decide (a = b))) H) (.bool k) (.bool l) (.bool (!decide (k = l))) := fun F H x y Q s hx hy q => by
  cases hx; cases hy; exact ⟨k, l, rfl, rfl, q.bl⟩
theorem e_isB {k l : Bool} (ha : E C a Γ (.bool k) Γ1) (hb : E C b Γ1 (.bool l) Γ2) : E C (.Compare a [.Is] [b] pos) Γ (.bool (decide (k = l))) Γ2 := e_cmp op_is_bl (nomark _) (B := rD (.bool l)) o_isB ha hb
theorem e_notB {k l : Bool} (ha : E C a Γ (.bool k) Γ1) (hb : E C b Γ1 (.bool l) Γ2) : E C (.Compare a [.IsNot] [b] pos) Γ (.bool (!decide (k = l))) Γ2 := e_cmp op_isnot_bl (nomark _) (B := rD (.bool l)) o_notB ha hb
theorem t_isB {k l : Bool} (ha : E C a Γ (.bool k) Γ1) (hb : E C b Γ1 (.bool l) Γ2) : T C (.Compare a [.Is] [b] pos) Γ (decide (k = l)) Γ2 := t_cmp op_is_bl (nomark _) (B := rD (.bool l)) o_isB ha hb
theorem t_notB {k l : Bool} (ha : E C a Γ (.bool k) Γ1) (hb : E C b Γ1 (.bool l) Γ2) : T C (.Compare a [.IsNot] [b] pos) Γ (!decide (k = l)) Γ2 := t_cmp op_isnot_bl (nomark _) (B := rD (.bool l)) o_notB ha hb
theorem e_max2 {i j : Int} (hc : C.X.calm = true) (hg : Gl C.X "max") (hm : C.X.mg "max" = none) (ha : EA C [a, b] Γ [.int i, .int j] Γ1) (he : starEach [a, b] C.X.env = (false, eval a C.X.env) :: starEach [b] C.X.env := by rfl) (hpl : (backTo pos (starEach [b] C.X.env)).any (·.1) = false := by rfl) :
    E C (.Call (.Name "max" p) [a, b] [] pos) Γ (.int (if j > i then j else i)) Γ1 := ⟨ha.1, fun σ H Q ok kk => ⟨_, pe_callB (call_max2 hc) hg hm (by decide +kernel) (wa _ [a, b]) (by decide) (by decide) he hpl, ha.2 σ H _ ok fun xs H1 k1 ok1 q1 => by
    match xs, q1 with
    | [_, _], .cons q2 (.cons q3 .nil) =>
      cases q2; cases q3
      exact ⟨i, j, rfl, kk _ H1 k1 ok1 (.int _)⟩⟩⟩
theorem e_min2 {i j : Int} (hc : C.X.calm = true) (hg : Gl C.X "min") (hm : C.X.mg "min" = none) (ha : EA C [a, b] Γ [.int i, .int j] Γ1) (he : starEach [a, b] C.X.env = (false, eval a C.X.env) :: starEach [b] C.X.env := by rfl) (hpl : (backTo pos (starEach [b] C.X.env)).any (·.1) = false := by rfl) :
    E C (.Call (.Name "min" p) [a, b] [] pos) Γ (.int (if j < i then j else i)) Γ1 := ⟨ha.1, fun σ H Q ok kk => ⟨_, pe_callB (call_min2 hc) hg hm (by decide +kernel) (wa _ [a, b]) (by decide) (by decide) he hpl, ha.2 σ H _ ok fun xs H1 k1 ok1 q1 => by
    match xs, q1 with
    | [_, _], .cons q2 (.cons q3 .nil) =>
      cases q2; cases q3
      exact ⟨i, j, rfl, kk _ H1 k1 ok1 (.int _)⟩⟩⟩
/-- a value that is there -/
def optD (d : α) : Option α → α
  | some v => v
  | none => d
theorem opt_cast {f : α → D} {v : Option α} (d0 : α) (h : v.isSome = true) : eO f v = f (optD d0 v) := by
  cases v with
  | none => cases h
  | some v => rfl
theorem e_opt {f : α → D} {v : Option α} (d0 : α) (h : v.isSome = true) (he : E C e Γ (eO f v) Γ1) : E C e Γ (f (optD d0 v)) Γ1 := e_cast (opt_cast d0 h) he
/-- [x, ..] * n -/
theorem el_rep {xs : List α} {f : α → D} {m : Int} (hm : m < 2 ^ 63 ∧ -(2 ^ 63) ≤ m) (hz : xs.length * m.toNat ≤ 1000000) (ha : E C a Γ (eL f xs) Γ1) (hb : E C b Γ1 (.int m) Γ2) : EL C (.BinOp a .Mult b pos) Γ ((List.replicate m.toNat xs).flatten.map f) Γ2 :=
  ⟨ha.1.trans hb.1, fun σ H Q ok k => ⟨_, pe_op op_rep (wp _ a) (wp _ b), ha.2 σ H _ ok fun x H1 k1 ok1 q1 => hb.2 σ H1 _ ok1 fun y H2 k2 ok2 q2 => by
    cases q2
    have e1 : Own Γ1 σ = Own Γ σ := ha.1.own
    have e3 : Own Γ2 σ = Own Γ1 σ := hb.1.own
    rw [e1] at k2
    obtain ⟨a', vs, e, u1, u2⟩ := ls_of ok2.sub (dp_keep k2 q1)
    subst e
    have lv : vs.length = xs.length := by rw [dps_len u2, List.length_map]
    refine ⟨a', m, vs, rfl, rfl, u1, hm.2, hm.1, by rw [lv]; exact Nat.le_trans hz (by decide), fun p hp => ?_⟩
    have hn0 : H p = none := by
      cases w : H p with
      | none => rfl
      | some o =>
        by_cases nn : Own Γ σ p
        · obtain ⟨ho, w2⟩ := ok2.ownAt ((e3.trans e1) ▸ nn : Own Γ2 σ p)
          rw [w2] at hp; cases hp
        · rw [k2 p o nn (k1 p o nn w)] at hp; cases hp
    have rep : ∀ n : Nat, DpAll C.X.K (bas C (Own Γ σ) H2) (List.replicate n vs).flatten ((List.replicate n xs).flatten.map f) := by
      intro n
      induction n with
      | zero => exact .nil
      | succ n ih =>
        rw [List.replicate_succ, List.replicate_succ, List.flatten_cons, List.flatten_cons, List.map_append]
        exact dps_app u2 ih
    refine k p _ (upd H2 p (.lst (List.replicate m.toNat vs).flatten)) hn0 ((k1.trans k2).trans (.same (same_new hp))) upd_same ?_ ?_
    · rw [del_upd hp]; exact ok2
    · rw [del_upd hp]; exact rep _⟩⟩
theorem rgV_dp {K : PySem.W.Frag} {F : Hp} (a b : Int) : DpAll K F (rgV a b) ((rng a b).map eI) := by
  unfold rgV rng
  rw [List.map_map]
  induction List.range (b - a).toNat with
  | nil => exact .nil
  | cons x l ih => exact .cons (.int _) ih
/-- tuple(range(n)) -/
theorem e_tupRg {m : Int} (hc : C.X.calm = true) (hg : Gl C.X "tuple") (hm : C.X.mg "tuple" = none) (hg2 : Gl C.X "range") (hm2 : C.X.mg "range" = none) (ha : E C a Γ (.int m) Γ1) (hz : m ≤ 1000000 ∧ -(2 ^ 62) ≤ m) (na2 : starEach [a] C.X.env = (false, eval a C.X.env) :: starEach [] C.X.env := by rfl)
    (na : starEach [.Call (.Name "range" p') [a] [] tpos] C.X.env = (false, eval (.Call (.Name "range" p') [a] [] tpos) C.X.env) :: starEach [] C.X.env := by rfl) : E C (.Call (.Name "tuple" p) [.Call (.Name "range" p') [a] [] tpos] [] pos) Γ (eT eI (rng 0 m)) Γ1 :=
  ⟨ha.1, fun σ H Q ok kk => ⟨_, pe_tupRg hc hg hm (prg_1 hg2 hm2 (wp _ a) na2) na, ha.2 σ H _ ok fun x H1 k1 ok1 q1 => by
    cases q1
    refine ⟨m, rfl, ⟨by omega, by omega, by omega, by omega, by omega⟩, fun q hq => ?_⟩
    have s2 : Same H1 (upd H1 q (.tup (rgV 0 m))) := same_new hq
    have nq := (ok1.fresh hq)
    refine kk (.ref q) _ (k1.trans (.same s2)) (ok1.mono s2) ?_
    have nO : ¬ Own Γ σ q := fun z => nq.2 (ha.1.own ▸ z)
    refine .tup (.inl (.inl ?_)) (rgV_dp 0 m)
    rw [bas_eq nO, nq.1]
    exact upd_same⟩⟩
/-- v or w, v perhaps None (a thing that is there is true) -/
theorem e_orO {f : α → D} {v : Option α} {w : α} (t : ∀ u, v = some u → TrOk (f u) ∧ truD (f u) = true) (ha : E C a Γ (eO f v) Γ1) (hb : v = none → E C (.BoolOp .Or [b] pos) Γ1 (f w) Γ1) : E C (.BoolOp .Or [a, b] pos) Γ (f (optD w v)) Γ1 := by
  cases v with
  | none => exact e_orV (d1 := .none) trivial ha (fun _ => hb rfl) (fun z => by cases z)
  | some u => exact e_orV (d1 := f u) (t u rfl).1 ha (fun z => by rw [(t u rfl).2] at z; cases z) (fun _ => rfl)
end
/-! ### addresses of the text's classes -/
def xaOf (mg : Str → Option Value) : XA := fun s => match mg s with
  | some (.ref a) => a
  | _ => 0
theorem xaOf_eq {mg : Str → Option Value} {s : Str} {a : Addr} (h : mg s = some (.ref a)) : mg s = some (.ref (xaOf mg s)) := by
  have : xaOf mg s = a := by unfold xaOf; rw [h]
  rw [this]; exact h
theorem xaOf_is {mg : Str → Option Value} {s : Str} {a : Addr} (h : mg s = some (.ref a)) : xaOf mg s = a := by unfold xaOf; rw [h]
theorem kn_all {P : Str → Prop} (h0 : P "NotMatroid") (h1 : P "NotFamily") (h2 : P "NotGraph") (h3 : P "NotPaper") (h4 : P "BadNumber") (h5 : P "NoAnswer") (h6 : P "TooLarge") : ∀ n ∈ kn, P n := fun n hn => by
  unfold kn at hn
  simp only [List.mem_cons, List.not_mem_nil, or_false] at hn
  rcases hn with q | q | q | q | q | q | q <;> rw [q] <;> assumption
theorem kit_is {K : PySem.W.Frag} {xa : XA} {c n : Str} {a b : Addr} {r : Bool} (ha : xa c = a) (hb : xa n = b) (h : PySem.W.kitOne K (.ref a) (.ref b) = some r) (hr : decide (c = n) = r) : PySem.W.kitOne K (.ref (xa c)) (.ref (xa n)) = some (decide (c = n)) := by rw [ha, hb, hr]; exact h
theorem excc_is {K : PySem.W.Frag} {xa : XA} {c : Str} {a : Addr} (ha : xa c = a) (h : ExcC K a) : ExcC K (xa c) := by rw [ha]; exact h
theorem kit_no {K : PySem.W.Frag} {a b : Addr} {r : Bool} (ne : a ≠ b) (h1 : PySem.W.isClsIn K b = true) (h2 : PySem.W.typeIn K (.ref b) = some (.type "type")) (h3 : PySem.W.subIn K (.ref a) (.ref b) = some r) : PySem.W.kitOne K (.ref a) (.ref b) = some r := by
  have e0 : (Value.ref a == Value.ref b) = false := beq_eq_false_iff_ne.mpr fun z => ne (Value.ref.inj z)
  have h1' : (PySem.W.clsIn K b).isSome = true := h1
  have e1 : ((PySem.W.clsIn K b).isSome && PySem.W.typeIn K (.ref b) == some (.type "type")) = true := by rw [h1', h2] <;> rfl
  unfold PySem.W.kitOne
  rw [e0, if_neg Bool.false_ne_true]
  show (if ((PySem.W.clsIn K b).isSome && PySem.W.typeIn K (.ref b) == some (.type "type")) = true then PySem.W.subIn K (.ref a) (.ref b) else none) = some r
  rw [if_pos e1]; exact h3
theorem kit_self {K : PySem.W.Frag} {a : Addr} : PySem.W.kitOne K (.ref a) (.ref a) = some true := by
  unfold PySem.W.kitOne
  rw [if_pos (beq_self_eq_true _)]
end TL

namespace K00
open PySem hiding start
open PySem.Spec
open L2 hiding Dp DpAll
open PyProof.Rows hiding St
open TL
@[reducible] def eW (p : Str × List Int) : D := .tuple (.str p.1 :: p.2.map .int)
@[reducible] def eC (p : List (List Int) × Int) : D := .list (p.1.map (eL eI) ++ [.int p.2])
theorem nd_W (p : Str × List Int) : NoDict (eW p) := .tup fun d hd => by
  rcases List.mem_cons.mp hd with e | e
  · rw [e]; exact .str _
  · exact ndI _ d e
theorem sh_W {p : Str × List Int} (h : PyData.strOk p.1 = true) : SeqAt.shaped (eW p) = true := by
  unfold SeqAt.shaped PyData.canLay0 PyData.canLayAll0 PyData.canLay0 PyData.depth PyData.depthAll
  rw [layI, depI]
  simp [h, PyData.depth]
theorem sh_T (l : List Int) : SeqAt.shaped (eT eI l) = true := by
  unfold SeqAt.shaped PyData.canLay0 PyData.depth
  rw [layI, depI]; rfl
theorem e_catW {C : TL.Ctx} {Γ Γ1 Γ2 : List Ent} {a b : Expr} {pos : Pos} {v : Str × List Int} {l : List Int} (hz : v.2.length + l.length ≤ 100000) (ha : E C a Γ (eW v) Γ1) (hb : E C b Γ1 (eT eI l) Γ2) : E C (.BinOp a .Add b pos) Γ (eW (v.1, v.2 ++ l)) Γ2 := by
  have := e_catT (pos := pos) (by rw [List.length_cons, List.length_map, List.length_map]; omega) ha hb
  rw [List.cons_append, ← List.map_append] at this
  exact this
def In32 (v : Int) : Prop := 0 ≤ v ∧ v < 32
theorem in32_nat {v : Int} (h : In32 v) : ∃ n : Nat, n < 32 ∧ v = n := ⟨v.toNat, by have := h.1; have := h.2; omega, by have := h.1; omega⟩
theorem bits32 {v : Int} (h : In32 v) : Builtin.Int.intBits v ≤ 5 := by
  obtain ⟨n, hn, rfl⟩ := in32_nat h
  exact (by decide +kernel : ∀ n : Nat, n < 32 → Builtin.Int.intBits (n : Int) ≤ 5) n hn
theorem andn32 {a b : Int} (h : In32 a) (h2 : In32 b) : In32 (Builtin.bitAnd a (Builtin.bitNot b)) := by
  obtain ⟨n, hn, rfl⟩ := in32_nat h
  obtain ⟨m, hm, rfl⟩ := in32_nat h2
  have := (by decide +kernel : ∀ n : Nat, n < 32 → ∀ m : Nat, m < 32 → 0 ≤ Builtin.bitAnd (n : Int) (Builtin.bitNot (m : Int)) ∧ Builtin.bitAnd (n : Int) (Builtin.bitNot (m : Int)) < 32) n hn m hm
  exact this
def topS (i : Nat) : Stmt := PySem.Challenge.pw_everybasis_k00_families_and_bases.main.body.getD i (.Pass ⟨0, 0, 0, 0⟩)
structure Top (K : PySem.W.Frag) (mg : Str → Option Value) (xa : XA) : Prop where
  c_NotMatroid : mg "NotMatroid" = some (.ref (xa "NotMatroid"))
  c_NotFamily : mg "NotFamily" = some (.ref (xa "NotFamily"))
  c_NotGraph : mg "NotGraph" = some (.ref (xa "NotGraph"))
  c_NotPaper : mg "NotPaper" = some (.ref (xa "NotPaper"))
  c_BadNumber : mg "BadNumber" = some (.ref (xa "BadNumber"))
  c_NoAnswer : mg "NoAnswer" = some (.ref (xa "NoAnswer"))
  c_TooLarge : mg "TooLarge" = some (.ref (xa "TooLarge"))
  c_BasisError : mg "BasisError" = some (.ref (xa "BasisError"))
  k_NotFamily : KindC K xa "NotFamily"
  e_NotFamily : PySem.W.exmOne K (.ref (xa "NotFamily")) (.ref (xa "BasisError")) = some true
  x_NotFamily : ExT K mg "NotFamily" (xa "NotFamily")
  b_range : mg "range" = none
  b_int : mg "int" = none
  b_len : mg "len" = none
  b_all : mg "all" = none
  b_zip : mg "zip" = none
  b_any : mg "any" = none
  b_tuple : mg "tuple" = none
  b_isinstance : mg "isinstance" = none
  b_list : mg "list" = none
  b_sum : mg "sum" = none
  b_max : mg "max" = none
  b_sorted : mg "sorted" = none
  b_dict : mg "dict" = none
  b_repr : mg "repr" = none
  k_MOST_THINGS : ∃ t, mg "MOST_THINGS" = some (.int 9 t)
  k_NONE : ∃ t, mg "NONE" = some (.str "none" t)
  k_SIZE : ∃ t, mg "SIZE" = some (.str "size" t)
  k_EXCHANGE : ∃ t, mg "EXCHANGE" = some (.str "exchange" t)
  d__law_number : ∃ f fd, Fun K "_law_number" "_law_number" (topS 24) f fd ∧ mg "_law_number" = some (.ref f)
  d__law_power : ∃ f fd, Fun K "_law_power" "_law_power" (topS 31) f fd ∧ mg "_law_power" = some (.ref f)
  d__law_things : ∃ f fd, Fun K "_law_things" "_law_things" (topS 32) f fd ∧ mg "_law_things" = some (.ref f)
  d__law_size : ∃ f fd, Fun K "_law_size" "_law_size" (topS 33) f fd ∧ mg "_law_size" = some (.ref f)
  d_things_of : ∃ f fd, Fun K "things_of" "things_of" (topS 16) f fd ∧ mg "things_of" = some (.ref f)
  d_size_of : ∃ f fd, Fun K "size_of" "size_of" (topS 17) f fd ∧ mg "size_of" = some (.ref f)
  d_is_family : ∃ f fd, Fun K "is_family" "is_family" (topS 14) f fd ∧ mg "is_family" = some (.ref f)
  d_check_family : ∃ f fd, Fun K "check_family" "check_family" (topS 15) f fd ∧ mg "check_family" = some (.ref f)
  d_exchanges : ∃ f fd, Fun K "exchanges" "exchanges" (topS 18) f fd ∧ mg "exchanges" = some (.ref f)
  d_trouble_of : ∃ f fd, Fun K "trouble_of" "trouble_of" (topS 19) f fd ∧ mg "trouble_of" = some (.ref f)
  d_trouble : ∃ f fd, Fun K "trouble" "trouble" (topS 20) f fd ∧ mg "trouble" = some (.ref f)
  d_is_trouble : ∃ f fd, Fun K "is_trouble" "is_trouble" (topS 21) f fd ∧ mg "is_trouble" = some (.ref f)
  d_is_matroid : ∃ f fd, Fun K "is_matroid" "is_matroid" (topS 22) f fd ∧ mg "is_matroid" = some (.ref f)
  d__law_draws : ∃ f fd, Fun K "_law_draws" "_law_draws" (topS 25) f fd ∧ mg "_law_draws" = some (.ref f)
  d__law_next : ∃ f fd, Fun K "_law_next" "_law_next" (topS 27) f fd ∧ mg "_law_next" = some (.ref f)
  d__law_flat : ∃ f fd, Fun K "_law_flat" "_law_flat" (topS 26) f fd ∧ mg "_law_flat" = some (.ref f)
  d__law_more : ∃ f fd, Fun K "_law_more" "_law_more" (topS 28) f fd ∧ mg "_law_more" = some (.ref f)
  d__law_pick : ∃ f fd, Fun K "_law_pick" "_law_pick" (topS 29) f fd ∧ mg "_law_pick" = some (.ref f)
  d__law_kind : ∃ f fd, Fun K "_law_kind" "_law_kind" (topS 30) f fd ∧ mg "_law_kind" = some (.ref f)
  d__law_trouble : ∃ f fd, Fun K "_law_trouble" "_law_trouble" (topS 34) f fd ∧ mg "_law_trouble" = some (.ref f)
  d__law_columns : ∃ f fd, Fun K "_law_columns" "_law_columns" (topS 35) f fd ∧ mg "_law_columns" = some (.ref f)
  d__law_free : ∃ f fd, Fun K "_law_free" "_law_free" (topS 36) f fd ∧ mg "_law_free" = some (.ref f)
  d__law_matroid : ∃ f fd, Fun K "_law_matroid" "_law_matroid" (topS 37) f fd ∧ mg "_law_matroid" = some (.ref f)
  d__law_is_right : ∃ f fd, Fun K "_law_is_right" "_law_is_right" (topS 39) f fd ∧ mg "_law_is_right" = some (.ref f)
  d__law_family : ∃ f fd, Fun K "_law_family" "_law_family" (topS 40) f fd ∧ mg "_law_family" = some (.ref f)
  d__law_asked : ∃ f fd, Fun K "_law_asked" "_law_asked" (topS 41) f fd ∧ mg "_law_asked" = some (.ref f)
  d_law : ∃ f fd, Fun K "law" "law" (topS 42) f fd ∧ mg "law" = some (.ref f)
section
variable {P : Program} {w : World} {K : PySem.W.Frag} {mg : Str → Option Value} {base : Heap} {xa : XA}
/-! ### _law_number -/
abbrev s__law_number : Stmt := topS 24
abbrev N__law_number : List Str := ["cell"]
theorem sc__law_number : FnScope N__law_number ["cell"] (defScope s__law_number) := ⟨rfl, rfl, rfl, by decide +kernel, rfl, by decide +kernel, by decide +kernel⟩
def m__law_number (v_cell : Int) : Int :=
  (if (decide (v_cell < (0 : Int))) then ((0 : Int) - v_cell) else v_cell)
abbrev sp__law_number (K : PySem.W.Frag) : Sp := spV K (A := Int) (fun a => [eI a]) (fun a : Int => True) (fun a => eI (m__law_number a))
theorem ok__law_number (T : Top K mg xa)  : C8.Cal P w K mg base 1 "_law_number" (sp__law_number K) [] := by
  obtain ⟨f, fd, F, hm⟩ := T.d__law_number
  refine ⟨f, fd, ["cell"], [], fn_pure F sc__law_number (fun _ => rfl) fun y v_cell hr hp => ?_, hm, F.kp, F.binds fun _ _ _ _ _ _ us hl => (match us, hl with | [_], _ => rfl), .nil⟩
  show S _ (defBody s__law_number) [.v (eI v_cell)] ((fun (v : Int) => Out.rt (eI v) []) (m__law_number v_cell))
  refine s_if (fun (v : Int) => Out.rt (eI v) []) (t_lt (e_var 0 rfl rfl (.inl rfl)) e_int) (fun hc1 => ?_) rfl (fun hc1 => ?_)
  · skip
    exact s_ret (e_sub e_int (e_var 0 rfl rfl (.inl rfl))) (.inl rfl)
  · skip
    exact s_ret (e_var 0 rfl rfl (.inl rfl)) (.inl rfl)

/-! ### _law_power -/
abbrev s__law_power : Stmt := topS 31
abbrev N__law_power : List Str := ["at", "found", "turn"]
theorem sc__law_power : FnScope N__law_power ["at"] (defScope s__law_power) := ⟨rfl, rfl, rfl, by decide +kernel, rfl, by decide +kernel, by decide +kernel⟩
def m__law_power (v_at : Int) : Int :=
  (List.foldl (fun (s1 : Int) (x1_turnl : Int) => ((2 : Int) * s1)) (1 : Int) (rng 0 v_at))
def pre__law_power (v_at : Int) : Prop := 0 ≤ v_at ∧ v_at ≤ 60
abbrev sp__law_power (K : PySem.W.Frag) : Sp := spV K (A := Int) (fun a => [eI a]) (fun a : Int => pre__law_power a) (fun a => eI (m__law_power a))
theorem ok__law_power (T : Top K mg xa)  : C8.Cal P w K mg base 1 "_law_power" (sp__law_power K) [] := by
  obtain ⟨f, fd, F, hm⟩ := T.d__law_power
  refine ⟨f, fd, ["at"], [], fn_pure F sc__law_power (fun _ => rfl) fun y v_at hr hp => ?_, hm, F.kp, F.binds fun _ _ _ _ _ _ us hl => (match us, hl with | [_], _ => rfl), .nil⟩
  simp only [pre__law_power] at hp
  show S _ (defBody s__law_power) [.v (eI v_at), .no, .no] ((fun (v : Int) => Out.rt (eI v) []) (m__law_power v_at))
  refine s_cons (b_set (d := eI (1 : Int)) 1 sc__law_power.nd rfl (.inl rfl) (.inl rfl) (Nat.le_of_ble_eq_true rfl) (.inl rfl) e_int rfl) ?_
  refine s_cons (b_forF (f := eI) (a0 := (1 : Int)) (fun (s1 : Int) (x1_turnl : Int) => ((2 : Int) * s1)) (fun (s1 : Int) => [.v (eI v_at), .v (eI s1), .no]) (fun (s1 : Int) (x1_turnl : Int) => [.v (eI v_at), .v (eI s1), .v (eI x1_turnl)]) [2] (fun _ _ => True) (trivial) (fun _ _ _ _ _ => trivial) PassesOwn.never rfl (it_range1 (n := v_at) (by rfl) T.b_range (ea_cons (e_var 0 rfl rfl (.inl rfl)) ea_nil) (by /- side 1: bound of range v_at -/ first | decide | omega)) (fun gs x1_turnl s1 hx => (tg_name 2 sc__law_power.nd rfl (.inl rfl) (Nat.le_of_ble_eq_true rfl) (.inl rfl) (.inl rfl))) (fun gs i1 x1_turnl s1 li1 lx1 lP1 => ?_)) ?_
  · skip
    refine s_cons (b_set (d := eI ((2 : Int) * s1)) 1 sc__law_power.nd rfl (.inl rfl) (.inl rfl) (Nat.le_of_ble_eq_true rfl) (.inl rfl) (e_mul (.inl (by decide)) e_int (e_var 1 rfl rfl (.inl rfl))) rfl) ?_
    exact s_nilLW ⟨.inl rfl, .inl rfl, .inr rfl, trivial⟩ (.inl rfl)
  · skip
    exact s_ret (e_var 1 rfl rfl (.inl rfl)) (.inl rfl)

theorem power_pow (n : Nat) : m__law_power (n : Int) = 2 ^ n := by
  have h : ∀ (l : List Int) (a : Int), List.foldl (fun (s1 : Int) (_ : Int) => (2 : Int) * s1) a l = 2 ^ l.length * a := by
    intro l
    induction l with
    | nil => intro a; simp
    | cons x l ih => intro a; rw [List.foldl_cons, ih, List.length_cons, Int.pow_succ]; rw [Int.mul_assoc]
  have := h (rng 0 (n : Int)) 1
  unfold m__law_power
  rw [this, rng_len]
  simp
theorem power_eq {x : Int} (h : 0 ≤ x) : m__law_power x = 2 ^ x.toNat := by
  have := power_pow x.toNat
  rwa [Int.toNat_of_nonneg h] at this
theorem power_pos (x : Int) (h : 0 ≤ x) : 0 < m__law_power x := by
  rw [power_eq h]; exact Int.pow_pos (by decide)
theorem power_lt {x : Int} (h : 0 ≤ x) (h2 : x < 12) : m__law_power x < 4096 := by
  rw [power_eq h]
  have e : (4096 : Int) = 2 ^ 12 := by decide
  rw [e]
  have hx : x.toNat < 12 := by omega
  exact_mod_cast Nat.pow_lt_pow_right (by decide : 1 < 2) hx
theorem power_div {x : Int} (h : x ∈ rng 0 12) : CDiv i (m__law_power x) := by
  have := rng_mem h
  exact ⟨power_pos x this.1, by have := power_lt this.1 this.2; omega⟩
/-! ### _law_things -/
abbrev s__law_things : Stmt := topS 32
abbrev N__law_things : List Str := ["some", "thing"]
theorem sc__law_things : FnScope N__law_things ["some"] (defScope s__law_things) := ⟨rfl, rfl, rfl, by decide +kernel, rfl, by decide +kernel, by decide +kernel⟩
def m__law_things (v_some : Int) : (List Int) :=
  (((rng 0 (12 : Int)).filter fun x1_thing => (decide (((v_some / (m__law_power x1_thing)) % (2 : Int)) = (1 : Int)))).map fun x1_thing => x1_thing)
abbrev sp__law_things (K : PySem.W.Frag) : Sp := spV K (A := Int) (fun a => [eI a]) (fun a : Int => True) (fun a => (eL eI) (m__law_things a))
theorem ok__law_things (T : Top K mg xa) (c__law_power : C8.Cal P w K mg base 1 "_law_power" (sp__law_power K) []) : C8.Cal P w K mg base 2 "_law_things" (sp__law_things K) [] := by
  obtain ⟨f, fd, F, hm⟩ := T.d__law_things
  refine ⟨f, fd, ["some"], [], fn_pure F sc__law_things (fun _ => rfl) fun y v_some hr hp => ?_, hm, F.kp, F.binds fun _ _ _ _ _ _ us hl => (match us, hl with | [_], _ => rfl), .nil⟩
  show S _ (defBody s__law_things) [.v (eI v_some), .no] ((fun (v : (List Int)) => Out.rt ((eL eI) v) []) (m__law_things v_some))
  exact s_ret (e_el (el_lc (own := [("thing", 1)]) rfl sc__law_things.nd (blkOk_by (by kernel_rfl)) (lc1 (f := eI) 1 (fun x1_thing => (decide (((v_some / (m__law_power x1_thing)) % (2 : Int)) = (1 : Int)))) (fun x1_thing => x1_thing) eI sc__law_things.nd rfl (fun _ => ⟨.inl rfl, .inr rfl⟩) (Nat.le_of_ble_eq_true rfl) (.inl rfl) rfl (it_range1 (n := (12 : Int)) (by rfl) T.b_range (ea_cons e_int ea_nil) (by decide)) (by /- side 1: ((rng 0 (12 : Int))).length ≤ 1000000 -/ rw [rng_len]; decide) (fun x1_thing hx1 => ce_one (fun _ => (t_eqI (e_mod (by decide) (e_intI (by rfl) T.b_int (e_fdiv (by /- side 3: CDiv v_some (m__law_power x1_thing) -/ exact power_div hx1) (e_var 0 rfl rfl (.inr (.inl rfl))) (e_call c__law_power hr (by decide) (by rfl) x1_thing rfl (ea_cons (e_var 1 rfl rfl (.inl rfl)) ea_nil) (by /- side 2: pre of _law_power x1_thing -/ show pre__law_power x1_thing; have := rng_mem hx1; exact ⟨this.1, by omega⟩)))) e_int) e_int)) (fun hc1 _ => (e_var 1 rfl rfl (.inl rfl))))))) (.inl rfl)

/-! ### _law_size -/
abbrev s__law_size : Stmt := topS 33
abbrev N__law_size : List Str := ["some"]
theorem sc__law_size : FnScope N__law_size ["some"] (defScope s__law_size) := ⟨rfl, rfl, rfl, by decide +kernel, rfl, by decide +kernel, by decide +kernel⟩
def m__law_size (v_some : Int) : Int :=
  (((m__law_things v_some)).length : Int)
abbrev sp__law_size (K : PySem.W.Frag) : Sp := spV K (A := Int) (fun a => [eI a]) (fun a : Int => True) (fun a => eI (m__law_size a))
theorem ok__law_size (T : Top K mg xa) (c__law_things : C8.Cal P w K mg base 2 "_law_things" (sp__law_things K) []) : C8.Cal P w K mg base 3 "_law_size" (sp__law_size K) [] := by
  obtain ⟨f, fd, F, hm⟩ := T.d__law_size
  refine ⟨f, fd, ["some"], [], fn_pure F sc__law_size (fun _ => rfl) fun y v_some hr hp => ?_, hm, F.kp, F.binds fun _ _ _ _ _ _ us hl => (match us, hl with | [_], _ => rfl), .nil⟩
  show S _ (defBody s__law_size) [.v (eI v_some)] ((fun (v : Int) => Out.rt (eI v) []) (m__law_size v_some))
  exact s_ret (e_lenT (f := eI) (by rfl) T.b_len (J.sL (r_e (e_call c__law_things hr (by decide) (by rfl) v_some rfl (ea_cons (e_var 0 rfl rfl (.inl rfl)) ea_nil) trivial)))) (.inl rfl)

theorem lthings_mem {v x : Int} (h : x ∈ m__law_things v) : 0 ≤ x ∧ x < 12 := by
  unfold m__law_things at h
  obtain ⟨y, hy, rfl⟩ := List.mem_map.mp h
  exact rng_mem (List.mem_filter.mp hy).1
theorem lthings_len {v : Int} : (m__law_things v).length ≤ 12 := by
  unfold m__law_things
  rw [List.length_map]
  refine Nat.le_trans (List.length_filter_le _ _) ?_
  rw [rng_len]; decide
theorem lsize_nonneg {v : Int} : 0 ≤ m__law_size v := by unfold m__law_size; omega

/-! ### things_of -/
abbrev s_things_of : Stmt := topS 16
abbrev N_things_of : List Str := ["some", "thing"]
theorem sc_things_of : FnScope N_things_of ["some"] (defScope s_things_of) := ⟨rfl, rfl, rfl, by decide +kernel, rfl, by decide +kernel, by decide +kernel⟩
def m_things_of (v_some : Int) : (List Int) :=
  (((rng 0 ((Builtin.Int.intBits v_some : Nat) : Int)).filter fun x1_thing => (decide (((v_some / 2 ^ (x1_thing).toNat) % (2 : Int)) = (1 : Int)))).map fun x1_thing => x1_thing)
def pre_things_of (v_some : Int) : Prop := Builtin.Int.intBits v_some ≤ 100000
abbrev sp_things_of (K : PySem.W.Frag) : Sp := spV K (A := Int) (fun a => [eI a]) (fun a : Int => pre_things_of a) (fun a => (eL eI) (m_things_of a))
theorem ok_things_of (T : Top K mg xa)  : C8.Cal P w K mg base 1 "things_of" (sp_things_of K) [] := by
  obtain ⟨f, fd, F, hm⟩ := T.d_things_of
  refine ⟨f, fd, ["some"], [], fn_pure F sc_things_of (fun _ => rfl) fun y v_some hr hp => ?_, hm, F.kp, F.binds fun _ _ _ _ _ _ us hl => (match us, hl with | [_], _ => rfl), .nil⟩
  simp only [pre_things_of] at hp
  show S _ (defBody s_things_of) [.v (eI v_some), .no] ((fun (v : (List Int)) => Out.rt ((eL eI) v) []) (m_things_of v_some))
  exact s_ret (e_el (el_lc (own := [("thing", 1)]) rfl sc_things_of.nd (blkOk_by (by kernel_rfl)) (lc1 (f := eI) 1 (fun x1_thing => (decide (((v_some / 2 ^ (x1_thing).toNat) % (2 : Int)) = (1 : Int)))) (fun x1_thing => x1_thing) eI sc_things_of.nd rfl (fun _ => ⟨.inl rfl, .inr rfl⟩) (Nat.le_of_ble_eq_true rfl) (.inl rfl) rfl (it_range1 (n := ((Builtin.Int.intBits v_some : Nat) : Int)) (by rfl) T.b_range (ea_cons (e_bits (e_var 0 rfl rfl (.inr (.inl rfl)))) ea_nil) (by /- side 1: bound of range ((Builtin.Int.intBits v_some : Nat) : Int) -/ omega)) (by /- side 2: ((rng 0 ((Builtin.Int.intBits v_some : Nat) : Int))).length ≤ 1000000 -/ rw [rng_len]; omega) (fun x1_thing hx1 => ce_one (fun _ => (t_eqI (e_mod (by decide) (e_shr (by /- side 3: 0 ≤ x1_thing -/ exact (rng_mem hx1).1) (e_var 0 rfl rfl (.inr (.inl rfl))) (e_var 1 rfl rfl (.inl rfl))) e_int) e_int)) (fun hc1 _ => (e_var 1 rfl rfl (.inl rfl))))))) (.inl rfl)

theorem things_mem {v x : Int} (h : x ∈ m_things_of v) : 0 ≤ x ∧ x < (Builtin.Int.intBits v : Nat) := by
  unfold m_things_of at h
  obtain ⟨y, hy, rfl⟩ := List.mem_map.mp h
  exact rng_mem (List.mem_filter.mp hy).1
theorem things_mem32 {v x : Int} (hv : In32 v) (h : x ∈ m_things_of v) : 0 ≤ x ∧ x < 5 := by
  have := things_mem h
  have := bits32 hv
  omega
theorem things_len {v : Int} : (m_things_of v).length ≤ Builtin.Int.intBits v := by
  unfold m_things_of
  rw [List.length_map]
  refine Nat.le_trans (List.length_filter_le _ _) ?_
  rw [rng_len]; omega

/-! ### size_of -/
abbrev s_size_of : Stmt := topS 17
abbrev N_size_of : List Str := ["some"]
theorem sc_size_of : FnScope N_size_of ["some"] (defScope s_size_of) := ⟨rfl, rfl, rfl, by decide +kernel, rfl, by decide +kernel, by decide +kernel⟩
def m_size_of (v_some : Int) : Int :=
  (((m_things_of v_some)).length : Int)
def pre_size_of (v_some : Int) : Prop := Builtin.Int.intBits v_some ≤ 100000
abbrev sp_size_of (K : PySem.W.Frag) : Sp := spV K (A := Int) (fun a => [eI a]) (fun a : Int => pre_size_of a) (fun a => eI (m_size_of a))
theorem ok_size_of (T : Top K mg xa) (c_things_of : C8.Cal P w K mg base 1 "things_of" (sp_things_of K) []) : C8.Cal P w K mg base 2 "size_of" (sp_size_of K) [] := by
  obtain ⟨f, fd, F, hm⟩ := T.d_size_of
  refine ⟨f, fd, ["some"], [], fn_pure F sc_size_of (fun _ => rfl) fun y v_some hr hp => ?_, hm, F.kp, F.binds fun _ _ _ _ _ _ us hl => (match us, hl with | [_], _ => rfl), .nil⟩
  simp only [pre_size_of] at hp
  show S _ (defBody s_size_of) [.v (eI v_some)] ((fun (v : Int) => Out.rt (eI v) []) (m_size_of v_some))
  exact s_ret (e_lenT (f := eI) (by rfl) T.b_len (J.sL (r_e (e_call c_things_of hr (by decide) (by rfl) v_some rfl (ea_cons (e_var 0 rfl rfl (.inl rfl)) ea_nil) (by /- side 1: pre of things_of v_some -/ show pre_things_of v_some; simp only [pre_things_of]; exact hp))))) (.inl rfl)

/-! ### is_family -/
abbrev s_is_family : Stmt := topS 14
abbrev N_is_family : List Str := ["some", "n", "sets", "rises", "other", "one", "entry"]
theorem sc_is_family : FnScope N_is_family ["some"] (defScope s_is_family) := ⟨rfl, rfl, rfl, by decide +kernel, rfl, by decide +kernel, by decide +kernel⟩
def m_is_family (v_some : (Int × (List Int))) : Bool :=
  (if (!((decide ((1 : Int) ≤ (v_some).1)) && (decide ((v_some).1 ≤ (9 : Int))))) then false else (lt (((List.zip (v_some).2 (cut (v_some).2 (some (1 : Int)) none)).map fun x1_one => (decide ((x1_one).1 < (x1_one).2))).all id) (fun (v1_rises : Bool) => (v1_rises && (((v_some).2.map fun x2_entry => ((decide ((0 : Int) ≤ x2_entry)) && (decide (x2_entry < ((1 : Int) * 2 ^ ((v_some).1).toNat))))).all id)))))
def pre_is_family (v_some : (Int × (List Int))) : Prop := v_some.2.length ≤ 1000
abbrev sp_is_family (K : PySem.W.Frag) : Sp := spV K (A := (Int × (List Int))) (fun a => [(eP eI (eT eI)) a]) (fun a : (Int × (List Int)) => pre_is_family a) (fun a => eB (m_is_family a))
theorem ok_is_family (T : Top K mg xa)  : C8.Cal P w K mg base 1 "is_family" (sp_is_family K) [] := by
  obtain ⟨f, fd, F, hm⟩ := T.d_is_family
  refine ⟨f, fd, ["some"], [], fn_pure F sc_is_family (fun _ => rfl) fun y v_some hr hp => ?_, hm, F.kp, F.binds fun _ _ _ _ _ _ us hl => (match us, hl with | [_], _ => rfl), .nil⟩
  simp only [pre_is_family] at hp
  show S _ (defBody s_is_family) [.v ((eP eI (eT eI)) v_some), .no, .no, .no, .no, .no, .no] ((fun (v : Bool) => Out.rt (eB v) []) (m_is_family v_some))
  refine s_cons (b_asg (e_var 0 rfl rfl (.inl rfl)) (tg_tup rfl (tgs_cons (tg_name 1 sc_is_family.nd rfl (.inr rfl) (Nat.le_of_ble_eq_true rfl) (.inl rfl) (.inl rfl)) (tgs_cons (tg_name 2 sc_is_family.nd rfl (.inl rfl) (Nat.le_of_ble_eq_true rfl) (.inl rfl) (.inl rfl)) tgs_nil)) rfl)) ?_
  refine s_if (fun (v : Bool) => Out.rt (eB v) []) (t_not (t_chain op_le op_le (o_B0 (g := fun i j => decide (i ≤ j))) (fun _ => (o_B0 (g := fun i j => decide (i ≤ j)))) e_int (e_var 1 rfl rfl (.inr (.inl rfl))) (fun _ => (let h := T.k_MOST_THINGS; e_glob (v := .int 9) (by rfl) h.choose_spec ⟨_, rfl⟩ (fun _ => .int _))))) (fun hc1 => ?_) rfl (fun hc1 => ?_)
  · skip
    exact s_ret e_bl (.inl rfl)
  · skip
    refine s_cons (b_set (d := eB (((List.zip (v_some).2 (cut (v_some).2 (some (1 : Int)) none)).map fun x1_one => (decide ((x1_one).1 < (x1_one).2))).all id)) 3 sc_is_family.nd rfl (.inl rfl) (.inl rfl) (Nat.le_of_ble_eq_true rfl) (.inl rfl) (e_all rfl (by rfl) T.b_all (r_el (el_lc (own := [("one", 5), ("other", 4)]) rfl sc_is_family.nd (blkOk_by (by kernel_rfl)) (lcTm (f := (eP eI eI)) (js := [5, 4]) [("one", 5), ("other", 4)] (fun (x1_one : (Int × Int)) => [.v ((eP eI (eT eI)) v_some), .v (eI (v_some).1), .v ((eT eI) (v_some).2), .no, .v (eI (x1_one).2), .v (eI (x1_one).1), .no]) (fun x1_one => (decide ((x1_one).1 < (x1_one).2))) eB (all2 ⟨Nat.le_of_ble_eq_true rfl, (.inl rfl), rfl⟩ ⟨Nat.le_of_ble_eq_true rfl, (.inl rfl), rfl⟩) (by decide) (it_zipTT (f := eI) (g := eI) (by rfl) T.b_zip (ea_cons (e_var 2 rfl rfl (.inl rfl)) (ea_cons (e_slTT (f := eI) (e_var 2 rfl rfl (.inl rfl)) (eo_some e_int) eo_none) ea_nil))) (by /- side 1: ((List.zip (v_some).2 (cut (v_some).2 (some (1 : Int)) none))).length ≤ 1000000 -/ rw [List.length_zip]; omega) (fun y x1_one hx1 => (tg_tup rfl (tgs_cons (tg_name 5 sc_is_family.nd rfl (.inl rfl) (Nat.le_of_ble_eq_true rfl) (.inl rfl) (.inr rfl)) (tgs_cons (tg_name 4 sc_is_family.nd rfl (.inl rfl) (Nat.le_of_ble_eq_true rfl) (.inl rfl) (.inr rfl)) tgs_nil)) rfl)) (fun x1_one hx1 => ce_all (fun _ => (e_lt (e_var 5 rfl rfl (.inl rfl)) (e_var 4 rfl rfl (.inl rfl))))))))) rfl) ?_
    refine s_let (a := (((List.zip (v_some).2 (cut (v_some).2 (some (1 : Int)) none)).map fun x1_one => (decide ((x1_one).1 < (x1_one).2))).all id)) (fun v1_rises : Bool => [.v ((eP eI (eT eI)) v_some), .v (eI (v_some).1), .v ((eT eI) (v_some).2), .v (eB v1_rises), .no, .no, .no]) (fun (v : Bool) => Out.rt (eB v) []) _ (fun v1_rises h_v1_rises => ?_)
    exact s_ret (e_andB (e_var 3 rfl rfl (.inl rfl)) (fun hb1_0 => (e_one (e_all rfl (by rfl) T.b_all (r_el (el_lc (own := [("entry", 6)]) rfl sc_is_family.nd (blkOk_by (by kernel_rfl)) (lc1m (f := eI) 6 (fun x2_entry => ((decide ((0 : Int) ≤ x2_entry)) && (decide (x2_entry < ((1 : Int) * 2 ^ ((v_some).1).toNat))))) eB sc_is_family.nd rfl (fun _ => ⟨.inl rfl, .inr rfl⟩) (Nat.le_of_ble_eq_true rfl) (.inl rfl) rfl (it_tup (e_var 2 rfl rfl (.inl rfl))) (by /- side 2: ((v_some).2).length ≤ 1000000 -/ first | decide | omega) (fun x2_entry hx2 => ce_all (fun _ => (e_chain op_le op_lt (o_B0 (g := fun i j => decide (i ≤ j))) (fun _ => (o_B0 (g := fun i j => decide (i < j)))) e_int (e_var 6 rfl rfl (.inl rfl)) (fun _ => (e_shl (by /- side 3: CPow (1 : Int) (v_some).1 -/ simp at hc1; exact ⟨by omega, by omega, by decide⟩) e_int (e_var 1 rfl rfl (.inr (.inl rfl))))))))))))))) (.inl rfl)

/-! ### check_family -/
abbrev s_check_family : Stmt := topS 15
abbrev N_check_family : List Str := ["some"]
theorem sc_check_family : FnScope N_check_family ["some"] (defScope s_check_family) := ⟨rfl, rfl, rfl, by decide +kernel, rfl, by decide +kernel, by decide +kernel⟩
def m_check_family (v_some : (Int × (List Int))) : (Except Str Unit) :=
  (if (!(m_is_family v_some)) then (.error (Str.ofString "NotFamily")) else (.ok ()))
def pre_check_family (v_some : (Int × (List Int))) : Prop := v_some.2.length ≤ 1000
abbrev sp_check_family (xa : XA) (K : PySem.W.Frag) : Sp := spX K xa (A := (Int × (List Int))) (fun a => [(eP eI (eT eI)) a]) (fun a : (Int × (List Int)) => pre_check_family a) (fun a => mapX (fun _ : Unit => PyData.none) (m_check_family a))
theorem ok_check_family (T : Top K mg xa) (c_is_family : C8.Cal P w K mg base 1 "is_family" (sp_is_family K) []) : CalX P w K mg base 2 "check_family" (sp_check_family xa K) := by
  obtain ⟨f, fd, F, hm⟩ := T.d_check_family
  refine ⟨f, fd, ["some"], fn_xN (n := 1) F sc_check_family (fun _ => rfl) fun y v_some hr hp => ?_, hm, F.kp, F.binds fun _ _ _ _ _ _ us hl => (match us, hl with | [_], _ => rfl)⟩
  simp only [pre_check_family] at hp
  show S _ (defBody s_check_family) [.v ((eP eI (eT eI)) v_some)] ((rN xa 1) (m_check_family v_some))
  refine s_if (rN xa 1) (t_not (t_val (e_call c_is_family hr (by decide) (by rfl) v_some rfl (ea_cons (e_var 0 rfl rfl (.inl rfl)) ea_nil) (by /- side 1: pre of is_family v_some -/ show pre_is_family v_some; exact hp)))) (fun hc1 => ?_) rfl (fun hc1 => ?_)
  · skip
    exact s_raise rfl rfl rfl rfl dctxX_tk (T.x_NotFamily) (by rfl)
  · skip
    exact s_endN (.inl rfl)

theorem fam_ok {f : Int × List Int} {u : Unit} (h : m_check_family f = .ok u) : m_is_family f = true := by
  unfold m_check_family at h
  cases q : m_is_family f with
  | true => rfl
  | false => rw [q] at h; cases h
theorem fam_shape {f : Int × List Int} (h : m_is_family f = true) : 1 ≤ f.1 ∧ f.1 ≤ 9 ∧ (List.zip f.2 (cut f.2 (some (1 : Int)) none)).all (fun p => decide (p.1 < p.2)) = true ∧ ∀ x ∈ f.2, 0 ≤ x ∧ x < 2 ^ f.1.toNat := by
  unfold m_is_family at h
  simp only [lt] at h
  cases q : (decide ((1 : Int) ≤ f.1) && decide (f.1 ≤ (9 : Int))) with
  | false => rw [q] at h; cases h
  | true =>
    rw [q] at h
    simp only [Bool.and_eq_true, decide_eq_true_eq] at q
    have h : _ = true := h
    rw [Bool.not_true, if_neg Bool.false_ne_true, Bool.and_eq_true] at h
    refine ⟨q.1, q.2, ?_, fun x hx => ?_⟩
    · have := h.1
      rw [List.all_map] at this
      exact this
    · have := h.2
      rw [List.all_map, List.all_eq_true] at this
      have := this x hx
      simpa using this
theorem fam_in {f : Int × List Int} (h : m_is_family f = true) (h5 : f.1 ≤ 5) : ∀ x ∈ f.2, In32 x := by
  obtain ⟨h1, h2, _, h4⟩ := fam_shape h
  intro x hx
  have := h4 x hx
  refine ⟨this.1, Int.lt_of_lt_of_le this.2 ?_⟩
  have e : f.1 = 1 ∨ f.1 = 2 ∨ f.1 = 3 ∨ f.1 = 4 ∨ f.1 = 5 := by omega
  rcases e with e | e | e | e | e <;> rw [e] <;> decide
theorem at_W0 {d : D} {l : List D} : atI (d :: l) 0 = some d := by
  have e : (0 : Int) < (l.length : Int) + 1 := by omega
  simp [atI, ixN, e]
theorem at_W1 {s : Str} {l : List Int} (h : 1 ≤ l.length) : atI (PyData.str s :: l.map .int) 1 = some (.int (ati l 0 0)) := by
  cases l with
  | nil => cases h
  | cons a l => have e : (1 : Int) < (l.length : Int) + 1 + 1 := by omega
                simp [atI, ixN, ati, e]
theorem at_W2 {s : Str} {l : List Int} (h : 2 ≤ l.length) : atI (PyData.str s :: l.map .int) 2 = some (.int (ati l 1 0)) := by
  match l, h with
  | a :: b :: l, _ =>
    have e : (2 : Int) < (l.length : Int) + 1 + 1 + 1 := by omega
    have e2 : (1 : Int) < (l.length : Int) + 1 + 1 := by omega
    simp [atI, ixN, ati, e, e2]
theorem e_W3 {C : TL.Ctx} {Γ Γ1 : List Ent} {a : Expr} {v : Str × List Int} (h : v.2.length = 3) (ha : E C a Γ (eW v) Γ1) : E C a Γ (.tuple [.str v.1, .int (ati v.2 0 0), .int (ati v.2 1 0), .int (ati v.2 2 0)]) Γ1 := by
  obtain ⟨s, l⟩ := v
  match l, h with
  | [a, b, c], _ => exact ha
theorem e_lenW {C : TL.Ctx} {Γ Γ1 : List Ent} {a : Expr} {p pos : Pos} {v : Str × List Int} (hg : Gl C.X "len") (hm : C.X.mg "len" = none) (ha : E C a Γ (eW v) Γ1) (he : starEach [a] C.X.env = (false, eval a C.X.env) :: starEach [] C.X.env := by rfl) (hpl : (backTo pos (starEach [] C.X.env)).any (·.1) = false := by rfl) : E C (.Call (.Name "len" p) [a] [] pos) Γ (.int ((v.2.length : Int) + 1)) Γ1 := by
  have := e_len (p := p) (pos := pos) hg hm ha.sT he hpl
  simpa using this

/-! ### exchanges -/
abbrev s_exchanges : Stmt := topS 18
abbrev N_exchanges : List Str := ["known", "one", "other", "thing", "less", "more"]
theorem sc_exchanges : FnScope N_exchanges ["known", "one", "other", "thing"] (defScope s_exchanges) := ⟨rfl, rfl, rfl, by decide +kernel, rfl, by decide +kernel, by decide +kernel⟩
def m_exchanges (v_known : (List (Int × Bool))) (v_one : Int) (v_other : Int) (v_thing : Int) : Bool :=
  (lt (Builtin.bitXor v_one ((1 : Int) * 2 ^ (v_thing).toNat)) (fun (v1_less : Int) => (((m_things_of (Builtin.bitAnd v_other (Builtin.bitNot v_one))).map fun x1_more => (decide ((Builtin.bitOr v1_less ((1 : Int) * 2 ^ (x1_more).toNat)) ∈ (v_known).map (·.1)))).any id)))
def pre_exchanges (v_known : (List (Int × Bool))) (v_one : Int) (v_other : Int) (v_thing : Int) : Prop := In32 v_one ∧ In32 v_other ∧ 0 ≤ v_thing ∧ v_thing < 5
abbrev sp_exchanges (K : PySem.W.Frag) : Sp := spV K (A := (List (Int × Bool)) × Int × Int × Int) (fun a => [(eDI eB) a.1, eI a.2.1, eI a.2.2.1, eI a.2.2.2]) (fun a : (List (Int × Bool)) × Int × Int × Int => pre_exchanges a.1 a.2.1 a.2.2.1 a.2.2.2) (fun a => eB (m_exchanges a.1 a.2.1 a.2.2.1 a.2.2.2))
theorem ok_exchanges (T : Top K mg xa) (c_things_of : C8.Cal P w K mg base 1 "things_of" (sp_things_of K) []) : C8.Cal P w K mg base 2 "exchanges" (sp_exchanges K) [] := by
  obtain ⟨f, fd, F, hm⟩ := T.d_exchanges
  refine ⟨f, fd, ["known", "one", "other", "thing"], [], fn_pure F sc_exchanges (fun _ => rfl) fun y ⟨v_known, v_one, v_other, v_thing⟩ hr hp => ?_, hm, F.kp, F.binds fun _ _ _ _ _ _ us hl => (match us, hl with | [_, _, _, _], _ => rfl), .nil⟩
  simp only [pre_exchanges] at hp
  show S _ (defBody s_exchanges) [.v ((eDI eB) v_known), .v (eI v_one), .v (eI v_other), .v (eI v_thing), .no, .no] ((fun (v : Bool) => Out.rt (eB v) []) (m_exchanges v_known v_one v_other v_thing))
  refine s_cons (b_set (d := eI (Builtin.bitXor v_one ((1 : Int) * 2 ^ (v_thing).toNat))) 4 sc_exchanges.nd rfl (.inr rfl) (.inl rfl) (Nat.le_of_ble_eq_true rfl) (.inl rfl) (e_bxor (e_var 1 rfl rfl (.inl rfl)) (e_shl (by /- side 1: CPow (1 : Int) v_thing -/ exact ⟨hp.2.2.1, by omega, by decide⟩) e_int (e_var 3 rfl rfl (.inl rfl)))) rfl) ?_
  refine s_let (a := (Builtin.bitXor v_one ((1 : Int) * 2 ^ (v_thing).toNat))) (fun v1_less : Int => [.v ((eDI eB) v_known), .v (eI v_one), .v (eI v_other), .v (eI v_thing), .v (eI v1_less), .no]) (fun (v : Bool) => Out.rt (eB v) []) _ (fun v1_less h_v1_less => ?_)
  exact s_ret (e_any rfl (by rfl) T.b_any (r_el (el_lc (own := [("more", 5)]) rfl sc_exchanges.nd (blkOk_by (by kernel_rfl)) (lc1m (f := eI) 5 (fun x1_more => (decide ((Builtin.bitOr v1_less ((1 : Int) * 2 ^ (x1_more).toNat)) ∈ (v_known).map (·.1)))) eB sc_exchanges.nd rfl (fun _ => ⟨.inl rfl, .inr rfl⟩) (Nat.le_of_ble_eq_true rfl) (.inl rfl) rfl (it_list (e_call c_things_of hr (by decide) (by rfl) (Builtin.bitAnd v_other (Builtin.bitNot v_one)) rfl (ea_cons (e_band (e_var 2 rfl rfl (.inl rfl)) (e_inv (e_var 1 rfl rfl (.inl rfl)))) ea_nil) (by /- side 2: pre of things_of (Builtin.bitAnd v_other (Builtin.bitNot v_one)) -/ show pre_things_of (Builtin.bitAnd v_other (Builtin.bitNot v_one)); simp only [pre_things_of]; have := bits32 (andn32 hp.2.1 hp.1); omega))) (by /- side 3: ((m_things_of (Builtin.bitAnd v_other (Builtin.bitNot v_one)))).length ≤ 1000000 -/ exact Nat.le_trans things_len (by have := bits32 (andn32 hp.2.1 hp.1); omega)) (fun x1_more hx1 => ce_all (fun _ => (e_inDI (f := eB) hr.units1 (e_bor (e_var 4 rfl rfl (.inr (.inl rfl))) (e_shl (by /- side 4: CPow (1 : Int) x1_more -/ have := things_mem32 (andn32 hp.2.1 hp.1) hx1; exact ⟨this.1, by omega, by decide⟩) e_int (e_var 5 rfl rfl (.inl rfl)))) (e_var 0 rfl rfl (.inr (.inl rfl)))))))))) (.inl rfl)

/-! ### trouble_of -/
abbrev s_trouble_of : Stmt := topS 19
abbrev N_trouble_of : List Str := ["sets", "known", "one", "other", "thing", "some"]
theorem sc_trouble_of : FnScope N_trouble_of ["sets"] (defScope s_trouble_of) := ⟨rfl, rfl, rfl, by decide +kernel, rfl, by decide +kernel, by decide +kernel⟩
def m_trouble_of (v_sets : (List Int)) : (Option (Str × List Int)) :=
  (if (!(!(v_sets).isEmpty)) then (some (((Str.ofString "none"), []) : Str × List Int)) else (lt (dcI (fun x1_some => true) (fun x1_some => x1_some) (fun x1_some => true) v_sets) (fun (v1_known : (List (Int × Bool))) => (lpK (runL (fun (s1 : Unit) (x1_onel : Int) => ((lpK (runL (fun (s2 : Unit) (x2_otherl : Int) => ((if (!(decide ((m_size_of x1_onel) = (m_size_of x2_otherl)))) then (Lp.ret (some (((Str.ofString "size"), [x1_onel, x2_otherl]) : Str × List Int))) else (lpK (runL (fun (s3 : Unit) (x3_thingl : Int) => ((if (!(m_exchanges v1_known x1_onel x2_otherl x3_thingl)) then (Lp.ret (some (((Str.ofString "exchange"), [x1_onel, x2_otherl, x3_thingl]) : Str × List Int))) else (Lp.go ())) : Lp (Unit) (Option (Str × List Int)))) () (m_things_of (Builtin.bitAnd x1_onel (Builtin.bitNot x2_otherl)))) (fun (s3 : Unit) => (Lp.go ())) (fun c => (Lp.ret c)))) : Lp (Unit) (Option (Str × List Int)))) () v_sets) (fun (s2 : Unit) => (Lp.go ())) (fun c => (Lp.ret c))) : Lp (Unit) (Option (Str × List Int)))) () v_sets) (fun (s1 : Unit) => none) (fun c => c)))))
def pre_trouble_of (v_sets : (List Int)) : Prop := (∀ x ∈ v_sets, In32 x) ∧ v_sets.length ≤ 1000
abbrev sp_trouble_of (K : PySem.W.Frag) : Sp := spV K (A := (List Int)) (fun a => [(eT eI) a]) (fun a : (List Int) => pre_trouble_of a) (fun a => (eO eW) (m_trouble_of a))
theorem ok_trouble_of (T : Top K mg xa) (c_size_of : C8.Cal P w K mg base 2 "size_of" (sp_size_of K) []) (c_things_of : C8.Cal P w K mg base 1 "things_of" (sp_things_of K) []) (c_exchanges : C8.Cal P w K mg base 2 "exchanges" (sp_exchanges K) []) : C8.Cal P w K mg base 3 "trouble_of" (sp_trouble_of K) [] := by
  obtain ⟨f, fd, F, hm⟩ := T.d_trouble_of
  refine ⟨f, fd, ["sets"], [], fn_pure F sc_trouble_of (fun _ => rfl) fun y v_sets hr hp => ?_, hm, F.kp, F.binds fun _ _ _ _ _ _ us hl => (match us, hl with | [_], _ => rfl), .nil⟩
  simp only [pre_trouble_of] at hp
  obtain ⟨h32, hlen⟩ := hp
  show S _ (defBody s_trouble_of) [.v ((eT eI) v_sets), .no, .no, .no, .no, .no] ((fun (v : (Option (Str × List Int))) => Out.rt ((eO eW) v) []) (m_trouble_of v_sets))
  refine s_if (fun (v : (Option (Str × List Int))) => Out.rt ((eO eW) v) []) (t_not (t_tupT (f := eI) (e_var 0 rfl rfl (.inl rfl)))) (fun hc1 => ?_) rfl (fun hc1 => ?_)
  · skip
    exact s_ret (e_tup (ea_cons (e_glob (v := .str (Str.ofString "none")) (by rfl) T.k_NONE.choose_spec ⟨_, rfl⟩ (fun _ => .str _)) ea_nil) (Nat.le_of_ble_eq_true rfl)) (.inl rfl)
  · skip
    refine s_cons (b_setDc (f := eI) (fv := eB) (js := [5]) 1 [("some", 5)] (fun (x1_some : Int) => [.v ((eT eI) v_sets), .no, .no, .no, .no, .v (eI x1_some)]) (fun x1_some => true) (fun x1_some => x1_some) (fun x1_some => true) rfl sc_trouble_of.nd rfl rfl (Nat.le_of_ble_eq_true rfl) (.inl rfl) (sw_trueD rfl rfl rfl (by decide +kernel)) (blkOk_by (by kernel_rfl)) (all1 ⟨Nat.le_of_ble_eq_true rfl, (.inl rfl), rfl⟩) (by decide) (it_tup (e_var 0 rfl rfl (.inl rfl))) (by /- side 1: (v_sets).length ≤ 1000000 -/ omega) (fun y x1_some hx1 => (tg_name 5 sc_trouble_of.nd rfl (.inl rfl) (Nat.le_of_ble_eq_true rfl) (.inl rfl) (.inr rfl))) (fun _ _ => ifs_nil) (fun x1_some hx1 hc1 y => (e_var 5 rfl rfl (.inl rfl))) (fun x1_some hx1 hc1 y => e_bl)) ?_
    refine s_let (a := (dcI (fun x1_some => true) (fun x1_some => x1_some) (fun x1_some => true) v_sets)) (fun v1_known : (List (Int × Bool)) => [.v ((eT eI) v_sets), .v ((eDI eB) v1_known), .no, .no, .no, .no]) (fun (v : (Option (Str × List Int))) => Out.rt ((eO eW) v) []) _ (fun v1_known h_v1_known => ?_)
    refine s_loop (fun (v : (Option (Str × List Int))) => Out.rt ((eO eW) v) []) _ (fun c : (Option (Str × List Int)) => c) (b_for (f := eI) (a0 := ()) (fun (s1 : Unit) (x1_onel : Int) => ((lpK (runL (fun (s2 : Unit) (x2_otherl : Int) => ((if (!(decide ((m_size_of x1_onel) = (m_size_of x2_otherl)))) then (Lp.ret (some (((Str.ofString "size"), [x1_onel, x2_otherl]) : Str × List Int))) else (lpK (runL (fun (s3 : Unit) (x3_thingl : Int) => ((if (!(m_exchanges v1_known x1_onel x2_otherl x3_thingl)) then (Lp.ret (some (((Str.ofString "exchange"), [x1_onel, x2_otherl, x3_thingl]) : Str × List Int))) else (Lp.go ())) : Lp (Unit) (Option (Str × List Int)))) () (m_things_of (Builtin.bitAnd x1_onel (Builtin.bitNot x2_otherl)))) (fun (s3 : Unit) => (Lp.go ())) (fun c => (Lp.ret c)))) : Lp (Unit) (Option (Str × List Int)))) () v_sets) (fun (s2 : Unit) => (Lp.go ())) (fun c => (Lp.ret c))) : Lp (Unit) (Option (Str × List Int)))) (fun (s1 : Unit) => [.v ((eT eI) v_sets), .v ((eDI eB) v1_known), .no, .no, .no, .no]) (fun (v : (Option (Str × List Int))) => Out.rt ((eO eW) v) []) (fun (s1 : Unit) (x1_onel : Int) => [.v ((eT eI) v_sets), .v ((eDI eB) v1_known), .v (eI x1_onel), .no, .no, .no]) [2] (fun _ _ => True) (trivial) (fun _ _ _ _ _ _ _ => trivial) PassesOwn.never rfl (fun _ => rfl) (it_tup (e_var 0 rfl rfl (.inl rfl))) (fun gs x1_onel s1 hx => (tg_name 2 sc_trouble_of.nd rfl (.inl rfl) (Nat.le_of_ble_eq_true rfl) (.inl rfl) (.inl rfl))) (fun gs i1 x1_onel s1 li1 lx1 lP1 => ?_)) (fun _ => rfl) (fun _ => rfl) (fun s1 hrun => ?_)
    · skip
      refine s_loop (lpO (fun (s1 : Unit) => [.v ((eT eI) v_sets), .v ((eDI eB) v1_known), .no, .no, .no, .no]) (fun (v : (Option (Str × List Int))) => Out.rt ((eO eW) v) [])) _ (fun c : (Option (Str × List Int)) => (Lp.ret c)) (b_for (f := eI) (a0 := ()) (fun (s2 : Unit) (x2_otherl : Int) => ((if (!(decide ((m_size_of x1_onel) = (m_size_of x2_otherl)))) then (Lp.ret (some (((Str.ofString "size"), [x1_onel, x2_otherl]) : Str × List Int))) else (lpK (runL (fun (s3 : Unit) (x3_thingl : Int) => ((if (!(m_exchanges v1_known x1_onel x2_otherl x3_thingl)) then (Lp.ret (some (((Str.ofString "exchange"), [x1_onel, x2_otherl, x3_thingl]) : Str × List Int))) else (Lp.go ())) : Lp (Unit) (Option (Str × List Int)))) () (m_things_of (Builtin.bitAnd x1_onel (Builtin.bitNot x2_otherl)))) (fun (s3 : Unit) => (Lp.go ())) (fun c => (Lp.ret c)))) : Lp (Unit) (Option (Str × List Int)))) (fun (s2 : Unit) => [.v ((eT eI) v_sets), .v ((eDI eB) v1_known), .v (eI x1_onel), .no, .no, .no]) (fun (v : (Option (Str × List Int))) => Out.rt ((eO eW) v) []) (fun (s2 : Unit) (x2_otherl : Int) => [.v ((eT eI) v_sets), .v ((eDI eB) v1_known), .v (eI x1_onel), .v (eI x2_otherl), .no, .no]) [3] (fun _ _ => True) (trivial) (fun _ _ _ _ _ _ _ => trivial) PassesOwn.never rfl (fun _ => rfl) (it_tup (e_var 0 rfl rfl (.inl rfl))) (fun gs x2_otherl s2 hx => (tg_name 3 sc_trouble_of.nd rfl (.inl rfl) (Nat.le_of_ble_eq_true rfl) (.inl rfl) (.inl rfl))) (fun gs i2 x2_otherl s2 li2 lx2 lP2 => ?_)) (fun _ => rfl) (fun _ => rfl) (fun s2 hrun => ?_)
      · skip
        refine s_if (lpO (fun (s2 : Unit) => [.v ((eT eI) v_sets), .v ((eDI eB) v1_known), .v (eI x1_onel), .no, .no, .no]) (fun (v : (Option (Str × List Int))) => Out.rt ((eO eW) v) [])) (t_neI (e_call c_size_of hr (by decide) (by rfl) x1_onel rfl (ea_cons (e_var 2 rfl rfl (.inl rfl)) ea_nil) (by /- side 2: pre of size_of x1_onel -/ show pre_size_of x1_onel; simp only [pre_size_of]; have := bits32 (h32 _ lx1); omega)) (e_call c_size_of hr (by decide) (by rfl) x2_otherl rfl (ea_cons (e_var 3 rfl rfl (.inl rfl)) ea_nil) (by /- side 3: pre of size_of x2_otherl -/ show pre_size_of x2_otherl; simp only [pre_size_of]; have := bits32 (h32 _ lx2); omega))) (fun hc2 => ?_) rfl (fun hc2 => ?_)
        · skip
          exact s_ret (e_tup (ea_cons (e_glob (v := .str (Str.ofString "size")) (by rfl) T.k_SIZE.choose_spec ⟨_, rfl⟩ (fun _ => .str _)) (ea_cons (e_var 2 rfl rfl (.inl rfl)) (ea_cons (e_var 3 rfl rfl (.inl rfl)) ea_nil))) (Nat.le_of_ble_eq_true rfl)) (.inl rfl)
        · skip
          refine s_loop (lpO (fun (s2 : Unit) => [.v ((eT eI) v_sets), .v ((eDI eB) v1_known), .v (eI x1_onel), .no, .no, .no]) (fun (v : (Option (Str × List Int))) => Out.rt ((eO eW) v) [])) _ (fun c : (Option (Str × List Int)) => (Lp.ret c)) (b_for (f := eI) (a0 := ()) (fun (s3 : Unit) (x3_thingl : Int) => ((if (!(m_exchanges v1_known x1_onel x2_otherl x3_thingl)) then (Lp.ret (some (((Str.ofString "exchange"), [x1_onel, x2_otherl, x3_thingl]) : Str × List Int))) else (Lp.go ())) : Lp (Unit) (Option (Str × List Int)))) (fun (s3 : Unit) => [.v ((eT eI) v_sets), .v ((eDI eB) v1_known), .v (eI x1_onel), .v (eI x2_otherl), .no, .no]) (fun (v : (Option (Str × List Int))) => Out.rt ((eO eW) v) []) (fun (s3 : Unit) (x3_thingl : Int) => [.v ((eT eI) v_sets), .v ((eDI eB) v1_known), .v (eI x1_onel), .v (eI x2_otherl), .v (eI x3_thingl), .no]) [4] (fun _ _ => True) (trivial) (fun _ _ _ _ _ _ _ => trivial) PassesOwn.never rfl (fun _ => rfl) (it_list (e_call c_things_of hr (by decide) (by rfl) (Builtin.bitAnd x1_onel (Builtin.bitNot x2_otherl)) rfl (ea_cons (e_band (e_var 2 rfl rfl (.inl rfl)) (e_inv (e_var 3 rfl rfl (.inl rfl)))) ea_nil) (by /- side 4: pre of things_of (Builtin.bitAnd x1_onel (Builtin.bitNot x2_otherl)) -/ show pre_things_of (Builtin.bitAnd x1_onel (Builtin.bitNot x2_otherl)); simp only [pre_things_of]; have := bits32 (andn32 (h32 _ lx1) (h32 _ lx2)); omega))) (fun gs x3_thingl s3 hx => (tg_name 4 sc_trouble_of.nd rfl (.inl rfl) (Nat.le_of_ble_eq_true rfl) (.inl rfl) (.inl rfl))) (fun gs i3 x3_thingl s3 li3 lx3 lP3 => ?_)) (fun _ => rfl) (fun _ => rfl) (fun s3 hrun => ?_)
          · skip
            refine s_if (lpO (fun (s3 : Unit) => [.v ((eT eI) v_sets), .v ((eDI eB) v1_known), .v (eI x1_onel), .v (eI x2_otherl), .no, .no]) (fun (v : (Option (Str × List Int))) => Out.rt ((eO eW) v) [])) (t_not (t_val (e_call c_exchanges hr (by decide) (by rfl) (v1_known, x1_onel, x2_otherl, x3_thingl) rfl (ea_cons (e_var 1 rfl rfl (.inl rfl)) (ea_cons (e_var 2 rfl rfl (.inl rfl)) (ea_cons (e_var 3 rfl rfl (.inl rfl)) (ea_cons (e_var 4 rfl rfl (.inl rfl)) ea_nil)))) (by /- side 5: pre of exchanges v1_known x1_onel x2_otherl x3_thingl -/ show pre_exchanges v1_known x1_onel x2_otherl x3_thingl; exact ⟨h32 _ lx1, h32 _ lx2, things_mem32 (andn32 (h32 _ lx1) (h32 _ lx2)) lx3⟩)))) (fun hc3 => ?_) rfl (fun hc3 => ?_)
            · skip
              exact s_ret (e_tup (ea_cons (e_glob (v := .str (Str.ofString "exchange")) (by rfl) T.k_EXCHANGE.choose_spec ⟨_, rfl⟩ (fun _ => .str _)) (ea_cons (e_var 2 rfl rfl (.inl rfl)) (ea_cons (e_var 3 rfl rfl (.inl rfl)) (ea_cons (e_var 4 rfl rfl (.inl rfl)) ea_nil)))) (Nat.le_of_ble_eq_true rfl)) (.inl rfl)
            · skip
              exact s_nilLW ⟨.inl rfl, .inl rfl, .inl rfl, .inl rfl, .inr rfl, .inl rfl, trivial⟩ (.inl rfl)
          · skip
            exact s_nilLW ⟨.inl rfl, .inl rfl, .inl rfl, .inr rfl, .inl rfl, .inl rfl, trivial⟩ (.inl rfl)
      · skip
        exact s_nilLW ⟨.inl rfl, .inl rfl, .inr rfl, .inl rfl, .inl rfl, .inl rfl, trivial⟩ (.inl rfl)
    · skip
      exact s_ret e_non (.inl rfl)

/-! ### trouble -/
abbrev s_trouble : Stmt := topS 20
abbrev N_trouble : List Str := ["family"]
theorem sc_trouble : FnScope N_trouble ["family"] (defScope s_trouble) := ⟨rfl, rfl, rfl, by decide +kernel, rfl, by decide +kernel, by decide +kernel⟩
def m_trouble (v_family : (Int × (List Int))) : (Except Str (Option (Str × List Int))) :=
  (Except.bind (m_check_family v_family) fun v1 => (.ok (m_trouble_of (v_family).2)))
def pre_trouble (v_family : (Int × (List Int))) : Prop := (m_is_family v_family = true → v_family.1 ≤ 5) ∧ v_family.2.length ≤ 1000
abbrev sp_trouble (xa : XA) (K : PySem.W.Frag) : Sp := spX K xa (A := (Int × (List Int))) (fun a => [(eP eI (eT eI)) a]) (fun a : (Int × (List Int)) => pre_trouble a) (fun a => mapX (eO eW) (m_trouble a))
theorem ok_trouble (T : Top K mg xa) (c_check_family : CalX P w K mg base 2 "check_family" (sp_check_family xa K)) (c_trouble_of : C8.Cal P w K mg base 3 "trouble_of" (sp_trouble_of K) []) : CalX P w K mg base 4 "trouble" (sp_trouble xa K) := by
  obtain ⟨f, fd, F, hm⟩ := T.d_trouble
  refine ⟨f, fd, ["family"], fn_x (n := 1) F sc_trouble (fun _ => rfl) fun y v_family hr hp => ?_, hm, F.kp, F.binds fun _ _ _ _ _ _ us hl => (match us, hl with | [_], _ => rfl)⟩
  simp only [pre_trouble] at hp
  show S _ (defBody s_trouble) [.v ((eP eI (eT eI)) v_family)] ((fun (v : Except Str (Option (Str × List Int))) => rX xa 1 (eO eW) v) (m_trouble v_family))
  refine s_exprX (fun _ => rfl) rfl rfl (x_call c_check_family dctxX_tk hr (by decide) (by rfl) v_family rfl (ea_cons (e_var 0 rfl rfl (.inl rfl)) ea_nil) (by /- side 1: pre of check_family v_family -/ show pre_check_family v_family; exact hp.2)) (fun v1 hv1 => ?_)
  exact s_ret (e_call c_trouble_of hr (by decide) (by rfl) (v_family).2 rfl (ea_cons (e_ixT rfl (e_var 0 rfl rfl (.inl rfl)) e_int) ea_nil) (by /- side 2: pre of trouble_of (v_family).2 -/ show pre_trouble_of (v_family).2; exact ⟨fam_in (fam_ok hv1) (hp.1 (fam_ok hv1)), hp.2⟩)) (.inl rfl)

/-! ### is_trouble -/
abbrev s_is_trouble : Stmt := topS 21
abbrev N_is_trouble : List Str := ["family", "told", "sets", "_", "one", "other", "thing", "known", "some"]
theorem sc_is_trouble : FnScope N_is_trouble ["family", "told"] (defScope s_is_trouble) := ⟨rfl, rfl, rfl, by decide +kernel, rfl, by decide +kernel, by decide +kernel⟩
def m_is_trouble (v_family : (Int × (List Int))) (v_told : (Str × List Int)) : (Except Str Bool) :=
  (Except.bind (m_check_family v_family) fun v1 => (if (PyData.eqv (eW v_told) (PyData.tuple [eS (Str.ofString "none")])) then (.ok ((v_family).2).isEmpty) else (if ((decide ((v_told).1 = (Str.ofString "size"))) && (decide (((v_told.2.length : Int) + 1) = (3 : Int)))) then (.ok ((decide ((ati (v_told).2 0 0) ∈ (v_family).2)) && ((decide ((ati (v_told).2 1 0) ∈ (v_family).2)) && (!(decide ((m_size_of (ati (v_told).2 0 0)) = (m_size_of (ati (v_told).2 1 0)))))))) else (if ((!(decide ((v_told).1 = (Str.ofString "exchange")))) || ((!(decide (((v_told.2.length : Int) + 1) = (4 : Int)))) || ((!(decide ((ati (v_told).2 0 0) ∈ (v_family).2))) || (!(decide ((ati (v_told).2 1 0) ∈ (v_family).2)))))) then (.ok false) else (lt (dcI (fun x1_some => true) (fun x1_some => x1_some) (fun x1_some => true) (v_family).2) (fun (v1_known : (List (Int × Bool))) => (.ok ((decide ((ati (v_told).2 2 0) ∈ (m_things_of (Builtin.bitAnd (ati (v_told).2 0 0) (Builtin.bitNot (ati (v_told).2 1 0)))))) && (!(m_exchanges v1_known (ati (v_told).2 0 0) (ati (v_told).2 1 0) (ati (v_told).2 2 0)))))))))))
def pre_is_trouble (v_family : (Int × (List Int))) (v_told : (Str × List Int)) : Prop := (m_is_family v_family = true → v_family.1 ≤ 5) ∧ v_family.2.length ≤ 1000 ∧ PyData.strOk v_told.1 = true
abbrev sp_is_trouble (xa : XA) (K : PySem.W.Frag) : Sp := spX K xa (A := (Int × (List Int)) × (Str × List Int)) (fun a => [(eP eI (eT eI)) a.1, eW a.2]) (fun a : (Int × (List Int)) × (Str × List Int) => pre_is_trouble a.1 a.2) (fun a => mapX eB (m_is_trouble a.1 a.2))
theorem ok_is_trouble (T : Top K mg xa) (c_check_family : CalX P w K mg base 2 "check_family" (sp_check_family xa K)) (c_size_of : C8.Cal P w K mg base 2 "size_of" (sp_size_of K) []) (c_things_of : C8.Cal P w K mg base 1 "things_of" (sp_things_of K) []) (c_exchanges : C8.Cal P w K mg base 2 "exchanges" (sp_exchanges K) []) : CalX P w K mg base 3 "is_trouble" (sp_is_trouble xa K) := by
  obtain ⟨f, fd, F, hm⟩ := T.d_is_trouble
  refine ⟨f, fd, ["family", "told"], fn_x (n := 9) F sc_is_trouble (fun _ => rfl) fun y ⟨v_family, v_told⟩ hr hp => ?_, hm, F.kp, F.binds fun _ _ _ _ _ _ us hl => (match us, hl with | [_, _], _ => rfl)⟩
  simp only [pre_is_trouble] at hp
  obtain ⟨h5f, hlen, hok⟩ := hp
  show S _ (defBody s_is_trouble) [.v ((eP eI (eT eI)) v_family), .v (eW v_told), .no, .no, .no, .no, .no, .no, .no] ((fun (v : Except Str Bool) => rX xa 9 eB v) (m_is_trouble v_family v_told))
  refine s_exprX (fun _ => rfl) rfl rfl (x_call c_check_family dctxX_tk hr (by decide) (by rfl) v_family rfl (ea_cons (e_var 0 rfl rfl (.inl rfl)) ea_nil) (by /- side 1: pre of check_family v_family -/ show pre_check_family v_family; exact hlen)) (fun v1 hv1 => ?_)
  refine s_cons (b_set (d := (eT eI) (v_family).2) 2 sc_is_trouble.nd rfl (.inl rfl) (.inl rfl) (Nat.le_of_ble_eq_true rfl) (.inl rfl) (e_ixT rfl (e_var 0 rfl rfl (.inl rfl)) e_int) rfl) ?_
  refine s_if (fun (v : Except Str Bool) => rX xa 9 eB v) (t_eqD hr.units (by /- side 2: NoDict -/ first | exact nd_W _ | exact .tup (ndI _) | exact nd_of (by decide)) (by /- side 3: NoDict -/ first | exact nd_W _ | exact .tup (ndI _) | exact nd_of (by decide)) (by /- side 4: shaped -/ first | exact sh_W (by assumption) | exact sh_T _ | decide +kernel) (by /- side 5: shaped -/ first | exact sh_W (by assumption) | exact sh_T _ | decide +kernel) (e_tupT (by rfl) T.b_tuple (e_var 1 rfl rfl (.inl rfl))) (e_tup (ea_cons (e_glob (v := .str (Str.ofString "none")) (by rfl) T.k_NONE.choose_spec ⟨_, rfl⟩ (fun _ => .str _)) ea_nil) (Nat.le_of_ble_eq_true rfl))) (fun hc1 => ?_) (rX_noNx _) (fun hc1 => ?_)
  · skip
    exact s_ret (e_notTu (f := eI) (e_var 2 rfl rfl (.inl rfl))) (.inl rfl)
  · skip
    refine s_if (fun (v : Except Str Bool) => rX xa 9 eB v) (tw_t (t_and (t_eqS (e_ixT at_W0 (e_var 1 rfl rfl (.inl rfl)) e_int) (e_glob (v := .str (Str.ofString "size")) (by rfl) T.k_SIZE.choose_spec ⟨_, rfl⟩ (fun _ => .str _))) (fun hb1_0 => (t_and1 (t_eqI (e_lenW (by rfl) T.b_len (e_var 1 rfl rfl (.inl rfl))) e_int))))) (fun hc2 => ?_) (rX_noNx _) (fun hc2 => ?_)
    · skip
      exact s_ret (e_andB (e_inI (e_ixT (at_W1 (by /- side 6: 1 ≤ (v_told).2.length -/ simp at hc2; omega)) (e_var 1 rfl rfl (.inl rfl)) e_int) (J.sT (e_var 2 rfl rfl (.inl rfl)))) (fun hb2_0 => (e_andB (e_inI (e_ixT (at_W2 (by /- side 7: 2 ≤ (v_told).2.length -/ simp at hc2; omega)) (e_var 1 rfl rfl (.inl rfl)) e_int) (J.sT (e_var 2 rfl rfl (.inl rfl)))) (fun hb2_1 => (e_one (e_neI (e_call c_size_of hr (by decide) (by rfl) (ati (v_told).2 0 0) rfl (ea_cons (e_ixT (at_W1 (by /- side 8: 1 ≤ (v_told).2.length -/ simp at hc2; omega)) (e_var 1 rfl rfl (.inl rfl)) e_int) ea_nil) (by /- side 9: pre of size_of (ati (v_told).2 0 0) -/ show pre_size_of (ati (v_told).2 0 0); simp only [pre_size_of]; have := bits32 (fam_in (fam_ok hv1) (h5f (fam_ok hv1)) _ (by simpa using hb2_0)); omega)) (e_call c_size_of hr (by decide) (by rfl) (ati (v_told).2 1 0) rfl (ea_cons (e_ixT (at_W2 (by /- side 10: 2 ≤ (v_told).2.length -/ simp at hc2; omega)) (e_var 1 rfl rfl (.inl rfl)) e_int) ea_nil) (by /- side 11: pre of size_of (ati (v_told).2 1 0) -/ show pre_size_of (ati (v_told).2 1 0); simp only [pre_size_of]; have := bits32 (fam_in (fam_ok hv1) (h5f (fam_ok hv1)) _ (by simpa using hb2_1)); omega)))))))) (.inl rfl)
    · skip
      refine s_if (fun (v : Except Str Bool) => rX xa 9 eB v) (tw_t (t_or (t_neS (e_ixT at_W0 (e_var 1 rfl rfl (.inl rfl)) e_int) (e_glob (v := .str (Str.ofString "exchange")) (by rfl) T.k_EXCHANGE.choose_spec ⟨_, rfl⟩ (fun _ => .str _))) (fun hb3_0 => (t_or (t_neI (e_lenW (by rfl) T.b_len (e_var 1 rfl rfl (.inl rfl))) e_int) (fun hb3_1 => (t_or (t_ninI (e_ixT (at_W1 (by /- side 12: 1 ≤ (v_told).2.length -/ simp at hb3_1; omega)) (e_var 1 rfl rfl (.inl rfl)) e_int) (J.sT (e_var 2 rfl rfl (.inl rfl)))) (fun hb3_2 => (t_or1 (t_ninI (e_ixT (at_W2 (by /- side 13: 2 ≤ (v_told).2.length -/ simp at hb3_1; omega)) (e_var 1 rfl rfl (.inl rfl)) e_int) (J.sT (e_var 2 rfl rfl (.inl rfl)))))))))))) (fun hc3 => ?_) (rX_noNx _) (fun hc3 => ?_)
      · skip
        exact s_ret e_bl (.inl rfl)
      · skip
        refine s_cons (b_asg (d := .tuple [eS (v_told).1, eI (ati (v_told).2 0 0), eI (ati (v_told).2 1 0), eI (ati (v_told).2 2 0)]) (e_W3 (by /- side 14: (v_told).2.length = 3 -/ simp at hc3; omega) (e_var 1 rfl rfl (.inl rfl))) (tg_tup rfl (tgs_cons (tg_name 3 sc_is_trouble.nd rfl (.inl rfl) (Nat.le_of_ble_eq_true rfl) (.inl rfl) (.inl rfl)) (tgs_cons (tg_name 4 sc_is_trouble.nd rfl (.inl rfl) (Nat.le_of_ble_eq_true rfl) (.inl rfl) (.inl rfl)) (tgs_cons (tg_name 5 sc_is_trouble.nd rfl (.inl rfl) (Nat.le_of_ble_eq_true rfl) (.inl rfl) (.inl rfl)) (tgs_cons (tg_name 6 sc_is_trouble.nd rfl (.inl rfl) (Nat.le_of_ble_eq_true rfl) (.inl rfl) (.inl rfl)) tgs_nil)))) rfl)) ?_
        refine s_cons (b_setDc (f := eI) (fv := eB) (js := [8]) 7 [("some", 8)] (fun (x1_some : Int) => [.v ((eP eI (eT eI)) v_family), .v (eW v_told), .v ((eT eI) (v_family).2), .v (eS (v_told).1), .v (eI (ati (v_told).2 0 0)), .v (eI (ati (v_told).2 1 0)), .v (eI (ati (v_told).2 2 0)), .no, .v (eI x1_some)]) (fun x1_some => true) (fun x1_some => x1_some) (fun x1_some => true) rfl sc_is_trouble.nd rfl rfl (Nat.le_of_ble_eq_true rfl) (.inl rfl) (sw_trueD rfl rfl rfl (by decide +kernel)) (blkOk_by (by kernel_rfl)) (all1 ⟨Nat.le_of_ble_eq_true rfl, (.inl rfl), rfl⟩) (by decide) (it_tup (e_var 2 rfl rfl (.inl rfl))) (by /- side 15: ((v_family).2).length ≤ 1000000 -/ omega) (fun y x1_some hx1 => (tg_name 8 sc_is_trouble.nd rfl (.inl rfl) (Nat.le_of_ble_eq_true rfl) (.inl rfl) (.inr rfl))) (fun _ _ => ifs_nil) (fun x1_some hx1 hc1 y => (e_var 8 rfl rfl (.inl rfl))) (fun x1_some hx1 hc1 y => e_bl)) ?_
        refine s_let (a := (dcI (fun x1_some => true) (fun x1_some => x1_some) (fun x1_some => true) (v_family).2)) (fun v1_known : (List (Int × Bool)) => [.v ((eP eI (eT eI)) v_family), .v (eW v_told), .v ((eT eI) (v_family).2), .v (eS (v_told).1), .v (eI (ati (v_told).2 0 0)), .v (eI (ati (v_told).2 1 0)), .v (eI (ati (v_told).2 2 0)), .v ((eDI eB) v1_known), .no]) (fun (v : Except Str Bool) => rX xa 9 eB v) _ (fun v1_known h_v1_known => ?_)
        exact s_ret (e_andB (e_inI (e_var 6 rfl rfl (.inl rfl)) (J.sL (r_e (e_call c_things_of hr (by decide) (by rfl) (Builtin.bitAnd (ati (v_told).2 0 0) (Builtin.bitNot (ati (v_told).2 1 0))) rfl (ea_cons (e_band (e_var 4 rfl rfl (.inl rfl)) (e_inv (e_var 5 rfl rfl (.inl rfl)))) ea_nil) (by /- side 16: pre of things_of (Builtin.bitAnd (ati (v_told).2 0 0) (Builtin.bitNot (ati (v_told).2 1 0))) -/ show pre_things_of (Builtin.bitAnd (ati (v_told).2 0 0) (Builtin.bitNot (ati (v_told).2 1 0))); simp at hc3; simp only [pre_things_of]; have := bits32 (andn32 (fam_in (fam_ok hv1) (h5f (fam_ok hv1)) _ hc3.2.2.1) (fam_in (fam_ok hv1) (h5f (fam_ok hv1)) _ hc3.2.2.2)); omega))))) (fun hb4_0 => (e_one (e_not (e_call c_exchanges hr (by decide) (by rfl) (v1_known, (ati (v_told).2 0 0), (ati (v_told).2 1 0), (ati (v_told).2 2 0)) rfl (ea_cons (e_var 7 rfl rfl (.inl rfl)) (ea_cons (e_var 4 rfl rfl (.inl rfl)) (ea_cons (e_var 5 rfl rfl (.inl rfl)) (ea_cons (e_var 6 rfl rfl (.inl rfl)) ea_nil)))) (by /- side 17: pre of exchanges v1_known (ati (v_told).2 0 0) (ati (v_told).2 1 0) (ati (v_told).2 2 0) -/ show pre_exchanges v1_known (ati (v_told).2 0 0) (ati (v_told).2 1 0) (ati (v_told).2 2 0); simp at hc3; simp at hb4_0; have h1 := fam_in (fam_ok hv1) (h5f (fam_ok hv1)) _ hc3.2.2.1; have h2 := fam_in (fam_ok hv1) (h5f (fam_ok hv1)) _ hc3.2.2.2; exact ⟨h1, h2, things_mem32 (andn32 h1 h2) hb4_0⟩)))))) (.inl rfl)

/-! ### is_matroid -/
abbrev s_is_matroid : Stmt := topS 22
abbrev N_is_matroid : List Str := ["some"]
theorem sc_is_matroid : FnScope N_is_matroid ["some"] (defScope s_is_matroid) := ⟨rfl, rfl, rfl, by decide +kernel, rfl, by decide +kernel, by decide +kernel⟩
def m_is_matroid (v_some : (Int × (List Int))) : Bool :=
  ((m_is_family v_some) && ((m_trouble_of (v_some).2)).isNone)
def pre_is_matroid (v_some : (Int × (List Int))) : Prop := (m_is_family v_some = true → v_some.1 ≤ 5) ∧ v_some.2.length ≤ 1000
abbrev sp_is_matroid (K : PySem.W.Frag) : Sp := spV K (A := (Int × (List Int))) (fun a => [(eP eI (eT eI)) a]) (fun a : (Int × (List Int)) => pre_is_matroid a) (fun a => eB (m_is_matroid a))
theorem ok_is_matroid (T : Top K mg xa) (c_is_family : C8.Cal P w K mg base 1 "is_family" (sp_is_family K) []) (c_trouble_of : C8.Cal P w K mg base 3 "trouble_of" (sp_trouble_of K) []) : C8.Cal P w K mg base 4 "is_matroid" (sp_is_matroid K) [] := by
  obtain ⟨f, fd, F, hm⟩ := T.d_is_matroid
  refine ⟨f, fd, ["some"], [], fn_pure F sc_is_matroid (fun _ => rfl) fun y v_some hr hp => ?_, hm, F.kp, F.binds fun _ _ _ _ _ _ us hl => (match us, hl with | [_], _ => rfl), .nil⟩
  simp only [pre_is_matroid] at hp
  show S _ (defBody s_is_matroid) [.v ((eP eI (eT eI)) v_some)] ((fun (v : Bool) => Out.rt (eB v) []) (m_is_matroid v_some))
  exact s_ret (e_andB (e_call c_is_family hr (by decide) (by rfl) v_some rfl (ea_cons (e_var 0 rfl rfl (.inl rfl)) ea_nil) (by /- side 1: pre of is_family v_some -/ show pre_is_family v_some; exact hp.2)) (fun hb1_0 => (e_one (e_isNO (f := eW) (fun _ => rfl) (e_call c_trouble_of hr (by decide) (by rfl) (v_some).2 rfl (ea_cons (e_ixT rfl (e_var 0 rfl rfl (.inl rfl)) e_int) ea_nil) (by /- side 2: pre of trouble_of (v_some).2 -/ show pre_trouble_of (v_some).2; exact ⟨fam_in hb1_0 (hp.1 hb1_0), hp.2⟩)) e_non)))) (.inl rfl)


def dstep (s2 : List Int × Int) (x : Int) : Lp (List Int × Int) Empty := if (decide (s2.2 = (0 : Int))) then (Lp.brk (s2.1, s2.2)) else (Lp.go ((s2.1 ++ [(s2.2 % (1000 : Int))]), (s2.2 / (1000 : Int))))
theorem dstep_len (a : List Int × Int) (x : Int) : (dstep a x).all fun b => b.1.length ≤ a.1.length + 1 := by
  unfold dstep
  split
  · exact Nat.le_succ _
  · show (a.1 ++ [a.2 % 1000]).length ≤ _
    rw [List.length_append]; exact Nat.le_refl _
theorem draws_in {i n : Nat} {a a2 : List Int × Int} {x : Int} (h : a.1.length ≤ n + i) (e : dstep a x = .go a2) : a2.1.length ≤ n + (i + 1) := by
  have := dstep_len a x
  rw [e] at this
  have this : a2.1.length ≤ a.1.length + 1 := this
  omega
theorem dloop_len (s1 : List Int) (r : Int) : (brkV (runL dstep (s1, r) (rng 0 (60 : Int)))).1.length ≤ s1.length + 60 := by
  have := brkV_len (fun s : List Int × Int => s.1.length) 1 dstep_len (rng 0 60) (s1, r)
  rw [rng_len] at this
  simpa using this
theorem draws_step {i : Nat} {a : List Int} {c : Bool} {r p q t : Int} (h : a.length ≤ 60 * i) : (if c then (brkV (runL dstep (a, r) (rng 0 (60 : Int)))).1 else a ++ [p, q, t]).length ≤ 60 * (i + 1) := by
  have h1 := dloop_len a r
  cases c with
  | true =>
    rw [if_pos rfl]; omega
  | false =>
    rw [if_neg Bool.false_ne_true, List.length_append]
    show a.length + 3 ≤ _
    omega
/-! ### _law_draws -/
abbrev s__law_draws : Stmt := topS 25
abbrev N__law_draws : List Str := ["script", "draws", "cell", "rest", "k", "once", "twice"]
theorem sc__law_draws : FnScope N__law_draws ["script"] (defScope s__law_draws) := ⟨rfl, rfl, rfl, by decide +kernel, rfl, by decide +kernel, by decide +kernel⟩
def m__law_draws (v_script : (List Int)) : (List Int) :=
  (lt (List.reverse (List.foldl (fun (s1 : (List Int)) (x1_celll : Int) => (if (decide ((1000000000000000000 : Int) ≤ (m__law_number x1_celll))) then (brkV (runL (fun (s2 : (List Int) × Int) (x2_kl : Int) => ((if (decide (s2.2 = (0 : Int))) then (Lp.brk (s2.1, s2.2)) else (Lp.go ((s2.1 ++ [(s2.2 % (1000 : Int))]), (s2.2 / (1000 : Int))))) : Lp ((List Int) × Int) Empty)) (s1, (m__law_number x1_celll)) (rng 0 (60 : Int)))).1 else (lt ((((m__law_number x1_celll) * (48271 : Int)) + (11 : Int)) % (2147483647 : Int)) (fun (v1_once : Int) => (lt (((v1_once * (69621 : Int)) + (m__law_number x1_celll)) % (2147483629 : Int)) (fun (v2_twice : Int) => (lt (s1 ++ [((m__law_number x1_celll) % (1000 : Int)), (v1_once % (1000 : Int)), (v2_twice % (1000 : Int))]) (fun (v3_draws : (List Int)) => v3_draws)))))))) [] v_script)) (fun (v4_draws : (List Int)) => v4_draws))
def pre__law_draws (v_script : (List Int)) : Prop := v_script.length ≤ 63
abbrev sp__law_draws (K : PySem.W.Frag) : Sp := spN K (A := (List Int)) (fun a => [scD a]) (fun a : (List Int) => pre__law_draws a) (fun a => List.map eI (m__law_draws a))
theorem ok__law_draws (T : Top K mg xa) (c__law_number : C8.Cal P w K mg base 1 "_law_number" (sp__law_number K) []) : C8.Cal P w K mg base 2 "_law_draws" (sp__law_draws K) [] := by
  obtain ⟨f, fd, F, hm⟩ := T.d__law_draws
  refine ⟨f, fd, ["script"], [], fn_new F sc__law_draws (fun _ => rfl) fun y v_script hr hp => ?_, hm, F.kp, F.binds fun _ _ _ _ _ _ us hl => (match us, hl with | [_], _ => rfl), .nil⟩
  simp only [pre__law_draws] at hp
  show S _ (defBody s__law_draws) [.v (scD v_script), .no, .no, .no, .no, .no, .no] ((fun (v : (List Int)) => Out.rn (List.map eI v) []) (m__law_draws v_script))
  refine s_cons (b_setO 1 sc__law_draws.nd rfl (.inl rfl) (.inl rfl) (Nat.le_of_ble_eq_true rfl) (.inl rfl) (el_lst ea_nil) rfl) ?_
  refine s_cons (b_forF (f := eI) (a0 := []) (fun (s1 : (List Int)) (x1_celll : Int) => (if (decide ((1000000000000000000 : Int) ≤ (m__law_number x1_celll))) then (brkV (runL (fun (s2 : (List Int) × Int) (x2_kl : Int) => ((if (decide (s2.2 = (0 : Int))) then (Lp.brk (s2.1, s2.2)) else (Lp.go ((s2.1 ++ [(s2.2 % (1000 : Int))]), (s2.2 / (1000 : Int))))) : Lp ((List Int) × Int) Empty)) (s1, (m__law_number x1_celll)) (rng 0 (60 : Int)))).1 else (lt ((((m__law_number x1_celll) * (48271 : Int)) + (11 : Int)) % (2147483647 : Int)) (fun (v1_once : Int) => (lt (((v1_once * (69621 : Int)) + (m__law_number x1_celll)) % (2147483629 : Int)) (fun (v2_twice : Int) => (lt (s1 ++ [((m__law_number x1_celll) % (1000 : Int)), (v1_once % (1000 : Int)), (v2_twice % (1000 : Int))]) (fun (v3_draws : (List Int)) => v3_draws)))))))) (fun (s1 : (List Int)) => [.v (scD v_script), oL eI s1, .no, .no, .no, .no, .no]) (fun (s1 : (List Int)) (x1_celll : Int) => [.v (scD v_script), oL eI s1, .v (eI x1_celll), .no, .no, .no, .no]) [2] (fun (i : Nat) (s1 : List Int) => s1.length ≤ 60 * i) (Nat.zero_le _) (fun i a x h hx => draws_step h) PassesOwn.never rfl (it_scr (e_var 0 rfl rfl (.inl rfl))) (fun gs x1_celll s1 hx => (tg_name 2 sc__law_draws.nd rfl (.inl rfl) (Nat.le_of_ble_eq_true rfl) (.inl rfl) (.inl rfl))) (fun gs i1 x1_celll s1 li1 lx1 lP1 => ?_)) ?_
  · skip
    refine s_cons (b_set (d := eI (m__law_number x1_celll)) 3 sc__law_draws.nd rfl (.inl rfl) (.inl rfl) (Nat.le_of_ble_eq_true rfl) (.inl rfl) (e_call c__law_number hr (by decide) (by rfl) x1_celll rfl (ea_cons (e_var 2 rfl rfl (.inl rfl)) ea_nil) trivial) rfl) ?_
    refine s_ifE (fun (s1 : (List Int)) => Out.nl [.v (scD v_script), oL eI s1, .no, .no, .no, .no, .no]) (t_ge (e_var 3 rfl rfl (.inl rfl)) e_int) (fun hc1 => ?_) (fun hc1 => ?_)
    · skip
      refine s_loopB (b_for (f := eI) (a0 := (s1, (m__law_number x1_celll))) (fun (s2 : (List Int) × Int) (x2_kl : Int) => ((if (decide (s2.2 = (0 : Int))) then (Lp.brk (s2.1, s2.2)) else (Lp.go ((s2.1 ++ [(s2.2 % (1000 : Int))]), (s2.2 / (1000 : Int))))) : Lp ((List Int) × Int) Empty)) (fun (s2 : (List Int) × Int) => [.v (scD v_script), oL eI s2.1, .v (eI x1_celll), .v (eI s2.2), .no, .no, .no]) (fun (c : Empty) => (nomatch c : Out)) (fun (s2 : (List Int) × Int) (x2_kl : Int) => [.v (scD v_script), oL eI s2.1, .v (eI x1_celll), .v (eI s2.2), .v (eI x2_kl), .no, .no]) [4] (fun (i : Nat) (s2 : List Int × Int) => s2.1.length ≤ s1.length + i) (Nat.le_refl _) (fun i a x a2 h hx e => draws_in (x := x) h e) PassesOwn.never rfl (fun c => nomatch c) (it_range1 (n := (60 : Int)) (by rfl) T.b_range (ea_cons e_int ea_nil) (by decide)) (fun gs x2_kl s2 hx => (tg_name 4 sc__law_draws.nd rfl (.inl rfl) (Nat.le_of_ble_eq_true rfl) (.inl rfl) (.inl rfl))) (fun gs i2 x2_kl s2 li2 lx2 lP2 => ?_)) ?_
      · skip
        refine s_if (lpO (fun (s2 : (List Int) × Int) => [.v (scD v_script), oL eI s2.1, .v (eI x1_celll), .v (eI s2.2), .no, .no, .no]) (fun (c : Empty) => (nomatch c : Out))) (t_eqI (e_var 3 rfl rfl (.inl rfl)) e_int) (fun hc2 => ?_) rfl (fun hc2 => ?_)
        · skip
          exact s_brkW ⟨.inl rfl, .inl rfl, .inl rfl, .inl rfl, .inr rfl, .inl rfl, .inl rfl, trivial⟩ (.inl rfl)
        · skip
          refine s_cons (b_appT (f := eI) (v := (s2.2 % (1000 : Int))) 1 rfl rfl (by /- side 1: (s2.1).length ≤ 1000000 -/ have := (List.getElem?_eq_some_iff.mp li1).1; have := (List.getElem?_eq_some_iff.mp li2).1; rw [rng_len] at this; have : (60 - 0 : Int).toNat = 60 := rfl; omega) (e_mod (by decide) (e_intI (by rfl) T.b_int (e_var 3 rfl rfl (.inl rfl))) e_int) rfl (.inl rfl)) ?_
          refine s_cons (b_set (d := eI (s2.2 / (1000 : Int))) 3 sc__law_draws.nd rfl (.inl rfl) (.inl rfl) (Nat.le_of_ble_eq_true rfl) (.inl rfl) (e_fdiv ⟨by decide, by decide⟩ (e_var 3 rfl rfl (.inl rfl)) e_int) rfl) ?_
          exact s_nilLW ⟨.inl rfl, .inl rfl, .inl rfl, .inl rfl, .inr rfl, .inl rfl, .inl rfl, trivial⟩ (.inl rfl)
      · skip
        exact s_nilLW ⟨.inl rfl, .inl rfl, .inr rfl, .inr rfl, .inl rfl, .inl rfl, .inl rfl, trivial⟩ (.inl rfl)
    · skip
      refine s_cons (b_set (d := eI ((((m__law_number x1_celll) * (48271 : Int)) + (11 : Int)) % (2147483647 : Int))) 5 sc__law_draws.nd rfl (.inl rfl) (.inl rfl) (Nat.le_of_ble_eq_true rfl) (.inl rfl) (e_mod (by decide) (e_intI (by rfl) T.b_int (e_add (e_mul (.inr (by decide)) (e_var 3 rfl rfl (.inl rfl)) e_int) e_int)) e_int) rfl) ?_
      refine s_let (a := ((((m__law_number x1_celll) * (48271 : Int)) + (11 : Int)) % (2147483647 : Int))) (fun v1_once : Int => [.v (scD v_script), oL eI s1, .v (eI x1_celll), .v (eI (m__law_number x1_celll)), .no, .v (eI v1_once), .no]) (fun (s1 : (List Int)) => Out.nl [.v (scD v_script), oL eI s1, .no, .no, .no, .no, .no]) _ (fun v1_once h_v1_once => ?_)
      refine s_cons (b_set (d := eI (((v1_once * (69621 : Int)) + (m__law_number x1_celll)) % (2147483629 : Int))) 6 sc__law_draws.nd rfl (.inl rfl) (.inl rfl) (Nat.le_of_ble_eq_true rfl) (.inl rfl) (e_mod (by decide) (e_intI (by rfl) T.b_int (e_add (e_mul (.inr (by decide)) (e_var 5 rfl rfl (.inl rfl)) e_int) (e_var 3 rfl rfl (.inl rfl)))) e_int) rfl) ?_
      refine s_let (a := (((v1_once * (69621 : Int)) + (m__law_number x1_celll)) % (2147483629 : Int))) (fun v2_twice : Int => [.v (scD v_script), oL eI s1, .v (eI x1_celll), .v (eI (m__law_number x1_celll)), .no, .v (eI v1_once), .v (eI v2_twice)]) (fun (s1 : (List Int)) => Out.nl [.v (scD v_script), oL eI s1, .no, .no, .no, .no, .no]) _ (fun v2_twice h_v2_twice => ?_)
      refine s_cons (b_extT (f := eI) (ys := [((m__law_number x1_celll) % (1000 : Int)), (v1_once % (1000 : Int)), (v2_twice % (1000 : Int))]) 1 rfl rfl (by /- side 2: (s1).length + ([((m__law_number x1_celll) % (1000 : Int)), (v1_once % (1000 : Int)), (v2_twice % (1000 : Int))]).length ≤ 1000000 -/ have := (List.getElem?_eq_some_iff.mp li1).1; rw [show ([_, _, _] : List Int).length = 3 from rfl]; omega) (r_el (el_lst (ea_cons (e_mod (by decide) (e_intI (by rfl) T.b_int (e_var 3 rfl rfl (.inl rfl))) e_int) (ea_cons (e_mod (by decide) (e_intI (by rfl) T.b_int (e_var 5 rfl rfl (.inl rfl))) e_int) (ea_cons (e_mod (by decide) (e_intI (by rfl) T.b_int (e_var 6 rfl rfl (.inl rfl))) e_int) ea_nil))) (Nat.le_of_ble_eq_true rfl))) rfl (.inl rfl)) ?_
      refine s_let (a := (s1 ++ [((m__law_number x1_celll) % (1000 : Int)), (v1_once % (1000 : Int)), (v2_twice % (1000 : Int))])) (fun v3_draws : (List Int) => [.v (scD v_script), oL eI v3_draws, .v (eI x1_celll), .v (eI (m__law_number x1_celll)), .no, .v (eI v1_once), .v (eI v2_twice)]) (fun (s1 : (List Int)) => Out.nl [.v (scD v_script), oL eI s1, .no, .no, .no, .no, .no]) _ (fun v3_draws h_v3_draws => ?_)
      exact s_nilLW ⟨.inl rfl, .inl rfl, .inr rfl, .inr rfl, .inl rfl, .inr rfl, .inr rfl, trivial⟩ (.inl rfl)
  · skip
    refine s_cons (b_revT (f := eI) 1 rfl rfl (.inl rfl)) ?_
    refine s_let (a := (List.reverse (List.foldl (fun (s1 : (List Int)) (x1_celll : Int) => (if (decide ((1000000000000000000 : Int) ≤ (m__law_number x1_celll))) then (brkV (runL (fun (s2 : (List Int) × Int) (x2_kl : Int) => ((if (decide (s2.2 = (0 : Int))) then (Lp.brk (s2.1, s2.2)) else (Lp.go ((s2.1 ++ [(s2.2 % (1000 : Int))]), (s2.2 / (1000 : Int))))) : Lp ((List Int) × Int) Empty)) (s1, (m__law_number x1_celll)) (rng 0 (60 : Int)))).1 else (lt ((((m__law_number x1_celll) * (48271 : Int)) + (11 : Int)) % (2147483647 : Int)) (fun (v1_once : Int) => (lt (((v1_once * (69621 : Int)) + (m__law_number x1_celll)) % (2147483629 : Int)) (fun (v2_twice : Int) => (lt (s1 ++ [((m__law_number x1_celll) % (1000 : Int)), (v1_once % (1000 : Int)), (v2_twice % (1000 : Int))]) (fun (v3_draws : (List Int)) => v3_draws)))))))) [] v_script))) (fun v4_draws : (List Int) => [.v (scD v_script), oL eI v4_draws, .no, .no, .no, .no, .no]) (fun (v : (List Int)) => Out.rn (List.map eI v) []) _ (fun v4_draws h_v4_draws => ?_)
    exact s_retO 1 rfl (.inl rfl) (.inl rfl) rfl (.inl rfl)

/-! ### _law_next -/
abbrev s__law_next : Stmt := topS 27
abbrev N__law_next : List Str := ["draws"]
theorem sc__law_next : FnScope N__law_next ["draws"] (defScope s__law_next) := ⟨rfl, rfl, rfl, by decide +kernel, rfl, by decide +kernel, by decide +kernel⟩
def m__law_next (v_draws : List Int) : (Int × List Int) :=
  (if (!((List.reverse v_draws)).isEmpty) then ((List.headD v_draws 0), (List.tail v_draws)) else ((0 : Int), v_draws))
abbrev sp__law_next (K : PySem.W.Frag) : Sp := spM K (A := List Int) (fun a => (List.reverse a).map eI) (fun a => []) (fun a : List Int => True) (fun a => eI (m__law_next a).1) (fun a => (List.reverse (m__law_next a).2).map eI)
theorem ok__law_next (T : Top K mg xa)  : C8.Cal P w K mg base 1 "_law_next" (sp__law_next K) [] := by
  obtain ⟨f, fd, F, hm⟩ := T.d__law_next
  refine ⟨f, fd, ["draws"], [], fn_tape F sc__law_next (fun _ => rfl) fun y v_draws hr hp => ?_, hm, F.kp, F.binds fun _ _ _ _ _ _ us hl => (match us, hl with | [_], _ => rfl), .nil⟩
  show S _ (defBody s__law_next) [oL eI (List.reverse v_draws)] ((fun (v : Int × List Int) => Out.rt (eI v.1) ((List.reverse v.2).map eI)) (m__law_next v_draws))
  refine s_if (fun (v : Int × List Int) => Out.rt (eI v.1) ((List.reverse v.2).map eI)) (t_lstT (f := eI) (r_var 0 rfl rfl (.inl rfl))) (fun hc1 => ?_) rfl (fun hc1 => ?_)
  · skip
    exact s_ret (e_popT 0 (t := v_draws) rfl (by /- side 1: v_draws ≠ [] -/ intro h; rw [h] at hc1; cases hc1) rfl (.inl rfl)) (.inr rfl)
  · skip
    exact s_ret e_int (.inr rfl)

/-! ### _law_flat -/
abbrev s__law_flat : Stmt := topS 26
abbrev N__law_flat : List Str := ["rows", "found", "row"]
theorem sc__law_flat : FnScope N__law_flat ["rows"] (defScope s__law_flat) := ⟨rfl, rfl, rfl, by decide +kernel, rfl, by decide +kernel, by decide +kernel⟩
def m__law_flat (v_rows : (List (List D))) : (List D) :=
  (List.foldl (fun (s1 : (List D)) (x1_rowl : (List D)) => (s1 ++ x1_rowl)) [] v_rows)
def pre__law_flat (v_rows : (List (List D))) : Prop := v_rows.length ≤ 100 ∧ ∀ r ∈ v_rows, r.length ≤ 100
abbrev sp__law_flat (K : PySem.W.Frag) : Sp := spV K (A := (List (List D))) (fun a => [(eL (eL eD)) a]) (fun a : (List (List D)) => pre__law_flat a) (fun a => (eL eD) (m__law_flat a))
theorem ok__law_flat (T : Top K mg xa)  : C8.Cal P w K mg base 1 "_law_flat" (sp__law_flat K) [] := by
  obtain ⟨f, fd, F, hm⟩ := T.d__law_flat
  refine ⟨f, fd, ["rows"], [], fn_pure F sc__law_flat (fun _ => rfl) fun y v_rows hr hp => ?_, hm, F.kp, F.binds fun _ _ _ _ _ _ us hl => (match us, hl with | [_], _ => rfl), .nil⟩
  simp only [pre__law_flat] at hp
  show S _ (defBody s__law_flat) [.v ((eL (eL eD)) v_rows), .no, .no] ((fun (v : (List D)) => Out.rt ((eL eD) v) []) (m__law_flat v_rows))
  refine s_cons (b_setO 1 sc__law_flat.nd rfl (.inl rfl) (.inl rfl) (Nat.le_of_ble_eq_true rfl) (.inl rfl) (el_lst ea_nil) rfl) ?_
  refine s_cons (b_forF (f := (eL eD)) (a0 := []) (fun (s1 : (List D)) (x1_rowl : (List D)) => (s1 ++ x1_rowl)) (fun (s1 : (List D)) => [.v ((eL (eL eD)) v_rows), oL eD s1, .no]) (fun (s1 : (List D)) (x1_rowl : (List D)) => [.v ((eL (eL eD)) v_rows), oL eD s1, .v ((eL eD) x1_rowl)]) [2] (fun (i : Nat) (s1 : List D) => s1.length ≤ 100 * i) (Nat.zero_le _) (fun i a x h hx => by rw [List.length_append]; have := hp.2 x (List.mem_of_getElem? hx); omega) PassesOwn.never rfl (it_list (e_var 0 rfl rfl (.inl rfl))) (fun gs x1_rowl s1 hx => (tg_name 2 sc__law_flat.nd rfl (.inl rfl) (Nat.le_of_ble_eq_true rfl) (.inl rfl) (.inl rfl))) (fun gs i1 x1_rowl s1 li1 lx1 lP1 => ?_)) ?_
  · skip
    refine s_cons (b_extT (f := eD) (ys := x1_rowl) 1 rfl rfl (by /- side 1: (s1).length + (x1_rowl).length ≤ 1000000 -/ have := (List.getElem?_eq_some_iff.mp li1).1; have := hp.2 _ lx1; omega) (r_e (e_var 2 rfl rfl (.inl rfl))) rfl (.inl rfl)) ?_
    exact s_nilLW ⟨.inl rfl, .inl rfl, .inr rfl, trivial⟩ (.inl rfl)
  · skip
    refine s_thaw 1 rfl (.inl rfl) ?_
    exact s_ret (e_var 1 rfl rfl (.inl rfl)) (.inl rfl)


theorem ati_mem {α : Type} {l : List α} {i : Int} {d : α} (h : InB l.length i) : ati l i d ∈ l := by
  obtain ⟨j, h1, h2⟩ := ixN_in h
  have e : ati l i d = l[j] := by
    unfold ati atI
    rw [h1]
    show (l[j]?).getD d = _
    rw [List.getElem?_eq_getElem h2]; rfl
  rw [e]; exact List.getElem_mem h2
theorem mod_in {n : Nat} {i : Int} (h : 0 < n) : InB n (i % (n : Int)) := by
  have h1 := Int.emod_nonneg i (b := (n : Int)) (by omega)
  have h2 := Int.emod_lt_of_pos i (b := (n : Int)) (by omega)
  unfold InB
  omega
theorem foldl_len2 {α γ δ : Type} {step : γ × List δ → α → γ × List δ} (h : ∀ a x, (step a x).2.length = a.2.length + 1) : ∀ (l : List α) (a : γ × List δ), (l.foldl step a).2.length = a.2.length + l.length := by
  intro l
  induction l with
  | nil => intro a; rfl
  | cons x l ih => intro a; rw [List.foldl_cons, ih, h, List.length_cons]; omega
theorem next_len (t : List Int) : (m__law_next t).2.length ≤ t.length := by
  unfold m__law_next
  split
  · rw [List.length_tail]; omega
  · exact Nat.le_refl _
theorem runT_len {α β γ : Type} (step : β → α → γ × β) : ∀ (l : List α) (a : β), (runT step a l).1.length = l.length := by
  intro l
  induction l with
  | nil => intro a; rfl
  | cons x l ih => intro a; show ((step a x).1 :: (runT step (step a x).2 l).1).length = _; rw [List.length_cons, List.length_cons, ih]
theorem foldl_len {β α : Type} {step : β → α → β} (m : β → Nat) (c : Nat) (h : ∀ a x, m (step a x) = m a + c) : ∀ (l : List α) (a : β), m (l.foldl step a) = m a + c * l.length := by
  intro l
  induction l with
  | nil => intro a; rfl
  | cons x l ih => intro a; rw [List.foldl_cons, ih, h, List.length_cons, Nat.mul_succ]; omega
/-! ### _law_more -/
abbrev s__law_more : Stmt := topS 28
abbrev N__law_more : List Str := ["draws", "many", "seed", "more", "k"]
theorem sc__law_more : FnScope N__law_more ["draws", "many"] (defScope s__law_more) := ⟨rfl, rfl, rfl, by decide +kernel, rfl, by decide +kernel, by decide +kernel⟩
def m__law_more (v_draws : List Int) (v_many : Int) : ((List Int) × List Int) :=
  (lt (m__law_next (m__law_next v_draws ).2 ).2 (fun (t1_draws : List Int) => (lt ((((1000 : Int) * (m__law_next v_draws ).1) + (m__law_next (m__law_next v_draws ).2 ).1) + (1 : Int)) (fun (v2_seed : Int) => (((List.foldl (fun (s1 : Int × (List Int)) (x1_kl : Int) => (lt (((s1.1 * (48271 : Int)) + (12345 : Int)) % (2147483647 : Int)) (fun (v3_seed : Int) => (lt (s1.2 ++ [((v3_seed / (7 : Int)) % (1000 : Int))]) (fun (v4_more : (List Int)) => (v3_seed, v4_more)))))) (v2_seed, []) (rng 0 v_many)).2 ++ (List.reverse t1_draws)), t1_draws)))))
def pre__law_more (v_draws : List Int) (v_many : Int) : Prop := v_draws.length ≤ 100000 ∧ 0 ≤ v_many ∧ v_many ≤ 1000
abbrev sp__law_more (K : PySem.W.Frag) : Sp := spMN K (A := List Int × Int) (fun a => (List.reverse a.1).map eI) (fun a => [eI a.2]) (fun a : List Int × Int => pre__law_more a.1 a.2) (fun a => List.map eI (m__law_more a.1 a.2).1) (fun a => (List.reverse (m__law_more a.1 a.2).2).map eI)
theorem ok__law_more (T : Top K mg xa) (c__law_next : C8.Cal P w K mg base 1 "_law_next" (sp__law_next K) []) : C8.Cal P w K mg base 2 "_law_more" (sp__law_more K) [] := by
  obtain ⟨f, fd, F, hm⟩ := T.d__law_more
  refine ⟨f, fd, ["draws", "many"], [], fn_tapeN F sc__law_more (fun _ => rfl) fun y ⟨v_draws, v_many⟩ hr hp => ?_, hm, F.kp, F.binds fun _ _ _ _ _ _ us hl => (match us, hl with | [_, _], _ => rfl), .nil⟩
  simp only [pre__law_more] at hp
  show S _ (defBody s__law_more) [oL eI (List.reverse v_draws), .v (eI v_many), .no, .no, .no] ((fun (v : (List Int) × List Int) => Out.rn (List.map eI v.1) ((List.reverse v.2).map eI)) (m__law_more v_draws v_many))
  refine s_cons (b_set (d := eI ((((1000 : Int) * (m__law_next v_draws ).1) + (m__law_next (m__law_next v_draws ).2 ).1) + (1 : Int))) 2 sc__law_more.nd rfl (.inl rfl) (.inl rfl) (Nat.le_of_ble_eq_true rfl) (.inr (by decide)) (e_add (e_add (e_mul (.inl (by decide)) e_int (e_callM 0 c__law_next hr (by decide) (by rfl) v_draws rfl rfl rfl (.inl rfl) ea_nil trivial)) (e_callM 0 c__law_next hr (by decide) (by rfl) (m__law_next v_draws ).2 rfl rfl rfl (.inl rfl) ea_nil trivial)) e_int) rfl) ?_
  refine s_let (a := (m__law_next (m__law_next v_draws ).2 ).2) (fun t1_draws : List Int => [oL eI (List.reverse t1_draws), .v (eI v_many), .v (eI ((((1000 : Int) * (m__law_next v_draws ).1) + (m__law_next (m__law_next v_draws ).2 ).1) + (1 : Int))), .no, .no]) (fun (v : (List Int) × List Int) => Out.rn (List.map eI v.1) ((List.reverse v.2).map eI)) _ (fun t1_draws h_t1_draws => ?_)
  refine s_let (a := ((((1000 : Int) * (m__law_next v_draws ).1) + (m__law_next (m__law_next v_draws ).2 ).1) + (1 : Int))) (fun v2_seed : Int => [oL eI (List.reverse t1_draws), .v (eI v_many), .v (eI v2_seed), .no, .no]) (fun (v : (List Int) × List Int) => Out.rn (List.map eI v.1) ((List.reverse v.2).map eI)) _ (fun v2_seed h_v2_seed => ?_)
  refine s_cons (b_setO 3 sc__law_more.nd rfl (.inl rfl) (.inl rfl) (Nat.le_of_ble_eq_true rfl) (.inr (by decide)) (el_lst ea_nil) rfl) ?_
  refine s_cons (b_forF (f := eI) (a0 := (v2_seed, [])) (fun (s1 : Int × (List Int)) (x1_kl : Int) => (lt (((s1.1 * (48271 : Int)) + (12345 : Int)) % (2147483647 : Int)) (fun (v3_seed : Int) => (lt (s1.2 ++ [((v3_seed / (7 : Int)) % (1000 : Int))]) (fun (v4_more : (List Int)) => (v3_seed, v4_more)))))) (fun (s1 : Int × (List Int)) => [oL eI (List.reverse t1_draws), .v (eI v_many), .v (eI s1.1), oL eI s1.2, .no]) (fun (s1 : Int × (List Int)) (x1_kl : Int) => [oL eI (List.reverse t1_draws), .v (eI v_many), .v (eI s1.1), oL eI s1.2, .v (eI x1_kl)]) [4] (fun (i : Nat) (s1 : Int × List Int) => s1.2.length ≤ i) (Nat.zero_le _) (fun i a x h hx => by (simp only [lt]; rw [List.length_append]; exact Nat.succ_le_succ h)) PassesOwn.never rfl (it_range1 (n := v_many) (by rfl) T.b_range (ea_cons (e_var 1 rfl rfl (.inl rfl)) ea_nil) (by /- side 1: bound of range v_many -/ first | decide | omega)) (fun gs x1_kl s1 hx => (tg_name 4 sc__law_more.nd rfl (.inl rfl) (Nat.le_of_ble_eq_true rfl) (.inr (by decide)) (.inl rfl))) (fun gs i1 x1_kl s1 li1 lx1 lP1 => ?_)) ?_
  · skip
    refine s_cons (b_set (d := eI (((s1.1 * (48271 : Int)) + (12345 : Int)) % (2147483647 : Int))) 2 sc__law_more.nd rfl (.inl rfl) (.inl rfl) (Nat.le_of_ble_eq_true rfl) (.inr (by decide)) (e_mod (by decide) (e_intI (by rfl) T.b_int (e_add (e_mul (.inr (by decide)) (e_var 2 rfl rfl (.inl rfl)) e_int) e_int)) e_int) rfl) ?_
    refine s_let (a := (((s1.1 * (48271 : Int)) + (12345 : Int)) % (2147483647 : Int))) (fun v3_seed : Int => [oL eI (List.reverse t1_draws), .v (eI v_many), .v (eI v3_seed), oL eI s1.2, .v (eI x1_kl)]) (fun (s1 : Int × (List Int)) => Out.nl [oL eI (List.reverse t1_draws), .v (eI v_many), .v (eI s1.1), oL eI s1.2, .no]) _ (fun v3_seed h_v3_seed => ?_)
    refine s_cons (b_appT (f := eI) (v := ((v3_seed / (7 : Int)) % (1000 : Int))) 3 rfl rfl (by /- side 2: (s1.2).length ≤ 1000000 -/ have := (List.getElem?_eq_some_iff.mp li1).1; rw [rng_len] at this; omega) (e_mod (by decide) (e_intI (by rfl) T.b_int (e_fdiv ⟨by decide, by decide⟩ (e_var 2 rfl rfl (.inl rfl)) e_int)) e_int) rfl (.inl rfl)) ?_
    refine s_let (a := (s1.2 ++ [((v3_seed / (7 : Int)) % (1000 : Int))])) (fun v4_more : (List Int) => [oL eI (List.reverse t1_draws), .v (eI v_many), .v (eI v3_seed), oL eI v4_more, .v (eI x1_kl)]) (fun (s1 : Int × (List Int)) => Out.nl [oL eI (List.reverse t1_draws), .v (eI v_many), .v (eI s1.1), oL eI s1.2, .no]) _ (fun v4_more h_v4_more => ?_)
    exact s_nilLW ⟨.inl rfl, .inl rfl, .inl rfl, .inl rfl, .inr rfl, trivial⟩ (.inr rfl)
  · skip
    exact s_retE (g_catO (f := eI) 3 (by /- side 3: ((List.foldl (fun (s1 : Int × (List Int)) (x1_kl : Int) => (lt (((s1.1 * (48271 : Int)) + (12345 : Int)) % (2147483647 : Int)) (fun (v3_seed : Int) => (lt (s1.2 ++ [((v3_seed / (7 : Int)) % (1000 : Int))]) (fun (v4_more : (List Int)) => (v3_seed, v4_more)))))) (v2_seed, []) (rng 0 v_many)).2).length + ((List.reverse t1_draws)).length ≤ 1000000 -/ simp only [lt]; rw [foldl_len2 (fun a x => by rw [List.length_append]; rfl), rng_len, List.length_reverse, ← h_t1_draws]; have h1 := next_len v_draws; have h2 := next_len (m__law_next v_draws).2; show 0 + _ + _ ≤ _; omega) rfl (r_var 0 rfl rfl (.inl rfl)) rfl (.inl rfl)) (.inr rfl)

/-! ### _law_pick -/
abbrev s__law_pick : Stmt := topS 29
abbrev N__law_pick : List Str := ["draws", "some"]
theorem sc__law_pick : FnScope N__law_pick ["draws", "some"] (defScope s__law_pick) := ⟨rfl, rfl, rfl, by decide +kernel, rfl, by decide +kernel, by decide +kernel⟩
def m__law_pick (v_draws : List Int) (v_some : (List Int)) : (Int × List Int) :=
  ((ati v_some ((m__law_next v_draws ).1 % ((v_some).length : Int)) 0), (m__law_next v_draws ).2)
def pre__law_pick (v_draws : List Int) (v_some : (List Int)) : Prop := 0 < v_some.length
abbrev sp__law_pick (K : PySem.W.Frag) : Sp := spM K (A := List Int × (List Int)) (fun a => (List.reverse a.1).map eI) (fun a => [(eL eI) a.2]) (fun a : List Int × (List Int) => pre__law_pick a.1 a.2) (fun a => eI (m__law_pick a.1 a.2).1) (fun a => (List.reverse (m__law_pick a.1 a.2).2).map eI)
theorem ok__law_pick (T : Top K mg xa) (c__law_next : C8.Cal P w K mg base 1 "_law_next" (sp__law_next K) []) : C8.Cal P w K mg base 2 "_law_pick" (sp__law_pick K) [] := by
  obtain ⟨f, fd, F, hm⟩ := T.d__law_pick
  refine ⟨f, fd, ["draws", "some"], [], fn_tape F sc__law_pick (fun _ => rfl) fun y ⟨v_draws, v_some⟩ hr hp => ?_, hm, F.kp, F.binds fun _ _ _ _ _ _ us hl => (match us, hl with | [_, _], _ => rfl), .nil⟩
  simp only [pre__law_pick] at hp
  show S _ (defBody s__law_pick) [oL eI (List.reverse v_draws), .v ((eL eI) v_some)] ((fun (v : Int × List Int) => Out.rt (eI v.1) ((List.reverse v.2).map eI)) (m__law_pick v_draws v_some))
  exact s_ret (e_ixLT (f := eI) 0 (by /- side 2: InB (v_some).length ((m__law_next v_draws ).1 % ((v_some).length : Int)) -/ exact mod_in hp) (e_var 1 rfl rfl (.inl rfl)) (e_mod (by /- side 1: 0 < ((v_some).length : Int) -/ omega) (e_intI (by rfl) T.b_int (e_callM 0 c__law_next hr (by decide) (by rfl) v_draws rfl rfl rfl (.inl rfl) ea_nil trivial)) (e_lenT (f := eI) (by rfl) T.b_len (J.sL (r_e (e_var 1 rfl rfl (.inl rfl))))))) (.inr rfl)

theorem pick_mem {t l : List Int} (h : 0 < l.length) : (m__law_pick t l).1 ∈ l := by
  unfold m__law_pick
  exact ati_mem (mod_in h)

/-! ### _law_kind -/
abbrev s__law_kind : Stmt := topS 30
abbrev N__law_kind : List Str := ["error", "names", "found"]
theorem sc__law_kind : FnScope N__law_kind ["error"] (defScope s__law_kind) := ⟨rfl, rfl, rfl, by decide +kernel, rfl, by decide +kernel, by decide +kernel⟩
theorem ok__law_kind (T : Top K mg xa) : CalK P w K mg base xa 1 "_law_kind" := by
  obtain ⟨f, fd, F, hm⟩ := T.d__law_kind
  refine ⟨f, fd, fn_kind F sc__law_kind fun y p c hc hz hf => ?_, hm, F.kp, F.binds fun _ _ _ _ _ _ us hl => (match us, hl with | [_], _ => rfl)⟩
  obtain ⟨q1, q2, q3, q4, q5⟩ := kn_facts hc.m
  show S _ (defBody s__law_kind) [.v (adrD p.1), .no, .no] (.rt (.str (kword c)) [])
  refine s_cons (b_set (d := eL eS kws) 1 sc__law_kind.nd rfl (.inl rfl) (.inl rfl) (Nat.le_of_ble_eq_true rfl) (.inl rfl) (e_el (el_lst (ea_cons e_str (ea_cons e_str (ea_cons e_str (ea_cons e_str (ea_cons e_str (ea_cons e_str (ea_cons e_str ea_nil))))))))) rfl) ?_
  refine s_cons (b_set (d := eL eB (lb4 c)) 2 sc__law_kind.nd rfl (.inl rfl) (.inl rfl) (Nat.le_of_ble_eq_true rfl) (.inl rfl) (e_el (el_lst (ea_cons (e_is (List.mem_singleton.mpr rfl) hc.e hz hf (hc.k "NotMatroid" (by decide)) (by rfl) T.b_isinstance (ea_cons (e_var 0 rfl rfl (.inl rfl)) (ea_cons (e_adr (by rfl) T.c_NotMatroid) ea_nil))) (ea_cons (e_is (List.mem_singleton.mpr rfl) hc.e hz hf (hc.k "NotFamily" (by decide)) (by rfl) T.b_isinstance (ea_cons (e_var 0 rfl rfl (.inl rfl)) (ea_cons (e_adr (by rfl) T.c_NotFamily) ea_nil))) (ea_cons (e_is (List.mem_singleton.mpr rfl) hc.e hz hf (hc.k "NotGraph" (by decide)) (by rfl) T.b_isinstance (ea_cons (e_var 0 rfl rfl (.inl rfl)) (ea_cons (e_adr (by rfl) T.c_NotGraph) ea_nil))) (ea_cons (e_is (List.mem_singleton.mpr rfl) hc.e hz hf (hc.k "NotPaper" (by decide)) (by rfl) T.b_isinstance (ea_cons (e_var 0 rfl rfl (.inl rfl)) (ea_cons (e_adr (by rfl) T.c_NotPaper) ea_nil))) ea_nil)))) (Nat.le_of_ble_eq_true rfl))) rfl) ?_
  refine s_cons (b_set (d := eL eB (lb4 c ++ lb3 c)) 2 sc__law_kind.nd rfl (.inl rfl) (.inl rfl) (Nat.le_of_ble_eq_true rfl) (.inl rfl) (e_el (el_catT (f := eB) (Nat.le_of_ble_eq_true rfl) (e_var 2 rfl rfl (.inl rfl)) (r_el (el_lst (ea_cons (e_is (List.mem_singleton.mpr rfl) hc.e hz hf (hc.k "BadNumber" (by decide)) (by rfl) T.b_isinstance (ea_cons (e_var 0 rfl rfl (.inl rfl)) (ea_cons (e_adr (by rfl) T.c_BadNumber) ea_nil))) (ea_cons (e_is (List.mem_singleton.mpr rfl) hc.e hz hf (hc.k "NoAnswer" (by decide)) (by rfl) T.b_isinstance (ea_cons (e_var 0 rfl rfl (.inl rfl)) (ea_cons (e_adr (by rfl) T.c_NoAnswer) ea_nil))) (ea_cons (e_is (List.mem_singleton.mpr rfl) hc.e hz hf (hc.k "TooLarge" (by decide)) (by rfl) T.b_isinstance (ea_cons (e_var 0 rfl rfl (.inl rfl)) (ea_cons (e_adr (by rfl) T.c_TooLarge) ea_nil))) ea_nil))) (Nat.le_of_ble_eq_true rfl))))) rfl) ?_
  have e : (if decide (((((lb4 c ++ lb3 c)).count true : Nat) : Int) = 1) then ("!" : Str) ++ ati kws (((lb4 c ++ lb3 c).idxOf true : Nat)) "" else (Str.ofString "!other")) = kword c := by rw [q1, if_pos (by decide), q5]
  rw [← e]
  exact s_ret (e_ifT (f := eS) (t_eqI (e_cntB (e_var 2 rfl rfl (.inl rfl)) e_bl) e_int) (fun _ => e_addS q4 e_str (e_ixLT (f := eS) "" q3 (e_var 1 rfl rfl (.inl rfl)) (e_ixB q2 (e_var 2 rfl rfl (.inl rfl)) e_bl))) (fun _ => e_str)) (.inl rfl)

/-! ### _law_trouble -/
abbrev s__law_trouble : Stmt := topS 34
abbrev N__law_trouble : List Str := ["sets", "one", "other", "thing", "less", "more"]
theorem sc__law_trouble : FnScope N__law_trouble ["sets"] (defScope s__law_trouble) := ⟨rfl, rfl, rfl, by decide +kernel, rfl, by decide +kernel, by decide +kernel⟩
def m__law_trouble (v_sets : (List Int)) : (Option (Str × List Int)) :=
  (lpK (runL (fun (s1 : Unit) (x1_onel : Int) => ((lpK (runL (fun (s2 : Unit) (x2_otherl : Int) => ((if (!(decide ((m__law_size x1_onel) = (m__law_size x2_otherl)))) then (Lp.ret (some (((Str.ofString "size"), [x1_onel, x2_otherl]) : Str × List Int))) else (lpK (runL (fun (s3 : Unit) (x3_thingl : Int) => ((if (!(((m__law_things (x2_otherl - (Builtin.bitAnd x1_onel x2_otherl))).map fun x1_more => (decide (((x1_onel - (m__law_power x3_thingl)) + (m__law_power x1_more)) ∈ v_sets))).any id)) then (Lp.ret (some (((Str.ofString "exchange"), [x1_onel, x2_otherl, x3_thingl]) : Str × List Int))) else (Lp.go ())) : Lp (Unit) (Option (Str × List Int)))) () (m__law_things (x1_onel - (Builtin.bitAnd x1_onel x2_otherl)))) (fun (s3 : Unit) => (Lp.go ())) (fun c => (Lp.ret c)))) : Lp (Unit) (Option (Str × List Int)))) () v_sets) (fun (s2 : Unit) => (Lp.go ())) (fun c => (Lp.ret c))) : Lp (Unit) (Option (Str × List Int)))) () v_sets) (fun (s1 : Unit) => (if (!(v_sets).isEmpty) then none else (some (((Str.ofString "none"), []) : Str × List Int)))) (fun c => c))
abbrev sp__law_trouble (K : PySem.W.Frag) : Sp := spV K (A := (List Int)) (fun a => [(eT eI) a]) (fun a : (List Int) => True) (fun a => (eO eW) (m__law_trouble a))
theorem ok__law_trouble (T : Top K mg xa) (c__law_size : C8.Cal P w K mg base 3 "_law_size" (sp__law_size K) []) (c__law_things : C8.Cal P w K mg base 2 "_law_things" (sp__law_things K) []) (c__law_power : C8.Cal P w K mg base 1 "_law_power" (sp__law_power K) []) : C8.Cal P w K mg base 4 "_law_trouble" (sp__law_trouble K) [] := by
  obtain ⟨f, fd, F, hm⟩ := T.d__law_trouble
  refine ⟨f, fd, ["sets"], [], fn_pure F sc__law_trouble (fun _ => rfl) fun y v_sets hr hp => ?_, hm, F.kp, F.binds fun _ _ _ _ _ _ us hl => (match us, hl with | [_], _ => rfl), .nil⟩
  show S _ (defBody s__law_trouble) [.v ((eT eI) v_sets), .no, .no, .no, .no, .no] ((fun (v : (Option (Str × List Int))) => Out.rt ((eO eW) v) []) (m__law_trouble v_sets))
  refine s_loop (fun (v : (Option (Str × List Int))) => Out.rt ((eO eW) v) []) _ (fun c : (Option (Str × List Int)) => c) (b_for (f := eI) (a0 := ()) (fun (s1 : Unit) (x1_onel : Int) => ((lpK (runL (fun (s2 : Unit) (x2_otherl : Int) => ((if (!(decide ((m__law_size x1_onel) = (m__law_size x2_otherl)))) then (Lp.ret (some (((Str.ofString "size"), [x1_onel, x2_otherl]) : Str × List Int))) else (lpK (runL (fun (s3 : Unit) (x3_thingl : Int) => ((if (!(((m__law_things (x2_otherl - (Builtin.bitAnd x1_onel x2_otherl))).map fun x1_more => (decide (((x1_onel - (m__law_power x3_thingl)) + (m__law_power x1_more)) ∈ v_sets))).any id)) then (Lp.ret (some (((Str.ofString "exchange"), [x1_onel, x2_otherl, x3_thingl]) : Str × List Int))) else (Lp.go ())) : Lp (Unit) (Option (Str × List Int)))) () (m__law_things (x1_onel - (Builtin.bitAnd x1_onel x2_otherl)))) (fun (s3 : Unit) => (Lp.go ())) (fun c => (Lp.ret c)))) : Lp (Unit) (Option (Str × List Int)))) () v_sets) (fun (s2 : Unit) => (Lp.go ())) (fun c => (Lp.ret c))) : Lp (Unit) (Option (Str × List Int)))) (fun (s1 : Unit) => [.v ((eT eI) v_sets), .no, .no, .no, .no, .no]) (fun (v : (Option (Str × List Int))) => Out.rt ((eO eW) v) []) (fun (s1 : Unit) (x1_onel : Int) => [.v ((eT eI) v_sets), .v (eI x1_onel), .no, .no, .no, .no]) [1] (fun _ _ => True) (trivial) (fun _ _ _ _ _ _ _ => trivial) PassesOwn.never rfl (fun _ => rfl) (it_tup (e_var 0 rfl rfl (.inr (.inl rfl)))) (fun gs x1_onel s1 hx => (tg_name 1 sc__law_trouble.nd rfl (.inl rfl) (Nat.le_of_ble_eq_true rfl) (.inl rfl) (.inl rfl))) (fun gs i1 x1_onel s1 li1 lx1 lP1 => ?_)) (fun _ => rfl) (fun _ => rfl) (fun s1 hrun => ?_)
  · skip
    refine s_loop (lpO (fun (s1 : Unit) => [.v ((eT eI) v_sets), .no, .no, .no, .no, .no]) (fun (v : (Option (Str × List Int))) => Out.rt ((eO eW) v) [])) _ (fun c : (Option (Str × List Int)) => (Lp.ret c)) (b_for (f := eI) (a0 := ()) (fun (s2 : Unit) (x2_otherl : Int) => ((if (!(decide ((m__law_size x1_onel) = (m__law_size x2_otherl)))) then (Lp.ret (some (((Str.ofString "size"), [x1_onel, x2_otherl]) : Str × List Int))) else (lpK (runL (fun (s3 : Unit) (x3_thingl : Int) => ((if (!(((m__law_things (x2_otherl - (Builtin.bitAnd x1_onel x2_otherl))).map fun x1_more => (decide (((x1_onel - (m__law_power x3_thingl)) + (m__law_power x1_more)) ∈ v_sets))).any id)) then (Lp.ret (some (((Str.ofString "exchange"), [x1_onel, x2_otherl, x3_thingl]) : Str × List Int))) else (Lp.go ())) : Lp (Unit) (Option (Str × List Int)))) () (m__law_things (x1_onel - (Builtin.bitAnd x1_onel x2_otherl)))) (fun (s3 : Unit) => (Lp.go ())) (fun c => (Lp.ret c)))) : Lp (Unit) (Option (Str × List Int)))) (fun (s2 : Unit) => [.v ((eT eI) v_sets), .v (eI x1_onel), .no, .no, .no, .no]) (fun (v : (Option (Str × List Int))) => Out.rt ((eO eW) v) []) (fun (s2 : Unit) (x2_otherl : Int) => [.v ((eT eI) v_sets), .v (eI x1_onel), .v (eI x2_otherl), .no, .no, .no]) [2] (fun _ _ => True) (trivial) (fun _ _ _ _ _ _ _ => trivial) PassesOwn.never rfl (fun _ => rfl) (it_tup (e_var 0 rfl rfl (.inr (.inl rfl)))) (fun gs x2_otherl s2 hx => (tg_name 2 sc__law_trouble.nd rfl (.inl rfl) (Nat.le_of_ble_eq_true rfl) (.inl rfl) (.inl rfl))) (fun gs i2 x2_otherl s2 li2 lx2 lP2 => ?_)) (fun _ => rfl) (fun _ => rfl) (fun s2 hrun => ?_)
    · skip
      refine s_if (lpO (fun (s2 : Unit) => [.v ((eT eI) v_sets), .v (eI x1_onel), .no, .no, .no, .no]) (fun (v : (Option (Str × List Int))) => Out.rt ((eO eW) v) [])) (t_neI (e_call c__law_size hr (by decide) (by rfl) x1_onel rfl (ea_cons (e_var 1 rfl rfl (.inl rfl)) ea_nil) trivial) (e_call c__law_size hr (by decide) (by rfl) x2_otherl rfl (ea_cons (e_var 2 rfl rfl (.inl rfl)) ea_nil) trivial)) (fun hc1 => ?_) rfl (fun hc1 => ?_)
      · skip
        exact s_ret (e_tup (ea_cons e_str (ea_cons (e_var 1 rfl rfl (.inl rfl)) (ea_cons (e_var 2 rfl rfl (.inl rfl)) ea_nil))) (Nat.le_of_ble_eq_true rfl)) (.inl rfl)
      · skip
        refine s_loop (lpO (fun (s2 : Unit) => [.v ((eT eI) v_sets), .v (eI x1_onel), .no, .no, .no, .no]) (fun (v : (Option (Str × List Int))) => Out.rt ((eO eW) v) [])) _ (fun c : (Option (Str × List Int)) => (Lp.ret c)) (b_for (f := eI) (a0 := ()) (fun (s3 : Unit) (x3_thingl : Int) => ((if (!(((m__law_things (x2_otherl - (Builtin.bitAnd x1_onel x2_otherl))).map fun x1_more => (decide (((x1_onel - (m__law_power x3_thingl)) + (m__law_power x1_more)) ∈ v_sets))).any id)) then (Lp.ret (some (((Str.ofString "exchange"), [x1_onel, x2_otherl, x3_thingl]) : Str × List Int))) else (Lp.go ())) : Lp (Unit) (Option (Str × List Int)))) (fun (s3 : Unit) => [.v ((eT eI) v_sets), .v (eI x1_onel), .v (eI x2_otherl), .no, .no, .no]) (fun (v : (Option (Str × List Int))) => Out.rt ((eO eW) v) []) (fun (s3 : Unit) (x3_thingl : Int) => [.v ((eT eI) v_sets), .v (eI x1_onel), .v (eI x2_otherl), .v (eI x3_thingl), .no, .no]) [3] (fun _ _ => True) (trivial) (fun _ _ _ _ _ _ _ => trivial) PassesOwn.never rfl (fun _ => rfl) (it_list (e_call c__law_things hr (by decide) (by rfl) (x1_onel - (Builtin.bitAnd x1_onel x2_otherl)) rfl (ea_cons (e_sub (e_var 1 rfl rfl (.inl rfl)) (e_band (e_var 1 rfl rfl (.inl rfl)) (e_var 2 rfl rfl (.inl rfl)))) ea_nil) trivial)) (fun gs x3_thingl s3 hx => (tg_name 3 sc__law_trouble.nd rfl (.inl rfl) (Nat.le_of_ble_eq_true rfl) (.inl rfl) (.inl rfl))) (fun gs i3 x3_thingl s3 li3 lx3 lP3 => ?_)) (fun _ => rfl) (fun _ => rfl) (fun s3 hrun => ?_)
        · skip
          refine s_cons (b_set (d := eI (x1_onel - (m__law_power x3_thingl))) 4 sc__law_trouble.nd rfl (.inr rfl) (.inl rfl) (Nat.le_of_ble_eq_true rfl) (.inl rfl) (e_sub (e_var 1 rfl rfl (.inl rfl)) (e_call c__law_power hr (by decide) (by rfl) x3_thingl rfl (ea_cons (e_var 3 rfl rfl (.inl rfl)) ea_nil) (by /- side 1: pre of _law_power x3_thingl -/ show pre__law_power x3_thingl; have := lthings_mem lx3; exact ⟨this.1, by omega⟩))) rfl) ?_
          refine s_if (lpO (fun (s3 : Unit) => [.v ((eT eI) v_sets), .v (eI x1_onel), .v (eI x2_otherl), .no, .no, .no]) (fun (v : (Option (Str × List Int))) => Out.rt ((eO eW) v) [])) (t_not (t_val (e_any rfl (by rfl) T.b_any (r_el (el_lc (own := [("more", 5)]) rfl sc__law_trouble.nd (blkOk_by (by kernel_rfl)) (lc1m (f := eI) 5 (fun x1_more => (decide (((x1_onel - (m__law_power x3_thingl)) + (m__law_power x1_more)) ∈ v_sets))) eB sc__law_trouble.nd rfl (fun _ => ⟨.inl rfl, .inr rfl⟩) (Nat.le_of_ble_eq_true rfl) (.inl rfl) rfl (it_list (e_call c__law_things hr (by decide) (by rfl) (x2_otherl - (Builtin.bitAnd x1_onel x2_otherl)) rfl (ea_cons (e_sub (e_var 2 rfl rfl (.inl rfl)) (e_band (e_var 1 rfl rfl (.inl rfl)) (e_var 2 rfl rfl (.inl rfl)))) ea_nil) trivial)) (by /- side 2: ((m__law_things (x2_otherl - (Builtin.bitAnd x1_onel x2_otherl)))).length ≤ 1000000 -/ exact Nat.le_trans lthings_len (by decide)) (fun x1_more hx1 => ce_all (fun _ => (e_inI (e_add (e_var 4 rfl rfl (.inr (.inl rfl))) (e_call c__law_power hr (by decide) (by rfl) x1_more rfl (ea_cons (e_var 5 rfl rfl (.inl rfl)) ea_nil) (by /- side 3: pre of _law_power x1_more -/ show pre__law_power x1_more; have := lthings_mem hx1; exact ⟨this.1, by omega⟩))) (J.sT (e_var 0 rfl rfl (.inr (.inl rfl))))))))))))) (fun hc2 => ?_) rfl (fun hc2 => ?_)
          · skip
            exact s_ret (e_tup (ea_cons e_str (ea_cons (e_var 1 rfl rfl (.inl rfl)) (ea_cons (e_var 2 rfl rfl (.inl rfl)) (ea_cons (e_var 3 rfl rfl (.inl rfl)) ea_nil)))) (Nat.le_of_ble_eq_true rfl)) (.inl rfl)
          · skip
            exact s_nilLW ⟨.inl rfl, .inl rfl, .inl rfl, .inr rfl, .inr rfl, .inl rfl, trivial⟩ (.inl rfl)
        · skip
          exact s_nilLW ⟨.inl rfl, .inl rfl, .inr rfl, .inl rfl, .inl rfl, .inl rfl, trivial⟩ (.inl rfl)
    · skip
      exact s_nilLW ⟨.inl rfl, .inr rfl, .inl rfl, .inl rfl, .inl rfl, .inl rfl, trivial⟩ (.inl rfl)
  · skip
    exact s_ret (e_ifT (f := (eO eW)) (v1 := none) (v2 := (some (((Str.ofString "none"), []) : Str × List Int))) (t_tupT (f := eI) (e_var 0 rfl rfl (.inr (.inl rfl)))) (fun hi1 => e_non) (fun hi1 => (e_tup (ea_cons e_str ea_nil) (Nat.le_of_ble_eq_true rfl)))) (.inl rfl)

/-! ### _law_columns -/
abbrev s__law_columns : Stmt := topS 35
abbrev N__law_columns : List Str := ["draws", "n", "r", "prime", "thing", "row"]
theorem sc__law_columns : FnScope N__law_columns ["draws", "n", "r"] (defScope s__law_columns) := ⟨rfl, rfl, rfl, by decide +kernel, rfl, by decide +kernel, by decide +kernel⟩
def m__law_columns (v_draws : List Int) (v_n : Int) (v_r : Int) : ((List (List Int) × Int) × List Int) :=
  (lt (m__law_pick v_draws [(2 : Int), (2 : Int), (3 : Int), (101 : Int)]).2 (fun (t1_draws : List Int) => (lt (m__law_pick v_draws [(2 : Int), (2 : Int), (3 : Int), (101 : Int)]).1 (fun (v2_prime : Int) => (((runT (fun (t1 : List Int) (x1_thing : Int) => ((runT (fun (t2 : List Int) (x2_row : Int) => (((((1000 : Int) * (m__law_next t2 ).1) + (m__law_next (m__law_next t2 ).2 ).1) % v2_prime), (m__law_next (m__law_next t2 ).2 ).2)) t1 (rng 0 v_r)).1, (runT (fun (t2 : List Int) (x2_row : Int) => (((((1000 : Int) * (m__law_next t2 ).1) + (m__law_next (m__law_next t2 ).2 ).1) % v2_prime), (m__law_next (m__law_next t2 ).2 ).2)) t1 (rng 0 v_r)).2)) t1_draws (rng 0 v_n)).1, v2_prime), (runT (fun (t1 : List Int) (x1_thing : Int) => ((runT (fun (t2 : List Int) (x2_row : Int) => (((((1000 : Int) * (m__law_next t2 ).1) + (m__law_next (m__law_next t2 ).2 ).1) % v2_prime), (m__law_next (m__law_next t2 ).2 ).2)) t1 (rng 0 v_r)).1, (runT (fun (t2 : List Int) (x2_row : Int) => (((((1000 : Int) * (m__law_next t2 ).1) + (m__law_next (m__law_next t2 ).2 ).1) % v2_prime), (m__law_next (m__law_next t2 ).2 ).2)) t1 (rng 0 v_r)).2)) t1_draws (rng 0 v_n)).2)))))
def pre__law_columns (v_draws : List Int) (v_n : Int) (v_r : Int) : Prop := 0 ≤ v_n ∧ v_n ≤ 12 ∧ 0 ≤ v_r ∧ v_r ≤ 12
abbrev sp__law_columns (K : PySem.W.Frag) : Sp := spM K (A := List Int × Int × Int) (fun a => (List.reverse a.1).map eI) (fun a => [eI a.2.1, eI a.2.2]) (fun a : List Int × Int × Int => pre__law_columns a.1 a.2.1 a.2.2) (fun a => eC (m__law_columns a.1 a.2.1 a.2.2).1) (fun a => (List.reverse (m__law_columns a.1 a.2.1 a.2.2).2).map eI)
theorem ok__law_columns (T : Top K mg xa) (c__law_pick : C8.Cal P w K mg base 2 "_law_pick" (sp__law_pick K) []) (c__law_next : C8.Cal P w K mg base 1 "_law_next" (sp__law_next K) []) : C8.Cal P w K mg base 3 "_law_columns" (sp__law_columns K) [] := by
  obtain ⟨f, fd, F, hm⟩ := T.d__law_columns
  refine ⟨f, fd, ["draws", "n", "r"], [], fn_tape F sc__law_columns (fun _ => rfl) fun y ⟨v_draws, v_n, v_r⟩ hr hp => ?_, hm, F.kp, F.binds fun _ _ _ _ _ _ us hl => (match us, hl with | [_, _, _], _ => rfl), .nil⟩
  simp only [pre__law_columns] at hp
  show S _ (defBody s__law_columns) [oL eI (List.reverse v_draws), .v (eI v_n), .v (eI v_r), .no, .no, .no] ((fun (v : (List (List Int) × Int) × List Int) => Out.rt (eC v.1) ((List.reverse v.2).map eI)) (m__law_columns v_draws v_n v_r))
  refine s_cons (b_set (d := eI (m__law_pick v_draws [(2 : Int), (2 : Int), (3 : Int), (101 : Int)]).1) 3 sc__law_columns.nd rfl (.inr rfl) (.inl rfl) (Nat.le_of_ble_eq_true rfl) (.inr (by decide)) (e_callM 0 c__law_pick hr (by decide) (by rfl) (v_draws, [(2 : Int), (2 : Int), (3 : Int), (101 : Int)]) rfl rfl rfl (.inr (.inl rfl)) (ea_cons (e_el (el_lst (ea_cons e_int (ea_cons e_int (ea_cons e_int (ea_cons e_int ea_nil)))) (Nat.le_of_ble_eq_true rfl))) ea_nil) (by /- side 1: pre of _law_pick v_draws [(2 : Int), (2 : Int), (3 : Int), (101 : Int)] -/ show pre__law_pick v_draws [(2 : Int), (2 : Int), (3 : Int), (101 : Int)]; simp only [pre__law_pick]; decide)) rfl) ?_
  refine s_let (a := (m__law_pick v_draws [(2 : Int), (2 : Int), (3 : Int), (101 : Int)]).2) (fun t1_draws : List Int => [oL eI (List.reverse t1_draws), .v (eI v_n), .v (eI v_r), .v (eI (m__law_pick v_draws [(2 : Int), (2 : Int), (3 : Int), (101 : Int)]).1), .no, .no]) (fun (v : (List (List Int) × Int) × List Int) => Out.rt (eC v.1) ((List.reverse v.2).map eI)) _ (fun t1_draws h_t1_draws => ?_)
  refine s_let (a := (m__law_pick v_draws [(2 : Int), (2 : Int), (3 : Int), (101 : Int)]).1) (fun v2_prime : Int => [oL eI (List.reverse t1_draws), .v (eI v_n), .v (eI v_r), .v (eI v2_prime), .no, .no]) (fun (v : (List (List Int) × Int) × List Int) => Out.rt (eC v.1) ((List.reverse v.2).map eI)) _ (fun v2_prime h_v2_prime => ?_)
  exact s_ret (e_el (el_cat (by /- side 7: columns length -/ simp only [List.length_map, runT_len, rng_len]; show _ + 1 ≤ _; omega) (e_el (el_lc (own := [("thing", 4)]) rfl sc__law_columns.nd (blkOk_by (by kernel_rfl)) (lc1s (f := eI) (a0 := t1_draws) 4 0 (fun t => (List.reverse t).map eI) (fun (t1 : List Int) (x1_thing : Int) => ((runT (fun (t2 : List Int) (x2_row : Int) => (((((1000 : Int) * (m__law_next t2 ).1) + (m__law_next (m__law_next t2 ).2 ).1) % v2_prime), (m__law_next (m__law_next t2 ).2 ).2)) t1 (rng 0 v_r)).1, (runT (fun (t2 : List Int) (x2_row : Int) => (((((1000 : Int) * (m__law_next t2 ).1) + (m__law_next (m__law_next t2 ).2 ).1) % v2_prime), (m__law_next (m__law_next t2 ).2 ).2)) t1 (rng 0 v_r)).2)) (eL eI) sc__law_columns.nd rfl (fun _ => ⟨.inl rfl, .inr rfl⟩) (Nat.le_of_ble_eq_true rfl) (.inr (by decide)) rfl rfl (it_range1 (n := v_n) (by rfl) T.b_range (ea_cons (e_var 1 rfl rfl (.inl rfl)) ea_nil) (by /- side 2: bound of range v_n -/ first | decide | omega)) (by /- side 3: ((rng 0 v_n)).length ≤ 1000000 -/ rw [rng_len]; omega) (fun x1_thing t1 hx1 => ce_all (fun _ => (e_el (el_lc (own := [("row", 5)]) rfl sc__law_columns.nd (blkOk_by (by kernel_rfl)) (lc1s (f := eI) (a0 := t1) 5 0 (fun t => (List.reverse t).map eI) (fun (t2 : List Int) (x2_row : Int) => (((((1000 : Int) * (m__law_next t2 ).1) + (m__law_next (m__law_next t2 ).2 ).1) % v2_prime), (m__law_next (m__law_next t2 ).2 ).2)) eI sc__law_columns.nd rfl (fun _ => ⟨.inl rfl, .inr rfl⟩) (Nat.le_of_ble_eq_true rfl) (.inr (by decide)) rfl rfl (it_range1 (n := v_r) (by rfl) T.b_range (ea_cons (e_var 2 rfl rfl (.inr (.inl rfl))) ea_nil) (by /- side 4: bound of range v_r -/ first | decide | omega)) (by /- side 5: ((rng 0 v_r)).length ≤ 1000000 -/ rw [rng_len]; omega) (fun x2_row t2 hx2 => ce_all (fun _ => (e_mod (by /- side 6: 0 < v2_prime -/ have := pick_mem (t := v_draws) (l := [2, 2, 3, 101]) (by decide); simp at this; omega) (e_intI (by rfl) T.b_int (e_add (e_mul (.inl (by decide)) e_int (e_callM 0 c__law_next hr (by decide) (by rfl) t2 rfl rfl rfl (.inr (.inl rfl)) ea_nil trivial)) (e_callM 0 c__law_next hr (by decide) (by rfl) (m__law_next t2 ).2 rfl rfl rfl (.inr (.inl rfl)) ea_nil trivial))) (e_var 3 rfl rfl (.inr (.inl rfl)))))))))))))) (r_el (el_lst (ea_cons (e_var 3 rfl rfl (.inr (.inl rfl))) ea_nil) (Nat.le_of_ble_eq_true rfl))))) (.inr rfl)


def Prm (p : Int) : Prop := p = 2 ∨ p = 3 ∨ p = 101
def RowOk (w : Nat) (p : Int) (r : List Int) : Prop := r.length = w ∧ ∀ e ∈ r, 0 ≤ e ∧ e < p
theorem prm_pos {p : Int} (h : Prm p) : 0 < p ∧ p ≤ 101 := by rcases h with h | h | h <;> omega
theorem inv_ex {p e : Int} (h : Prm p) (h1 : 0 < e) (h2 : e < p) : ∃ t ∈ rng 1 p, decide ((t * e) % p = 1) = true := by
  have e2 : ∃ n : Nat, e = n ∧ n < 101 := ⟨e.toNat, by omega, by have := (prm_pos h).2; omega⟩
  obtain ⟨n, rfl, hn⟩ := e2
  rcases h with rfl | rfl | rfl
  · exact (by decide +kernel : ∀ n : Nat, n < 101 → 0 < (n : Int) → (n : Int) < 2 → ∃ t ∈ rng 1 2, decide ((t * (n : Int)) % 2 = 1) = true) n hn h1 h2
  · exact (by decide +kernel : ∀ n : Nat, n < 101 → 0 < (n : Int) → (n : Int) < 3 → ∃ t ∈ rng 1 3, decide ((t * (n : Int)) % 3 = 1) = true) n hn h1 h2
  · exact (by decide +kernel : ∀ n : Nat, n < 101 → 0 < (n : Int) → (n : Int) < 101 → ∃ t ∈ rng 1 101, decide ((t * (n : Int)) % 101 = 1) = true) n hn h1 h2
theorem rng_get {lo hi x : Int} {i : Nat} (h : (rng lo hi)[i]? = some x) : x = lo + i ∧ i < (hi - lo).toNat := by
  unfold rng at h
  rw [List.getElem?_map] at h
  cases q : (List.range (hi - lo).toNat)[i]? with
  | none => rw [q] at h; cases h
  | some y =>
    rw [q] at h
    cases h
    obtain ⟨h1, h2⟩ := List.getElem?_eq_some_iff.mp q
    rw [List.length_range] at h1
    rw [List.getElem_range] at h2
    exact ⟨by rw [← h2], h1⟩
theorem inB_of {n : Nat} {i : Int} (h : 0 ≤ i) (h2 : i < n) : InB n i := ⟨by omega, h2⟩
theorem inB_ne {α : Type} {l : List α} (h : l ≠ []) : InB l.length 0 := inB_of (Int.le_refl 0) (by have := List.length_pos_iff.mpr h; omega)
theorem inv_inB {p e : Int} (h : Prm p) (h1 : 0 < e) (h2 : e < p) : InB (((rng 1 p).filter fun t => decide ((t * e) % p = 1)).map fun t => t).length 0 := by
  obtain ⟨t, ht, hd⟩ := inv_ex h h1 h2
  refine inB_ne fun z => ?_
  have : t ∈ (((rng 1 p).filter fun t => decide ((t * e) % p = 1)).map fun t => t) := List.mem_map.mpr ⟨t, List.mem_filter.mpr ⟨ht, hd⟩, rfl⟩
  rw [z] at this; cases this
theorem heads_mem {R : List Int} {x : Int} (h : x ∈ ((rng 0 (R.length : Int)).filter fun k => (!(decide ((ati R k 0) = (0 : Int))))).map fun k => k) : InB R.length x ∧ 0 ≤ x ∧ x < R.length ∧ ati R x 0 ≠ 0 := by
  obtain ⟨y, hy, rfl⟩ := List.mem_map.mp h
  obtain ⟨h1, h2⟩ := List.mem_filter.mp hy
  have h3 := rng_mem h1
  exact ⟨inB_of h3.1 h3.2, h3.1, h3.2, by simpa using h2⟩
def RowsOk (n w : Nat) (p : Int) (s : List (List Int)) : Prop := s.length = n ∧ ∀ c ∈ s, RowOk w p c
theorem rows_set {n w : Nat} {p : Int} {s : List (List Int)} (hp : 0 < p) (h : RowsOk n w p s) (k m : Nat) (f : Int → Int) (hm : m = w) : RowsOk n w p (s.set k ((rng 0 (m : Int)).map fun x => f x % p)) := by
  refine ⟨by rw [List.length_set]; exact h.1, fun c hc => ?_⟩
  rcases List.mem_or_eq_of_mem_set hc with q | q
  · exact h.2 c q
  · subst q
    refine ⟨by rw [List.length_map, rng_len]; omega, fun e he => ?_⟩
    obtain ⟨x, _, rfl⟩ := List.mem_map.mp he
    exact ⟨Int.emod_nonneg _ (by omega), Int.emod_lt_of_pos _ hp⟩
theorem rows_at {n w : Nat} {p : Int} {s : List (List Int)} (h : RowsOk n w p s) {x : Int} (h1 : 0 ≤ x) (h2 : x < n) : InB s.length x ∧ RowOk w p (ati s x []) := by
  have : InB s.length x := inB_of h1 (by rw [h.1]; exact h2)
  exact ⟨this, h.2 _ (ati_mem this)⟩
theorem row_at {w : Nat} {p : Int} {r : List Int} (h : RowOk w p r) {x : Int} (h1 : InB r.length x) : 0 ≤ ati r x 0 ∧ ati r x 0 < p := h.2 _ (ati_mem h1)
/-! ### _law_free -/
abbrev s__law_free : Stmt := topS 36
abbrev N__law_free : List Str := ["columns", "prime", "rows", "at", "heads", "head", "inverse", "base", "more", "column", "k", "times", "entry"]
theorem sc__law_free : FnScope N__law_free ["columns", "prime"] (defScope s__law_free) := ⟨rfl, rfl, rfl, by decide +kernel, rfl, by decide +kernel, by decide +kernel⟩
def m__law_free (v_columns : (List (List Int))) (v_prime : Int) : Bool :=
  (lt (v_columns.map fun x1_column => x1_column) (fun (v1_rows : (List (List Int))) => (lpK (runL (fun (s1 : (List (List Int))) (x1_atl : Int) => ((lt (((rng 0 (((ati s1 x1_atl [])).length : Int)).filter fun x2_k => (!(decide ((ati (ati s1 x1_atl []) x2_k 0) = (0 : Int))))).map fun x2_k => x2_k) (fun (v2_heads : (List Int)) => (if (!(!(v2_heads).isEmpty)) then (Lp.ret false) else (lt (ati (((rng (1 : Int) v_prime).filter fun x3_times => (decide (((x3_times * (ati (ati s1 x1_atl []) (ati v2_heads (0 : Int) 0) 0)) % v_prime) = (1 : Int)))).map fun x3_times => x3_times) (0 : Int) 0) (fun (v3_inverse : Int) => (lt ((ati s1 x1_atl []).map fun x4_entry => ((v3_inverse * x4_entry) % v_prime)) (fun (v4_base : (List Int)) => (Lp.go (List.foldl (fun (s2 : (List (List Int))) (x2_morel : Int) => (lt ((s2).set (x2_morel).toNat ((rng 0 ((v4_base).length : Int)).map fun x5_k => (((ati (ati s2 x2_morel []) x5_k 0) - ((ati (ati s2 x2_morel []) (ati v2_heads (0 : Int) 0) 0) * (ati v4_base x5_k 0))) % v_prime))) (fun (v5_rows : (List (List Int))) => v5_rows))) s1 (rng (x1_atl + (1 : Int)) ((s1).length : Int))))))))))) : Lp ((List (List Int))) Bool)) v1_rows (rng 0 ((v1_rows).length : Int))) (fun (s1 : (List (List Int))) => true) (fun c => c))))
def pre__law_free (v_columns : (List (List Int))) (v_prime : Int) : Prop := Prm v_prime ∧ v_columns.length ≤ 12 ∧ ∃ w : Nat, w ≤ 12 ∧ ∀ c ∈ v_columns, RowOk w v_prime c
abbrev sp__law_free (K : PySem.W.Frag) : Sp := spV K (A := (List (List Int)) × Int) (fun a => [(eL (eL eI)) a.1, eI a.2]) (fun a : (List (List Int)) × Int => pre__law_free a.1 a.2) (fun a => eB (m__law_free a.1 a.2))
theorem ok__law_free (T : Top K mg xa)  : C8.Cal P w K mg base 1 "_law_free" (sp__law_free K) [] := by
  obtain ⟨f, fd, F, hm⟩ := T.d__law_free
  refine ⟨f, fd, ["columns", "prime"], [], fn_pure F sc__law_free (fun _ => rfl) fun y ⟨v_columns, v_prime⟩ hr hp => ?_, hm, F.kp, F.binds fun _ _ _ _ _ _ us hl => (match us, hl with | [_, _], _ => rfl), .nil⟩
  simp only [pre__law_free] at hp
  obtain ⟨hpr, hlen, w, hw, hrow⟩ := hp
  show S _ (defBody s__law_free) [.v ((eL (eL eI)) v_columns), .v (eI v_prime), .no, .no, .no, .no, .no, .no, .no, .no, .no, .no, .no] ((fun (v : Bool) => Out.rt (eB v) []) (m__law_free v_columns v_prime))
  refine s_cons (b_setO 2 sc__law_free.nd rfl (.inr rfl) (.inl rfl) (Nat.le_of_ble_eq_true rfl) (.inl rfl) (el_lc (own := [("column", 9)]) rfl sc__law_free.nd (blkOk_by (by kernel_rfl)) (lc1m (f := (eL eI)) 9 (fun x1_column => x1_column) (eL eI) sc__law_free.nd rfl (fun _ => ⟨.inl rfl, .inr rfl⟩) (Nat.le_of_ble_eq_true rfl) (.inl rfl) rfl (it_list (e_var 0 rfl rfl (.inl rfl))) (by /- side 1: (v_columns).length ≤ 1000000 -/ first | decide | omega) (fun x1_column hx1 => ce_all (fun _ => (e_el (el_list (by rfl) T.b_list (J.sL (r_e (e_var 9 rfl rfl (.inl rfl)))))))))) rfl) ?_
  refine s_let (a := (v_columns.map fun x1_column => x1_column)) (fun v1_rows : (List (List Int)) => [.v ((eL (eL eI)) v_columns), .v (eI v_prime), oL (eL eI) v1_rows, .no, .no, .no, .no, .no, .no, .no, .no, .no, .no]) (fun (v : Bool) => Out.rt (eB v) []) _ (fun v1_rows h_v1_rows => ?_)
  refine s_loop (fun (v : Bool) => Out.rt (eB v) []) _ (fun c : Bool => c) (b_for (f := eI) (a0 := v1_rows) (fun (s1 : (List (List Int))) (x1_atl : Int) => ((lt (((rng 0 (((ati s1 x1_atl [])).length : Int)).filter fun x2_k => (!(decide ((ati (ati s1 x1_atl []) x2_k 0) = (0 : Int))))).map fun x2_k => x2_k) (fun (v2_heads : (List Int)) => (if (!(!(v2_heads).isEmpty)) then (Lp.ret false) else (lt (ati (((rng (1 : Int) v_prime).filter fun x3_times => (decide (((x3_times * (ati (ati s1 x1_atl []) (ati v2_heads (0 : Int) 0) 0)) % v_prime) = (1 : Int)))).map fun x3_times => x3_times) (0 : Int) 0) (fun (v3_inverse : Int) => (lt ((ati s1 x1_atl []).map fun x4_entry => ((v3_inverse * x4_entry) % v_prime)) (fun (v4_base : (List Int)) => (Lp.go (List.foldl (fun (s2 : (List (List Int))) (x2_morel : Int) => (lt ((s2).set (x2_morel).toNat ((rng 0 ((v4_base).length : Int)).map fun x5_k => (((ati (ati s2 x2_morel []) x5_k 0) - ((ati (ati s2 x2_morel []) (ati v2_heads (0 : Int) 0) 0) * (ati v4_base x5_k 0))) % v_prime))) (fun (v5_rows : (List (List Int))) => v5_rows))) s1 (rng (x1_atl + (1 : Int)) ((s1).length : Int))))))))))) : Lp ((List (List Int))) Bool)) (fun (s1 : (List (List Int))) => [.v ((eL (eL eI)) v_columns), .v (eI v_prime), oL (eL eI) s1, .no, .no, .no, .no, .no, .no, .no, .no, .no, .no]) (fun (v : Bool) => Out.rt (eB v) []) (fun (s1 : (List (List Int))) (x1_atl : Int) => [.v ((eL (eL eI)) v_columns), .v (eI v_prime), oL (eL eI) s1, .v (eI x1_atl), .no, .no, .no, .no, .no, .no, .no, .no, .no]) [3] (fun (i : Nat) (s1 : List (List Int)) => RowsOk v_columns.length w v_prime s1) (⟨by rw [← h_v1_rows, List.length_map], fun c hc => by rw [← h_v1_rows] at hc; obtain ⟨c2, h2, rfl⟩ := List.mem_map.mp hc; exact hrow _ h2⟩) (fun i a x a2 h hx e => by
                                            simp only [lt] at e
                                            split at e
                                            · cases e
                                            · injection e with e
                                              subst e
                                              have hx1 : 0 ≤ x ∧ x < v_columns.length := (by have := rng_mem (List.mem_of_getElem? hx); rw [← h_v1_rows, List.length_map] at this; exact this)
                                              exact foldl_inv (P := RowsOk v_columns.length w v_prime) _ _ h (fun a' x' h' hx' => rows_set (prm_pos hpr).1 h' _ _ _ (by rw [List.length_map]; exact (rows_at h hx1.1 hx1.2).2.1))) PassesOwn.never rfl (fun _ => rfl) (it_range1 (n := ((v1_rows).length : Int)) (by rfl) T.b_range (ea_cons (e_lenT (f := (eL eI)) (by rfl) T.b_len (J.sL (r_var 2 rfl rfl (.inr (.inl rfl))))) ea_nil) (by /- side 2: bound of range ((v1_rows).length : Int) -/ have : v1_rows.length = v_columns.length := (by rw [← h_v1_rows, List.length_map]); omega)) (fun gs x1_atl s1 hx => (tg_name 3 sc__law_free.nd rfl (.inr rfl) (Nat.le_of_ble_eq_true rfl) (.inl rfl) (.inl rfl))) (fun gs i1 x1_atl s1 li1 lx1 lP1 => ?_)) (fun _ => rfl) (fun _ => rfl) (fun s1 hrun => ?_)
  · skip
    refine s_cons (b_setLc (own := [("k", 10)]) 4 rfl sc__law_free.nd rfl rfl (Nat.le_of_ble_eq_true rfl) (.inl rfl) (sw_true rfl rfl rfl (by decide +kernel)) (blkOk_by (by kernel_rfl)) (lc1 (f := eI) 10 (fun x2_k => (!(decide ((ati (ati s1 x1_atl []) x2_k 0) = (0 : Int))))) (fun x2_k => x2_k) eI sc__law_free.nd rfl (fun _ => ⟨.inl rfl, .inr rfl⟩) (Nat.le_of_ble_eq_true rfl) (.inl rfl) rfl (it_range1 (n := (((ati s1 x1_atl [])).length : Int)) (by rfl) T.b_range (ea_cons (e_lenT (f := eI) (by rfl) T.b_len (J.sL (r_e (e_ixOT (f := (eL eI)) 2 [] (by /- side 3: InB (s1).length x1_atl -/ have hx1 : 0 ≤ x1_atl ∧ x1_atl < v_columns.length := (by have := rng_mem lx1; rw [← h_v1_rows, List.length_map] at this; exact this); obtain ⟨hin, hR⟩ := rows_at lP1 hx1.1 hx1.2; exact hin) rfl (e_var 3 rfl rfl (.inr (.inl rfl))) rfl (.inr (.inl rfl)))))) ea_nil) (by /- side 4: bound of range (((ati s1 x1_atl [])).length : Int) -/ have hx1 : 0 ≤ x1_atl ∧ x1_atl < v_columns.length := (by have := rng_mem lx1; rw [← h_v1_rows, List.length_map] at this; exact this); obtain ⟨hin, hR⟩ := rows_at lP1 hx1.1 hx1.2; have := hR.1; omega)) (by /- side 5: ((rng 0 (((ati s1 x1_atl [])).length : Int))).length ≤ 1000000 -/ have hx1 : 0 ≤ x1_atl ∧ x1_atl < v_columns.length := (by have := rng_mem lx1; rw [← h_v1_rows, List.length_map] at this; exact this); obtain ⟨hin, hR⟩ := rows_at lP1 hx1.1 hx1.2; rw [rng_len]; have := hR.1; omega) (fun x2_k hx2 => ce_one (fun _ => (t_neI (e_ixLT (f := eI) 0 (by /- side 7: InB ((ati s1 x1_atl [])).length x2_k -/ have hx1 : 0 ≤ x1_atl ∧ x1_atl < v_columns.length := (by have := rng_mem lx1; rw [← h_v1_rows, List.length_map] at this; exact this); obtain ⟨hin, hR⟩ := rows_at lP1 hx1.1 hx1.2; have hk := rng_mem hx2; exact inB_of hk.1 hk.2) (e_ixOT (f := (eL eI)) 2 [] (by /- side 6: InB (s1).length x1_atl -/ have hx1 : 0 ≤ x1_atl ∧ x1_atl < v_columns.length := (by have := rng_mem lx1; rw [← h_v1_rows, List.length_map] at this; exact this); obtain ⟨hin, hR⟩ := rows_at lP1 hx1.1 hx1.2; exact hin) rfl (e_var 3 rfl rfl (.inr (.inl rfl))) rfl (.inr (.inl rfl))) (e_var 10 rfl rfl (.inl rfl))) e_int)) (fun hc2 _ => (e_var 10 rfl rfl (.inl rfl)))))) ?_
    refine s_thaw 4 rfl (.inl rfl) ?_
    refine s_let (a := (((rng 0 (((ati s1 x1_atl [])).length : Int)).filter fun x2_k => (!(decide ((ati (ati s1 x1_atl []) x2_k 0) = (0 : Int))))).map fun x2_k => x2_k)) (fun v2_heads : (List Int) => [.v ((eL (eL eI)) v_columns), .v (eI v_prime), oL (eL eI) s1, .v (eI x1_atl), .v ((eL eI) v2_heads), .no, .no, .no, .no, .no, .no, .no, .no]) (lpO (fun (s1 : (List (List Int))) => [.v ((eL (eL eI)) v_columns), .v (eI v_prime), oL (eL eI) s1, .no, .no, .no, .no, .no, .no, .no, .no, .no, .no]) (fun (v : Bool) => Out.rt (eB v) [])) _ (fun v2_heads h_v2_heads => ?_)
    refine s_if (lpO (fun (s1 : (List (List Int))) => [.v ((eL (eL eI)) v_columns), .v (eI v_prime), oL (eL eI) s1, .no, .no, .no, .no, .no, .no, .no, .no, .no, .no]) (fun (v : Bool) => Out.rt (eB v) [])) (t_not (t_lstT (f := eI) (r_e (e_var 4 rfl rfl (.inl rfl))))) (fun hc1 => ?_) rfl (fun hc1 => ?_)
    · skip
      exact s_ret e_bl (.inl rfl)
    · skip
      refine s_cons (b_set (d := eI (ati v2_heads (0 : Int) 0)) 5 sc__law_free.nd rfl (.inr rfl) (.inl rfl) (Nat.le_of_ble_eq_true rfl) (.inl rfl) (e_ixLT (f := eI) 0 (by /- side 8: InB (v2_heads).length (0 : Int) -/ have hx1 : 0 ≤ x1_atl ∧ x1_atl < v_columns.length := (by have := rng_mem lx1; rw [← h_v1_rows, List.length_map] at this; exact this); obtain ⟨hin, hR⟩ := rows_at lP1 hx1.1 hx1.2; have hne : v2_heads ≠ [] := (by intro h; rw [h] at hc1; cases hc1); have hh := heads_mem (R := ati s1 x1_atl []) (x := ati v2_heads 0 0) (by rw [h_v2_heads]; exact ati_mem (inB_ne hne)); exact inB_ne hne) (e_var 4 rfl rfl (.inl rfl)) e_int) rfl) ?_
      refine s_cons (b_set (d := eI (ati (((rng (1 : Int) v_prime).filter fun x3_times => (decide (((x3_times * (ati (ati s1 x1_atl []) (ati v2_heads (0 : Int) 0) 0)) % v_prime) = (1 : Int)))).map fun x3_times => x3_times) (0 : Int) 0)) 6 sc__law_free.nd rfl (.inr rfl) (.inl rfl) (Nat.le_of_ble_eq_true rfl) (.inl rfl) (e_ixLT (f := eI) 0 (by /- side 15: InB ((((rng (1 : Int) v_prime).filter fun x3_times => (decide (((x3_times * (ati (ati s1 x1_atl []) (ati v2_heads (0 : Int) 0) 0)) % v_prime) = (1 : Int)))).map fun x3_times => x3_times)).length (0 : Int) -/ have hx1 : 0 ≤ x1_atl ∧ x1_atl < v_columns.length := (by have := rng_mem lx1; rw [← h_v1_rows, List.length_map] at this; exact this); obtain ⟨hin, hR⟩ := rows_at lP1 hx1.1 hx1.2; have hne : v2_heads ≠ [] := (by intro h; rw [h] at hc1; cases hc1); have hh := heads_mem (R := ati s1 x1_atl []) (x := ati v2_heads 0 0) (by rw [h_v2_heads]; exact ati_mem (inB_ne hne)); have := row_at hR hh.1; exact inv_inB hpr (by have := hh.2.2.2; omega) this.2) (e_el (el_lc (own := [("times", 11)]) rfl sc__law_free.nd (blkOk_by (by kernel_rfl)) (lc1 (f := eI) 11 (fun x3_times => (decide (((x3_times * (ati (ati s1 x1_atl []) (ati v2_heads (0 : Int) 0) 0)) % v_prime) = (1 : Int)))) (fun x3_times => x3_times) eI sc__law_free.nd rfl (fun _ => ⟨.inl rfl, .inr rfl⟩) (Nat.le_of_ble_eq_true rfl) (.inl rfl) rfl (it_range2 (lo := (1 : Int)) (n := v_prime) (by rfl) T.b_range (ea_cons e_int (ea_cons (e_var 1 rfl rfl (.inr (.inl rfl))) ea_nil)) (by /- side 9: bounds of range (1 : Int) v_prime -/ have := prm_pos hpr; omega)) (by /- side 10: ((rng (1 : Int) v_prime)).length ≤ 1000000 -/ rw [rng_len]; have := prm_pos hpr; omega) (fun x3_times hx3 => ce_one (fun _ => (t_eqI (e_mod (by /- side 14: 0 < v_prime -/ exact (prm_pos hpr).1) (e_intI (by rfl) T.b_int (e_mul (by /- side 13: CMul x3_times (ati (ati s1 x1_atl []) (ati v2_heads (0 : Int) 0) 0) -/ have := rng_mem hx3; have := prm_pos hpr; exact .inl ⟨by omega, by omega⟩) (e_var 11 rfl rfl (.inl rfl)) (e_ixLT (f := eI) 0 (by /- side 12: InB ((ati s1 x1_atl [])).length (ati v2_heads (0 : Int) 0) -/ have hx1 : 0 ≤ x1_atl ∧ x1_atl < v_columns.length := (by have := rng_mem lx1; rw [← h_v1_rows, List.length_map] at this; exact this); obtain ⟨hin, hR⟩ := rows_at lP1 hx1.1 hx1.2; have hne : v2_heads ≠ [] := (by intro h; rw [h] at hc1; cases hc1); have hh := heads_mem (R := ati s1 x1_atl []) (x := ati v2_heads 0 0) (by rw [h_v2_heads]; exact ati_mem (inB_ne hne)); exact hh.1) (e_ixOT (f := (eL eI)) 2 [] (by /- side 11: InB (s1).length x1_atl -/ have hx1 : 0 ≤ x1_atl ∧ x1_atl < v_columns.length := (by have := rng_mem lx1; rw [← h_v1_rows, List.length_map] at this; exact this); obtain ⟨hin, hR⟩ := rows_at lP1 hx1.1 hx1.2; exact hin) rfl (e_var 3 rfl rfl (.inr (.inl rfl))) rfl (.inr (.inl rfl))) (e_var 5 rfl rfl (.inr (.inl rfl)))))) (e_var 1 rfl rfl (.inr (.inl rfl)))) e_int)) (fun hc3 _ => (e_var 11 rfl rfl (.inl rfl))))))) e_int) rfl) ?_
      refine s_let (a := (ati (((rng (1 : Int) v_prime).filter fun x3_times => (decide (((x3_times * (ati (ati s1 x1_atl []) (ati v2_heads (0 : Int) 0) 0)) % v_prime) = (1 : Int)))).map fun x3_times => x3_times) (0 : Int) 0)) (fun v3_inverse : Int => [.v ((eL (eL eI)) v_columns), .v (eI v_prime), oL (eL eI) s1, .v (eI x1_atl), .v ((eL eI) v2_heads), .v (eI (ati v2_heads (0 : Int) 0)), .v (eI v3_inverse), .no, .no, .no, .no, .no, .no]) (lpO (fun (s1 : (List (List Int))) => [.v ((eL (eL eI)) v_columns), .v (eI v_prime), oL (eL eI) s1, .no, .no, .no, .no, .no, .no, .no, .no, .no, .no]) (fun (v : Bool) => Out.rt (eB v) [])) _ (fun v3_inverse h_v3_inverse => ?_)
      refine s_cons (b_set (d := (eL eI) ((ati s1 x1_atl []).map fun x4_entry => ((v3_inverse * x4_entry) % v_prime))) 7 sc__law_free.nd rfl (.inr rfl) (.inl rfl) (Nat.le_of_ble_eq_true rfl) (.inl rfl) (e_el (el_lc (own := [("entry", 12)]) rfl sc__law_free.nd (blkOk_by (by kernel_rfl)) (lc1m (f := eI) 12 (fun x4_entry => ((v3_inverse * x4_entry) % v_prime)) eI sc__law_free.nd rfl (fun _ => ⟨.inl rfl, .inr rfl⟩) (Nat.le_of_ble_eq_true rfl) (.inl rfl) rfl (it_list (e_ixOT (f := (eL eI)) 2 [] (by /- side 16: InB (s1).length x1_atl -/ have hx1 : 0 ≤ x1_atl ∧ x1_atl < v_columns.length := (by have := rng_mem lx1; rw [← h_v1_rows, List.length_map] at this; exact this); obtain ⟨hin, hR⟩ := rows_at lP1 hx1.1 hx1.2; exact hin) rfl (e_var 3 rfl rfl (.inr (.inl rfl))) rfl (.inr (.inl rfl)))) (by /- side 17: ((ati s1 x1_atl [])).length ≤ 1000000 -/ have hx1 : 0 ≤ x1_atl ∧ x1_atl < v_columns.length := (by have := rng_mem lx1; rw [← h_v1_rows, List.length_map] at this; exact this); obtain ⟨hin, hR⟩ := rows_at lP1 hx1.1 hx1.2; have := hR.1; omega) (fun x4_entry hx4 => ce_all (fun _ => (e_mod (by /- side 19: 0 < v_prime -/ exact (prm_pos hpr).1) (e_intI (by rfl) T.b_int (e_mul (by /- side 18: CMul v3_inverse x4_entry -/ have hx1 : 0 ≤ x1_atl ∧ x1_atl < v_columns.length := (by have := rng_mem lx1; rw [← h_v1_rows, List.length_map] at this; exact this); obtain ⟨hin, hR⟩ := rows_at lP1 hx1.1 hx1.2; have hne : v2_heads ≠ [] := (by intro h; rw [h] at hc1; cases hc1); have hh := heads_mem (R := ati s1 x1_atl []) (x := ati v2_heads 0 0) (by rw [h_v2_heads]; exact ati_mem (inB_ne hne)); have := row_at hR hh.1; have hv := ati_mem (d := 0) (inv_inB hpr (e := ati (ati s1 x1_atl []) (ati v2_heads 0 0) 0) (by have := hh.2.2.2; omega) this.2); rw [h_v3_inverse] at hv; obtain ⟨z, hz, hz2⟩ := List.mem_map.mp hv; have := rng_mem (List.mem_filter.mp hz).1; have := prm_pos hpr; exact .inl ⟨by omega, by omega⟩) (e_var 6 rfl rfl (.inr (.inl rfl))) (e_var 12 rfl rfl (.inl rfl)))) (e_var 1 rfl rfl (.inr (.inl rfl))))))))) rfl) ?_
      refine s_let (a := ((ati s1 x1_atl []).map fun x4_entry => ((v3_inverse * x4_entry) % v_prime))) (fun v4_base : (List Int) => [.v ((eL (eL eI)) v_columns), .v (eI v_prime), oL (eL eI) s1, .v (eI x1_atl), .v ((eL eI) v2_heads), .v (eI (ati v2_heads (0 : Int) 0)), .v (eI v3_inverse), .v ((eL eI) v4_base), .no, .no, .no, .no, .no]) (lpO (fun (s1 : (List (List Int))) => [.v ((eL (eL eI)) v_columns), .v (eI v_prime), oL (eL eI) s1, .no, .no, .no, .no, .no, .no, .no, .no, .no, .no]) (fun (v : Bool) => Out.rt (eB v) [])) _ (fun v4_base h_v4_base => ?_)
      refine s_cons (b_forF (f := eI) (a0 := s1) (fun (s2 : (List (List Int))) (x2_morel : Int) => (lt ((s2).set (x2_morel).toNat ((rng 0 ((v4_base).length : Int)).map fun x5_k => (((ati (ati s2 x2_morel []) x5_k 0) - ((ati (ati s2 x2_morel []) (ati v2_heads (0 : Int) 0) 0) * (ati v4_base x5_k 0))) % v_prime))) (fun (v5_rows : (List (List Int))) => v5_rows))) (fun (s2 : (List (List Int))) => [.v ((eL (eL eI)) v_columns), .v (eI v_prime), oL (eL eI) s2, .v (eI x1_atl), .v ((eL eI) v2_heads), .v (eI (ati v2_heads (0 : Int) 0)), .v (eI v3_inverse), .v ((eL eI) v4_base), .no, .no, .no, .no, .no]) (fun (s2 : (List (List Int))) (x2_morel : Int) => [.v ((eL (eL eI)) v_columns), .v (eI v_prime), oL (eL eI) s2, .v (eI x1_atl), .v ((eL eI) v2_heads), .v (eI (ati v2_heads (0 : Int) 0)), .v (eI v3_inverse), .v ((eL eI) v4_base), .v (eI x2_morel), .no, .no, .no, .no]) [8] (fun (i : Nat) (s2 : List (List Int)) => RowsOk v_columns.length w v_prime s2) (lP1) (fun i a x h hx => rows_set (prm_pos hpr).1 h _ _ _ (by rw [← h_v4_base, List.length_map]; have hx1 : 0 ≤ x1_atl ∧ x1_atl < v_columns.length := (by have := rng_mem lx1; rw [← h_v1_rows, List.length_map] at this; exact this); exact (rows_at lP1 hx1.1 hx1.2).2.1)) PassesOwn.never rfl (it_range2 (lo := (x1_atl + (1 : Int))) (n := ((s1).length : Int)) (by rfl) T.b_range (ea_cons (e_add (e_var 3 rfl rfl (.inr (.inl rfl))) e_int) (ea_cons (e_lenT (f := (eL eI)) (by rfl) T.b_len (J.sL (r_var 2 rfl rfl (.inr (.inl rfl))))) ea_nil)) (by /- side 20: bounds of range (x1_atl + (1 : Int)) ((s1).length : Int) -/ have hx1 : 0 ≤ x1_atl ∧ x1_atl < v_columns.length := (by have := rng_mem lx1; rw [← h_v1_rows, List.length_map] at this; exact this); obtain ⟨hin, hR⟩ := rows_at lP1 hx1.1 hx1.2; have := lP1.1; omega)) (fun gs x2_morel s2 hx => (tg_name 8 sc__law_free.nd rfl (.inr rfl) (Nat.le_of_ble_eq_true rfl) (.inl rfl) (.inl rfl))) (fun gs i2 x2_morel s2 li2 lx2 lP2 => ?_)) ?_
      · skip
        refine s_cons (b_setIT (f := (eL eI)) 2 rfl (by /- side 30: 0 ≤ x2_morel ∧ x2_morel < (s2).length -/ have hx1 : 0 ≤ x1_atl ∧ x1_atl < v_columns.length := (by have := rng_mem lx1; rw [← h_v1_rows, List.length_map] at this; exact this); obtain ⟨hin, hR⟩ := rows_at lP1 hx1.1 hx1.2; have hne : v2_heads ≠ [] := (by intro h; rw [h] at hc1; cases hc1); have hh := heads_mem (R := ati s1 x1_atl []) (x := ati v2_heads 0 0) (by rw [h_v2_heads]; exact ati_mem (inB_ne hne)); have hx2 := rng_mem lx2; have hx22 : 0 ≤ x2_morel ∧ x2_morel < v_columns.length := ⟨by omega, by have := lP1.1; omega⟩; obtain ⟨hin2, hR2⟩ := rows_at lP2 hx22.1 hx22.2; have hb : v4_base.length = w := (by rw [← h_v4_base, List.length_map]; exact hR.1); have := lP2.1; omega) (e_el (el_lc (own := [("k", 10)]) rfl sc__law_free.nd (blkOk_by (by kernel_rfl)) (lc1m (f := eI) 10 (fun x5_k => (((ati (ati s2 x2_morel []) x5_k 0) - ((ati (ati s2 x2_morel []) (ati v2_heads (0 : Int) 0) 0) * (ati v4_base x5_k 0))) % v_prime)) eI sc__law_free.nd rfl (fun _ => ⟨.inl rfl, .inr rfl⟩) (Nat.le_of_ble_eq_true rfl) (.inl rfl) rfl (it_range1 (n := ((v4_base).length : Int)) (by rfl) T.b_range (ea_cons (e_lenT (f := eI) (by rfl) T.b_len (J.sL (r_e (e_var 7 rfl rfl (.inr (.inl rfl)))))) ea_nil) (by /- side 21: bound of range ((v4_base).length : Int) -/ have hx1 : 0 ≤ x1_atl ∧ x1_atl < v_columns.length := (by have := rng_mem lx1; rw [← h_v1_rows, List.length_map] at this; exact this); obtain ⟨hin, hR⟩ := rows_at lP1 hx1.1 hx1.2; have hne : v2_heads ≠ [] := (by intro h; rw [h] at hc1; cases hc1); have hh := heads_mem (R := ati s1 x1_atl []) (x := ati v2_heads 0 0) (by rw [h_v2_heads]; exact ati_mem (inB_ne hne)); have hb : v4_base.length = w := (by rw [← h_v4_base, List.length_map]; exact hR.1); omega)) (by /- side 22: ((rng 0 ((v4_base).length : Int))).length ≤ 1000000 -/ have hx1 : 0 ≤ x1_atl ∧ x1_atl < v_columns.length := (by have := rng_mem lx1; rw [← h_v1_rows, List.length_map] at this; exact this); obtain ⟨hin, hR⟩ := rows_at lP1 hx1.1 hx1.2; have hne : v2_heads ≠ [] := (by intro h; rw [h] at hc1; cases hc1); have hh := heads_mem (R := ati s1 x1_atl []) (x := ati v2_heads 0 0) (by rw [h_v2_heads]; exact ati_mem (inB_ne hne)); have hx2 := rng_mem lx2; have hx22 : 0 ≤ x2_morel ∧ x2_morel < v_columns.length := ⟨by omega, by have := lP1.1; omega⟩; obtain ⟨hin2, hR2⟩ := rows_at lP2 hx22.1 hx22.2; have hb : v4_base.length = w := (by rw [← h_v4_base, List.length_map]; exact hR.1); rw [rng_len]; omega) (fun x5_k hx5 => ce_all (fun _ => (e_mod (by /- side 29: 0 < v_prime -/ exact (prm_pos hpr).1) (e_intI (by rfl) T.b_int (e_sub (e_ixLT (f := eI) 0 (by /- side 24: InB ((ati s2 x2_morel [])).length x5_k -/ have hx1 : 0 ≤ x1_atl ∧ x1_atl < v_columns.length := (by have := rng_mem lx1; rw [← h_v1_rows, List.length_map] at this; exact this); obtain ⟨hin, hR⟩ := rows_at lP1 hx1.1 hx1.2; have hne : v2_heads ≠ [] := (by intro h; rw [h] at hc1; cases hc1); have hh := heads_mem (R := ati s1 x1_atl []) (x := ati v2_heads 0 0) (by rw [h_v2_heads]; exact ati_mem (inB_ne hne)); have hx2 := rng_mem lx2; have hx22 : 0 ≤ x2_morel ∧ x2_morel < v_columns.length := ⟨by omega, by have := lP1.1; omega⟩; obtain ⟨hin2, hR2⟩ := rows_at lP2 hx22.1 hx22.2; have hb : v4_base.length = w := (by rw [← h_v4_base, List.length_map]; exact hR.1); have hk := rng_mem hx5; exact inB_of hk.1 (by rw [hR2.1, ← hb]; exact hk.2)) (e_ixOT (f := (eL eI)) 2 [] (by /- side 23: InB (s2).length x2_morel -/ have hx1 : 0 ≤ x1_atl ∧ x1_atl < v_columns.length := (by have := rng_mem lx1; rw [← h_v1_rows, List.length_map] at this; exact this); obtain ⟨hin, hR⟩ := rows_at lP1 hx1.1 hx1.2; have hne : v2_heads ≠ [] := (by intro h; rw [h] at hc1; cases hc1); have hh := heads_mem (R := ati s1 x1_atl []) (x := ati v2_heads 0 0) (by rw [h_v2_heads]; exact ati_mem (inB_ne hne)); have hx2 := rng_mem lx2; have hx22 : 0 ≤ x2_morel ∧ x2_morel < v_columns.length := ⟨by omega, by have := lP1.1; omega⟩; obtain ⟨hin2, hR2⟩ := rows_at lP2 hx22.1 hx22.2; have hb : v4_base.length = w := (by rw [← h_v4_base, List.length_map]; exact hR.1); exact hin2) rfl (e_var 8 rfl rfl (.inr (.inl rfl))) rfl (.inr (.inl rfl))) (e_var 10 rfl rfl (.inl rfl))) (e_mul (by /- side 28: CMul (ati (ati s2 x2_morel []) (ati v2_heads (0 : Int) 0) 0) (ati v4_base x5_k 0) -/ have hx1 : 0 ≤ x1_atl ∧ x1_atl < v_columns.length := (by have := rng_mem lx1; rw [← h_v1_rows, List.length_map] at this; exact this); obtain ⟨hin, hR⟩ := rows_at lP1 hx1.1 hx1.2; have hne : v2_heads ≠ [] := (by intro h; rw [h] at hc1; cases hc1); have hh := heads_mem (R := ati s1 x1_atl []) (x := ati v2_heads 0 0) (by rw [h_v2_heads]; exact ati_mem (inB_ne hne)); have hx2 := rng_mem lx2; have hx22 : 0 ≤ x2_morel ∧ x2_morel < v_columns.length := ⟨by omega, by have := lP1.1; omega⟩; obtain ⟨hin2, hR2⟩ := rows_at lP2 hx22.1 hx22.2; have hb : v4_base.length = w := (by rw [← h_v4_base, List.length_map]; exact hR.1); have := row_at hR2 (x := ati v2_heads 0 0) (inB_of hh.2.1 (by have := hh.2.2.1; have := hR.1; have := hR2.1; omega)); have := prm_pos hpr; exact .inl ⟨by omega, by omega⟩) (e_ixLT (f := eI) 0 (by /- side 26: InB ((ati s2 x2_morel [])).length (ati v2_heads (0 : Int) 0) -/ have hx1 : 0 ≤ x1_atl ∧ x1_atl < v_columns.length := (by have := rng_mem lx1; rw [← h_v1_rows, List.length_map] at this; exact this); obtain ⟨hin, hR⟩ := rows_at lP1 hx1.1 hx1.2; have hne : v2_heads ≠ [] := (by intro h; rw [h] at hc1; cases hc1); have hh := heads_mem (R := ati s1 x1_atl []) (x := ati v2_heads 0 0) (by rw [h_v2_heads]; exact ati_mem (inB_ne hne)); have hx2 := rng_mem lx2; have hx22 : 0 ≤ x2_morel ∧ x2_morel < v_columns.length := ⟨by omega, by have := lP1.1; omega⟩; obtain ⟨hin2, hR2⟩ := rows_at lP2 hx22.1 hx22.2; have hb : v4_base.length = w := (by rw [← h_v4_base, List.length_map]; exact hR.1); exact inB_of hh.2.1 (by have := hh.2.2.1; have := hR.1; have := hR2.1; omega)) (e_ixOT (f := (eL eI)) 2 [] (by /- side 25: InB (s2).length x2_morel -/ have hx1 : 0 ≤ x1_atl ∧ x1_atl < v_columns.length := (by have := rng_mem lx1; rw [← h_v1_rows, List.length_map] at this; exact this); obtain ⟨hin, hR⟩ := rows_at lP1 hx1.1 hx1.2; have hne : v2_heads ≠ [] := (by intro h; rw [h] at hc1; cases hc1); have hh := heads_mem (R := ati s1 x1_atl []) (x := ati v2_heads 0 0) (by rw [h_v2_heads]; exact ati_mem (inB_ne hne)); have hx2 := rng_mem lx2; have hx22 : 0 ≤ x2_morel ∧ x2_morel < v_columns.length := ⟨by omega, by have := lP1.1; omega⟩; obtain ⟨hin2, hR2⟩ := rows_at lP2 hx22.1 hx22.2; have hb : v4_base.length = w := (by rw [← h_v4_base, List.length_map]; exact hR.1); exact hin2) rfl (e_var 8 rfl rfl (.inr (.inl rfl))) rfl (.inr (.inl rfl))) (e_var 5 rfl rfl (.inr (.inl rfl)))) (e_ixLT (f := eI) 0 (by /- side 27: InB (v4_base).length x5_k -/ have hk := rng_mem hx5; exact inB_of hk.1 hk.2) (e_var 7 rfl rfl (.inr (.inl rfl))) (e_var 10 rfl rfl (.inl rfl)))))) (e_var 1 rfl rfl (.inr (.inl rfl))))))))) (e_var 8 rfl rfl (.inr (.inl rfl))) rfl (.inr (.inl rfl))) ?_
        refine s_let (a := ((s2).set (x2_morel).toNat ((rng 0 ((v4_base).length : Int)).map fun x5_k => (((ati (ati s2 x2_morel []) x5_k 0) - ((ati (ati s2 x2_morel []) (ati v2_heads (0 : Int) 0) 0) * (ati v4_base x5_k 0))) % v_prime)))) (fun v5_rows : (List (List Int)) => [.v ((eL (eL eI)) v_columns), .v (eI v_prime), oL (eL eI) v5_rows, .v (eI x1_atl), .v ((eL eI) v2_heads), .v (eI (ati v2_heads (0 : Int) 0)), .v (eI v3_inverse), .v ((eL eI) v4_base), .v (eI x2_morel), .no, .no, .no, .no]) (fun (s2 : (List (List Int))) => Out.nl [.v ((eL (eL eI)) v_columns), .v (eI v_prime), oL (eL eI) s2, .v (eI x1_atl), .v ((eL eI) v2_heads), .v (eI (ati v2_heads (0 : Int) 0)), .v (eI v3_inverse), .v ((eL eI) v4_base), .no, .no, .no, .no, .no]) _ (fun v5_rows h_v5_rows => ?_)
        exact s_nilLW ⟨.inl rfl, .inl rfl, .inl rfl, .inl rfl, .inl rfl, .inl rfl, .inl rfl, .inl rfl, .inr rfl, .inl rfl, .inl rfl, .inl rfl, .inl rfl, trivial⟩ (.inl rfl)
      · skip
        exact s_nilLW ⟨.inl rfl, .inl rfl, .inl rfl, .inr rfl, .inr rfl, .inr rfl, .inr rfl, .inr rfl, .inl rfl, .inl rfl, .inl rfl, .inl rfl, .inl rfl, trivial⟩ (.inl rfl)
  · skip
    exact s_ret e_bl (.inl rfl)


theorem e_ixC {C : TL.Ctx} {Γ Γ1 Γ2 : List Ent} {a b : Expr} {pos : Pos} {v : List (List Int) × Int} {i : Int} (h : 0 ≤ i ∧ i < v.1.length) (ha : E C a Γ (eC v) Γ1) (hb : E C b Γ1 (.int i) Γ2) (hs : PlainIx b := by exact fun _ _ => rfl) : E C (.Subscript a b pos) Γ (eL eI (ati v.1 i [])) Γ2 := by
  refine e_ixL ?_ ha hb hs
  obtain ⟨n, hn, rfl⟩ : ∃ n : Nat, n < v.1.length ∧ i = n := ⟨i.toNat, by omega, by omega⟩
  have e1 : ixN (v.1.map (eL eI) ++ [PyData.int v.2]).length (n : Int) = some n := by
    rw [List.length_append, List.length_map]
    simp [ixN]; omega
  have e2 : ati v.1 (n : Int) [] = v.1[n] := by simp [ati, atI, ixN, hn]
  unfold atI
  rw [e1, e2]
  show (v.1.map (eL eI) ++ [PyData.int v.2])[n]? = _
  rw [List.getElem?_append_left (by rw [List.length_map]; exact hn), List.getElem?_map, List.getElem?_eq_getElem hn]; rfl
theorem e_ixCl {C : TL.Ctx} {Γ Γ1 Γ2 : List Ent} {a b : Expr} {pos : Pos} {v : List (List Int) × Int} (ha : E C a Γ (eC v) Γ1) (hb : E C b Γ1 (.int (-1)) Γ2) (hs : PlainIx b := by exact fun _ _ => rfl) : E C (.Subscript a b pos) Γ (eI v.2) Γ2 := by
  refine e_ixL ?_ ha hb hs
  have e1 : ixN (v.1.map (eL eI) ++ [PyData.int v.2]).length (-1) = some v.1.length := by
    rw [List.length_append, List.length_map]
    simp [ixN]; omega
  unfold atI
  rw [e1]
  show (v.1.map (eL eI) ++ [PyData.int v.2])[v.1.length]? = _
  rw [List.getElem?_append_right (by rw [List.length_map]; exact Nat.le_refl _), List.length_map, Nat.sub_self]; rfl

theorem mem_rng {lo hi x : Int} (h1 : lo ≤ x) (h2 : x < hi) : x ∈ rng lo hi := by
  unfold rng
  exact List.mem_map.mpr ⟨(x - lo).toNat, List.mem_range.mpr (by omega), by omega⟩
theorem draw_in {a m : Int} (h : 1 ≤ m) : 1 ≤ 1 + a % m ∧ 1 + a % m ≤ m := by
  have h1 := Int.emod_nonneg a (b := m) (by omega)
  have h2 := Int.emod_lt_of_pos a (b := m) (by omega)
  omega
theorem draw_0 {a m : Int} (h : 1 ≤ m) : 0 ≤ a % m ∧ a % m < m := ⟨Int.emod_nonneg a (by omega), Int.emod_lt_of_pos a (by omega)⟩
theorem pow_b {x : Int} (h : 0 ≤ x) (h2 : x ≤ 9) : 1 ≤ m__law_power x ∧ m__law_power x ≤ 512 := by
  rw [power_eq h]
  have hx : x.toNat ≤ 9 := by omega
  have h1 : (2 : Nat) ^ x.toNat ≤ 2 ^ 9 := Nat.pow_le_pow_right (by decide) hx
  have h3 : 1 ≤ (2 : Nat) ^ x.toNat := Nat.one_le_two_pow
  constructor
  · exact_mod_cast h3
  · have e : (512 : Int) = ((2 ^ 9 : Nat) : Int) := by decide
    rw [e]; exact_mod_cast h1
theorem lthings_lt {v x n : Int} (hx : x ∈ m__law_things v) (h0 : 0 ≤ v) (hn : 0 ≤ n) (hv : v < m__law_power n) : x < n := by
  have hm := lthings_mem hx
  unfold m__law_things at hx
  obtain ⟨y, hy, rfl⟩ := List.mem_map.mp hx
  have h1 := (List.mem_filter.mp hy).2
  simp only [decide_eq_true_eq] at h1
  have hp := power_pos y hm.1
  by_cases q : y < n
  · exact q
  · have h2 : m__law_power n ≤ m__law_power y := by
      rw [power_eq hn, power_eq hm.1]
      have : n.toNat ≤ y.toNat := by omega
      exact_mod_cast Nat.pow_le_pow_right (by decide : 0 < 2) this
    have h3 : v / m__law_power y = 0 := Int.ediv_eq_zero_of_lt h0 (by omega)
    rw [h3] at h1; simp at h1
theorem things0 : m__law_things 0 = [] := by decide +kernel
theorem free_nil (p : Int) : m__law_free [] p = true := rfl
theorem cols_ok {t : List Int} {n r : Int} (hn : 0 ≤ n) (hr : 0 ≤ r) : Prm (m__law_columns t n r).1.2 ∧ ((m__law_columns t n r).1.1.length : Int) = n ∧ ∀ c ∈ (m__law_columns t n r).1.1, RowOk r.toNat (m__law_columns t n r).1.2 c := by
  have hp : ∀ p : Int, p ∈ ([2, 2, 3, 101] : List Int) → Prm p := fun p hp => by
    simp only [List.mem_cons, List.not_mem_nil, or_false] at hp
    unfold Prm
    omega
  have hq := hp _ (pick_mem (t := t) (l := [2, 2, 3, 101]) (by decide))
  unfold m__law_columns
  simp only [lt]
  refine ⟨hq, by rw [runT_len, rng_len]; omega, fun c hc => ?_⟩
  have g : ∀ {α β γ : Type} (P : γ → Prop) (step : β → α → γ × β) (hs : ∀ a x, P (step a x).1) (l : List α) (a : β), ∀ c ∈ (runT step a l).1, P c := by
    intro α β γ P step hs l
    induction l with
    | nil => intro a c hc; cases hc
    | cons x l ih =>
      intro a c hc
      rcases List.mem_cons.mp hc with q | q
      · rw [q]; exact hs a x
      · exact ih _ c q
  refine g (RowOk r.toNat (m__law_pick t [2, 2, 3, 101]).1) _ (fun a x => ⟨?_, ?_⟩) _ _ c hc
  · simp only []
    rw [runT_len, rng_len]; omega
  · simp only []
    have := prm_pos hq
    exact g (fun e => 0 ≤ e ∧ e < (m__law_pick t [2, 2, 3, 101]).1) _ (fun a x => ⟨Int.emod_nonneg _ (by omega), Int.emod_lt_of_pos _ this.1⟩) _ _
theorem filt_len {α β : Type} (l : List α) (c : α → Bool) (f : α → β) : ((l.filter c).map f).length ≤ l.length := by
  rw [List.length_map]; exact List.length_filter_le _ _
/-! ### _law_matroid -/
abbrev s__law_matroid : Stmt := topS 37
abbrev N__law_matroid : List Str := ["draws", "most", "n", "r", "word", "sets", "columns", "prime", "free", "high", "thing", "some", "k"]
theorem sc__law_matroid : FnScope N__law_matroid ["draws", "most"] (defScope s__law_matroid) := ⟨rfl, rfl, rfl, by decide +kernel, rfl, by decide +kernel, by decide +kernel⟩
def m__law_matroid (v_draws : List Int) (v_most : Int) : ((Int × (List Int)) × List Int) :=
  (lt ((1 : Int) + ((m__law_next v_draws ).1 % v_most)) (fun (v1_n : Int) => (lt (m__law_next (m__law_next v_draws ).2 ).2 (fun (t2_draws : List Int) => (lt ((m__law_next (m__law_next v_draws ).2 ).1 % (v1_n + (1 : Int))) (fun (v3_r : Int) => (if (decide (((m__law_next t2_draws ).1 % (3 : Int)) = (0 : Int))) then (lt (runT (fun (t1 : List Int) (x1_thing : Int) => (((m__law_next t1 ).1 % (2 : Int)), (m__law_next t1 ).2)) (m__law_next t2_draws ).2 (rng 0 v1_n)).2 (fun (t4_draws : List Int) => (lt (runT (fun (t1 : List Int) (x1_thing : Int) => (((m__law_next t1 ).1 % (2 : Int)), (m__law_next t1 ).2)) (m__law_next t2_draws ).2 (rng 0 v1_n)).1 (fun (v5_word : (List Int)) => (lt (((rng 0 (m__law_power v1_n)).filter fun x2_some => (decide ((m__law_size x2_some) = (v5_word).sum))).map fun x2_some => x2_some) (fun (v6_sets : (List Int)) => ((v1_n, ((v6_sets.filter fun x3_some => (((rng 0 (v1_n + (1 : Int))).map fun x4_k => (decide ((((((m__law_things x3_some).filter fun x5_thing => (decide (x5_thing < x4_k))).map fun x5_thing => x5_thing)).length : Int) ≤ ((cut v5_word none (some x4_k))).sum))).all id)).map fun x3_some => x3_some)), t4_draws))))))) else (lt (m__law_columns (m__law_next t2_draws ).2 v1_n v3_r).2 (fun (t7_draws : List Int) => (lt (m__law_columns (m__law_next t2_draws ).2 v1_n v3_r).1 (fun (v8_columns : (List (List Int) × Int)) => (lt (((rng 0 (m__law_power v1_n)).filter fun x6_some => ((decide ((m__law_size x6_some) ≤ v3_r)) && (m__law_free ((m__law_things x6_some).map fun x7_thing => (ati (v8_columns).1 x7_thing [])) (v8_columns).2))).map fun x6_some => x6_some) (fun (v9_free : (List Int)) => (lt (maxL (v9_free.map fun x8_some => (m__law_size x8_some))) (fun (v10_high : Int) => ((v1_n, ((v9_free.filter fun x9_some => (decide ((m__law_size x9_some) = v10_high))).map fun x9_some => x9_some)), t7_draws))))))))))))))))
def pre__law_matroid (v_draws : List Int) (v_most : Int) : Prop := 1 ≤ v_most ∧ v_most ≤ 9
abbrev sp__law_matroid (K : PySem.W.Frag) : Sp := spM K (A := List Int × Int) (fun a => (List.reverse a.1).map eI) (fun a => [eI a.2]) (fun a : List Int × Int => pre__law_matroid a.1 a.2) (fun a => (eP eI (eT eI)) (m__law_matroid a.1 a.2).1) (fun a => (List.reverse (m__law_matroid a.1 a.2).2).map eI)
theorem ok__law_matroid (T : Top K mg xa) (c__law_next : C8.Cal P w K mg base 1 "_law_next" (sp__law_next K) []) (c__law_power : C8.Cal P w K mg base 1 "_law_power" (sp__law_power K) []) (c__law_size : C8.Cal P w K mg base 3 "_law_size" (sp__law_size K) []) (c__law_things : C8.Cal P w K mg base 2 "_law_things" (sp__law_things K) []) (c__law_columns : C8.Cal P w K mg base 3 "_law_columns" (sp__law_columns K) []) (c__law_free : C8.Cal P w K mg base 1 "_law_free" (sp__law_free K) []) : C8.Cal P w K mg base 4 "_law_matroid" (sp__law_matroid K) [] := by
  obtain ⟨f, fd, F, hm⟩ := T.d__law_matroid
  refine ⟨f, fd, ["draws", "most"], [], fn_tape F sc__law_matroid (fun _ => rfl) fun y ⟨v_draws, v_most⟩ hr hp => ?_, hm, F.kp, F.binds fun _ _ _ _ _ _ us hl => (match us, hl with | [_, _], _ => rfl), .nil⟩
  simp only [pre__law_matroid] at hp
  show S _ (defBody s__law_matroid) [oL eI (List.reverse v_draws), .v (eI v_most), .no, .no, .no, .no, .no, .no, .no, .no, .no, .no, .no] ((fun (v : (Int × (List Int)) × List Int) => Out.rt ((eP eI (eT eI)) v.1) ((List.reverse v.2).map eI)) (m__law_matroid v_draws v_most))
  refine s_cons (b_set (d := eI ((1 : Int) + ((m__law_next v_draws ).1 % v_most))) 2 sc__law_matroid.nd rfl (.inr rfl) (.inl rfl) (Nat.le_of_ble_eq_true rfl) (.inr (by decide)) (e_add e_int (e_mod (by /- side 1: 0 < v_most -/ omega) (e_intI (by rfl) T.b_int (e_callM 0 c__law_next hr (by decide) (by rfl) v_draws rfl rfl rfl (.inr (.inl rfl)) ea_nil trivial)) (e_var 1 rfl rfl (.inl rfl)))) rfl) ?_
  refine s_let (a := ((1 : Int) + ((m__law_next v_draws ).1 % v_most))) (fun v1_n : Int => [oL eI (List.reverse (m__law_next v_draws ).2), .v (eI v_most), .v (eI v1_n), .no, .no, .no, .no, .no, .no, .no, .no, .no, .no]) (fun (v : (Int × (List Int)) × List Int) => Out.rt ((eP eI (eT eI)) v.1) ((List.reverse v.2).map eI)) _ (fun v1_n h_v1_n => ?_)
  refine s_cons (b_set (d := eI ((m__law_next (m__law_next v_draws ).2 ).1 % (v1_n + (1 : Int)))) 3 sc__law_matroid.nd rfl (.inr rfl) (.inl rfl) (Nat.le_of_ble_eq_true rfl) (.inr (by decide)) (e_mod (by /- side 2: 0 < (v1_n + (1 : Int)) -/ have hn := draw_in (a := (m__law_next v_draws).1) hp.1; rw [h_v1_n] at hn; omega) (e_intI (by rfl) T.b_int (e_callM 0 c__law_next hr (by decide) (by rfl) (m__law_next v_draws ).2 rfl rfl rfl (.inr (.inl rfl)) ea_nil trivial)) (e_add (e_var 2 rfl rfl (.inr (.inl rfl))) e_int)) rfl) ?_
  refine s_let (a := (m__law_next (m__law_next v_draws ).2 ).2) (fun t2_draws : List Int => [oL eI (List.reverse t2_draws), .v (eI v_most), .v (eI v1_n), .v (eI ((m__law_next (m__law_next v_draws ).2 ).1 % (v1_n + (1 : Int)))), .no, .no, .no, .no, .no, .no, .no, .no, .no]) (fun (v : (Int × (List Int)) × List Int) => Out.rt ((eP eI (eT eI)) v.1) ((List.reverse v.2).map eI)) _ (fun t2_draws h_t2_draws => ?_)
  refine s_let (a := ((m__law_next (m__law_next v_draws ).2 ).1 % (v1_n + (1 : Int)))) (fun v3_r : Int => [oL eI (List.reverse t2_draws), .v (eI v_most), .v (eI v1_n), .v (eI v3_r), .no, .no, .no, .no, .no, .no, .no, .no, .no]) (fun (v : (Int × (List Int)) × List Int) => Out.rt ((eP eI (eT eI)) v.1) ((List.reverse v.2).map eI)) _ (fun v3_r h_v3_r => ?_)
  refine s_if (fun (v : (Int × (List Int)) × List Int) => Out.rt ((eP eI (eT eI)) v.1) ((List.reverse v.2).map eI)) (t_eqI (e_mod (by decide) (e_intI (by rfl) T.b_int (e_callM 0 c__law_next hr (by decide) (by rfl) t2_draws rfl rfl rfl (.inr (.inl rfl)) ea_nil trivial)) e_int) e_int) (fun hc1 => ?_) rfl (fun hc1 => ?_)
  · skip
    refine s_cons (b_set (d := (eL eI) (runT (fun (t1 : List Int) (x1_thing : Int) => (((m__law_next t1 ).1 % (2 : Int)), (m__law_next t1 ).2)) (m__law_next t2_draws ).2 (rng 0 v1_n)).1) 4 sc__law_matroid.nd rfl (.inr rfl) (.inl rfl) (Nat.le_of_ble_eq_true rfl) (.inr (by decide)) (e_el (el_lc (own := [("thing", 10)]) rfl sc__law_matroid.nd (blkOk_by (by kernel_rfl)) (lc1s (f := eI) (a0 := (m__law_next t2_draws ).2) 10 0 (fun t => (List.reverse t).map eI) (fun (t1 : List Int) (x1_thing : Int) => (((m__law_next t1 ).1 % (2 : Int)), (m__law_next t1 ).2)) eI sc__law_matroid.nd rfl (fun _ => ⟨.inl rfl, .inr rfl⟩) (Nat.le_of_ble_eq_true rfl) (.inr (by decide)) rfl rfl (it_range1 (n := v1_n) (by rfl) T.b_range (ea_cons (e_var 2 rfl rfl (.inr (.inl rfl))) ea_nil) (by /- side 3: bound of range v1_n -/ have hn := draw_in (a := (m__law_next v_draws).1) hp.1; rw [h_v1_n] at hn; omega)) (by /- side 4: ((rng 0 v1_n)).length ≤ 1000000 -/ have hn := draw_in (a := (m__law_next v_draws).1) hp.1; rw [h_v1_n] at hn; rw [rng_len]; omega) (fun x1_thing t1 hx1 => ce_all (fun _ => (e_mod (by decide) (e_intI (by rfl) T.b_int (e_callM 0 c__law_next hr (by decide) (by rfl) t1 rfl rfl rfl (.inr (.inl rfl)) ea_nil trivial)) e_int)))))) rfl) ?_
    refine s_let (a := (runT (fun (t1 : List Int) (x1_thing : Int) => (((m__law_next t1 ).1 % (2 : Int)), (m__law_next t1 ).2)) (m__law_next t2_draws ).2 (rng 0 v1_n)).2) (fun t4_draws : List Int => [oL eI (List.reverse t4_draws), .v (eI v_most), .v (eI v1_n), .v (eI v3_r), .v ((eL eI) (runT (fun (t1 : List Int) (x1_thing : Int) => (((m__law_next t1 ).1 % (2 : Int)), (m__law_next t1 ).2)) (m__law_next t2_draws ).2 (rng 0 v1_n)).1), .no, .no, .no, .no, .no, .no, .no, .no]) (fun (v : (Int × (List Int)) × List Int) => Out.rt ((eP eI (eT eI)) v.1) ((List.reverse v.2).map eI)) _ (fun t4_draws h_t4_draws => ?_)
    refine s_let (a := (runT (fun (t1 : List Int) (x1_thing : Int) => (((m__law_next t1 ).1 % (2 : Int)), (m__law_next t1 ).2)) (m__law_next t2_draws ).2 (rng 0 v1_n)).1) (fun v5_word : (List Int) => [oL eI (List.reverse t4_draws), .v (eI v_most), .v (eI v1_n), .v (eI v3_r), .v ((eL eI) v5_word), .no, .no, .no, .no, .no, .no, .no, .no]) (fun (v : (Int × (List Int)) × List Int) => Out.rt ((eP eI (eT eI)) v.1) ((List.reverse v.2).map eI)) _ (fun v5_word h_v5_word => ?_)
    refine s_cons (b_setLc (own := [("some", 11)]) 5 rfl sc__law_matroid.nd rfl rfl (Nat.le_of_ble_eq_true rfl) (.inr (by decide)) (sw_true rfl rfl rfl (by decide +kernel)) (blkOk_by (by kernel_rfl)) (lc1 (f := eI) 11 (fun x2_some => (decide ((m__law_size x2_some) = (v5_word).sum))) (fun x2_some => x2_some) eI sc__law_matroid.nd rfl (fun _ => ⟨.inl rfl, .inr rfl⟩) (Nat.le_of_ble_eq_true rfl) (.inr (by decide)) rfl (it_range1 (n := (m__law_power v1_n)) (by rfl) T.b_range (ea_cons (e_call c__law_power hr (by decide) (by rfl) v1_n rfl (ea_cons (e_var 2 rfl rfl (.inr (.inl rfl))) ea_nil) (by /- side 5: pre of _law_power v1_n -/ show pre__law_power v1_n; have hn := draw_in (a := (m__law_next v_draws).1) hp.1; rw [h_v1_n] at hn; exact ⟨by omega, by omega⟩)) ea_nil) (by /- side 6: bound of range (m__law_power v1_n) -/ have hn := draw_in (a := (m__law_next v_draws).1) hp.1; rw [h_v1_n] at hn; have hr := draw_0 (a := (m__law_next (m__law_next v_draws).2).1) (m := v1_n + 1) (by omega); rw [h_v3_r] at hr; have hb := pow_b (x := v1_n) (by omega) (by omega); omega)) (by /- side 7: ((rng 0 (m__law_power v1_n))).length ≤ 1000000 -/ have hn := draw_in (a := (m__law_next v_draws).1) hp.1; rw [h_v1_n] at hn; have hr := draw_0 (a := (m__law_next (m__law_next v_draws).2).1) (m := v1_n + 1) (by omega); rw [h_v3_r] at hr; have hb := pow_b (x := v1_n) (by omega) (by omega); rw [rng_len]; omega) (fun x2_some hx2 => ce_one (fun _ => (t_eqI (e_call c__law_size hr (by decide) (by rfl) x2_some rfl (ea_cons (e_var 11 rfl rfl (.inl rfl)) ea_nil) trivial) (e_sum rfl (by rfl) T.b_sum (r_e (e_var 4 rfl rfl (.inr (.inl rfl))))))) (fun hc2 _ => (e_var 11 rfl rfl (.inl rfl)))))) ?_
    refine s_thaw 5 rfl (.inr (by decide)) ?_
    refine s_let (a := (((rng 0 (m__law_power v1_n)).filter fun x2_some => (decide ((m__law_size x2_some) = (v5_word).sum))).map fun x2_some => x2_some)) (fun v6_sets : (List Int) => [oL eI (List.reverse t4_draws), .v (eI v_most), .v (eI v1_n), .v (eI v3_r), .v ((eL eI) v5_word), .v ((eL eI) v6_sets), .no, .no, .no, .no, .no, .no, .no]) (fun (v : (Int × (List Int)) × List Int) => Out.rt ((eP eI (eT eI)) v.1) ((List.reverse v.2).map eI)) _ (fun v6_sets h_v6_sets => ?_)
    exact s_ret (e_tup (ea_cons (e_var 2 rfl rfl (.inr (.inl rfl))) (ea_cons (e_tupL (by rfl) T.b_tuple (r_el (el_lc (own := [("some", 11)]) rfl sc__law_matroid.nd (blkOk_by (by kernel_rfl)) (lc1 (f := eI) 11 (fun x3_some => (((rng 0 (v1_n + (1 : Int))).map fun x4_k => (decide ((((((m__law_things x3_some).filter fun x5_thing => (decide (x5_thing < x4_k))).map fun x5_thing => x5_thing)).length : Int) ≤ ((cut v5_word none (some x4_k))).sum))).all id)) (fun x3_some => x3_some) eI sc__law_matroid.nd rfl (fun _ => ⟨.inr rfl, .inl rfl⟩) (Nat.le_of_ble_eq_true rfl) (.inr (by decide)) rfl (it_list (e_var 5 rfl rfl (.inl rfl))) (by /- side 8: (v6_sets).length ≤ 1000000 -/ have hn := draw_in (a := (m__law_next v_draws).1) hp.1; rw [h_v1_n] at hn; have hr := draw_0 (a := (m__law_next (m__law_next v_draws).2).1) (m := v1_n + 1) (by omega); rw [h_v3_r] at hr; have hb := pow_b (x := v1_n) (by omega) (by omega); have h6 : v6_sets.length ≤ 512 := (by rw [← h_v6_sets]; refine Nat.le_trans (filt_len _ _ _) ?_; rw [rng_len]; omega); omega) (fun x3_some hx3 => ce_one (fun _ => (t_val (e_all rfl (by rfl) T.b_all (r_el (el_lc (own := [("k", 12)]) rfl sc__law_matroid.nd (blkOk_by (by kernel_rfl)) (lc1m (f := eI) 12 (fun x4_k => (decide ((((((m__law_things x3_some).filter fun x5_thing => (decide (x5_thing < x4_k))).map fun x5_thing => x5_thing)).length : Int) ≤ ((cut v5_word none (some x4_k))).sum))) eB sc__law_matroid.nd rfl (fun _ => ⟨.inr rfl, .inl rfl⟩) (Nat.le_of_ble_eq_true rfl) (.inr (by decide)) rfl (it_range1 (n := (v1_n + (1 : Int))) (by rfl) T.b_range (ea_cons (e_add (e_var 2 rfl rfl (.inr (.inl rfl))) e_int) ea_nil) (by /- side 9: bound of range (v1_n + (1 : Int)) -/ have hn := draw_in (a := (m__law_next v_draws).1) hp.1; rw [h_v1_n] at hn; omega)) (by /- side 10: ((rng 0 (v1_n + (1 : Int)))).length ≤ 1000000 -/ have hn := draw_in (a := (m__law_next v_draws).1) hp.1; rw [h_v1_n] at hn; rw [rng_len]; omega) (fun x4_k hx4 => ce_all (fun _ => (e_le (e_lenT (f := eI) (by rfl) T.b_len (J.sL (r_el (el_lc (own := [("thing", 10)]) rfl sc__law_matroid.nd (blkOk_by (by kernel_rfl)) (lc1 (f := eI) 10 (fun x5_thing => (decide (x5_thing < x4_k))) (fun x5_thing => x5_thing) eI sc__law_matroid.nd rfl (fun _ => ⟨.inl rfl, .inr rfl⟩) (Nat.le_of_ble_eq_true rfl) (.inr (by decide)) rfl (it_list (e_call c__law_things hr (by decide) (by rfl) x3_some rfl (ea_cons (e_var 11 rfl rfl (.inr (.inl rfl))) ea_nil) trivial)) (by /- side 11: ((m__law_things x3_some)).length ≤ 1000000 -/ exact Nat.le_trans lthings_len (by decide)) (fun x5_thing hx5 => ce_one (fun _ => (t_lt (e_var 10 rfl rfl (.inl rfl)) (e_var 12 rfl rfl (.inr (.inl rfl))))) (fun hc5 _ => (e_var 10 rfl rfl (.inl rfl))))))))) (e_sum rfl (by rfl) T.b_sum (r_el (el_slLT (f := eI) (e_var 4 rfl rfl (.inr (.inl rfl))) eo_none (eo_some (e_var 12 rfl rfl (.inr (.inl rfl)))))))))))))))) (fun hc3 _ => (e_var 11 rfl rfl (.inr (.inl rfl))))))))) ea_nil)) (Nat.le_of_ble_eq_true rfl)) (.inr rfl)
  · skip
    refine s_cons (b_set (d := eC (m__law_columns (m__law_next t2_draws ).2 v1_n v3_r).1) 6 sc__law_matroid.nd rfl (.inr rfl) (.inl rfl) (Nat.le_of_ble_eq_true rfl) (.inr (by decide)) (e_callM 0 c__law_columns hr (by decide) (by rfl) ((m__law_next t2_draws ).2, v1_n, v3_r) rfl rfl rfl (.inr (.inl rfl)) (ea_cons (e_var 2 rfl rfl (.inr (.inl rfl))) (ea_cons (e_var 3 rfl rfl (.inr (.inl rfl))) ea_nil)) (by /- side 12: pre of _law_columns (m__law_next t2_draws ).2 v1_n v3_r -/ show pre__law_columns (m__law_next t2_draws ).2 v1_n v3_r; have hn := draw_in (a := (m__law_next v_draws).1) hp.1; rw [h_v1_n] at hn; have hr := draw_0 (a := (m__law_next (m__law_next v_draws).2).1) (m := v1_n + 1) (by omega); rw [h_v3_r] at hr; exact ⟨by omega, by omega, by omega, by omega⟩)) rfl) ?_
    refine s_let (a := (m__law_columns (m__law_next t2_draws ).2 v1_n v3_r).2) (fun t7_draws : List Int => [oL eI (List.reverse t7_draws), .v (eI v_most), .v (eI v1_n), .v (eI v3_r), .no, .no, .v (eC (m__law_columns (m__law_next t2_draws ).2 v1_n v3_r).1), .no, .no, .no, .no, .no, .no]) (fun (v : (Int × (List Int)) × List Int) => Out.rt ((eP eI (eT eI)) v.1) ((List.reverse v.2).map eI)) _ (fun t7_draws h_t7_draws => ?_)
    refine s_let (a := (m__law_columns (m__law_next t2_draws ).2 v1_n v3_r).1) (fun v8_columns : (List (List Int) × Int) => [oL eI (List.reverse t7_draws), .v (eI v_most), .v (eI v1_n), .v (eI v3_r), .no, .no, .v (eC v8_columns), .no, .no, .no, .no, .no, .no]) (fun (v : (Int × (List Int)) × List Int) => Out.rt ((eP eI (eT eI)) v.1) ((List.reverse v.2).map eI)) _ (fun v8_columns h_v8_columns => ?_)
    refine s_cons (b_set (d := eI (v8_columns).2) 7 sc__law_matroid.nd rfl (.inr rfl) (.inl rfl) (Nat.le_of_ble_eq_true rfl) (.inr (by decide)) (e_ixCl (e_var 6 rfl rfl (.inr (.inl rfl))) (e_neg e_int)) rfl) ?_
    refine s_cons (b_setLc (own := [("some", 11)]) 8 rfl sc__law_matroid.nd rfl rfl (Nat.le_of_ble_eq_true rfl) (.inr (by decide)) (sw_true rfl rfl rfl (by decide +kernel)) (blkOk_by (by kernel_rfl)) (lc1 (f := eI) 11 (fun x6_some => ((decide ((m__law_size x6_some) ≤ v3_r)) && (m__law_free ((m__law_things x6_some).map fun x7_thing => (ati (v8_columns).1 x7_thing [])) (v8_columns).2))) (fun x6_some => x6_some) eI sc__law_matroid.nd rfl (fun _ => ⟨.inl rfl, .inr rfl⟩) (Nat.le_of_ble_eq_true rfl) (.inr (by decide)) rfl (it_range1 (n := (m__law_power v1_n)) (by rfl) T.b_range (ea_cons (e_call c__law_power hr (by decide) (by rfl) v1_n rfl (ea_cons (e_var 2 rfl rfl (.inr (.inl rfl))) ea_nil) (by /- side 13: pre of _law_power v1_n -/ show pre__law_power v1_n; have hn := draw_in (a := (m__law_next v_draws).1) hp.1; rw [h_v1_n] at hn; exact ⟨by omega, by omega⟩)) ea_nil) (by /- side 14: bound of range (m__law_power v1_n) -/ have hn := draw_in (a := (m__law_next v_draws).1) hp.1; rw [h_v1_n] at hn; have hr := draw_0 (a := (m__law_next (m__law_next v_draws).2).1) (m := v1_n + 1) (by omega); rw [h_v3_r] at hr; have hb := pow_b (x := v1_n) (by omega) (by omega); omega)) (by /- side 15: ((rng 0 (m__law_power v1_n))).length ≤ 1000000 -/ have hn := draw_in (a := (m__law_next v_draws).1) hp.1; rw [h_v1_n] at hn; have hr := draw_0 (a := (m__law_next (m__law_next v_draws).2).1) (m := v1_n + 1) (by omega); rw [h_v3_r] at hr; have hb := pow_b (x := v1_n) (by omega) (by omega); rw [rng_len]; omega) (fun x6_some hx6 => ce_one (fun _ => (tw_t (t_and (t_le (e_call c__law_size hr (by decide) (by rfl) x6_some rfl (ea_cons (e_var 11 rfl rfl (.inl rfl)) ea_nil) trivial) (e_var 3 rfl rfl (.inr (.inl rfl)))) (fun hb1_0 => (t_and1 (t_val (e_call c__law_free hr (by decide) (by rfl) (((m__law_things x6_some).map fun x7_thing => (ati (v8_columns).1 x7_thing [])), (v8_columns).2) rfl (ea_cons (e_el (el_lc (own := [("thing", 10)]) rfl sc__law_matroid.nd (blkOk_by (by kernel_rfl)) (lc1m (f := eI) 10 (fun x7_thing => (ati (v8_columns).1 x7_thing [])) (eL eI) sc__law_matroid.nd rfl (fun _ => ⟨.inl rfl, .inr rfl⟩) (Nat.le_of_ble_eq_true rfl) (.inr (by decide)) rfl (it_list (e_call c__law_things hr (by decide) (by rfl) x6_some rfl (ea_cons (e_var 11 rfl rfl (.inl rfl)) ea_nil) trivial)) (by /- side 16: ((m__law_things x6_some)).length ≤ 1000000 -/ exact Nat.le_trans lthings_len (by decide)) (fun x7_thing hx7 => ce_all (fun _ => (e_ixC (by /- side 17: 0 ≤ x7_thing ∧ x7_thing < (v8_columns).1.length -/ have hn := draw_in (a := (m__law_next v_draws).1) hp.1; rw [h_v1_n] at hn; have hr := draw_0 (a := (m__law_next (m__law_next v_draws).2).1) (m := v1_n + 1) (by omega); rw [h_v3_r] at hr; have hb := pow_b (x := v1_n) (by omega) (by omega); have hc := cols_ok (t := (m__law_next t2_draws).2) (n := v1_n) (r := v3_r) (by omega) (by omega); rw [h_v8_columns] at hc; have hx := rng_mem hx6; have ht := lthings_lt hx7 hx.1 (by omega) hx.2; have ht0 := lthings_mem hx7; exact ⟨ht0.1, by omega⟩) (e_var 6 rfl rfl (.inr (.inl rfl))) (e_var 10 rfl rfl (.inl rfl)))))))) (ea_cons (e_var 7 rfl rfl (.inr (.inl rfl))) ea_nil)) (by /- side 18: pre of _law_free ((m__law_things x6_some).map fun x7_thing => (ati (v8_columns).1 x7_thing [])) (v8_columns).2 -/ show pre__law_free ((m__law_things x6_some).map fun x7_thing => (ati (v8_columns).1 x7_thing [])) (v8_columns).2; have hn := draw_in (a := (m__law_next v_draws).1) hp.1; rw [h_v1_n] at hn; have hr := draw_0 (a := (m__law_next (m__law_next v_draws).2).1) (m := v1_n + 1) (by omega); rw [h_v3_r] at hr; have hb := pow_b (x := v1_n) (by omega) (by omega); have hc := cols_ok (t := (m__law_next t2_draws).2) (n := v1_n) (r := v3_r) (by omega) (by omega); rw [h_v8_columns] at hc; refine ⟨hc.1, by rw [List.length_map]; exact lthings_len, v3_r.toNat, by omega, fun c hcm => ?_⟩; obtain ⟨x7_thing, hx7, rfl⟩ := List.mem_map.mp hcm; have hx := rng_mem hx6; have ht := lthings_lt hx7 hx.1 (by omega) hx.2; have ht0 := lthings_mem hx7; exact hc.2.2 _ (ati_mem (inB_of ht0.1 (by omega))))))))))) (fun hc6 _ => (e_var 11 rfl rfl (.inl rfl)))))) ?_
    refine s_thaw 8 rfl (.inr (by decide)) ?_
    refine s_let (a := (((rng 0 (m__law_power v1_n)).filter fun x6_some => ((decide ((m__law_size x6_some) ≤ v3_r)) && (m__law_free ((m__law_things x6_some).map fun x7_thing => (ati (v8_columns).1 x7_thing [])) (v8_columns).2))).map fun x6_some => x6_some)) (fun v9_free : (List Int) => [oL eI (List.reverse t7_draws), .v (eI v_most), .v (eI v1_n), .v (eI v3_r), .no, .no, .v (eC v8_columns), .v (eI (v8_columns).2), .v ((eL eI) v9_free), .no, .no, .no, .no]) (fun (v : (Int × (List Int)) × List Int) => Out.rt ((eP eI (eT eI)) v.1) ((List.reverse v.2).map eI)) _ (fun v9_free h_v9_free => ?_)
    refine s_cons (b_set (d := eI (maxL (v9_free.map fun x8_some => (m__law_size x8_some)))) 9 sc__law_matroid.nd rfl (.inr rfl) (.inl rfl) (Nat.le_of_ble_eq_true rfl) (.inr (by decide)) (e_max (by /- side 20: (v9_free.map fun x8_some => (m__law_size x8_some)) ≠ [] -/ have hn := draw_in (a := (m__law_next v_draws).1) hp.1; rw [h_v1_n] at hn; have hr := draw_0 (a := (m__law_next (m__law_next v_draws).2).1) (m := v1_n + 1) (by omega); rw [h_v3_r] at hr; have hb := pow_b (x := v1_n) (by omega) (by omega); intro hz; have h0 : (0 : Int) ∈ v9_free := (by rw [← h_v9_free]; refine List.mem_map.mpr ⟨0, List.mem_filter.mpr ⟨mem_rng (Int.le_refl 0) (by omega), ?_⟩, rfl⟩; rw [things0, Bool.and_eq_true]; exact ⟨decide_eq_true (by have : m__law_size 0 = 0 := (by unfold m__law_size; rw [things0]; rfl); omega), free_nil _⟩); have := List.mem_map_of_mem (f := fun x8_some => m__law_size x8_some) h0; rw [hz] at this; cases this) rfl (by rfl) T.b_max (r_el (el_lc (own := [("some", 11)]) rfl sc__law_matroid.nd (blkOk_by (by kernel_rfl)) (lc1m (f := eI) 11 (fun x8_some => (m__law_size x8_some)) eI sc__law_matroid.nd rfl (fun _ => ⟨.inl rfl, .inr rfl⟩) (Nat.le_of_ble_eq_true rfl) (.inr (by decide)) rfl (it_list (e_var 8 rfl rfl (.inl rfl))) (by /- side 19: (v9_free).length ≤ 1000000 -/ have hn := draw_in (a := (m__law_next v_draws).1) hp.1; rw [h_v1_n] at hn; have hr := draw_0 (a := (m__law_next (m__law_next v_draws).2).1) (m := v1_n + 1) (by omega); rw [h_v3_r] at hr; have hb := pow_b (x := v1_n) (by omega) (by omega); have h9 : v9_free.length ≤ 512 := (by rw [← h_v9_free]; refine Nat.le_trans (filt_len _ _ _) ?_; rw [rng_len]; omega); omega) (fun x8_some hx8 => ce_all (fun _ => (e_call c__law_size hr (by decide) (by rfl) x8_some rfl (ea_cons (e_var 11 rfl rfl (.inl rfl)) ea_nil) trivial))))))) rfl) ?_
    refine s_let (a := (maxL (v9_free.map fun x8_some => (m__law_size x8_some)))) (fun v10_high : Int => [oL eI (List.reverse t7_draws), .v (eI v_most), .v (eI v1_n), .v (eI v3_r), .no, .no, .v (eC v8_columns), .v (eI (v8_columns).2), .v ((eL eI) v9_free), .v (eI v10_high), .no, .no, .no]) (fun (v : (Int × (List Int)) × List Int) => Out.rt ((eP eI (eT eI)) v.1) ((List.reverse v.2).map eI)) _ (fun v10_high h_v10_high => ?_)
    exact s_ret (e_tup (ea_cons (e_var 2 rfl rfl (.inr (.inl rfl))) (ea_cons (e_tupL (by rfl) T.b_tuple (r_el (el_lc (own := [("some", 11)]) rfl sc__law_matroid.nd (blkOk_by (by kernel_rfl)) (lc1 (f := eI) 11 (fun x9_some => (decide ((m__law_size x9_some) = v10_high))) (fun x9_some => x9_some) eI sc__law_matroid.nd rfl (fun _ => ⟨.inl rfl, .inr rfl⟩) (Nat.le_of_ble_eq_true rfl) (.inr (by decide)) rfl (it_list (e_var 8 rfl rfl (.inl rfl))) (by /- side 21: (v9_free).length ≤ 1000000 -/ have hn := draw_in (a := (m__law_next v_draws).1) hp.1; rw [h_v1_n] at hn; have hr := draw_0 (a := (m__law_next (m__law_next v_draws).2).1) (m := v1_n + 1) (by omega); rw [h_v3_r] at hr; have hb := pow_b (x := v1_n) (by omega) (by omega); have h9 : v9_free.length ≤ 512 := (by rw [← h_v9_free]; refine Nat.le_trans (filt_len _ _ _) ?_; rw [rng_len]; omega); omega) (fun x9_some hx9 => ce_one (fun _ => (t_eqI (e_call c__law_size hr (by decide) (by rfl) x9_some rfl (ea_cons (e_var 11 rfl rfl (.inl rfl)) ea_nil) trivial) (e_var 9 rfl rfl (.inr (.inl rfl))))) (fun hc9 _ => (e_var 11 rfl rfl (.inl rfl)))))))) ea_nil)) (Nat.le_of_ble_eq_true rfl)) (.inr rfl)

/-! ### _law_is_right -/
abbrev s__law_is_right : Stmt := topS 39
abbrev N__law_is_right : List Str := ["sets", "told", "kind", "one", "other", "thing", "less", "more"]
theorem sc__law_is_right : FnScope N__law_is_right ["sets", "told"] (defScope s__law_is_right) := ⟨rfl, rfl, rfl, by decide +kernel, rfl, by decide +kernel, by decide +kernel⟩
def m__law_is_right (v_sets : (List Int)) (v_told : (Str × List Int)) : Bool :=
  (if (PyData.eqv (eW v_told) (PyData.tuple [eS (Str.ofString "none")])) then (PyData.eqv ((eT eI) v_sets) ((eT eI) [])) else (if ((decide ((v_told).1 = (Str.ofString "size"))) && (decide (((v_told.2.length : Int) + 1) = (3 : Int)))) then ((decide ((ati (v_told).2 0 0) ∈ v_sets)) && ((decide ((ati (v_told).2 1 0) ∈ v_sets)) && (!(decide ((m__law_size (ati (v_told).2 0 0)) = (m__law_size (ati (v_told).2 1 0))))))) else (if ((!(decide ((v_told).1 = (Str.ofString "exchange")))) || ((!(decide (((v_told.2.length : Int) + 1) = (4 : Int)))) || ((!(decide ((ati (v_told).2 0 0) ∈ v_sets))) || (!(decide ((ati (v_told).2 1 0) ∈ v_sets)))))) then false else (lt ((ati (v_told).2 0 0) - (Builtin.bitAnd (ati (v_told).2 0 0) (m__law_power (if (0 : Int) > (ati (v_told).2 2 0) then (0 : Int) else (ati (v_told).2 2 0))))) (fun (v1_less : Int) => ((decide ((0 : Int) ≤ (ati (v_told).2 2 0))) && ((decide ((ati (v_told).2 2 0) ∈ (m__law_things ((ati (v_told).2 0 0) - (Builtin.bitAnd (ati (v_told).2 0 0) (ati (v_told).2 1 0)))))) && (!(((m__law_things ((ati (v_told).2 1 0) - (Builtin.bitAnd (ati (v_told).2 0 0) (ati (v_told).2 1 0)))).map fun x1_more => (decide ((v1_less + (m__law_power x1_more)) ∈ v_sets))).any id)))))))))
def pre__law_is_right (v_sets : (List Int)) (v_told : (Str × List Int)) : Prop := PyData.strOk v_told.1 = true ∧ (∀ x ∈ v_told.2, x ≤ 60)
abbrev sp__law_is_right (K : PySem.W.Frag) : Sp := spV K (A := (List Int) × (Str × List Int)) (fun a => [(eT eI) a.1, eW a.2]) (fun a : (List Int) × (Str × List Int) => pre__law_is_right a.1 a.2) (fun a => eB (m__law_is_right a.1 a.2))
theorem ok__law_is_right (T : Top K mg xa) (c__law_size : C8.Cal P w K mg base 3 "_law_size" (sp__law_size K) []) (c__law_power : C8.Cal P w K mg base 1 "_law_power" (sp__law_power K) []) (c__law_things : C8.Cal P w K mg base 2 "_law_things" (sp__law_things K) []) : C8.Cal P w K mg base 4 "_law_is_right" (sp__law_is_right K) [] := by
  obtain ⟨f, fd, F, hm⟩ := T.d__law_is_right
  refine ⟨f, fd, ["sets", "told"], [], fn_pure F sc__law_is_right (fun _ => rfl) fun y ⟨v_sets, v_told⟩ hr hp => ?_, hm, F.kp, F.binds fun _ _ _ _ _ _ us hl => (match us, hl with | [_, _], _ => rfl), .nil⟩
  simp only [pre__law_is_right] at hp
  obtain ⟨hok, h60⟩ := hp
  show S _ (defBody s__law_is_right) [.v ((eT eI) v_sets), .v (eW v_told), .no, .no, .no, .no, .no, .no] ((fun (v : Bool) => Out.rt (eB v) []) (m__law_is_right v_sets v_told))
  refine s_if (fun (v : Bool) => Out.rt (eB v) []) (t_eqD hr.units (by /- side 1: NoDict -/ first | exact nd_W _ | exact .tup (ndI _) | exact nd_of (by decide)) (by /- side 2: NoDict -/ first | exact nd_W _ | exact .tup (ndI _) | exact nd_of (by decide)) (by /- side 3: shaped -/ first | exact sh_W (by assumption) | exact sh_T _ | decide +kernel) (by /- side 4: shaped -/ first | exact sh_W (by assumption) | exact sh_T _ | decide +kernel) (e_var 1 rfl rfl (.inl rfl)) (e_tup (ea_cons e_str ea_nil) (Nat.le_of_ble_eq_true rfl))) (fun hc1 => ?_) rfl (fun hc1 => ?_)
  · skip
    exact s_ret (e_eqD hr.units (by /- side 5: NoDict -/ first | exact nd_W _ | exact .tup (ndI _) | exact nd_of (by decide)) (by /- side 6: NoDict -/ first | exact nd_W _ | exact .tup (ndI _) | exact nd_of (by decide)) (by /- side 7: shaped -/ first | exact sh_W (by assumption) | exact sh_T _ | decide +kernel) (by /- side 8: shaped -/ first | exact sh_W (by assumption) | exact sh_T _ | decide +kernel) (e_var 0 rfl rfl (.inr (.inl rfl))) (e_tup ea_nil (Nat.le_of_ble_eq_true rfl))) (.inl rfl)
  · skip
    refine s_if (fun (v : Bool) => Out.rt (eB v) []) (tw_t (t_and (t_eqS (e_ixT at_W0 (e_var 1 rfl rfl (.inl rfl)) e_int) e_str) (fun hb1_0 => (t_and1 (t_eqI (e_lenW (by rfl) T.b_len (e_var 1 rfl rfl (.inl rfl))) e_int))))) (fun hc2 => ?_) rfl (fun hc2 => ?_)
    · skip
      exact s_ret (e_andB (e_inI (e_ixT (at_W1 (by /- side 9: 1 ≤ (v_told).2.length -/ simp at hc2; omega)) (e_var 1 rfl rfl (.inl rfl)) e_int) (J.sT (e_var 0 rfl rfl (.inr (.inl rfl))))) (fun hb2_0 => (e_andB (e_inI (e_ixT (at_W2 (by /- side 10: 2 ≤ (v_told).2.length -/ simp at hc2; omega)) (e_var 1 rfl rfl (.inl rfl)) e_int) (J.sT (e_var 0 rfl rfl (.inr (.inl rfl))))) (fun hb2_1 => (e_one (e_neI (e_call c__law_size hr (by decide) (by rfl) (ati (v_told).2 0 0) rfl (ea_cons (e_ixT (at_W1 (by /- side 11: 1 ≤ (v_told).2.length -/ simp at hc2; omega)) (e_var 1 rfl rfl (.inl rfl)) e_int) ea_nil) trivial) (e_call c__law_size hr (by decide) (by rfl) (ati (v_told).2 1 0) rfl (ea_cons (e_ixT (at_W2 (by /- side 12: 2 ≤ (v_told).2.length -/ simp at hc2; omega)) (e_var 1 rfl rfl (.inl rfl)) e_int) ea_nil) trivial))))))) (.inl rfl)
    · skip
      refine s_if (fun (v : Bool) => Out.rt (eB v) []) (tw_t (t_or (t_neS (e_ixT at_W0 (e_var 1 rfl rfl (.inl rfl)) e_int) e_str) (fun hb3_0 => (t_or (t_neI (e_lenW (by rfl) T.b_len (e_var 1 rfl rfl (.inl rfl))) e_int) (fun hb3_1 => (t_or (t_ninI (e_ixT (at_W1 (by /- side 13: 1 ≤ (v_told).2.length -/ simp at hb3_1; omega)) (e_var 1 rfl rfl (.inl rfl)) e_int) (J.sT (e_var 0 rfl rfl (.inr (.inl rfl))))) (fun hb3_2 => (t_or1 (t_ninI (e_ixT (at_W2 (by /- side 14: 2 ≤ (v_told).2.length -/ simp at hb3_1; omega)) (e_var 1 rfl rfl (.inl rfl)) e_int) (J.sT (e_var 0 rfl rfl (.inr (.inl rfl))))))))))))) (fun hc3 => ?_) rfl (fun hc3 => ?_)
      · skip
        exact s_ret e_bl (.inl rfl)
      · skip
        refine s_cons (b_asg (d := .tuple [eS (v_told).1, eI (ati (v_told).2 0 0), eI (ati (v_told).2 1 0), eI (ati (v_told).2 2 0)]) (e_W3 (by /- side 15: (v_told).2.length = 3 -/ simp at hc3; omega) (e_var 1 rfl rfl (.inl rfl))) (tg_tup rfl (tgs_cons (tg_name 2 sc__law_is_right.nd rfl (.inl rfl) (Nat.le_of_ble_eq_true rfl) (.inl rfl) (.inl rfl)) (tgs_cons (tg_name 3 sc__law_is_right.nd rfl (.inl rfl) (Nat.le_of_ble_eq_true rfl) (.inl rfl) (.inl rfl)) (tgs_cons (tg_name 4 sc__law_is_right.nd rfl (.inl rfl) (Nat.le_of_ble_eq_true rfl) (.inl rfl) (.inl rfl)) (tgs_cons (tg_name 5 sc__law_is_right.nd rfl (.inl rfl) (Nat.le_of_ble_eq_true rfl) (.inl rfl) (.inl rfl)) tgs_nil)))) rfl)) ?_
        refine s_cons (b_set (d := eI ((ati (v_told).2 0 0) - (Builtin.bitAnd (ati (v_told).2 0 0) (m__law_power (if (0 : Int) > (ati (v_told).2 2 0) then (0 : Int) else (ati (v_told).2 2 0)))))) 6 sc__law_is_right.nd rfl (.inr rfl) (.inl rfl) (Nat.le_of_ble_eq_true rfl) (.inl rfl) (e_sub (e_var 3 rfl rfl (.inl rfl)) (e_band (e_var 3 rfl rfl (.inl rfl)) (e_call c__law_power hr (by decide) (by rfl) (if (0 : Int) > (ati (v_told).2 2 0) then (0 : Int) else (ati (v_told).2 2 0)) rfl (ea_cons (e_max2 rfl (by rfl) T.b_max (ea_cons (e_var 5 rfl rfl (.inl rfl)) (ea_cons e_int ea_nil))) ea_nil) (by /- side 16: pre of _law_power (if (0 : Int) > (ati (v_told).2 2 0) then (0 : Int) else (ati (v_told).2 2 0)) -/ show pre__law_power (if (0 : Int) > (ati (v_told).2 2 0) then (0 : Int) else (ati (v_told).2 2 0)); simp at hc3; have h3 := h60 _ (ati_mem (d := 0) (i := 2) (inB_of (by decide) (by omega))); simp only [pre__law_power]; split <;> omega)))) rfl) ?_
        refine s_let (a := ((ati (v_told).2 0 0) - (Builtin.bitAnd (ati (v_told).2 0 0) (m__law_power (if (0 : Int) > (ati (v_told).2 2 0) then (0 : Int) else (ati (v_told).2 2 0)))))) (fun v1_less : Int => [.v ((eT eI) v_sets), .v (eW v_told), .v (eS (v_told).1), .v (eI (ati (v_told).2 0 0)), .v (eI (ati (v_told).2 1 0)), .v (eI (ati (v_told).2 2 0)), .v (eI v1_less), .no]) (fun (v : Bool) => Out.rt (eB v) []) _ (fun v1_less h_v1_less => ?_)
        exact s_ret (e_andB (e_ge (e_var 5 rfl rfl (.inl rfl)) e_int) (fun hb4_0 => (e_andB (e_inI (e_var 5 rfl rfl (.inl rfl)) (J.sL (r_e (e_call c__law_things hr (by decide) (by rfl) ((ati (v_told).2 0 0) - (Builtin.bitAnd (ati (v_told).2 0 0) (ati (v_told).2 1 0))) rfl (ea_cons (e_sub (e_var 3 rfl rfl (.inl rfl)) (e_band (e_var 3 rfl rfl (.inl rfl)) (e_var 4 rfl rfl (.inl rfl)))) ea_nil) trivial)))) (fun hb4_1 => (e_one (e_not (e_any rfl (by rfl) T.b_any (r_el (el_lc (own := [("more", 7)]) rfl sc__law_is_right.nd (blkOk_by (by kernel_rfl)) (lc1m (f := eI) 7 (fun x1_more => (decide ((v1_less + (m__law_power x1_more)) ∈ v_sets))) eB sc__law_is_right.nd rfl (fun _ => ⟨.inl rfl, .inr rfl⟩) (Nat.le_of_ble_eq_true rfl) (.inl rfl) rfl (it_list (e_call c__law_things hr (by decide) (by rfl) ((ati (v_told).2 1 0) - (Builtin.bitAnd (ati (v_told).2 0 0) (ati (v_told).2 1 0))) rfl (ea_cons (e_sub (e_var 4 rfl rfl (.inl rfl)) (e_band (e_var 3 rfl rfl (.inl rfl)) (e_var 4 rfl rfl (.inl rfl)))) ea_nil) trivial)) (by /- side 17: ((m__law_things ((ati (v_told).2 1 0) - (Builtin.bitAnd (ati (v_told).2 0 0) (ati (v_told).2 1 0))))).length ≤ 1000000 -/ exact Nat.le_trans lthings_len (by decide)) (fun x1_more hx1 => ce_all (fun _ => (e_inI (e_add (e_var 6 rfl rfl (.inr (.inl rfl))) (e_call c__law_power hr (by decide) (by rfl) x1_more rfl (ea_cons (e_var 7 rfl rfl (.inl rfl)) ea_nil) (by /- side 18: pre of _law_power x1_more -/ show pre__law_power x1_more; have := lthings_mem hx1; exact ⟨this.1, by omega⟩))) (J.sT (e_var 0 rfl rfl (.inr (.inl rfl))))))))))))))))) (.inl rfl)


def Up (l : List Int) : Prop := l.Pairwise (· < ·)
theorem rng_up (lo hi : Int) : Up (rng lo hi) := by
  unfold rng Up
  rw [List.pairwise_map]
  exact List.Pairwise.imp (fun h => by omega) List.pairwise_lt_range
theorem filt_up {l : List Int} (h : Up l) (c : Int → Bool) : Up ((l.filter c).map fun x => x) := by
  rw [List.map_id']
  exact List.Pairwise.filter c h
theorem filt_sub {l : List Int} {c : Int → Bool} {x : Int} (h : x ∈ (l.filter c).map fun x => x) : x ∈ l ∧ c x = true := by
  obtain ⟨y, hy, rfl⟩ := List.mem_map.mp h
  exact List.mem_filter.mp hy
theorem maxL_mem : ∀ {l : List Int}, l ≠ [] → maxL l ∈ l
  | [], h => absurd rfl h
  | [x], _ => List.mem_cons_self
  | x :: y :: r, _ => by
    show max x (maxL (y :: r)) ∈ _
    have ih := maxL_mem (l := y :: r) (by simp)
    rw [Int.max_def]
    split
    · exact List.mem_cons_of_mem _ ih
    · exact List.mem_cons_self
theorem up_len : ∀ {l : List Int} {lo hi : Int}, Up l → (∀ x ∈ l, lo ≤ x ∧ x < hi) → l.length ≤ (hi - lo).toNat
  | [], _, _, _, _ => Nat.zero_le _
  | x :: l, lo, hi, h, hm => by
    have h1 := hm x List.mem_cons_self
    have h2 := List.pairwise_cons.mp h
    have ih := up_len (l := l) (lo := x + 1) (hi := hi) h2.2 fun y hy => ⟨by have := h2.1 y hy; omega, (hm y (List.mem_cons_of_mem _ hy)).2⟩
    rw [List.length_cons]
    omega
theorem pow32 {n : Int} (h1 : 1 ≤ n) (h5 : n ≤ 5) : 2 ≤ m__law_power n ∧ m__law_power n ≤ 32 := by
  have e : n = 1 ∨ n = 2 ∨ n = 3 ∨ n = 4 ∨ n = 5 := by omega
  rcases e with e | e | e | e | e <;> subst e <;> decide +kernel
def pathB (n : Int) (word : List Int) : List Int := (((((rng 0 (m__law_power n)).filter fun x2_some => (decide ((m__law_size x2_some) = (word).sum))).map fun x2_some => x2_some).filter fun x3_some => (((rng 0 (n + (1 : Int))).map fun x4_k => (decide ((((((m__law_things x3_some).filter fun x5_thing => (decide (x5_thing < x4_k))).map fun x5_thing => x5_thing)).length : Int) ≤ ((cut word none (some x4_k))).sum))).all id)).map fun x3_some => x3_some)
def wordsN : Nat → List (List Int)
  | 0 => [[]]
  | n + 1 => (wordsN n).flatMap fun w => [0 :: w, 1 :: w]
theorem word_mem : ∀ {w : List Int}, (∀ e ∈ w, e = 0 ∨ e = 1) → w ∈ wordsN w.length
  | [], _ => List.mem_cons_self
  | e :: w, h => by
    have ih := word_mem (w := w) fun e he => h e (List.mem_cons_of_mem _ he)
    show e :: w ∈ (wordsN w.length).flatMap _
    refine List.mem_flatMap.mpr ⟨w, ih, ?_⟩
    rcases h e List.mem_cons_self with q | q
    · rw [q]; exact List.mem_cons_self
    · rw [q]; exact List.mem_cons_of_mem _ List.mem_cons_self
theorem path_ne : ∀ n : Nat, n < 6 → ∀ w ∈ wordsN n, pathB n w ≠ [] := by decide +kernel
structure MatOk (most : Int) (m : Int × List Int) : Prop where
  n1 : 1 ≤ m.1
  n2 : m.1 ≤ most
  ne : m.2 ≠ []
  up : Up m.2
  inn : ∀ x ∈ m.2, 0 ≤ x ∧ x < m__law_power m.1
theorem runT_all {α β γ : Type} (P : γ → Prop) (step : β → α → γ × β) (hs : ∀ a x, P (step a x).1) : ∀ (l : List α) (a : β), ∀ c ∈ (runT step a l).1, P c := by
  intro l
  induction l with
  | nil => intro a c hc; cases hc
  | cons x l ih =>
    intro a c hc
    rcases List.mem_cons.mp hc with q | q
    · rw [q]; exact hs a x
    · exact ih _ c q
theorem mat_ok {t : List Int} {most : Int} (h1 : 1 ≤ most) (h5 : most ≤ 5) : MatOk most (m__law_matroid t most).1 := by
  unfold m__law_matroid
  simp only [lt]
  generalize hn : (1 : Int) + (m__law_next t).1 % most = n
  have hn2 := draw_in (a := (m__law_next t).1) h1
  rw [hn] at hn2
  generalize hr : (m__law_next (m__law_next t).2).1 % (n + 1) = r
  have hr2 := draw_0 (a := (m__law_next (m__law_next t).2).1) (m := n + 1) (by omega)
  rw [hr] at hr2
  have hb := pow_b (x := n) (by omega) (by omega)
  split
  · generalize hw : (runT _ _ (rng 0 n)).1 = w
    have w1 : w.length = n.toNat := by rw [← hw, runT_len, rng_len]; omega
    have w2 : ∀ e ∈ w, e = 0 ∨ e = 1 := by
      rw [← hw]
      exact runT_all (fun e => e = 0 ∨ e = 1) _ (fun a x => by show _ % 2 = 0 ∨ _ % 2 = 1; omega) _ _
    have w3 := path_ne n.toNat (by omega) w (by have := word_mem w2; rw [w1] at this; exact this)
    rw [Int.toNat_of_nonneg (by omega)] at w3
    refine ⟨hn2.1, hn2.2, w3, filt_up (filt_up (rng_up _ _) _) _, fun x hx => ?_⟩
    exact rng_mem (filt_sub (filt_sub hx).1).1
  · generalize hf : (((rng 0 (m__law_power n)).filter _).map fun x6_some => x6_some) = free
    have f0 : free ≠ [] := by
      intro hz
      have h0 : (0 : Int) ∈ free := by
        rw [← hf]
        refine List.mem_map.mpr ⟨0, List.mem_filter.mpr ⟨mem_rng (Int.le_refl 0) (by omega), ?_⟩, rfl⟩
        rw [things0, Bool.and_eq_true]
        exact ⟨decide_eq_true (by have : m__law_size 0 = 0 := (by unfold m__law_size; rw [things0]; rfl); omega), free_nil _⟩
      rw [hz] at h0; cases h0
    have f1 : (free.map fun x8_some => m__law_size x8_some) ≠ [] := by
      intro z; exact f0 (List.map_eq_nil_iff.mp z)
    have f2 := maxL_mem f1
    obtain ⟨b, b1, b2⟩ := List.mem_map.mp f2
    refine ⟨hn2.1, hn2.2, fun hz => ?_, filt_up (by rw [← hf]; exact filt_up (rng_up _ _) _) _, fun x hx => ?_⟩
    · have : b ∈ ((free.filter fun x9_some => (decide ((m__law_size x9_some) = maxL (free.map fun x8_some => m__law_size x8_some)))).map fun x9_some => x9_some) := List.mem_map.mpr ⟨b, List.mem_filter.mpr ⟨b1, decide_eq_true b2⟩, rfl⟩
      exact List.ne_nil_of_mem this hz
    · have := (filt_sub hx).1
      rw [← hf] at this
      exact rng_mem (filt_sub this).1
/-! ### _law_family -/
abbrev s__law_family : Stmt := topS 40
abbrev N__law_family : List Str := ["draws", "n", "bases", "kind", "some", "at", "basis", "turn"]
theorem sc__law_family : FnScope N__law_family ["draws"] (defScope s__law_family) := ⟨rfl, rfl, rfl, by decide +kernel, rfl, by decide +kernel, by decide +kernel⟩
def m__law_family (v_draws : List Int) : ((Int × (List Int)) × List Int) :=
  (lt ((m__law_matroid v_draws (5 : Int)).1).1 (fun (v1_n : Int) => (lt ((m__law_matroid v_draws (5 : Int)).1).2 (fun (v2_bases : (List Int)) => (lt (m__law_next (m__law_matroid v_draws (5 : Int)).2 ).2 (fun (t3_draws : List Int) => (lt ((m__law_next (m__law_matroid v_draws (5 : Int)).2 ).1 % (4 : Int)) (fun (v4_kind : Int) => (lt ((m__law_next t3_draws ).1 % (m__law_power v1_n)) (fun (v5_some : Int) => (if (decide (v4_kind = (0 : Int))) then ((v1_n, v2_bases), (m__law_next t3_draws ).2) else (if (decide (v4_kind = (1 : Int))) then ((v1_n, (srt (((v2_bases.filter fun x1_basis => (!(decide (x1_basis = v5_some)))).map fun x1_basis => x1_basis) ++ [v5_some]))), (m__law_next t3_draws ).2) else (if (decide (v4_kind = (2 : Int))) then (lt (m__law_next (m__law_next t3_draws ).2 ).2 (fun (t6_draws : List Int) => (lt ((m__law_next (m__law_next t3_draws ).2 ).1 % ((v2_bases).length : Int)) (fun (v7_at : Int) => ((v1_n, ((cut v2_bases none (some v7_at)) ++ (cut v2_bases (some (v7_at + (1 : Int))) none))), t6_draws))))) else ((v1_n, (srt (((dcI (fun _ => true) (·.1) (·.2) (runT (fun (t2 : List Int) (x2_turn : Int) => ((((m__law_next t2 ).1 % (m__law_power v1_n)), true), (m__law_next t2 ).2)) (m__law_next (m__law_next t3_draws ).2 ).2 (rng 0 ((m__law_next (m__law_next t3_draws ).2 ).1 % (6 : Int)))).1)).map (·.1)))), (runT (fun (t2 : List Int) (x2_turn : Int) => ((((m__law_next t2 ).1 % (m__law_power v1_n)), true), (m__law_next t2 ).2)) (m__law_next (m__law_next t3_draws ).2 ).2 (rng 0 ((m__law_next (m__law_next t3_draws ).2 ).1 % (6 : Int)))).2))))))))))))))
abbrev sp__law_family (K : PySem.W.Frag) : Sp := spM K (A := List Int) (fun a => (List.reverse a).map eI) (fun a => []) (fun a : List Int => True) (fun a => (eP eI (eT eI)) (m__law_family a).1) (fun a => (List.reverse (m__law_family a).2).map eI)
theorem ok__law_family (T : Top K mg xa) (c__law_matroid : C8.Cal P w K mg base 4 "_law_matroid" (sp__law_matroid K) []) (c__law_next : C8.Cal P w K mg base 1 "_law_next" (sp__law_next K) []) (c__law_power : C8.Cal P w K mg base 1 "_law_power" (sp__law_power K) []) : C8.Cal P w K mg base 5 "_law_family" (sp__law_family K) [] := by
  obtain ⟨f, fd, F, hm⟩ := T.d__law_family
  refine ⟨f, fd, ["draws"], [], fn_tape F sc__law_family (fun _ => rfl) fun y v_draws hr hp => ?_, hm, F.kp, F.binds fun _ _ _ _ _ _ us hl => (match us, hl with | [_], _ => rfl), .nil⟩
  show S _ (defBody s__law_family) [oL eI (List.reverse v_draws), .no, .no, .no, .no, .no, .no, .no] ((fun (v : (Int × (List Int)) × List Int) => Out.rt ((eP eI (eT eI)) v.1) ((List.reverse v.2).map eI)) (m__law_family v_draws))
  refine s_cons (b_asg (e_callM 0 c__law_matroid hr (by decide) (by rfl) (v_draws, (5 : Int)) rfl rfl rfl (.inr (.inl rfl)) (ea_cons e_int ea_nil) (by /- side 1: pre of _law_matroid v_draws (5 : Int) -/ show pre__law_matroid v_draws (5 : Int); exact ⟨by decide, by decide⟩)) (tg_tup rfl (tgs_cons (tg_name 1 sc__law_family.nd rfl (.inr rfl) (Nat.le_of_ble_eq_true rfl) (.inr (by decide)) (.inl rfl)) (tgs_cons (tg_name 2 sc__law_family.nd rfl (.inl rfl) (Nat.le_of_ble_eq_true rfl) (.inr (by decide)) (.inl rfl)) tgs_nil)) rfl)) ?_
  refine s_let (a := ((m__law_matroid v_draws (5 : Int)).1).1) (fun v1_n : Int => [oL eI (List.reverse (m__law_matroid v_draws (5 : Int)).2), .v (eI v1_n), .v ((eT eI) ((m__law_matroid v_draws (5 : Int)).1).2), .no, .no, .no, .no, .no]) (fun (v : (Int × (List Int)) × List Int) => Out.rt ((eP eI (eT eI)) v.1) ((List.reverse v.2).map eI)) _ (fun v1_n h_v1_n => ?_)
  refine s_let (a := ((m__law_matroid v_draws (5 : Int)).1).2) (fun v2_bases : (List Int) => [oL eI (List.reverse (m__law_matroid v_draws (5 : Int)).2), .v (eI v1_n), .v ((eT eI) v2_bases), .no, .no, .no, .no, .no]) (fun (v : (Int × (List Int)) × List Int) => Out.rt ((eP eI (eT eI)) v.1) ((List.reverse v.2).map eI)) _ (fun v2_bases h_v2_bases => ?_)
  refine s_cons (b_set (d := eI ((m__law_next (m__law_matroid v_draws (5 : Int)).2 ).1 % (4 : Int))) 3 sc__law_family.nd rfl (.inl rfl) (.inl rfl) (Nat.le_of_ble_eq_true rfl) (.inr (by decide)) (e_mod (by decide) (e_intI (by rfl) T.b_int (e_callM 0 c__law_next hr (by decide) (by rfl) (m__law_matroid v_draws (5 : Int)).2 rfl rfl rfl (.inr (.inl rfl)) ea_nil trivial)) e_int) rfl) ?_
  refine s_let (a := (m__law_next (m__law_matroid v_draws (5 : Int)).2 ).2) (fun t3_draws : List Int => [oL eI (List.reverse t3_draws), .v (eI v1_n), .v ((eT eI) v2_bases), .v (eI ((m__law_next (m__law_matroid v_draws (5 : Int)).2 ).1 % (4 : Int))), .no, .no, .no, .no]) (fun (v : (Int × (List Int)) × List Int) => Out.rt ((eP eI (eT eI)) v.1) ((List.reverse v.2).map eI)) _ (fun t3_draws h_t3_draws => ?_)
  refine s_let (a := ((m__law_next (m__law_matroid v_draws (5 : Int)).2 ).1 % (4 : Int))) (fun v4_kind : Int => [oL eI (List.reverse t3_draws), .v (eI v1_n), .v ((eT eI) v2_bases), .v (eI v4_kind), .no, .no, .no, .no]) (fun (v : (Int × (List Int)) × List Int) => Out.rt ((eP eI (eT eI)) v.1) ((List.reverse v.2).map eI)) _ (fun v4_kind h_v4_kind => ?_)
  refine s_cons (b_set (d := eI ((m__law_next t3_draws ).1 % (m__law_power v1_n))) 4 sc__law_family.nd rfl (.inr rfl) (.inl rfl) (Nat.le_of_ble_eq_true rfl) (.inr (by decide)) (e_mod (by /- side 3: 0 < (m__law_power v1_n) -/ have hm := mat_ok (t := v_draws) (most := 5) (by decide) (by decide); have hn1 := hm.n1; have hn2 := hm.n2; have hin := hm.inn; have hup := hm.up; rw [h_v1_n] at hn1 hn2 hin; rw [h_v2_bases] at hin hup; have hp32 := pow32 hn1 hn2; have hl := up_len hup hin; omega) (e_intI (by rfl) T.b_int (e_callM 0 c__law_next hr (by decide) (by rfl) t3_draws rfl rfl rfl (.inr (.inl rfl)) ea_nil trivial)) (e_call c__law_power hr (by decide) (by rfl) v1_n rfl (ea_cons (e_var 1 rfl rfl (.inr (.inl rfl))) ea_nil) (by /- side 2: pre of _law_power v1_n -/ show pre__law_power v1_n; have hm := mat_ok (t := v_draws) (most := 5) (by decide) (by decide); have hn1 := hm.n1; have hn2 := hm.n2; have hin := hm.inn; have hup := hm.up; rw [h_v1_n] at hn1 hn2 hin; rw [h_v2_bases] at hin hup; have hp32 := pow32 hn1 hn2; have hl := up_len hup hin; exact ⟨by omega, by omega⟩))) rfl) ?_
  refine s_let (a := ((m__law_next t3_draws ).1 % (m__law_power v1_n))) (fun v5_some : Int => [oL eI (List.reverse (m__law_next t3_draws ).2), .v (eI v1_n), .v ((eT eI) v2_bases), .v (eI v4_kind), .v (eI v5_some), .no, .no, .no]) (fun (v : (Int × (List Int)) × List Int) => Out.rt ((eP eI (eT eI)) v.1) ((List.reverse v.2).map eI)) _ (fun v5_some h_v5_some => ?_)
  refine s_if (fun (v : (Int × (List Int)) × List Int) => Out.rt ((eP eI (eT eI)) v.1) ((List.reverse v.2).map eI)) (t_eqI (e_var 3 rfl rfl (.inl rfl)) e_int) (fun hc1 => ?_) rfl (fun hc1 => ?_)
  · skip
    exact s_ret (e_tup (ea_cons (e_var 1 rfl rfl (.inr (.inl rfl))) (ea_cons (e_var 2 rfl rfl (.inl rfl)) ea_nil)) (Nat.le_of_ble_eq_true rfl)) (.inr rfl)
  · skip
    refine s_if (fun (v : (Int × (List Int)) × List Int) => Out.rt ((eP eI (eT eI)) v.1) ((List.reverse v.2).map eI)) (t_eqI (e_var 3 rfl rfl (.inl rfl)) e_int) (fun hc2 => ?_) rfl (fun hc2 => ?_)
    · skip
      exact s_ret (e_tup (ea_cons (e_var 1 rfl rfl (.inr (.inl rfl))) (ea_cons (e_tupL (by rfl) T.b_tuple (r_el (el_sorted (by rfl) T.b_sorted (r_el (el_catT (f := eI) (by /- side 5: (((v2_bases.filter fun x1_basis => (!(decide (x1_basis = v5_some)))).map fun x1_basis => x1_basis)).length + ([v5_some]).length ≤ 1000000 -/ have hm := mat_ok (t := v_draws) (most := 5) (by decide) (by decide); have hn1 := hm.n1; have hn2 := hm.n2; have hin := hm.inn; have hup := hm.up; rw [h_v1_n] at hn1 hn2 hin; rw [h_v2_bases] at hin hup; have hp32 := pow32 hn1 hn2; have hl := up_len hup hin; have h2 := filt_len v2_bases (fun x1_basis => (!(decide (x1_basis = v5_some)))) (fun x => x); show _ + 1 ≤ _; omega) (e_el (el_lc (own := [("basis", 6)]) rfl sc__law_family.nd (blkOk_by (by kernel_rfl)) (lc1 (f := eI) 6 (fun x1_basis => (!(decide (x1_basis = v5_some)))) (fun x1_basis => x1_basis) eI sc__law_family.nd rfl (fun _ => ⟨.inl rfl, .inr rfl⟩) (Nat.le_of_ble_eq_true rfl) (.inr (by decide)) rfl (it_tup (e_var 2 rfl rfl (.inl rfl))) (by /- side 4: (v2_bases).length ≤ 1000000 -/ have hm := mat_ok (t := v_draws) (most := 5) (by decide) (by decide); have hn1 := hm.n1; have hn2 := hm.n2; have hin := hm.inn; have hup := hm.up; rw [h_v1_n] at hn1 hn2 hin; rw [h_v2_bases] at hin hup; have hp32 := pow32 hn1 hn2; have hl := up_len hup hin; omega) (fun x1_basis hx1 => ce_one (fun _ => (t_neI (e_var 6 rfl rfl (.inl rfl)) (e_var 4 rfl rfl (.inr (.inl rfl))))) (fun hc1 _ => (e_var 6 rfl rfl (.inl rfl))))))) (r_el (el_lst (ea_cons (e_var 4 rfl rfl (.inr (.inl rfl))) ea_nil) (Nat.le_of_ble_eq_true rfl)))))))) ea_nil)) (Nat.le_of_ble_eq_true rfl)) (.inr rfl)
    · skip
      refine s_if (fun (v : (Int × (List Int)) × List Int) => Out.rt ((eP eI (eT eI)) v.1) ((List.reverse v.2).map eI)) (t_eqI (e_var 3 rfl rfl (.inl rfl)) e_int) (fun hc3 => ?_) rfl (fun hc3 => ?_)
      · skip
        refine s_cons (b_set (d := eI ((m__law_next (m__law_next t3_draws ).2 ).1 % ((v2_bases).length : Int))) 5 sc__law_family.nd rfl (.inl rfl) (.inl rfl) (Nat.le_of_ble_eq_true rfl) (.inr (by decide)) (e_mod (by /- side 6: 0 < ((v2_bases).length : Int) -/ have hm := mat_ok (t := v_draws) (most := 5) (by decide) (by decide); have hne := hm.ne; rw [h_v2_bases] at hne; have := List.length_pos_iff.mpr hne; omega) (e_intI (by rfl) T.b_int (e_callM 0 c__law_next hr (by decide) (by rfl) (m__law_next t3_draws ).2 rfl rfl rfl (.inr (.inl rfl)) ea_nil trivial)) (e_lenT (f := eI) (by rfl) T.b_len (J.sT (e_var 2 rfl rfl (.inl rfl))))) rfl) ?_
        refine s_let (a := (m__law_next (m__law_next t3_draws ).2 ).2) (fun t6_draws : List Int => [oL eI (List.reverse t6_draws), .v (eI v1_n), .v ((eT eI) v2_bases), .v (eI v4_kind), .v (eI v5_some), .v (eI ((m__law_next (m__law_next t3_draws ).2 ).1 % ((v2_bases).length : Int))), .no, .no]) (fun (v : (Int × (List Int)) × List Int) => Out.rt ((eP eI (eT eI)) v.1) ((List.reverse v.2).map eI)) _ (fun t6_draws h_t6_draws => ?_)
        refine s_let (a := ((m__law_next (m__law_next t3_draws ).2 ).1 % ((v2_bases).length : Int))) (fun v7_at : Int => [oL eI (List.reverse t6_draws), .v (eI v1_n), .v ((eT eI) v2_bases), .v (eI v4_kind), .v (eI v5_some), .v (eI v7_at), .no, .no]) (fun (v : (Int × (List Int)) × List Int) => Out.rt ((eP eI (eT eI)) v.1) ((List.reverse v.2).map eI)) _ (fun v7_at h_v7_at => ?_)
        exact s_ret (e_tup (ea_cons (e_var 1 rfl rfl (.inr (.inl rfl))) (ea_cons (e_catTT (f := eI) (by /- side 7: ((cut v2_bases none (some v7_at))).length + ((cut v2_bases (some (v7_at + (1 : Int))) none)).length ≤ 1000000 -/ have hm := mat_ok (t := v_draws) (most := 5) (by decide) (by decide); have hn1 := hm.n1; have hn2 := hm.n2; have hin := hm.inn; have hup := hm.up; rw [h_v1_n] at hn1 hn2 hin; rw [h_v2_bases] at hin hup; have hp32 := pow32 hn1 hn2; have hl := up_len hup hin; have h1 := cut_len v2_bases none (some v7_at); have h2 := cut_len v2_bases (some (v7_at + 1)) none; omega) (e_slTT (f := eI) (e_var 2 rfl rfl (.inl rfl)) eo_none (eo_some (e_var 5 rfl rfl (.inl rfl)))) (e_slTT (f := eI) (e_var 2 rfl rfl (.inl rfl)) (eo_some (e_add (e_var 5 rfl rfl (.inl rfl)) e_int)) eo_none)) ea_nil)) (Nat.le_of_ble_eq_true rfl)) (.inr rfl)
      · skip
        exact s_ret (e_tup (ea_cons (e_var 1 rfl rfl (.inr (.inl rfl))) (ea_cons (e_tupL (by rfl) T.b_tuple (r_el (el_sortedD (f := eB) rfl (by /- side 12: ((dcI (fun _ => true) (·.1) (·.2) (runT (fun (t2 : List Int) (x2_turn : Int) => ((((m__law_next t2 ).1 % (m__law_power v1_n)), true), (m__law_next t2 ).2)) (m__law_next (m__law_next t3_draws ).2 ).2 (rng 0 ((m__law_next (m__law_next t3_draws ).2 ).1 % (6 : Int)))).1)).length < 64 -/ refine Nat.lt_of_le_of_lt (dcI_len _ _ _ _) ?_; rw [runT_len, rng_len]; omega) (by rfl) T.b_sorted (e_dictP (f := eB) rfl (by rfl) T.b_dict (e_el (el_lc (own := [("turn", 7)]) rfl sc__law_family.nd (blkOk_by (by kernel_rfl)) (lc1s (f := eI) (a0 := (m__law_next (m__law_next t3_draws ).2 ).2) 7 0 (fun t => (List.reverse t).map eI) (fun (t2 : List Int) (x2_turn : Int) => ((((m__law_next t2 ).1 % (m__law_power v1_n)), true), (m__law_next t2 ).2)) (eP eI eB) sc__law_family.nd rfl (fun _ => ⟨.inl rfl, .inr rfl⟩) (Nat.le_of_ble_eq_true rfl) (.inr (by decide)) rfl rfl (it_range1 (n := ((m__law_next (m__law_next t3_draws ).2 ).1 % (6 : Int))) (by rfl) T.b_range (ea_cons (e_mod (by decide) (e_intI (by rfl) T.b_int (e_callM 0 c__law_next hr (by decide) (by rfl) (m__law_next t3_draws ).2 rfl rfl rfl (.inr (.inl rfl)) ea_nil trivial)) e_int) ea_nil) (by /- side 8: bound of range ((m__law_next (m__law_next t3_draws ).2 ).1 % (6 : Int)) -/ omega)) (by /- side 9: ((rng 0 ((m__law_next (m__law_next t3_draws ).2 ).1 % (6 : Int)))).length ≤ 1000000 -/ rw [rng_len]; omega) (fun x2_turn t2 hx2 => ce_all (fun _ => (e_tup (ea_cons (e_mod (by /- side 11: 0 < (m__law_power v1_n) -/ have hm := mat_ok (t := v_draws) (most := 5) (by decide) (by decide); have hn1 := hm.n1; have hn2 := hm.n2; have hin := hm.inn; have hup := hm.up; rw [h_v1_n] at hn1 hn2 hin; rw [h_v2_bases] at hin hup; have hp32 := pow32 hn1 hn2; have hl := up_len hup hin; omega) (e_intI (by rfl) T.b_int (e_callM 0 c__law_next hr (by decide) (by rfl) t2 rfl rfl rfl (.inr (.inl rfl)) ea_nil trivial)) (e_call c__law_power hr (by decide) (by rfl) v1_n rfl (ea_cons (e_var 1 rfl rfl (.inr (.inl rfl))) ea_nil) (by /- side 10: pre of _law_power v1_n -/ show pre__law_power v1_n; have hm := mat_ok (t := v_draws) (most := 5) (by decide) (by decide); have hn1 := hm.n1; have hn2 := hm.n2; have hin := hm.inn; have hup := hm.up; rw [h_v1_n] at hn1 hn2 hin; rw [h_v2_bases] at hin hup; have hp32 := pow32 hn1 hn2; have hl := up_len hup hin; exact ⟨by omega, by omega⟩))) (ea_cons e_bl ea_nil)) (Nat.le_of_ble_eq_true rfl))))))))))) ea_nil)) (Nat.le_of_ble_eq_true rfl)) (.inr rfl)


theorem mapX_err {α : Type} {f : α → D} {r : Except Str α} {c : Str} (h : mapX f r = .error c) : r = .error c := by
  cases r with
  | ok v => cases h
  | error d => cases h; rfl
theorem check_err {f : Int × List Int} {c : Str} (h : m_check_family f = .error c) : c = "NotFamily" := by
  unfold m_check_family at h
  split at h
  · cases h; rfl
  · cases h
theorem bind_err {α β : Type} {r : Except Str α} {k : α → Except Str β} {c : Str} (h : Except.bind r k = .error c) : r = .error c ∨ ∃ v, r = .ok v ∧ k v = .error c := by
  cases r with
  | ok v => exact .inr ⟨v, rfl, h⟩
  | error d => cases h; exact .inl rfl
theorem trouble_err {g : Option (Str × List Int) → D} {f : Int × List Int} {c : Str} (h : mapX g (m_trouble f) = .error c) : c = "NotFamily" := by
  have h := mapX_err h
  unfold m_trouble at h
  rcases bind_err h with q | ⟨v, q1, q2⟩
  · exact check_err q
  · cases q2
theorem istrouble_err {g : Bool → D} {f : Int × List Int} {t : Str × List Int} {c : Str} (h : mapX g (m_is_trouble f t) = .error c) : c = "NotFamily" := by
  have h := mapX_err h
  unfold m_is_trouble at h
  rcases bind_err h with q | ⟨v, q1, q2⟩
  · exact check_err q
  · exfalso
    revert q2
    simp only [lt]
    split
    · exact fun z => by cases z
    · split
      · exact fun z => by cases z
      · split
        · exact fun z => by cases z
        · exact fun z => by cases z
/-! ### _law_asked -/
abbrev s__law_asked : Stmt := topS 41
abbrev N__law_asked : List Str := ["way", "family", "told", "error"]
theorem sc__law_asked : FnScope N__law_asked ["way", "family", "told"] (defScope s__law_asked) := ⟨rfl, rfl, rfl, by decide +kernel, rfl, by decide +kernel, by decide +kernel⟩

def m__law_asked_0 (v_way : Int) (v_family : (Int × (List Int))) (v_told : Unit) : D :=
  told (if v_way = 0 then (mapX (eO eW) (m_trouble v_family)) else (Except.ok (eB (m_is_matroid v_family))))
def pre__law_asked_0 (v_way : Int) (v_family : (Int × (List Int))) (v_told : Unit) : Prop := (v_way = 0 ∨ v_way = 1) ∧ ((m_is_family v_family = true → v_family.1 ≤ 5) ∧ v_family.2.length ≤ 1000)
abbrev sp__law_asked_0 (K : PySem.W.Frag) : Sp := spV K (A := Int × (Int × (List Int)) × Unit) (fun a => [eI a.1, (eP eI (eT eI)) a.2.1, (fun _ : Unit => PyData.none) a.2.2]) (fun a => pre__law_asked_0 a.1 a.2.1 a.2.2) (fun a => m__law_asked_0 a.1 a.2.1 a.2.2)
theorem ok__law_asked_0 (T : Top K mg xa) (c_trouble : CalX P w K mg base 4 "trouble" (sp_trouble xa K)) (c_is_matroid : C8.Cal P w K mg base 4 "is_matroid" (sp_is_matroid K) []) (c__law_kind : CalK P w K mg base xa 1 "_law_kind") : C8.Cal P w K mg base 5 "_law_asked" (sp__law_asked_0 K) [] := by
  have cx_trouble : CalX P w K mg base 4 "trouble" (spX K xa (A := _) _ _ _) := c_trouble
  have cx_is_matroid : CalX P w K mg base 4 "is_matroid" (spX K xa (A := _) _ _ _) := calx_pure c_is_matroid
  obtain ⟨a_trouble, hm_trouble, ca_trouble⟩ := cx_trouble.at
  obtain ⟨a_is_matroid, hm_is_matroid, ca_is_matroid⟩ := cx_is_matroid.at
  obtain ⟨f, fd, F, hm⟩ := T.d__law_asked
  refine ⟨f, fd, ["way", "family", "told"], [], fn_pure F sc__law_asked (fun _ => rfl) fun y ⟨v_way, v_family, v_told⟩ hr hp => ?_, hm, F.kp, F.binds fun _ _ _ _ _ _ us hl => (match us, hl with | [_, _, _], _ => rfl), .nil⟩
  simp only [pre__law_asked_0] at hp
  obtain ⟨hw, hp⟩ := hp
  rcases hw with rfl | rfl
  · show S _ (defBody s__law_asked) [.v (eI (0 : Int)), .v ((eP eI (eT eI)) v_family), .v ((fun _ : Unit => PyData.none) v_told), .no] (.rt (told (mapX (eO eW) (m_trouble v_family))) [])
    refine s_try (i := 3) (n := 4) (cb := .ref (xa "BasisError")) rfl rfl rfl rfl sc__law_asked.nd rfl rfl ⟨rfl, by decide, .inl T.c_BasisError⟩ c__law_kind hr (by decide) (by rfl) (.inl rfl) (by decide) (fun c hc => ?_) (fun pn xe W tk => ?_)
    · have e : c = "NotFamily" := (by first | exact trouble_err hc | exact istrouble_err hc | cases hc); rw [e]; exact ⟨T.k_NotFamily, T.e_NotFamily⟩
    · skip
      exact s_retXD (n := 4) rfl rfl (x_ifTrue (t_cast (by decide) (t_lt (e_var 0 rfl rfl (.inl rfl)) e_int)) (x_callF ca_trouble tk hr (by decide) (e_ixL rfl (e_el (el_lst (ea_cons (e_adr (by rfl) hm_trouble) (ea_cons (e_adr (by rfl) hm_is_matroid) ea_nil)) (Nat.le_of_ble_eq_true rfl))) (e_var 0 rfl rfl (.inl rfl))) v_family rfl (ea_cons (e_var 1 rfl rfl (.inl rfl)) ea_nil) (by /- side 1: pre of trouble v_family -/ show pre_trouble v_family; exact hp)))
  · show S _ (defBody s__law_asked) [.v (eI (1 : Int)), .v ((eP eI (eT eI)) v_family), .v ((fun _ : Unit => PyData.none) v_told), .no] (.rt (told (Except.ok (eB (m_is_matroid v_family)))) [])
    refine s_try (i := 3) (n := 4) (cb := .ref (xa "BasisError")) rfl rfl rfl rfl sc__law_asked.nd rfl rfl ⟨rfl, by decide, .inl T.c_BasisError⟩ c__law_kind hr (by decide) (by rfl) (.inl rfl) (by decide) (fun c hc => ?_) (fun pn xe W tk => ?_)
    · have e : c = "NotFamily" := (by first | exact trouble_err hc | exact istrouble_err hc | cases hc); rw [e]; exact ⟨T.k_NotFamily, T.e_NotFamily⟩
    · skip
      exact s_retXD (n := 4) rfl rfl (x_ifTrue (t_cast (by decide) (t_lt (e_var 0 rfl rfl (.inl rfl)) e_int)) (x_callF ca_is_matroid tk hr (by decide) (e_ixL rfl (e_el (el_lst (ea_cons (e_adr (by rfl) hm_trouble) (ea_cons (e_adr (by rfl) hm_is_matroid) ea_nil)) (Nat.le_of_ble_eq_true rfl))) (e_var 0 rfl rfl (.inl rfl))) v_family rfl (ea_cons (e_var 1 rfl rfl (.inl rfl)) ea_nil) (by /- side 2: pre of is_matroid v_family -/ show pre_is_matroid v_family; exact hp)))

def m__law_asked_2 (v_way : Int) (v_family : (Int × (List Int))) (v_told : (Str × List Int)) : D :=
  told (if v_way = 0 then (mapX (eO eW) (m_trouble v_family)) else (mapX eB (m_is_trouble v_family v_told)))
def pre__law_asked_2 (v_way : Int) (v_family : (Int × (List Int))) (v_told : (Str × List Int)) : Prop := (v_way = 0 ∨ v_way = 2) ∧ ((m_is_family v_family = true → v_family.1 ≤ 5) ∧ v_family.2.length ≤ 1000 ∧ PyData.strOk v_told.1 = true)
abbrev sp__law_asked_2 (K : PySem.W.Frag) : Sp := spV K (A := Int × (Int × (List Int)) × (Str × List Int)) (fun a => [eI a.1, (eP eI (eT eI)) a.2.1, eW a.2.2]) (fun a => pre__law_asked_2 a.1 a.2.1 a.2.2) (fun a => m__law_asked_2 a.1 a.2.1 a.2.2)
theorem ok__law_asked_2 (T : Top K mg xa) (c_trouble : CalX P w K mg base 4 "trouble" (sp_trouble xa K)) (c_is_trouble : CalX P w K mg base 3 "is_trouble" (sp_is_trouble xa K)) (c__law_kind : CalK P w K mg base xa 1 "_law_kind") : C8.Cal P w K mg base 5 "_law_asked" (sp__law_asked_2 K) [] := by
  have cx_trouble : CalX P w K mg base 4 "trouble" (spX K xa (A := _) _ _ _) := c_trouble
  have cx_is_trouble : CalX P w K mg base 3 "is_trouble" (spX K xa (A := _) _ _ _) := c_is_trouble
  obtain ⟨a_trouble, hm_trouble, ca_trouble⟩ := cx_trouble.at
  obtain ⟨a_is_matroid, _, _, hm_is_matroid⟩ := T.d_is_matroid
  obtain ⟨a_is_trouble, hm_is_trouble, ca_is_trouble⟩ := cx_is_trouble.at
  obtain ⟨f, fd, F, hm⟩ := T.d__law_asked
  refine ⟨f, fd, ["way", "family", "told"], [], fn_pure F sc__law_asked (fun _ => rfl) fun y ⟨v_way, v_family, v_told⟩ hr hp => ?_, hm, F.kp, F.binds fun _ _ _ _ _ _ us hl => (match us, hl with | [_, _, _], _ => rfl), .nil⟩
  simp only [pre__law_asked_2] at hp
  obtain ⟨hw, hp⟩ := hp
  rcases hw with rfl | rfl
  · show S _ (defBody s__law_asked) [.v (eI (0 : Int)), .v ((eP eI (eT eI)) v_family), .v (eW v_told), .no] (.rt (told (mapX (eO eW) (m_trouble v_family))) [])
    refine s_try (i := 3) (n := 4) (cb := .ref (xa "BasisError")) rfl rfl rfl rfl sc__law_asked.nd rfl rfl ⟨rfl, by decide, .inl T.c_BasisError⟩ c__law_kind hr (by decide) (by rfl) (.inl rfl) (by decide) (fun c hc => ?_) (fun pn xe W tk => ?_)
    · have e : c = "NotFamily" := (by first | exact trouble_err hc | exact istrouble_err hc | cases hc); rw [e]; exact ⟨T.k_NotFamily, T.e_NotFamily⟩
    · skip
      exact s_retXD (n := 4) rfl rfl (x_ifTrue (t_cast (by decide) (t_lt (e_var 0 rfl rfl (.inl rfl)) e_int)) (x_callF ca_trouble tk hr (by decide) (e_ixL rfl (e_el (el_lst (ea_cons (e_adr (by rfl) hm_trouble) (ea_cons (e_adr (by rfl) hm_is_matroid) ea_nil)) (Nat.le_of_ble_eq_true rfl))) (e_var 0 rfl rfl (.inl rfl))) v_family rfl (ea_cons (e_var 1 rfl rfl (.inl rfl)) ea_nil) (by /- side 1: pre of trouble v_family -/ show pre_trouble v_family; exact ⟨hp.1, hp.2.1⟩)))
  · show S _ (defBody s__law_asked) [.v (eI (2 : Int)), .v ((eP eI (eT eI)) v_family), .v (eW v_told), .no] (.rt (told (mapX eB (m_is_trouble v_family v_told))) [])
    refine s_try (i := 3) (n := 4) (cb := .ref (xa "BasisError")) rfl rfl rfl rfl sc__law_asked.nd rfl rfl ⟨rfl, by decide, .inl T.c_BasisError⟩ c__law_kind hr (by decide) (by rfl) (.inl rfl) (by decide) (fun c hc => ?_) (fun pn xe W tk => ?_)
    · have e : c = "NotFamily" := (by first | exact trouble_err hc | exact istrouble_err hc | cases hc); rw [e]; exact ⟨T.k_NotFamily, T.e_NotFamily⟩
    · skip
      exact s_retXD (n := 4) rfl rfl (x_ifFalse (t_cast (by decide) (t_lt (e_var 0 rfl rfl (.inl rfl)) e_int)) (x_call cx_is_trouble tk hr (by decide) (by rfl) (v_family, v_told) rfl (ea_cons (e_var 1 rfl rfl (.inl rfl)) (ea_cons (e_var 2 rfl rfl (.inl rfl)) ea_nil)) (by /- side 2: pre of is_trouble v_family v_told -/ show pre_is_trouble v_family v_told; exact hp)))


def ToldOk (t : Str × List Int) : Prop := PyData.strOk t.1 = true ∧ ∀ x ∈ t.2, x ≤ 60
structure FamFact (f : Int × List Int) : Prop where
  isf : m_is_family f = true
  n1 : 1 ≤ f.1
  n5 : f.1 ≤ 5
  len : f.2.length ≤ 64
  inn : ∀ x ∈ f.2, 0 ≤ x ∧ x < m__law_power f.1
theorem FamFact.in32 {f : Int × List Int} (h : FamFact f) : ∀ x ∈ f.2, In32 x := fun x hx => ⟨(h.inn x hx).1, by have := (h.inn x hx).2; have := pow32 h.n1 h.n5; omega⟩
theorem rp_bool (b : Bool) : Rp (PyData.bool b) := ⟨rfl, .bl b, by cases b <;> decide, by cases b <;> decide +kernel⟩
theorem check_is {f : Int × List Int} (h : m_is_family f = true) : m_check_family f = .ok () := by
  unfold m_check_family
  rw [h]; rfl
theorem asked0_eq {f : Int × List Int} (h : m_is_family f = true) : m__law_asked_0 0 f () = eO eW (m_trouble_of f.2) := by
  have e : m_trouble f = .ok (m_trouble_of f.2) := by
    unfold m_trouble
    rw [check_is h]; rfl
  unfold m__law_asked_0
  rw [if_pos rfl, e]; rfl
theorem asked1_eq (f : Int × List Int) : m__law_asked_0 1 f () = PyData.bool (m_is_matroid f) := rfl
theorem foldl_le {β α : Type} {step : β → α → β} (m : β → Nat) (c : Nat) (h : ∀ a x, m (step a x) ≤ m a + c) : ∀ (l : List α) (a : β), m (l.foldl step a) ≤ m a + c * l.length := by
  intro l
  induction l with
  | nil => intro a; exact Nat.le_refl _
  | cons x l ih => intro a; rw [List.foldl_cons, List.length_cons, Nat.mul_succ]; have := ih (step a x); have := h a x; omega
theorem draws_len {l : List Int} (h : l.length ≤ 63) : (m__law_draws l).length ≤ 3780 := by
  unfold m__law_draws
  simp only [lt]
  rw [List.length_reverse]
  refine Nat.le_trans (foldl_le List.length 60 (fun a x => ?_) l []) (by rw [List.length_nil]; omega)
  split
  · exact dloop_len a _
  · rw [List.length_append]; exact Nat.add_le_add_left (by decide : 3 ≤ 60) _
/-! #### sets of few bits -/
theorem things_eq {v : Int} (h : In32 v) : m_things_of v = m__law_things v := by
  obtain ⟨n, hn, rfl⟩ := in32_nat h
  exact (by decide +kernel : ∀ n : Nat, n < 32 → m_things_of (n : Int) = m__law_things (n : Int)) n hn
theorem and_less {a b : Int} (ha : In32 a) (hb : In32 b) : Builtin.bitAnd a (Builtin.bitNot b) = a - Builtin.bitAnd a b ∧ Builtin.bitAnd a b = Builtin.bitAnd b a ∧ In32 (a - Builtin.bitAnd a b) := by
  obtain ⟨n, hn, rfl⟩ := in32_nat ha
  obtain ⟨m, hm, rfl⟩ := in32_nat hb
  exact (by decide +kernel : ∀ n : Nat, n < 32 → ∀ m : Nat, m < 32 → Builtin.bitAnd (n : Int) (Builtin.bitNot (m : Int)) = (n : Int) - Builtin.bitAnd (n : Int) m ∧ Builtin.bitAnd (n : Int) m = Builtin.bitAnd (m : Int) n ∧ 0 ≤ (n : Int) - Builtin.bitAnd (n : Int) m ∧ (n : Int) - Builtin.bitAnd (n : Int) m < 32) n hn m hm
theorem less_mem {a b x : Int} (ha : In32 a) (hb : In32 b) (hx : x ∈ m__law_things (a - Builtin.bitAnd a b)) : x ∈ m__law_things a ∧ x ∉ m__law_things b := by
  obtain ⟨n, hn, rfl⟩ := in32_nat ha
  obtain ⟨m, hm, rfl⟩ := in32_nat hb
  have := (by decide +kernel : ∀ n : Nat, n < 32 → ∀ m : Nat, m < 32 → ((m__law_things ((n : Int) - Builtin.bitAnd (n : Int) m)).all fun x => decide (x ∈ m__law_things (n : Int)) && !decide (x ∈ m__law_things (m : Int))) = true) n hn m hm
  have := List.all_eq_true.mp this x hx
  simpa using this
theorem xor_less {a x : Int} (ha : In32 a) (hx : x ∈ m__law_things a) : Builtin.bitXor a ((1 : Int) * 2 ^ x.toNat) = a - m__law_power x ∧ In32 (a - m__law_power x) ∧ ∀ y ∈ m__law_things (a - m__law_power x), y ∈ m__law_things a := by
  obtain ⟨n, hn, rfl⟩ := in32_nat ha
  exact (by decide +kernel : ∀ n : Nat, n < 32 → ∀ x ∈ m__law_things (n : Int), Builtin.bitXor (n : Int) ((1 : Int) * 2 ^ x.toNat) = (n : Int) - m__law_power x ∧ (0 ≤ (n : Int) - m__law_power x ∧ (n : Int) - m__law_power x < 32) ∧ ∀ y ∈ m__law_things ((n : Int) - m__law_power x), y ∈ m__law_things (n : Int)) n hn x hx
theorem or_more {a x : Int} (ha : In32 a) (h0 : 0 ≤ x) (h5 : x < 5) (hx : x ∉ m__law_things a) : Builtin.bitOr a ((1 : Int) * 2 ^ x.toNat) = a + m__law_power x := by
  obtain ⟨n, hn, rfl⟩ := in32_nat ha
  obtain ⟨k, rfl⟩ : ∃ k : Nat, x = k := ⟨x.toNat, by omega⟩
  have := (by decide +kernel : ∀ n : Nat, n < 32 → ∀ k : Nat, k < 5 → (k : Int) ∉ m__law_things (n : Int) → Builtin.bitOr (n : Int) ((1 : Int) * 2 ^ ((k : Int)).toNat) = (n : Int) + m__law_power k) n hn k (by omega) hx
  exact this
theorem keys_eq {x : Int} {l : List Int} : (x ∈ (dcI (fun _ => true) (fun s : Int => s) (fun _ : Int => true) l).map (·.1)) ↔ x ∈ l := by
  have g : ∀ (l : List Int) (acc : List (Int × Bool)), x ∈ (l.foldl (fun acc s => if (fun _ : Int => true) s then putI acc s true else acc) acc).map (·.1) ↔ x ∈ acc.map (·.1) ∨ x ∈ l := by
    intro l
    induction l with
    | nil => intro acc; simp
    | cons y l ih =>
      intro acc
      rw [List.foldl_cons, ih, if_pos rfl]
      have hp : x ∈ (putI acc y true).map (·.1) ↔ x ∈ acc.map (·.1) ∨ x = y := by
        unfold putI
        split
        · rename_i hany
          have e : (acc.map fun p => if p.1 = y then (p.1, true) else p).map (·.1) = acc.map (·.1) := by
            rw [List.map_map]
            apply List.map_congr_left
            intro p _
            show (if p.1 = y then (p.1, true) else p).1 = p.1
            split <;> rfl
          rw [e]
          constructor
          · exact .inl
          · rintro (h | h)
            · exact h
            · obtain ⟨p, hp, hq⟩ := List.any_eq_true.mp hany
              rw [h]
              exact List.mem_map.mpr ⟨p, hp, of_decide_eq_true hq⟩
        · rw [List.map_append, List.mem_append]
          simp
      rw [hp, List.mem_cons]
      constructor
      · rintro ((h | h) | h)
        · exact .inl h
        · exact .inr (.inl h)
        · exact .inr (.inr h)
      · rintro (h | h | h)
        · exact .inl (.inl h)
        · exact .inl (.inr h)
        · exact .inr h
  have := g l []
  unfold dcI
  rw [this]; simp
theorem runL_congr {α β γ : Type} {step step' : β → α → Lp β γ} : ∀ (l : List α) (a : β), (∀ x ∈ l, ∀ a, step a x = step' a x) → runL step a l = runL step' a l
  | [], _, _ => rfl
  | x :: l, a, h => by
    rw [runL_cons, runL_cons, h x List.mem_cons_self a]
    cases step' a x with
    | go b => exact runL_congr l b fun y hy => h y (List.mem_cons_of_mem _ hy)
    | brk b => rfl
    | ret c => rfl
theorem size_eq {v : Int} (h : In32 v) : m_size_of v = m__law_size v := by
  unfold m_size_of m__law_size
  rw [things_eq h]
def exB (sets : List Int) (one other thing : Int) : Bool := ((m__law_things (other - Builtin.bitAnd one other)).map fun more => decide ((one - m__law_power thing) + m__law_power more ∈ sets)).any id
theorem exch_eq {sets : List Int} {one other thing : Int} (h1 : In32 one) (h2 : In32 other) (ht : thing ∈ m__law_things (one - Builtin.bitAnd one other)) : m_exchanges (dcI (fun _ => true) (fun s : Int => s) (fun _ : Int => true) sets) one other thing = exB sets one other thing := by
  obtain ⟨t1, t2⟩ := less_mem h1 h2 ht
  obtain ⟨x1, x2, x3⟩ := xor_less h1 t1
  obtain ⟨a1, a2, a3⟩ := and_less h2 h1
  unfold m_exchanges exB
  simp only [lt]
  rw [x1, a1, a2, ← a2, things_eq a3]
  congr 1
  apply List.map_congr_left
  intro more hm
  obtain ⟨m1, m2⟩ := less_mem h2 h1 hm
  have mm := lthings_mem hm
  have m5 : more < 5 := (things_mem32 a3 (by rw [things_eq a3]; exact hm)).2
  rw [or_more x2 mm.1 m5 (fun z => m2 (x3 _ z))]
  exact decide_eq_decide.mpr keys_eq
theorem trouble_eq {sets : List Int} (h : ∀ x ∈ sets, In32 x) : m_trouble_of sets = m__law_trouble sets := by
  unfold m_trouble_of m__law_trouble
  simp only [lt]
  cases he : sets.isEmpty with
  | true =>
    have : sets = [] := List.isEmpty_iff.mp he
    subst this; rfl
  | false =>
    rw [Bool.not_false, Bool.not_true, if_neg Bool.false_ne_true]
    have e : ∀ {r r' : Lp Unit (Option (Str × List Int))}, r = r' → lpK r (fun _ => (none : Option (Str × List Int))) (fun c => c) = lpK r' (fun s1 => if true = true then (none : Option (Str × List Int)) else some ((Str.ofString "none"), [])) (fun c => c) := by
      intro r r' q
      subst q
      cases r <;> rfl
    refine e (runL_congr _ _ fun one h1 _ => ?_)
    congr 1
    refine runL_congr _ _ fun other h2 _ => ?_
    have i1 := h one h1
    have i2 := h other h2
    obtain ⟨a1, a2, a3⟩ := and_less i1 i2
    rw [size_eq i1, size_eq i2, a1, things_eq a3]
    congr 1
    congr 1
    refine runL_congr _ _ fun thing h3 _ => ?_
    rw [exch_eq i1 i2 h3]
    rfl
theorem runL_ret {α β γ : Type} {step : β → α → Lp β γ} : ∀ {l : List α} {a : β} {c : γ}, runL step a l = .ret c → ∃ x ∈ l, ∃ b, step b x = .ret c
  | [], _, _, h => by cases h
  | x :: l, a, c, h => by
    rw [runL_cons] at h
    cases q : step a x with
    | go b =>
      rw [q] at h
      obtain ⟨y, h1, h2⟩ := runL_ret h
      exact ⟨y, List.mem_cons_of_mem _ h1, h2⟩
    | brk b => rw [q] at h; cases h
    | ret d =>
      rw [q] at h
      cases h
      exact ⟨x, List.mem_cons_self, a, q⟩
theorem eqvAll_nil : ∀ l : List Int, PyData.eqvAll (l.map PyData.int) [] = l.isEmpty
  | [] => by unfold PyData.eqvAll; rfl
  | i :: l => by rw [List.map_cons]; unfold PyData.eqvAll; rfl
theorem eqv_W (t : Str × List Int) (n : Str) : PyData.eqv (eW t) (PyData.tuple [eS n]) = (decide (t.1 = n) && t.2.isEmpty) := by
  unfold eW PyData.eqv PyData.eqvAll
  rw [eqvAll_nil]
  congr 1
theorem eqv_T (l : List Int) : PyData.eqv (eT eI l) (PyData.tuple []) = l.isEmpty := by
  unfold eT PyData.eqv
  exact eqvAll_nil l
theorem and_pow {a x : Int} (ha : In32 a) (hx : x ∈ m__law_things a) : Builtin.bitAnd a (m__law_power x) = m__law_power x := by
  obtain ⟨n, hn, rfl⟩ := in32_nat ha
  exact (by decide +kernel : ∀ n : Nat, n < 32 → ∀ x ∈ m__law_things (n : Int), Builtin.bitAnd (n : Int) (m__law_power x) = m__law_power x) n hn x hx
theorem sn1 : ¬ (Str.ofString "size" = Str.ofString "none") := by decide +kernel
theorem sn2 : ¬ (Str.ofString "exchange" = Str.ofString "none") := by decide +kernel
theorem sn3 : ¬ (Str.ofString "exchange" = Str.ofString "size") := by decide +kernel
theorem right_size {sets : List Int} {a b : Int} (h1 : a ∈ sets) (h2 : b ∈ sets) (h3 : (!decide (m__law_size a = m__law_size b)) = true) : m__law_is_right sets ((Str.ofString "size"), [a, b]) = true := by
  unfold m__law_is_right
  rw [eqv_W]
  have e0 : ati [a, b] 0 0 = a := by simp [ati, atI, ixN]
  have e1 : ati [a, b] 1 0 = b := by simp [ati, atI, ixN]
  simp only [e0, e1, sn1, decide_false, Bool.false_and, Bool.false_eq_true, if_false, List.length_cons, List.length_nil, decide_true, h1, h2, Bool.true_and, h3]
  rfl
theorem right_exch {sets : List Int} {a b x : Int} (h : ∀ x ∈ sets, In32 x) (h1 : a ∈ sets) (h2 : b ∈ sets) (h3 : x ∈ m__law_things (a - Builtin.bitAnd a b)) (h4 : (!exB sets a b x) = true) : m__law_is_right sets ((Str.ofString "exchange"), [a, b, x]) = true := by
  have hx := lthings_mem h3
  have e0 : ati [a, b, x] 0 0 = a := by simp [ati, atI, ixN]
  have e1 : ati [a, b, x] 1 0 = b := by simp [ati, atI, ixN]
  have e2 : ati [a, b, x] 2 0 = x := by simp [ati, atI, ixN]
  have e3 : (if (0 : Int) > x then (0 : Int) else x) = x := by rw [if_neg (by omega)]
  have e4 := and_pow (h a h1) (less_mem (h a h1) (h b h2) h3).1
  unfold m__law_is_right
  rw [eqv_W]
  simp only [lt, e0, e1, e2, e3, e4, sn2, sn3, decide_false, Bool.false_and, Bool.false_eq_true, if_false, List.length_cons, List.length_nil, decide_true, h1, h2, h3, Bool.true_and, Bool.not_true, Bool.or_false, hx.1]
  unfold exB at h4
  exact h4
theorem trouble_told {sets : List Int} (h : ∀ x ∈ sets, In32 x) {t : Str × List Int} (e : m__law_trouble sets = some t) : ToldOk t ∧ m__law_is_right sets t = true := by
  unfold m__law_trouble at e
  have small : ∀ x ∈ sets, x ≤ 60 := fun x hx => by have := (h x hx).2; omega
  have fin : ∀ {r : Lp Unit (Option (Str × List Int))}, lpK r (fun s1 => if (!sets.isEmpty) = true then (none : Option (Str × List Int)) else some ((Str.ofString "none"), [])) (fun c => c) = some t → r = .ret (some t) ∨ (sets = [] ∧ t = ((Str.ofString "none"), [])) := by
    intro r q
    have g : ∀ {z : Option (Str × List Int)}, (if (!sets.isEmpty) = true then (none : Option (Str × List Int)) else some ((Str.ofString "none"), [])) = z → z = some t → sets = [] ∧ t = ((Str.ofString "none"), []) := by
      intro z hz hz2
      subst hz2
      cases he : sets.isEmpty with
      | false => rw [he] at hz; cases hz
      | true =>
        rw [he] at hz
        exact ⟨List.isEmpty_iff.mp he, (Option.some.inj hz).symm⟩
    cases r with
    | go a => exact .inr (g q rfl)
    | brk a => exact .inr (g q rfl)
    | ret c => exact .inl (congrArg Lp.ret q)
  rcases fin e with q | ⟨q1, q2⟩
  · obtain ⟨one, h1, _, q⟩ := runL_ret q
    have q : _ = Lp.ret (some t) := q
    have pass : ∀ {r : Lp Unit (Option (Str × List Int))}, lpK r (fun _ => (Lp.go () : Lp Unit (Option (Str × List Int)))) (fun c => Lp.ret c) = .ret (some t) → r = .ret (some t) := by
      intro r z
      cases r with
      | go a => cases z
      | brk a => cases z
      | ret c => exact z
    obtain ⟨other, h2, _, q⟩ := runL_ret (pass q)
    split at q
    · rename_i hs
      cases q
      exact ⟨⟨(by decide +kernel : PyData.strOk (Str.ofString "size") = true), fun x hx => by
        simp only [List.mem_cons, List.not_mem_nil, or_false] at hx
        rcases hx with hx | hx
        · rw [hx]; exact small _ h1
        · rw [hx]; exact small _ h2⟩, right_size h1 h2 hs⟩
    · obtain ⟨thing, h3, _, q⟩ := runL_ret (pass q)
      split at q
      · rename_i hs
        cases q
        have := lthings_mem h3
        exact ⟨⟨(by decide +kernel : PyData.strOk (Str.ofString "exchange") = true), fun x hx => by
          simp only [List.mem_cons, List.not_mem_nil, or_false] at hx
          rcases hx with hx | hx | hx
          · rw [hx]; exact small _ h1
          · rw [hx]; exact small _ h2
          · rw [hx]; omega⟩, right_exch h h1 h2 h3 hs⟩
      · cases q
  · subst q1 q2
    exact ⟨⟨(by decide +kernel : PyData.strOk (Str.ofString "none") = true), fun x hx => by cases hx⟩, by decide +kernel⟩
theorem same_right {f : Int × List Int} (h : FamFact f) {t : Str × List Int} (ht : ToldOk t) : m_is_trouble f t = .ok (m__law_is_right f.2 t) := by
  have h32 := h.in32
  unfold m_is_trouble m__law_is_right
  rw [check_is h.isf]
  show (if _ then _ else _) = _
  have push : ∀ {c : Bool} {a b : Bool}, (Except.ok (if c then a else b) : Except Str Bool) = if c then .ok a else .ok b := by intro c a b; cases c <;> rfl
  rw [push, push, push, show PyData.eqv (eT eI f.2) (eT eI []) = f.2.isEmpty from eqv_T _]
  congr 1
  split
  · rename_i hc
    simp only [Bool.and_eq_true, decide_eq_true_eq] at hc
    congr 1
    by_cases m1 : ati t.2 0 0 ∈ f.2
    · by_cases m2 : ati t.2 1 0 ∈ f.2
      · rw [size_eq (h32 _ m1), size_eq (h32 _ m2)]
      · simp only [m2, decide_false, Bool.false_and, Bool.and_false]
    · simp only [m1, decide_false, Bool.false_and]
  · split
    · rfl
    · rename_i hc
      simp only [Bool.or_eq_true, not_or, Bool.not_eq_true', decide_eq_false_iff_not, Decidable.not_not] at hc
      obtain ⟨c1, c2, m1, m2⟩ := hc
      simp only [lt]
      congr 1
      have i1 := h32 _ m1
      have i2 := h32 _ m2
      obtain ⟨a1, a2, a3⟩ := and_less i1 i2
      rw [a1, things_eq a3]
      by_cases m3 : ati t.2 2 0 ∈ m__law_things (ati t.2 0 0 - Builtin.bitAnd (ati t.2 0 0) (ati t.2 1 0))
      · have hx := lthings_mem m3
        have e3 : (if (0 : Int) > ati t.2 2 0 then (0 : Int) else ati t.2 2 0) = ati t.2 2 0 := by rw [if_neg (by omega)]
        have e4 := and_pow i1 (less_mem i1 i2 m3).1
        rw [exch_eq i1 i2 m3, e3, e4]
        simp only [m3, hx.1, decide_true, Bool.true_and]
        rfl
      · simp only [m3, decide_false, Bool.false_and, Bool.and_false]
theorem asked2_eq {f : Int × List Int} (h : FamFact f) {t : Str × List Int} (ht : ToldOk t) : m__law_asked_2 2 f t = PyData.bool (m__law_is_right f.2 t) := by
  unfold m__law_asked_2
  rw [if_neg (by decide), same_right h ht]; rfl
theorem not_fam {f : Int × List Int} (h : m_is_family f = false) : m_check_family f = .error "NotFamily" := by
  unfold m_check_family
  rw [h]; rfl
theorem askedX_eq {f : Int × List Int} (h : m_is_family f = false) {t : Str × List Int} {w : Int} : m__law_asked_2 w f t = PyData.str "!family" := by
  have e1 : m_trouble f = .error "NotFamily" := by
    unfold m_trouble; rw [not_fam h]; rfl
  have e2 : m_is_trouble f t = .error "NotFamily" := by
    unfold m_is_trouble; rw [not_fam h]; rfl
  unfold m__law_asked_2
  rw [e1, e2]
  have e3 : kword "NotFamily" = ("!family" : Str) := by decide +kernel
  split <;> exact congrArg PyData.str e3
theorem fam_of {n : Int} {l : List Int} (h1 : 1 ≤ n) (h9 : n ≤ 9) (up : Up l) (inn : ∀ x ∈ l, 0 ≤ x ∧ x < m__law_power n) : m_is_family (n, l) = true := by
  unfold m_is_family
  simp only [lt]
  have e1 : (decide ((1 : Int) ≤ n) && decide (n ≤ (9 : Int))) = true := by simp [h1, h9]
  rw [e1, Bool.not_true, if_neg Bool.false_ne_true, Bool.and_eq_true]
  constructor
  · rw [List.all_map]
    have hc : cut l (some (1 : Int)) none = l.tail := by
      cases l with
      | nil => rfl
      | cons x l =>
        unfold cut HT.sIx
        simp
    rw [hc, List.all_eq_true]
    intro p hp
    have g : ∀ {l : List Int}, Up l → ∀ p ∈ l.zip l.tail, p.1 < p.2 := by
      intro l
      induction l with
      | nil => intro _ p hp; cases hp
      | cons x l ih =>
        intro hu p hp
        cases l with
        | nil => cases hp
        | cons y l =>
          rcases List.mem_cons.mp hp with q | q
          · rw [q]; exact (List.pairwise_cons.mp hu).1 y List.mem_cons_self
          · exact ih (List.pairwise_cons.mp hu).2 p q
    show decide (p.1 < p.2) = true
    exact decide_eq_true (g up p hp)
  · rw [List.all_map, List.all_eq_true]
    intro x hx
    have := inn x hx
    rw [power_eq (by omega)] at this
    show (decide ((0 : Int) ≤ x) && decide (x < (1 : Int) * 2 ^ n.toNat)) = true
    simp [this.1, this.2]
theorem fact_of {n : Int} {l : List Int} (h1 : 1 ≤ n) (h5 : n ≤ 5) (up : Up l) (inn : ∀ x ∈ l, 0 ≤ x ∧ x < m__law_power n) : FamFact (n, l) := ⟨fam_of h1 (by omega) up inn, h1, h5, by have := up_len up inn; have := pow32 h1 h5; show l.length ≤ 64; omega, inn⟩
theorem up_of {l : List Int} (h : l.Pairwise (· ≤ ·)) (n : l.Nodup) : Up l := by
  have := List.Pairwise.and h n
  exact List.Pairwise.imp (fun z => by have := z.1; have := z.2; omega) this
theorem up_nodup {l : List Int} (h : Up l) : l.Nodup := List.Pairwise.imp (fun z => by omega) h
theorem keys_nodup {β : Type} : ∀ (l : List (Int × β)) (acc : List (Int × β)), (acc.map (·.1)).Nodup → ((l.foldl (fun acc x => if (fun _ : Int × β => true) x then putI acc x.1 x.2 else acc) acc).map (·.1)).Nodup ∧ ∀ k ∈ (l.foldl (fun acc x => if (fun _ : Int × β => true) x then putI acc x.1 x.2 else acc) acc).map (·.1), k ∈ acc.map (·.1) ∨ ∃ x ∈ l, x.1 = k
  | [], acc, h => ⟨h, fun k hk => .inl hk⟩
  | y :: l, acc, h => by
    have e : (putI acc y.1 y.2).map (·.1) = acc.map (·.1) ∨ ((putI acc y.1 y.2).map (·.1) = acc.map (·.1) ++ [y.1] ∧ y.1 ∉ acc.map (·.1)) := by
      unfold putI
      split
      · left
        rw [List.map_map]
        apply List.map_congr_left
        intro p _
        show (if p.1 = y.1 then (p.1, y.2) else p).1 = p.1
        split <;> rfl
      · rename_i hn
        right
        refine ⟨by rw [List.map_append]; rfl, fun hm => hn ?_⟩
        obtain ⟨p, hp, hq⟩ := List.mem_map.mp hm
        exact List.any_eq_true.mpr ⟨p, hp, decide_eq_true hq⟩
    have nd : ((putI acc y.1 y.2).map (·.1)).Nodup := by
      rcases e with e | ⟨e, n⟩
      · rw [e]; exact h
      · rw [e]
        refine List.nodup_append.mpr ⟨h, by simp, fun a ha b hb => ?_⟩
        rw [List.mem_singleton.mp hb]
        exact fun z => n (z ▸ ha)
    have ih := keys_nodup l (putI acc y.1 y.2) nd
    rw [List.foldl_cons, if_pos rfl]
    refine ⟨ih.1, fun k hk => ?_⟩
    rcases ih.2 k hk with q | ⟨x, hx, q⟩
    · rcases e with e | ⟨e, _⟩
      · rw [e] at q; exact .inl q
      · rw [e, List.mem_append] at q
        rcases q with q | q
        · exact .inl q
        · exact .inr ⟨y, List.mem_cons_self, (List.mem_singleton.mp q).symm⟩
    · exact .inr ⟨x, List.mem_cons_of_mem _ hx, q⟩
theorem cut_to {l : List Int} {i : Int} (h0 : 0 ≤ i) (h1 : i < l.length) : cut l none (some i) = l.take i.toNat := by
  have e : HT.sIx l.length l.length (some i) = i.toNat := by
    show (if i < 0 then (i + (l.length : Int)).toNat else min i.toNat l.length) = _
    rw [if_neg (by omega)]
    omega
  have e2 : HT.sIx l.length 0 none = 0 := rfl
  unfold cut
  rw [e, e2]; simp
theorem cut_from {l : List Int} {i : Int} (h0 : 0 ≤ i) (h1 : i < l.length) : cut l (some (i + 1)) none = l.drop (i.toNat + 1) := by
  have e : HT.sIx l.length 0 (some (i + 1)) = i.toNat + 1 := by
    show (if i + 1 < 0 then (i + 1 + (l.length : Int)).toNat else min (i + 1).toNat l.length) = _
    rw [if_neg (by omega)]
    omega
  have e2 : HT.sIx l.length l.length none = l.length := rfl
  unfold cut
  rw [e, e2]
  exact List.take_of_length_le (by rw [List.length_drop]; exact Nat.le_refl _)
theorem family_ok (t : List Int) : FamFact (m__law_family t).1 := by
  have hm := mat_ok (t := t) (most := 5) (by decide) (by decide)
  unfold m__law_family
  simp only [lt]
  generalize (m__law_matroid t 5) = mr at *
  obtain ⟨⟨n, bases⟩, t2⟩ := mr
  obtain ⟨n1, n5, ne, up, inn⟩ := hm
  simp only at n1 n5 ne up inn ⊢
  have hp := pow32 n1 n5
  generalize hs : (m__law_next (m__law_next t2).2).1 % m__law_power n = some_
  have hs2 := draw_0 (a := (m__law_next (m__law_next t2).2).1) (m := m__law_power n) (by omega)
  rw [hs] at hs2
  split
  · exact fact_of n1 n5 up inn
  · split
    · refine fact_of n1 n5 (up_of (srt_sorted _) ?_) (fun x hx => ?_)
      · rw [(srt_perm _).nodup_iff]
        refine List.nodup_append.mpr ⟨up_nodup (filt_up up _), by simp, fun a ha b hb => ?_⟩
        rw [List.mem_singleton.mp hb]
        have := (filt_sub ha).2
        simpa using this
      · rw [(srt_perm _).mem_iff, List.mem_append] at hx
        rcases hx with q | q
        · exact inn x (filt_sub q).1
        · rw [List.mem_singleton.mp q]; exact hs2
    · split
      · refine fact_of n1 n5 ?_ (fun x hx => ?_)
        · generalize hat : (m__law_next (m__law_next (m__law_next t2).2).2).1 % (bases.length : Int) = at_
          have ha2 := draw_0 (a := (m__law_next (m__law_next (m__law_next t2).2).2).1) (m := (bases.length : Int)) (by have := List.length_pos_iff.mpr ne; omega)
          rw [hat] at ha2
          rw [cut_to ha2.1 ha2.2, cut_from ha2.1 ha2.2, ← List.eraseIdx_eq_take_drop_succ]
          exact List.Pairwise.sublist (List.eraseIdx_sublist _ _) up
        · rcases List.mem_append.mp hx with q | q
          · exact inn x (cut_mem q)
          · exact inn x (cut_mem q)
      · have kn := keys_nodup (runT (fun (t2 : List Int) (x2_turn : Int) => ((((m__law_next t2 ).1 % (m__law_power n)), true), (m__law_next t2 ).2)) (m__law_next (m__law_next (m__law_next t2).2).2).2 (rng 0 ((m__law_next (m__law_next (m__law_next t2).2).2).1 % (6 : Int)))).1 [] List.nodup_nil
        refine fact_of n1 n5 (up_of (srt_sorted _) ?_) (fun x hx => ?_)
        · rw [(srt_perm _).nodup_iff]
          exact kn.1
        · rw [(srt_perm _).mem_iff] at hx
          rcases kn.2 x hx with q | ⟨y, hy, q⟩
          · cases q
          · rw [← q]
            exact runT_all (fun c => 0 ≤ c.1 ∧ c.1 < m__law_power n) _ (fun a x => draw_0 (by omega)) _ _ y hy
theorem picks_ok {a : List Int} {n : Int} (h1 : 1 ≤ n) (h5 : n ≤ 5) : (runT (fun (t1 : List Int) (x1_turn : Int) => (((m__law_next t1 ).1 % (m__law_power n)), (m__law_next t1 ).2)) a (rng 0 (4 : Int))).1.length = 4 ∧ ∀ x ∈ (runT (fun (t1 : List Int) (x1_turn : Int) => (((m__law_next t1 ).1 % (m__law_power n)), (m__law_next t1 ).2)) a (rng 0 (4 : Int))).1, 0 ≤ x ∧ x < 32 := by
  have hp := pow32 h1 h5
  refine ⟨by rw [runT_len, rng_len]; rfl, runT_all (fun x => 0 ≤ x ∧ x < 32) _ (fun a x => ?_) _ _⟩
  have := draw_0 (a := (m__law_next a).1) (m := m__law_power n) (by omega)
  exact ⟨this.1, by have := this.2; omega⟩
theorem isSome_of {α : Type} {v : Option α} (h : (!v.isNone) = true) : v.isSome = true := by
  cases v with
  | none => cases h
  | some t => rfl
theorem optD_ok {v : Option (Str × List Int)} {d : Str × List Int} (h : ∀ t, v = some t → ToldOk t) (hd : ToldOk d) : ToldOk (optD d v) := by
  cases v with
  | none => exact hd
  | some t => exact h t rfl
theorem told_of {s : Str} {l : List Int} (h : PyData.strOk s = true) (hl : ∀ x ∈ l, x ≤ 60) : ToldOk (s, l) := ⟨h, hl⟩
theorem ok_n : PyData.strOk (Str.ofString "none") = true := by decide +kernel
theorem ok_s : PyData.strOk (Str.ofString "size") = true := by decide +kernel
theorem ok_e : PyData.strOk (Str.ofString "exchange") = true := by decide +kernel
theorem ok_x : PyData.strOk (Str.ofString "x") = true := by decide +kernel
theorem exch_told {f : Int × List Int} (h : FamFact f) {a b c : Int} (h1 : a ∈ f.2) (h2 : b ∈ f.2) (h3 : 0 ≤ c ∧ c < f.1) : ToldOk ((Str.ofString "exchange"), [a, b, c]) := told_of ok_e fun x hx => by
  have i1 := h.in32 a h1
  have i2 := h.in32 b h2
  have := h.n5
  unfold In32 at i1 i2
  simp only [List.mem_cons, List.not_mem_nil, or_false] at hx
  rcases hx with q | q | q <;> omega
theorem listed_ok {found due : Option (Str × List Int)} {picks : List Int} {n : Int} (hf : ∀ t, found = some t → ToldOk t) (hd : ∀ t, due = some t → ToldOk t) (h4 : picks.length = 4) (hp : ∀ x ∈ picks, 0 ≤ x ∧ x < 32) (hn : 1 ≤ n ∧ n ≤ 5) :
    ∀ t ∈ ([optD ((Str.ofString "none"), []) found, optD ((Str.ofString "none"), []) due, ((Str.ofString "none"), []), ((Str.ofString "size"), [] ++ cut picks none (some 2)), ((Str.ofString "exchange"), ([] ++ cut picks none (some 2)) ++ [ati picks 2 0 % n]), ((Str.ofString "exchange"), [] ++ cut picks none (some 2))] ++
      [((Str.ofString "size"), [] ++ cut picks none (some 3)), ((Str.ofString "x"), [] ++ cut picks none (some 2)), ((Str.ofString "none"), [1]), ((Str.ofString "exchange"), [ati picks 0 0, ati picks 1 0, -1])] : List (Str × List Int)), ToldOk t := by
  have hc : ∀ {a b : Option Int}, ∀ x ∈ cut picks a b, x ≤ 60 := fun x hx => by have := hp x (cut_mem hx); omega
  have hat : ∀ i : Int, 0 ≤ i → i < 4 → ati picks i 0 ≤ 60 := fun i h0 h1 => by have := hp _ (ati_mem (d := 0) (inB_of h0 (show i < (picks.length : Int) by omega))); omega
  have nil : ∀ x ∈ ([] : List Int), x ≤ 60 := fun x hx => by cases hx
  intro t ht
  simp only [List.nil_append, List.cons_append, List.mem_cons, List.not_mem_nil, or_false] at ht
  rcases ht with q | q | q | q | q | q | q | q | q | q <;> rw [q]
  · exact optD_ok hf (told_of ok_n nil)
  · exact optD_ok hd (told_of ok_n nil)
  · exact told_of ok_n nil
  · exact told_of ok_s hc
  · refine told_of ok_e fun x hx => ?_
    rcases List.mem_append.mp hx with w | w
    · exact hc x w
    · rw [List.mem_singleton.mp w]
      have := draw_0 (a := ati picks 2 0) hn.1
      omega
  · exact told_of ok_e hc
  · exact told_of ok_s hc
  · exact told_of ok_x hc
  · exact told_of ok_n fun x hx => by rw [List.mem_singleton.mp hx]; decide
  · refine told_of ok_e fun x hx => ?_
    simp only [List.mem_cons, List.not_mem_nil, or_false] at hx
    have h0 := hat 0 (by decide) (by decide)
    have h1 := hat 1 (by decide) (by decide)
    rcases hx with w | w | w <;> omega
theorem wrong_ok {n : Int} (h1 : 1 ≤ n) (h5 : n ≤ 5) : ∀ w ∈ ([((0 : Int), [(0 : Int)]), ((10 : Int), [(0 : Int)]), (n, [m__law_power n]), (n, [-1]), ((2 : Int), [(1 : Int), (1 : Int)]), ((2 : Int), [(2 : Int), (1 : Int)])] : List (Int × List Int)), m_is_family w = false ∧ w.2.length ≤ 2 := by
  intro w hw
  simp only [List.mem_cons, List.not_mem_nil, or_false] at hw
  have e : n = 1 ∨ n = 2 ∨ n = 3 ∨ n = 4 ∨ n = 5 := by omega
  rcases hw with q | q | q | q | q | q <;> rw [q]
  · exact ⟨by decide +kernel, by decide⟩
  · exact ⟨by decide +kernel, by decide⟩
  · rcases e with e | e | e | e | e <;> subst e <;> exact ⟨by decide +kernel, by decide⟩
  · rcases e with e | e | e | e | e <;> subst e <;> exact ⟨by decide +kernel, by decide⟩
  · exact ⟨by decide +kernel, by decide⟩
  · exact ⟨by decide +kernel, by decide⟩
theorem flat_eq {w : List (Int × List Int)} (h : ∀ f ∈ w, m_is_family f = false ∧ f.2.length ≤ 2) (h6 : w.length = 6) : m__law_flat (w.map fun one => ([(0 : Int), (2 : Int)].map fun way => (m__law_asked_2 way one (((Str.ofString "none"), []) : Str × List Int)))) = List.replicate 12 (PyData.str "!family") := by
  have e : (w.map fun one => ([(0 : Int), (2 : Int)].map fun way => (m__law_asked_2 way one (((Str.ofString "none"), []) : Str × List Int)))) = w.map fun _ => [PyData.str "!family", PyData.str "!family"] := by
    apply List.map_congr_left
    intro f hf
    simp only [List.map_cons, List.map_nil, askedX_eq (h f hf).1]
  rw [e]
  match w, h6 with
  | [a, b, c, d, e, f], _ => rfl
theorem ndB (l : List Bool) : ∀ d ∈ l.map PyData.bool, NoDict d := fun d hd => by
  obtain ⟨i, _, rfl⟩ := List.mem_map.mp hd
  exact .bl i
theorem layB : ∀ l : List Bool, PyData.canLayAll0 (l.map PyData.bool) = true
  | [] => rfl
  | i :: l => by
    rw [List.map_cons]
    unfold PyData.canLayAll0 PyData.canLay0
    rw [layB l]; rfl
theorem depB : ∀ l : List Bool, PyData.depthAll (l.map PyData.bool) = 0
  | [] => rfl
  | i :: l => by
    rw [List.map_cons]
    unfold PyData.depthAll PyData.depth
    rw [depB l]; rfl
theorem shB (l : List Bool) : SeqAt.shaped (eL eB l) = true := by
  unfold SeqAt.shaped PyData.canLay0 PyData.depth
  rw [layB, depB]; rfl
/-! ### law -/
abbrev s_law : Stmt := topS 42
abbrev N_law : List Str := ["script", "draws", "family", "n", "sets", "due", "found", "picks", "listed", "told", "one", "other", "thing", "wrong", "turn", "way"]
theorem sc_law : FnScope N_law ["script"] (defScope s_law) := ⟨rfl, rfl, rfl, by decide +kernel, rfl, by decide +kernel, by decide +kernel⟩
def m_law (v_script : (List Int)) : Bool :=
  (lt (List.reverse (m__law_more (List.reverse (m__law_draws v_script)) (160 : Int)).1) (fun (t1_draws : List Int) => (if (!(decide ((PyData.shown ((eL eD) [(eB (m_is_matroid ((3 : Int), [(3 : Int), (5 : Int)]))), (eB ((okV none (m_trouble ((4 : Int), [(3 : Int), (12 : Int)])))).isNone), (eB (okV false (m_is_trouble ((4 : Int), [(3 : Int), (12 : Int)]) (((Str.ofString "exchange"), [(3 : Int), (12 : Int), (0 : Int)]) : Str × List Int)))), ((eO eW) (okV none (m_trouble ((2 : Int), []))))])) = (PyData.shown ((eL eD) [(eB true), (eB false), (eB true), (PyData.tuple [eS (Str.ofString "none")])]))))) then false else (lt (m__law_family t1_draws ).1 (fun (v2_family : (Int × (List Int))) => (if ((!(decide ((m_is_family v2_family) = true))) || ((!(decide ((PyData.shown (eD (m__law_asked_0 (1 : Int) v2_family ()))) = (PyData.shown (eB ((m__law_trouble (v2_family).2)).isNone))))) || ((!(decide (((m_trouble_of (v2_family).2)).isNone = ((m__law_trouble (v2_family).2)).isNone))) || ((!((m_trouble_of (v2_family).2)).isNone) && (!(m__law_is_right (v2_family).2 (optD ((Str.ofString ""), []) (m_trouble_of (v2_family).2)))))))) then false else (lt (runT (fun (t1 : List Int) (x1_turn : Int) => (((m__law_next t1 ).1 % (m__law_power (v2_family).1)), (m__law_next t1 ).2)) (m__law_family t1_draws ).2 (rng 0 (4 : Int))).2 (fun (t3_draws : List Int) => (lt (runT (fun (t1 : List Int) (x1_turn : Int) => (((m__law_next t1 ).1 % (m__law_power (v2_family).1)), (m__law_next t1 ).2)) (m__law_family t1_draws ).2 (rng 0 (4 : Int))).1 (fun (v4_picks : (List Int)) => (lt [(optD (((Str.ofString "none"), []) : Str × List Int) (m_trouble_of (v2_family).2)), (optD (((Str.ofString "none"), []) : Str × List Int) (m__law_trouble (v2_family).2)), (((Str.ofString "none"), []) : Str × List Int), (((((Str.ofString "size"), []) : Str × List Int)).1, ((((Str.ofString "size"), []) : Str × List Int)).2 ++ (cut v4_picks none (some (2 : Int)))), (((((((Str.ofString "exchange"), []) : Str × List Int)).1, ((((Str.ofString "exchange"), []) : Str × List Int)).2 ++ (cut v4_picks none (some (2 : Int))))).1, ((((((Str.ofString "exchange"), []) : Str × List Int)).1, ((((Str.ofString "exchange"), []) : Str × List Int)).2 ++ (cut v4_picks none (some (2 : Int))))).2 ++ [((ati v4_picks (2 : Int) 0) % (v2_family).1)]), (((((Str.ofString "exchange"), []) : Str × List Int)).1, ((((Str.ofString "exchange"), []) : Str × List Int)).2 ++ (cut v4_picks none (some (2 : Int))))] (fun (v5_listed : (List (Str × List Int))) => (lt (v5_listed ++ [(((((Str.ofString "size"), []) : Str × List Int)).1, ((((Str.ofString "size"), []) : Str × List Int)).2 ++ (cut v4_picks none (some (3 : Int)))), (((((Str.ofString "x"), []) : Str × List Int)).1, ((((Str.ofString "x"), []) : Str × List Int)).2 ++ (cut v4_picks none (some (2 : Int)))), (((Str.ofString "none"), [(1 : Int)]) : Str × List Int), (((Str.ofString "exchange"), [(ati v4_picks (0 : Int) 0), (ati v4_picks (1 : Int) 0), (-(1 : Int))]) : Str × List Int)]) (fun (v6_listed : (List (Str × List Int))) => (lpK (runL (fun (s1 : Unit) (x1_toldl : (Str × List Int)) => ((if (!(decide ((PyData.shown (eD (m__law_asked_2 (2 : Int) v2_family x1_toldl))) = (PyData.shown (eB (m__law_is_right (v2_family).2 x1_toldl)))))) then (Lp.ret false) else (Lp.go ())) : Lp (Unit) Bool)) () v6_listed) (fun (s1 : Unit) => (lpK (runL (fun (s2 : Unit) (x2_onel : Int) => ((lpK (runL (fun (s3 : Unit) (x3_otherl : Int) => ((lpK (runL (fun (s4 : Unit) (x4_thingl : Int) => ((if (!(decide ((PyData.shown (eD (m__law_asked_2 (2 : Int) v2_family (((Str.ofString "exchange"), [x2_onel, x3_otherl, x4_thingl]) : Str × List Int)))) = (PyData.shown (eB (m__law_is_right (v2_family).2 (((Str.ofString "exchange"), [x2_onel, x3_otherl, x4_thingl]) : Str × List Int))))))) then (Lp.ret false) else (Lp.go ())) : Lp (Unit) Bool)) () (rng 0 (v2_family).1)) (fun (s4 : Unit) => (Lp.go ())) (fun c => (Lp.ret c))) : Lp (Unit) Bool)) () (cut (v2_family).2 (some (-(3 : Int))) none)) (fun (s3 : Unit) => (Lp.go ())) (fun c => (Lp.ret c))) : Lp (Unit) Bool)) () (cut (v2_family).2 none (some (3 : Int)))) (fun (s2 : Unit) => (lt [((0 : Int), [(0 : Int)]), ((10 : Int), [(0 : Int)]), ((v2_family).1, [(m__law_power (v2_family).1)]), ((v2_family).1, [(-(1 : Int))]), ((2 : Int), [(1 : Int), (1 : Int)]), ((2 : Int), [(2 : Int), (1 : Int)])] (fun (v7_wrong : (List (Int × (List Int)))) => (lt ((v7_wrong.map fun x2_one => (m_is_family x2_one)) ++ (v7_wrong.map fun x3_one => (m_is_matroid x3_one))) (fun (v8_told : (List Bool)) => ((PyData.eqv ((eL eB) v8_told) ((eL eB) (List.flatten (List.replicate ((12 : Int)).toNat [false])))) && ((PyData.eqv ((eL eD) (m__law_flat (v7_wrong.map fun x4_one => ([(0 : Int), (2 : Int)].map fun x5_way => (m__law_asked_2 x5_way x4_one (((Str.ofString "none"), []) : Str × List Int)))))) ((eL eS) (List.flatten (List.replicate ((12 : Int)).toNat [(Str.ofString "!family")])))) && (decide ((m_is_family ((9 : Int), (rng 0 (512 : Int)))) = true))))))))) (fun c => c))) (fun c => c))))))))))))))))
abbrev sp_law (K : PySem.W.Frag) : Sp := spV K (A := (List Int)) (fun a => [scD a]) (fun a : (List Int) => True) (fun a => eB (m_law a))
theorem ok_law (T : Top K mg xa) {f : Addr} (c__law_draws : C8.Cal P w K mg base 2 "_law_draws" (sp__law_draws K) []) (c__law_more : C8.Cal P w K mg base 2 "_law_more" (sp__law_more K) []) (c_is_matroid : C8.Cal P w K mg base 4 "is_matroid" (sp_is_matroid K) []) (c_trouble : CalX P w K mg base 4 "trouble" (sp_trouble xa K)) (c_is_trouble : CalX P w K mg base 3 "is_trouble" (sp_is_trouble xa K)) (c__law_family : C8.Cal P w K mg base 5 "_law_family" (sp__law_family K) []) (c__law_trouble : C8.Cal P w K mg base 4 "_law_trouble" (sp__law_trouble K) []) (c__law_asked_0 : C8.Cal P w K mg base 5 "_law_asked" (sp__law_asked_0 K) []) (c_is_family : C8.Cal P w K mg base 1 "is_family" (sp_is_family K) []) (c__law_is_right : C8.Cal P w K mg base 4 "_law_is_right" (sp__law_is_right K) []) (c__law_next : C8.Cal P w K mg base 1 "_law_next" (sp__law_next K) []) (c__law_power : C8.Cal P w K mg base 1 "_law_power" (sp__law_power K) []) (c__law_asked_2 : C8.Cal P w K mg base 5 "_law_asked" (sp__law_asked_2 K) []) (c__law_flat : C8.Cal P w K mg base 1 "_law_flat" (sp__law_flat K) []) (y : Db) (hA : y.A = callerA) (hr : Room 5 (y.A.deeper (envOfC "law" (defScope s_law) y.s.heap.objs.size f y.cdv))) (v_script : List Int) (hp : v_script.length ≤ 63) : S (dctx P w K mg base N_law "law" (defScope s_law) f [] y) (defBody s_law) (ini [scD v_script] N_law.length) (.rt (.bool (m_law v_script)) []) := by
  have hgd : (dctx P w K mg base N_law "law" (defScope s_law) f [] y).X.A.guards = some [] := by (show y.A.guards = some []; rw [hA]; rfl)
  show S _ (defBody s_law) [.v (scD v_script), .no, .no, .no, .no, .no, .no, .no, .no, .no, .no, .no, .no, .no, .no, .no] ((fun (v : Bool) => Out.rt (eB v) []) (m_law v_script))
  refine s_cons (b_setTape 1 sc_law.nd rfl (.inr rfl) (.inl rfl) (Nat.le_of_ble_eq_true rfl) (.inl rfl) (el_call c__law_draws hr (by decide) (by rfl) v_script rfl (ea_cons (e_var 0 rfl rfl (.inl rfl)) ea_nil) (by /- side 1: pre of _law_draws v_script -/ show pre__law_draws v_script; exact hp)) rfl) ?_
  refine s_cons (b_setTape 1 sc_law.nd rfl (.inr rfl) (.inl rfl) (Nat.le_of_ble_eq_true rfl) (.inl rfl) (el_callM 1 c__law_more hr (by decide) (by rfl) ((List.reverse (m__law_draws v_script)), (160 : Int)) rfl rfl rfl (.inr (.inl rfl)) (ea_cons e_int ea_nil) (by /- side 2: pre of _law_more (List.reverse (m__law_draws v_script)) (160 : Int) -/ show pre__law_more (List.reverse (m__law_draws v_script)) (160 : Int); exact ⟨by rw [List.length_reverse]; have := draws_len hp; omega, by decide, by decide⟩)) rfl) ?_
  refine s_let (a := (List.reverse (m__law_more (List.reverse (m__law_draws v_script)) (160 : Int)).1)) (fun t1_draws : List Int => [.v (scD v_script), oL eI (List.reverse t1_draws), .no, .no, .no, .no, .no, .no, .no, .no, .no, .no, .no, .no, .no, .no]) (fun (v : Bool) => Out.rt (eB v) []) _ (fun t1_draws h_t1_draws => ?_)
  refine s_if (fun (v : Bool) => Out.rt (eB v) []) (t_neS (e_repr hgd hr (by /- side 10: Rp ((eL eD) [(eB (m_is_matroid ((3 : Int), [(3 : Int), (5 : Int)]))), (eB ((okV none (m_trouble ((4 : Int), [(3 : Int), (12 : Int)])))).isNone), (eB (okV false (m_is_trouble ((4 : Int), [(3 : Int), (12 : Int)]) (((Str.ofString "exchange"), [(3 : Int), (12 : Int), (0 : Int)]) : Str × List Int)))), ((eO eW) (okV none (m_trouble ((2 : Int), []))))]) -/ exact ⟨by decide +kernel, nd_of (by decide +kernel), by decide +kernel, by decide +kernel⟩) (by rfl) T.b_repr (e_el (el_lst (ea_cons (e_call c_is_matroid hr (by decide) (by rfl) ((3 : Int), [(3 : Int), (5 : Int)]) rfl (ea_cons (e_tup (ea_cons e_int (ea_cons (e_tup (ea_cons e_int (ea_cons e_int ea_nil)) (Nat.le_of_ble_eq_true rfl)) ea_nil)) (Nat.le_of_ble_eq_true rfl)) ea_nil) (by /- side 3: pre of is_matroid ((3 : Int), [(3 : Int), (5 : Int)]) -/ show pre_is_matroid ((3 : Int), [(3 : Int), (5 : Int)]); exact ⟨fun _ => by decide, by decide⟩)) (ea_cons (e_isNO (f := eW) (fun _ => rfl) (e_callX c_trouble hr (by decide) (by rfl) ((4 : Int), [(3 : Int), (12 : Int)]) (mapX_ok (f := (eO eW)) none (by /- side 5: isOkX (m_trouble ((4 : Int), [(3 : Int), (12 : Int)])) -/ decide +kernel)) (ea_cons (e_tup (ea_cons e_int (ea_cons (e_tup (ea_cons e_int (ea_cons e_int ea_nil)) (Nat.le_of_ble_eq_true rfl)) ea_nil)) (Nat.le_of_ble_eq_true rfl)) ea_nil) (by /- side 4: pre of trouble ((4 : Int), [(3 : Int), (12 : Int)]) -/ show pre_trouble ((4 : Int), [(3 : Int), (12 : Int)]); exact ⟨fun _ => by decide, by decide⟩)) e_non) (ea_cons (e_callX c_is_trouble hr (by decide) (by rfl) (((4 : Int), [(3 : Int), (12 : Int)]), (((Str.ofString "exchange"), [(3 : Int), (12 : Int), (0 : Int)]) : Str × List Int)) (mapX_ok (f := eB) false (by /- side 7: isOkX (m_is_trouble ((4 : Int), [(3 : Int), (12 : Int)]) (((Str.ofString "exchange"), [(3 : Int), (12 : Int), (0 : Int)]) : Str × List Int)) -/ decide +kernel)) (ea_cons (e_tup (ea_cons e_int (ea_cons (e_tup (ea_cons e_int (ea_cons e_int ea_nil)) (Nat.le_of_ble_eq_true rfl)) ea_nil)) (Nat.le_of_ble_eq_true rfl)) (ea_cons (e_tup (ea_cons e_str (ea_cons e_int (ea_cons e_int (ea_cons e_int ea_nil)))) (Nat.le_of_ble_eq_true rfl)) ea_nil)) (by /- side 6: pre of is_trouble ((4 : Int), [(3 : Int), (12 : Int)]) (((Str.ofString "exchange"), [(3 : Int), (12 : Int), (0 : Int)]) : Str × List Int) -/ show pre_is_trouble ((4 : Int), [(3 : Int), (12 : Int)]) (((Str.ofString "exchange"), [(3 : Int), (12 : Int), (0 : Int)]) : Str × List Int); exact ⟨fun _ => by decide, by decide, by decide +kernel⟩)) (ea_cons (e_callX c_trouble hr (by decide) (by rfl) ((2 : Int), []) (mapX_ok (f := (eO eW)) none (by /- side 9: isOkX (m_trouble ((2 : Int), [])) -/ decide +kernel)) (ea_cons (e_tup (ea_cons e_int (ea_cons (e_tup ea_nil (Nat.le_of_ble_eq_true rfl)) ea_nil)) (Nat.le_of_ble_eq_true rfl)) ea_nil) (by /- side 8: pre of trouble ((2 : Int), []) -/ show pre_trouble ((2 : Int), []); exact ⟨fun _ => by decide, by decide⟩)) ea_nil)))) (Nat.le_of_ble_eq_true rfl)))) (e_repr hgd hr (by /- side 11: Rp ((eL eD) [(eB true), (eB false), (eB true), (PyData.tuple [eS (Str.ofString "none")])]) -/ exact ⟨by decide +kernel, nd_of (by decide +kernel), by decide +kernel, by decide +kernel⟩) (by rfl) T.b_repr (e_el (el_lst (ea_cons e_bl (ea_cons e_bl (ea_cons e_bl (ea_cons (e_tup (ea_cons e_str ea_nil) (Nat.le_of_ble_eq_true rfl)) ea_nil)))) (Nat.le_of_ble_eq_true rfl))))) (fun hc1 => ?_) rfl (fun hc1 => ?_)
  · skip
    exact s_ret e_bl (.inl rfl)
  · skip
    refine s_cons (b_set (d := (eP eI (eT eI)) (m__law_family t1_draws ).1) 2 sc_law.nd rfl (.inl rfl) (.inl rfl) (Nat.le_of_ble_eq_true rfl) (.inl rfl) (e_callM 1 c__law_family hr (by decide) (by rfl) t1_draws rfl rfl rfl (.inr (.inl rfl)) ea_nil trivial) rfl) ?_
    refine s_let (a := (m__law_family t1_draws ).1) (fun v2_family : (Int × (List Int)) => [.v (scD v_script), oL eI (List.reverse (m__law_family t1_draws ).2), .v ((eP eI (eT eI)) v2_family), .no, .no, .no, .no, .no, .no, .no, .no, .no, .no, .no, .no, .no]) (fun (v : Bool) => Out.rt (eB v) []) _ (fun v2_family h_v2_family => ?_)
    refine s_cons (b_asg (e_var 2 rfl rfl (.inl rfl)) (tg_tup rfl (tgs_cons (tg_name 3 sc_law.nd rfl (.inr rfl) (Nat.le_of_ble_eq_true rfl) (.inl rfl) (.inl rfl)) (tgs_cons (tg_name 4 sc_law.nd rfl (.inl rfl) (Nat.le_of_ble_eq_true rfl) (.inl rfl) (.inl rfl)) tgs_nil)) rfl)) ?_
    refine s_cons (b_set (d := (eO eW) (m__law_trouble (v2_family).2)) 5 sc_law.nd rfl (.inl rfl) (.inl rfl) (Nat.le_of_ble_eq_true rfl) (.inl rfl) (e_call c__law_trouble hr (by decide) (by rfl) (v2_family).2 rfl (ea_cons (e_var 4 rfl rfl (.inl rfl)) ea_nil) trivial) rfl) ?_
    refine s_cons (b_set (d := (eO eW) (m_trouble_of (v2_family).2)) 6 sc_law.nd rfl (.inl rfl) (.inl rfl) (Nat.le_of_ble_eq_true rfl) (.inl rfl) (e_cast (by /- side 13: asked0 -/ have hf := family_ok t1_draws; rw [h_v2_family] at hf; exact asked0_eq hf.isf) (e_call c__law_asked_0 hr (by decide) (by rfl) ((0 : Int), v2_family, ()) rfl (ea_cons e_int (ea_cons (e_var 2 rfl rfl (.inl rfl)) (ea_cons e_non ea_nil))) (by /- side 12: pre of _law_asked_0 (0 : Int) v2_family () -/ show pre__law_asked_0 (0 : Int) v2_family (); have hf := family_ok t1_draws; rw [h_v2_family] at hf; exact ⟨.inl rfl, fun _ => hf.n5, by have := hf.len; omega⟩))) rfl) ?_
    refine s_if (fun (v : Bool) => Out.rt (eB v) []) (tw_t (t_or (t_notB (e_call c_is_family hr (by decide) (by rfl) v2_family rfl (ea_cons (e_var 2 rfl rfl (.inl rfl)) ea_nil) (by /- side 14: pre of is_family v2_family -/ show pre_is_family v2_family; have hf := family_ok t1_draws; rw [h_v2_family] at hf; exact Nat.le_trans hf.len (by decide))) e_bl) (fun hb1_0 => (t_or (t_neS (e_repr hgd hr (by /- side 16: Rp (eD (m__law_asked_0 (1 : Int) v2_family ())) -/ show Rp (m__law_asked_0 1 v2_family ()); rw [asked1_eq]; exact rp_bool _) (by rfl) T.b_repr (e_call c__law_asked_0 hr (by decide) (by rfl) ((1 : Int), v2_family, ()) rfl (ea_cons e_int (ea_cons (e_var 2 rfl rfl (.inl rfl)) (ea_cons e_non ea_nil))) (by /- side 15: pre of _law_asked_0 (1 : Int) v2_family () -/ show pre__law_asked_0 (1 : Int) v2_family (); have hf := family_ok t1_draws; rw [h_v2_family] at hf; exact ⟨.inr rfl, fun _ => hf.n5, by have := hf.len; omega⟩))) (e_repr hgd hr (by /- side 17: Rp (eB ((m__law_trouble (v2_family).2)).isNone) -/ exact rp_bool _) (by rfl) T.b_repr (e_isNO (f := eW) (fun _ => rfl) (e_var 5 rfl rfl (.inl rfl)) e_non))) (fun hb1_1 => (t_or (t_neB (e_isNO (f := eW) (fun _ => rfl) (e_var 6 rfl rfl (.inl rfl)) e_non) (e_isNO (f := eW) (fun _ => rfl) (e_var 5 rfl rfl (.inl rfl)) e_non)) (fun hb1_2 => (t_or1 (tw_t (t_and (t_notNO (f := eW) (fun _ => rfl) (e_var 6 rfl rfl (.inl rfl)) e_non) (fun hb2_0 => (t_and1 (t_not (t_val (e_call c__law_is_right hr (by decide) (by rfl) ((v2_family).2, (optD ((Str.ofString ""), []) (m_trouble_of (v2_family).2))) rfl (ea_cons (e_var 4 rfl rfl (.inl rfl)) (ea_cons (e_opt (f := eW) ((Str.ofString ""), []) (by /- side 18: ((m_trouble_of (v2_family).2)).isSome = true -/ exact isSome_of hb2_0) (e_var 6 rfl rfl (.inl rfl))) ea_nil)) (by /- side 19: pre of _law_is_right (v2_family).2 (optD ((Str.ofString ""), []) (m_trouble_of (v2_family).2)) -/ show pre__law_is_right (v2_family).2 (optD ((Str.ofString ""), []) (m_trouble_of (v2_family).2)); have hf := family_ok t1_draws; rw [h_v2_family] at hf; have he := trouble_eq hf.in32; have htold : ∀ t, m__law_trouble v2_family.2 = some t → ToldOk t := (fun t e => (trouble_told hf.in32 e).1); rw [he]; exact optD_ok htold ⟨by decide +kernel, fun x hx => by cases hx⟩)))))))))))))))) (fun hc2 => ?_) rfl (fun hc2 => ?_)
    · skip
      exact s_ret e_bl (.inl rfl)
    · skip
      refine s_cons (b_setLc (own := [("turn", 14)]) 7 rfl sc_law.nd rfl rfl (Nat.le_of_ble_eq_true rfl) (.inl rfl) (sw_true rfl rfl rfl (by decide +kernel)) (blkOk_by (by kernel_rfl)) (lc1s (f := eI) (a0 := (m__law_family t1_draws ).2) 14 1 (fun t => (List.reverse t).map eI) (fun (t1 : List Int) (x1_turn : Int) => (((m__law_next t1 ).1 % (m__law_power (v2_family).1)), (m__law_next t1 ).2)) eI sc_law.nd rfl (fun _ => ⟨.inl rfl, .inr rfl⟩) (Nat.le_of_ble_eq_true rfl) (.inl rfl) rfl rfl (it_range1 (n := (4 : Int)) (by rfl) T.b_range (ea_cons e_int ea_nil) (by decide)) (by /- side 20: ((rng 0 (4 : Int))).length ≤ 1000000 -/ decide) (fun x1_turn t1 hx1 => ce_all (fun _ => (e_mod (by /- side 22: 0 < (m__law_power (v2_family).1) -/ have hf := family_ok t1_draws; rw [h_v2_family] at hf; have := pow32 hf.n1 hf.n5; omega) (e_intI (by rfl) T.b_int (e_callM 1 c__law_next hr (by decide) (by rfl) t1 rfl rfl rfl (.inr (.inl rfl)) ea_nil trivial)) (e_call c__law_power hr (by decide) (by rfl) (v2_family).1 rfl (ea_cons (e_var 3 rfl rfl (.inr (.inl rfl))) ea_nil) (by /- side 21: pre of _law_power (v2_family).1 -/ show pre__law_power (v2_family).1; have hf := family_ok t1_draws; rw [h_v2_family] at hf; exact ⟨by have := hf.n1; omega, by have := hf.n5; omega⟩))))))) ?_
      refine s_thaw 7 rfl (.inl rfl) ?_
      refine s_let (a := (runT (fun (t1 : List Int) (x1_turn : Int) => (((m__law_next t1 ).1 % (m__law_power (v2_family).1)), (m__law_next t1 ).2)) (m__law_family t1_draws ).2 (rng 0 (4 : Int))).2) (fun t3_draws : List Int => [.v (scD v_script), oL eI (List.reverse t3_draws), .v ((eP eI (eT eI)) v2_family), .v (eI (v2_family).1), .v ((eT eI) (v2_family).2), .v ((eO eW) (m__law_trouble (v2_family).2)), .v ((eO eW) (m_trouble_of (v2_family).2)), .v ((eL eI) (runT (fun (t1 : List Int) (x1_turn : Int) => (((m__law_next t1 ).1 % (m__law_power (v2_family).1)), (m__law_next t1 ).2)) (m__law_family t1_draws ).2 (rng 0 (4 : Int))).1), .no, .no, .no, .no, .no, .no, .no, .no]) (fun (v : Bool) => Out.rt (eB v) []) _ (fun t3_draws h_t3_draws => ?_)
      refine s_let (a := (runT (fun (t1 : List Int) (x1_turn : Int) => (((m__law_next t1 ).1 % (m__law_power (v2_family).1)), (m__law_next t1 ).2)) (m__law_family t1_draws ).2 (rng 0 (4 : Int))).1) (fun v4_picks : (List Int) => [.v (scD v_script), oL eI (List.reverse t3_draws), .v ((eP eI (eT eI)) v2_family), .v (eI (v2_family).1), .v ((eT eI) (v2_family).2), .v ((eO eW) (m__law_trouble (v2_family).2)), .v ((eO eW) (m_trouble_of (v2_family).2)), .v ((eL eI) v4_picks), .no, .no, .no, .no, .no, .no, .no, .no]) (fun (v : Bool) => Out.rt (eB v) []) _ (fun v4_picks h_v4_picks => ?_)
      refine s_cons (b_set (d := (eL eW) [(optD (((Str.ofString "none"), []) : Str × List Int) (m_trouble_of (v2_family).2)), (optD (((Str.ofString "none"), []) : Str × List Int) (m__law_trouble (v2_family).2)), (((Str.ofString "none"), []) : Str × List Int), (((((Str.ofString "size"), []) : Str × List Int)).1, ((((Str.ofString "size"), []) : Str × List Int)).2 ++ (cut v4_picks none (some (2 : Int)))), (((((((Str.ofString "exchange"), []) : Str × List Int)).1, ((((Str.ofString "exchange"), []) : Str × List Int)).2 ++ (cut v4_picks none (some (2 : Int))))).1, ((((((Str.ofString "exchange"), []) : Str × List Int)).1, ((((Str.ofString "exchange"), []) : Str × List Int)).2 ++ (cut v4_picks none (some (2 : Int))))).2 ++ [((ati v4_picks (2 : Int) 0) % (v2_family).1)]), (((((Str.ofString "exchange"), []) : Str × List Int)).1, ((((Str.ofString "exchange"), []) : Str × List Int)).2 ++ (cut v4_picks none (some (2 : Int))))]) 8 sc_law.nd rfl (.inl rfl) (.inl rfl) (Nat.le_of_ble_eq_true rfl) (.inl rfl) (e_el (el_lst (ea_cons (e_orO (f := eW) (by /- side 23: TrO (m_trouble_of (v2_family).2) -/ intro u hu; exact ⟨trivial, rfl⟩) (e_var 6 rfl rfl (.inl rfl)) (fun hb3_0 => e_one (e_tup (ea_cons e_str ea_nil) (Nat.le_of_ble_eq_true rfl)))) (ea_cons (e_orO (f := eW) (by /- side 24: TrO (m__law_trouble (v2_family).2) -/ intro u hu; exact ⟨trivial, rfl⟩) (e_var 5 rfl rfl (.inl rfl)) (fun hb4_0 => e_one (e_tup (ea_cons e_str ea_nil) (Nat.le_of_ble_eq_true rfl)))) (ea_cons (e_tup (ea_cons e_str ea_nil) (Nat.le_of_ble_eq_true rfl)) (ea_cons (e_catW (by /- side 25: ((((Str.ofString "size"), []) : Str × List Int)).2.length + ((cut v4_picks none (some (2 : Int)))).length ≤ 100000 -/ have hf := family_ok t1_draws; rw [h_v2_family] at hf; have he := trouble_eq hf.in32; have htold : ∀ t, m__law_trouble v2_family.2 = some t → ToldOk t := (fun t e => (trouble_told hf.in32 e).1); have hpk := picks_ok (a := (m__law_family t1_draws).2) hf.n1 hf.n5; rw [h_v4_picks] at hpk; have := cut_len v4_picks none (some 2); show 0 + _ ≤ _; omega) (e_tup (ea_cons e_str ea_nil) (Nat.le_of_ble_eq_true rfl)) (e_tupL (by rfl) T.b_tuple (r_el (el_slLT (f := eI) (e_var 7 rfl rfl (.inl rfl)) eo_none (eo_some e_int))))) (ea_cons (e_catW (by /- side 29: ((((((Str.ofString "exchange"), []) : Str × List Int)).1, ((((Str.ofString "exchange"), []) : Str × List Int)).2 ++ (cut v4_picks none (some (2 : Int))))).2.length + ([((ati v4_picks (2 : Int) 0) % (v2_family).1)]).length ≤ 100000 -/ have hf := family_ok t1_draws; rw [h_v2_family] at hf; have he := trouble_eq hf.in32; have htold : ∀ t, m__law_trouble v2_family.2 = some t → ToldOk t := (fun t e => (trouble_told hf.in32 e).1); have hpk := picks_ok (a := (m__law_family t1_draws).2) hf.n1 hf.n5; rw [h_v4_picks] at hpk; have := cut_len v4_picks none (some 2); show ([] ++ cut v4_picks none (some 2)).length + 1 ≤ _; rw [List.nil_append]; omega) (e_catW (by /- side 26: ((((Str.ofString "exchange"), []) : Str × List Int)).2.length + ((cut v4_picks none (some (2 : Int)))).length ≤ 100000 -/ have hf := family_ok t1_draws; rw [h_v2_family] at hf; have he := trouble_eq hf.in32; have htold : ∀ t, m__law_trouble v2_family.2 = some t → ToldOk t := (fun t e => (trouble_told hf.in32 e).1); have hpk := picks_ok (a := (m__law_family t1_draws).2) hf.n1 hf.n5; rw [h_v4_picks] at hpk; have := cut_len v4_picks none (some 2); show 0 + _ ≤ _; omega) (e_tup (ea_cons e_str ea_nil) (Nat.le_of_ble_eq_true rfl)) (e_tupL (by rfl) T.b_tuple (r_el (el_slLT (f := eI) (e_var 7 rfl rfl (.inl rfl)) eo_none (eo_some e_int))))) (e_tup (ea_cons (e_mod (by /- side 28: 0 < (v2_family).1 -/ have hf := family_ok t1_draws; rw [h_v2_family] at hf; have := hf.n1; omega) (e_ixLT (f := eI) 0 (by /- side 27: InB (v4_picks).length (2 : Int) -/ have hf := family_ok t1_draws; rw [h_v2_family] at hf; have he := trouble_eq hf.in32; have htold : ∀ t, m__law_trouble v2_family.2 = some t → ToldOk t := (fun t e => (trouble_told hf.in32 e).1); have hpk := picks_ok (a := (m__law_family t1_draws).2) hf.n1 hf.n5; rw [h_v4_picks] at hpk; exact inB_of (by decide) (by omega)) (e_var 7 rfl rfl (.inl rfl)) e_int) (e_var 3 rfl rfl (.inr (.inl rfl)))) ea_nil) (Nat.le_of_ble_eq_true rfl))) (ea_cons (e_catW (by /- side 30: ((((Str.ofString "exchange"), []) : Str × List Int)).2.length + ((cut v4_picks none (some (2 : Int)))).length ≤ 100000 -/ have hf := family_ok t1_draws; rw [h_v2_family] at hf; have he := trouble_eq hf.in32; have htold : ∀ t, m__law_trouble v2_family.2 = some t → ToldOk t := (fun t e => (trouble_told hf.in32 e).1); have hpk := picks_ok (a := (m__law_family t1_draws).2) hf.n1 hf.n5; rw [h_v4_picks] at hpk; have := cut_len v4_picks none (some 2); show 0 + _ ≤ _; omega) (e_tup (ea_cons e_str ea_nil) (Nat.le_of_ble_eq_true rfl)) (e_tupL (by rfl) T.b_tuple (r_el (el_slLT (f := eI) (e_var 7 rfl rfl (.inl rfl)) eo_none (eo_some e_int))))) ea_nil)))))) (Nat.le_of_ble_eq_true rfl))) rfl) ?_
      refine s_let (a := [(optD (((Str.ofString "none"), []) : Str × List Int) (m_trouble_of (v2_family).2)), (optD (((Str.ofString "none"), []) : Str × List Int) (m__law_trouble (v2_family).2)), (((Str.ofString "none"), []) : Str × List Int), (((((Str.ofString "size"), []) : Str × List Int)).1, ((((Str.ofString "size"), []) : Str × List Int)).2 ++ (cut v4_picks none (some (2 : Int)))), (((((((Str.ofString "exchange"), []) : Str × List Int)).1, ((((Str.ofString "exchange"), []) : Str × List Int)).2 ++ (cut v4_picks none (some (2 : Int))))).1, ((((((Str.ofString "exchange"), []) : Str × List Int)).1, ((((Str.ofString "exchange"), []) : Str × List Int)).2 ++ (cut v4_picks none (some (2 : Int))))).2 ++ [((ati v4_picks (2 : Int) 0) % (v2_family).1)]), (((((Str.ofString "exchange"), []) : Str × List Int)).1, ((((Str.ofString "exchange"), []) : Str × List Int)).2 ++ (cut v4_picks none (some (2 : Int))))]) (fun v5_listed : (List (Str × List Int)) => [.v (scD v_script), oL eI (List.reverse t3_draws), .v ((eP eI (eT eI)) v2_family), .v (eI (v2_family).1), .v ((eT eI) (v2_family).2), .v ((eO eW) (m__law_trouble (v2_family).2)), .v ((eO eW) (m_trouble_of (v2_family).2)), .v ((eL eI) v4_picks), .v ((eL eW) v5_listed), .no, .no, .no, .no, .no, .no, .no]) (fun (v : Bool) => Out.rt (eB v) []) _ (fun v5_listed h_v5_listed => ?_)
      refine s_cons (b_set (d := (eL eW) (v5_listed ++ [(((((Str.ofString "size"), []) : Str × List Int)).1, ((((Str.ofString "size"), []) : Str × List Int)).2 ++ (cut v4_picks none (some (3 : Int)))), (((((Str.ofString "x"), []) : Str × List Int)).1, ((((Str.ofString "x"), []) : Str × List Int)).2 ++ (cut v4_picks none (some (2 : Int)))), (((Str.ofString "none"), [(1 : Int)]) : Str × List Int), (((Str.ofString "exchange"), [(ati v4_picks (0 : Int) 0), (ati v4_picks (1 : Int) 0), (-(1 : Int))]) : Str × List Int)])) 8 sc_law.nd rfl (.inl rfl) (.inl rfl) (Nat.le_of_ble_eq_true rfl) (.inl rfl) (e_el (el_catT (f := eW) (by /- side 35: (v5_listed).length + ([(((((Str.ofString "size"), []) : Str × List Int)).1, ((((Str.ofString "size"), []) : Str × List Int)).2 ++ (cut v4_picks none (some (3 : Int)))), (((((Str.ofString "x"), []) : Str × List Int)).1, ((((Str.ofString "x"), []) : Str × List Int)).2 ++ (cut v4_picks none (some (2 : Int)))), (((Str.ofString "none"), [(1 : Int)]) : Str × List Int), (((Str.ofString "exchange"), [(ati v4_picks (0 : Int) 0), (ati v4_picks (1 : Int) 0), (-(1 : Int))]) : Str × List Int)]).length ≤ 1000000 -/ rw [← h_v5_listed]; exact Nat.le_of_ble_eq_true rfl) (e_var 8 rfl rfl (.inl rfl)) (r_el (el_lst (ea_cons (e_catW (by /- side 31: ((((Str.ofString "size"), []) : Str × List Int)).2.length + ((cut v4_picks none (some (3 : Int)))).length ≤ 100000 -/ have hf := family_ok t1_draws; rw [h_v2_family] at hf; have he := trouble_eq hf.in32; have htold : ∀ t, m__law_trouble v2_family.2 = some t → ToldOk t := (fun t e => (trouble_told hf.in32 e).1); have hpk := picks_ok (a := (m__law_family t1_draws).2) hf.n1 hf.n5; rw [h_v4_picks] at hpk; have := cut_len v4_picks none (some 3); show 0 + _ ≤ _; omega) (e_tup (ea_cons e_str ea_nil) (Nat.le_of_ble_eq_true rfl)) (e_tupL (by rfl) T.b_tuple (r_el (el_slLT (f := eI) (e_var 7 rfl rfl (.inl rfl)) eo_none (eo_some e_int))))) (ea_cons (e_catW (by /- side 32: ((((Str.ofString "x"), []) : Str × List Int)).2.length + ((cut v4_picks none (some (2 : Int)))).length ≤ 100000 -/ have hf := family_ok t1_draws; rw [h_v2_family] at hf; have he := trouble_eq hf.in32; have htold : ∀ t, m__law_trouble v2_family.2 = some t → ToldOk t := (fun t e => (trouble_told hf.in32 e).1); have hpk := picks_ok (a := (m__law_family t1_draws).2) hf.n1 hf.n5; rw [h_v4_picks] at hpk; have := cut_len v4_picks none (some 2); show 0 + _ ≤ _; omega) (e_tup (ea_cons e_str ea_nil) (Nat.le_of_ble_eq_true rfl)) (e_tupL (by rfl) T.b_tuple (r_el (el_slLT (f := eI) (e_var 7 rfl rfl (.inl rfl)) eo_none (eo_some e_int))))) (ea_cons (e_tup (ea_cons e_str (ea_cons e_int ea_nil)) (Nat.le_of_ble_eq_true rfl)) (ea_cons (e_tup (ea_cons e_str (ea_cons (e_ixLT (f := eI) 0 (by /- side 33: InB (v4_picks).length (0 : Int) -/ have hf := family_ok t1_draws; rw [h_v2_family] at hf; have he := trouble_eq hf.in32; have htold : ∀ t, m__law_trouble v2_family.2 = some t → ToldOk t := (fun t e => (trouble_told hf.in32 e).1); have hpk := picks_ok (a := (m__law_family t1_draws).2) hf.n1 hf.n5; rw [h_v4_picks] at hpk; exact inB_of (by decide) (by omega)) (e_var 7 rfl rfl (.inl rfl)) e_int) (ea_cons (e_ixLT (f := eI) 0 (by /- side 34: InB (v4_picks).length (1 : Int) -/ have hf := family_ok t1_draws; rw [h_v2_family] at hf; have he := trouble_eq hf.in32; have htold : ∀ t, m__law_trouble v2_family.2 = some t → ToldOk t := (fun t e => (trouble_told hf.in32 e).1); have hpk := picks_ok (a := (m__law_family t1_draws).2) hf.n1 hf.n5; rw [h_v4_picks] at hpk; exact inB_of (by decide) (by omega)) (e_var 7 rfl rfl (.inl rfl)) e_int) (ea_cons (e_neg e_int) ea_nil)))) (Nat.le_of_ble_eq_true rfl)) ea_nil)))) (Nat.le_of_ble_eq_true rfl))))) rfl) ?_
      refine s_let (a := (v5_listed ++ [(((((Str.ofString "size"), []) : Str × List Int)).1, ((((Str.ofString "size"), []) : Str × List Int)).2 ++ (cut v4_picks none (some (3 : Int)))), (((((Str.ofString "x"), []) : Str × List Int)).1, ((((Str.ofString "x"), []) : Str × List Int)).2 ++ (cut v4_picks none (some (2 : Int)))), (((Str.ofString "none"), [(1 : Int)]) : Str × List Int), (((Str.ofString "exchange"), [(ati v4_picks (0 : Int) 0), (ati v4_picks (1 : Int) 0), (-(1 : Int))]) : Str × List Int)])) (fun v6_listed : (List (Str × List Int)) => [.v (scD v_script), oL eI (List.reverse t3_draws), .v ((eP eI (eT eI)) v2_family), .v (eI (v2_family).1), .v ((eT eI) (v2_family).2), .v ((eO eW) (m__law_trouble (v2_family).2)), .v ((eO eW) (m_trouble_of (v2_family).2)), .v ((eL eI) v4_picks), .v ((eL eW) v6_listed), .no, .no, .no, .no, .no, .no, .no]) (fun (v : Bool) => Out.rt (eB v) []) _ (fun v6_listed h_v6_listed => ?_)
      refine s_loop (fun (v : Bool) => Out.rt (eB v) []) _ (fun c : Bool => c) (b_for (f := eW) (a0 := ()) (fun (s1 : Unit) (x1_toldl : (Str × List Int)) => ((if (!(decide ((PyData.shown (eD (m__law_asked_2 (2 : Int) v2_family x1_toldl))) = (PyData.shown (eB (m__law_is_right (v2_family).2 x1_toldl)))))) then (Lp.ret false) else (Lp.go ())) : Lp (Unit) Bool)) (fun (s1 : Unit) => [.v (scD v_script), oL eI (List.reverse t3_draws), .v ((eP eI (eT eI)) v2_family), .v (eI (v2_family).1), .v ((eT eI) (v2_family).2), .v ((eO eW) (m__law_trouble (v2_family).2)), .v ((eO eW) (m_trouble_of (v2_family).2)), .v ((eL eI) v4_picks), .v ((eL eW) v6_listed), .no, .no, .no, .no, .no, .no, .no]) (fun (v : Bool) => Out.rt (eB v) []) (fun (s1 : Unit) (x1_toldl : (Str × List Int)) => [.v (scD v_script), oL eI (List.reverse t3_draws), .v ((eP eI (eT eI)) v2_family), .v (eI (v2_family).1), .v ((eT eI) (v2_family).2), .v ((eO eW) (m__law_trouble (v2_family).2)), .v ((eO eW) (m_trouble_of (v2_family).2)), .v ((eL eI) v4_picks), .v ((eL eW) v6_listed), .v (eW x1_toldl), .no, .no, .no, .no, .no, .no]) [9] (fun _ _ => True) (trivial) (fun _ _ _ _ _ _ _ => trivial) PassesOwn.never rfl (fun _ => rfl) (it_list (e_var 8 rfl rfl (.inl rfl))) (fun gs x1_toldl s1 hx => (tg_name 9 sc_law.nd rfl (.inl rfl) (Nat.le_of_ble_eq_true rfl) (.inl rfl) (.inl rfl))) (fun gs i1 x1_toldl s1 li1 lx1 lP1 => ?_)) (fun _ => rfl) (fun _ => rfl) (fun s1 hrun => ?_)
      · skip
        refine s_if (lpO (fun (s1 : Unit) => [.v (scD v_script), oL eI (List.reverse t3_draws), .v ((eP eI (eT eI)) v2_family), .v (eI (v2_family).1), .v ((eT eI) (v2_family).2), .v ((eO eW) (m__law_trouble (v2_family).2)), .v ((eO eW) (m_trouble_of (v2_family).2)), .v ((eL eI) v4_picks), .v ((eL eW) v6_listed), .no, .no, .no, .no, .no, .no, .no]) (fun (v : Bool) => Out.rt (eB v) [])) (t_neS (e_repr hgd hr (by /- side 37: Rp (eD (m__law_asked_2 (2 : Int) v2_family x1_toldl)) -/ have hf := family_ok t1_draws; rw [h_v2_family] at hf; have he := trouble_eq hf.in32; have htold : ∀ t, m__law_trouble v2_family.2 = some t → ToldOk t := (fun t e => (trouble_told hf.in32 e).1); have hpk := picks_ok (a := (m__law_family t1_draws).2) hf.n1 hf.n5; rw [h_v4_picks] at hpk; have hl : ∀ t ∈ v6_listed, ToldOk t := (by rw [← h_v6_listed, ← h_v5_listed]; exact listed_ok (by rw [he]; exact htold) htold hpk.1 hpk.2 ⟨hf.n1, hf.n5⟩); show Rp (m__law_asked_2 2 v2_family x1_toldl); rw [asked2_eq hf (hl _ lx1)]; exact rp_bool _) (by rfl) T.b_repr (e_call c__law_asked_2 hr (by decide) (by rfl) ((2 : Int), v2_family, x1_toldl) rfl (ea_cons e_int (ea_cons (e_var 2 rfl rfl (.inl rfl)) (ea_cons (e_var 9 rfl rfl (.inl rfl)) ea_nil))) (by /- side 36: pre of _law_asked_2 (2 : Int) v2_family x1_toldl -/ show pre__law_asked_2 (2 : Int) v2_family x1_toldl; have hf := family_ok t1_draws; rw [h_v2_family] at hf; have he := trouble_eq hf.in32; have htold : ∀ t, m__law_trouble v2_family.2 = some t → ToldOk t := (fun t e => (trouble_told hf.in32 e).1); have hpk := picks_ok (a := (m__law_family t1_draws).2) hf.n1 hf.n5; rw [h_v4_picks] at hpk; have hl : ∀ t ∈ v6_listed, ToldOk t := (by rw [← h_v6_listed, ← h_v5_listed]; exact listed_ok (by rw [he]; exact htold) htold hpk.1 hpk.2 ⟨hf.n1, hf.n5⟩); exact ⟨.inr rfl, fun _ => hf.n5, by have := hf.len; omega, (hl _ lx1).1⟩))) (e_repr hgd hr (by /- side 39: Rp (eB (m__law_is_right (v2_family).2 x1_toldl)) -/ exact rp_bool _) (by rfl) T.b_repr (e_call c__law_is_right hr (by decide) (by rfl) ((v2_family).2, x1_toldl) rfl (ea_cons (e_var 4 rfl rfl (.inl rfl)) (ea_cons (e_var 9 rfl rfl (.inl rfl)) ea_nil)) (by /- side 38: pre of _law_is_right (v2_family).2 x1_toldl -/ show pre__law_is_right (v2_family).2 x1_toldl; have hf := family_ok t1_draws; rw [h_v2_family] at hf; have he := trouble_eq hf.in32; have htold : ∀ t, m__law_trouble v2_family.2 = some t → ToldOk t := (fun t e => (trouble_told hf.in32 e).1); have hpk := picks_ok (a := (m__law_family t1_draws).2) hf.n1 hf.n5; rw [h_v4_picks] at hpk; have hl : ∀ t ∈ v6_listed, ToldOk t := (by rw [← h_v6_listed, ← h_v5_listed]; exact listed_ok (by rw [he]; exact htold) htold hpk.1 hpk.2 ⟨hf.n1, hf.n5⟩); exact hl _ lx1)))) (fun hc3 => ?_) rfl (fun hc3 => ?_)
        · skip
          exact s_ret e_bl (.inl rfl)
        · skip
          exact s_nilLW ⟨.inl rfl, .inl rfl, .inl rfl, .inl rfl, .inl rfl, .inl rfl, .inl rfl, .inl rfl, .inl rfl, .inr rfl, .inl rfl, .inl rfl, .inl rfl, .inl rfl, .inl rfl, .inl rfl, trivial⟩ (.inl rfl)
      · skip
        refine s_loop (fun (v : Bool) => Out.rt (eB v) []) _ (fun c : Bool => c) (b_for (f := eI) (a0 := ()) (fun (s2 : Unit) (x2_onel : Int) => ((lpK (runL (fun (s3 : Unit) (x3_otherl : Int) => ((lpK (runL (fun (s4 : Unit) (x4_thingl : Int) => ((if (!(decide ((PyData.shown (eD (m__law_asked_2 (2 : Int) v2_family (((Str.ofString "exchange"), [x2_onel, x3_otherl, x4_thingl]) : Str × List Int)))) = (PyData.shown (eB (m__law_is_right (v2_family).2 (((Str.ofString "exchange"), [x2_onel, x3_otherl, x4_thingl]) : Str × List Int))))))) then (Lp.ret false) else (Lp.go ())) : Lp (Unit) Bool)) () (rng 0 (v2_family).1)) (fun (s4 : Unit) => (Lp.go ())) (fun c => (Lp.ret c))) : Lp (Unit) Bool)) () (cut (v2_family).2 (some (-(3 : Int))) none)) (fun (s3 : Unit) => (Lp.go ())) (fun c => (Lp.ret c))) : Lp (Unit) Bool)) (fun (s2 : Unit) => [.v (scD v_script), oL eI (List.reverse t3_draws), .v ((eP eI (eT eI)) v2_family), .v (eI (v2_family).1), .v ((eT eI) (v2_family).2), .v ((eO eW) (m__law_trouble (v2_family).2)), .v ((eO eW) (m_trouble_of (v2_family).2)), .v ((eL eI) v4_picks), .v ((eL eW) v6_listed), .no, .no, .no, .no, .no, .no, .no]) (fun (v : Bool) => Out.rt (eB v) []) (fun (s2 : Unit) (x2_onel : Int) => [.v (scD v_script), oL eI (List.reverse t3_draws), .v ((eP eI (eT eI)) v2_family), .v (eI (v2_family).1), .v ((eT eI) (v2_family).2), .v ((eO eW) (m__law_trouble (v2_family).2)), .v ((eO eW) (m_trouble_of (v2_family).2)), .v ((eL eI) v4_picks), .v ((eL eW) v6_listed), .no, .v (eI x2_onel), .no, .no, .no, .no, .no]) [10] (fun _ _ => True) (trivial) (fun _ _ _ _ _ _ _ => trivial) PassesOwn.never rfl (fun _ => rfl) (it_tup (e_slTT (f := eI) (e_var 4 rfl rfl (.inl rfl)) eo_none (eo_some e_int))) (fun gs x2_onel s2 hx => (tg_name 10 sc_law.nd rfl (.inl rfl) (Nat.le_of_ble_eq_true rfl) (.inl rfl) (.inl rfl))) (fun gs i2 x2_onel s2 li2 lx2 lP2 => ?_)) (fun _ => rfl) (fun _ => rfl) (fun s2 hrun => ?_)
        · skip
          refine s_loop (lpO (fun (s2 : Unit) => [.v (scD v_script), oL eI (List.reverse t3_draws), .v ((eP eI (eT eI)) v2_family), .v (eI (v2_family).1), .v ((eT eI) (v2_family).2), .v ((eO eW) (m__law_trouble (v2_family).2)), .v ((eO eW) (m_trouble_of (v2_family).2)), .v ((eL eI) v4_picks), .v ((eL eW) v6_listed), .no, .no, .no, .no, .no, .no, .no]) (fun (v : Bool) => Out.rt (eB v) [])) _ (fun c : Bool => (Lp.ret c)) (b_for (f := eI) (a0 := ()) (fun (s3 : Unit) (x3_otherl : Int) => ((lpK (runL (fun (s4 : Unit) (x4_thingl : Int) => ((if (!(decide ((PyData.shown (eD (m__law_asked_2 (2 : Int) v2_family (((Str.ofString "exchange"), [x2_onel, x3_otherl, x4_thingl]) : Str × List Int)))) = (PyData.shown (eB (m__law_is_right (v2_family).2 (((Str.ofString "exchange"), [x2_onel, x3_otherl, x4_thingl]) : Str × List Int))))))) then (Lp.ret false) else (Lp.go ())) : Lp (Unit) Bool)) () (rng 0 (v2_family).1)) (fun (s4 : Unit) => (Lp.go ())) (fun c => (Lp.ret c))) : Lp (Unit) Bool)) (fun (s3 : Unit) => [.v (scD v_script), oL eI (List.reverse t3_draws), .v ((eP eI (eT eI)) v2_family), .v (eI (v2_family).1), .v ((eT eI) (v2_family).2), .v ((eO eW) (m__law_trouble (v2_family).2)), .v ((eO eW) (m_trouble_of (v2_family).2)), .v ((eL eI) v4_picks), .v ((eL eW) v6_listed), .no, .v (eI x2_onel), .no, .no, .no, .no, .no]) (fun (v : Bool) => Out.rt (eB v) []) (fun (s3 : Unit) (x3_otherl : Int) => [.v (scD v_script), oL eI (List.reverse t3_draws), .v ((eP eI (eT eI)) v2_family), .v (eI (v2_family).1), .v ((eT eI) (v2_family).2), .v ((eO eW) (m__law_trouble (v2_family).2)), .v ((eO eW) (m_trouble_of (v2_family).2)), .v ((eL eI) v4_picks), .v ((eL eW) v6_listed), .no, .v (eI x2_onel), .v (eI x3_otherl), .no, .no, .no, .no]) [11] (fun _ _ => True) (trivial) (fun _ _ _ _ _ _ _ => trivial) PassesOwn.never rfl (fun _ => rfl) (it_tup (e_slTT (f := eI) (e_var 4 rfl rfl (.inl rfl)) (eo_some (e_neg e_int)) eo_none)) (fun gs x3_otherl s3 hx => (tg_name 11 sc_law.nd rfl (.inl rfl) (Nat.le_of_ble_eq_true rfl) (.inl rfl) (.inl rfl))) (fun gs i3 x3_otherl s3 li3 lx3 lP3 => ?_)) (fun _ => rfl) (fun _ => rfl) (fun s3 hrun => ?_)
          · skip
            refine s_loop (lpO (fun (s3 : Unit) => [.v (scD v_script), oL eI (List.reverse t3_draws), .v ((eP eI (eT eI)) v2_family), .v (eI (v2_family).1), .v ((eT eI) (v2_family).2), .v ((eO eW) (m__law_trouble (v2_family).2)), .v ((eO eW) (m_trouble_of (v2_family).2)), .v ((eL eI) v4_picks), .v ((eL eW) v6_listed), .no, .v (eI x2_onel), .no, .no, .no, .no, .no]) (fun (v : Bool) => Out.rt (eB v) [])) _ (fun c : Bool => (Lp.ret c)) (b_for (f := eI) (a0 := ()) (fun (s4 : Unit) (x4_thingl : Int) => ((if (!(decide ((PyData.shown (eD (m__law_asked_2 (2 : Int) v2_family (((Str.ofString "exchange"), [x2_onel, x3_otherl, x4_thingl]) : Str × List Int)))) = (PyData.shown (eB (m__law_is_right (v2_family).2 (((Str.ofString "exchange"), [x2_onel, x3_otherl, x4_thingl]) : Str × List Int))))))) then (Lp.ret false) else (Lp.go ())) : Lp (Unit) Bool)) (fun (s4 : Unit) => [.v (scD v_script), oL eI (List.reverse t3_draws), .v ((eP eI (eT eI)) v2_family), .v (eI (v2_family).1), .v ((eT eI) (v2_family).2), .v ((eO eW) (m__law_trouble (v2_family).2)), .v ((eO eW) (m_trouble_of (v2_family).2)), .v ((eL eI) v4_picks), .v ((eL eW) v6_listed), .no, .v (eI x2_onel), .v (eI x3_otherl), .no, .no, .no, .no]) (fun (v : Bool) => Out.rt (eB v) []) (fun (s4 : Unit) (x4_thingl : Int) => [.v (scD v_script), oL eI (List.reverse t3_draws), .v ((eP eI (eT eI)) v2_family), .v (eI (v2_family).1), .v ((eT eI) (v2_family).2), .v ((eO eW) (m__law_trouble (v2_family).2)), .v ((eO eW) (m_trouble_of (v2_family).2)), .v ((eL eI) v4_picks), .v ((eL eW) v6_listed), .no, .v (eI x2_onel), .v (eI x3_otherl), .v (eI x4_thingl), .no, .no, .no]) [12] (fun _ _ => True) (trivial) (fun _ _ _ _ _ _ _ => trivial) PassesOwn.never rfl (fun _ => rfl) (it_range1 (n := (v2_family).1) (by rfl) T.b_range (ea_cons (e_var 3 rfl rfl (.inr (.inl rfl))) ea_nil) (by /- side 40: bound of range (v2_family).1 -/ have hf := family_ok t1_draws; rw [h_v2_family] at hf; have := hf.n1; have := hf.n5; omega)) (fun gs x4_thingl s4 hx => (tg_name 12 sc_law.nd rfl (.inl rfl) (Nat.le_of_ble_eq_true rfl) (.inl rfl) (.inl rfl))) (fun gs i4 x4_thingl s4 li4 lx4 lP4 => ?_)) (fun _ => rfl) (fun _ => rfl) (fun s4 hrun => ?_)
            · skip
              refine s_if (lpO (fun (s4 : Unit) => [.v (scD v_script), oL eI (List.reverse t3_draws), .v ((eP eI (eT eI)) v2_family), .v (eI (v2_family).1), .v ((eT eI) (v2_family).2), .v ((eO eW) (m__law_trouble (v2_family).2)), .v ((eO eW) (m_trouble_of (v2_family).2)), .v ((eL eI) v4_picks), .v ((eL eW) v6_listed), .no, .v (eI x2_onel), .v (eI x3_otherl), .no, .no, .no, .no]) (fun (v : Bool) => Out.rt (eB v) [])) (t_neS (e_repr hgd hr (by /- side 42: Rp (eD (m__law_asked_2 (2 : Int) v2_family (((Str.ofString "exchange"), [x2_onel, x3_otherl, x4_thingl]) : Str × List Int))) -/ have hf := family_ok t1_draws; rw [h_v2_family] at hf; have ht : ToldOk ((Str.ofString "exchange"), [x2_onel, x3_otherl, x4_thingl]) := exch_told hf (cut_mem lx2) (cut_mem lx3) (rng_mem lx4); show Rp (m__law_asked_2 2 v2_family ((Str.ofString "exchange"), [x2_onel, x3_otherl, x4_thingl])); rw [asked2_eq hf ht]; exact rp_bool _) (by rfl) T.b_repr (e_call c__law_asked_2 hr (by decide) (by rfl) ((2 : Int), v2_family, (((Str.ofString "exchange"), [x2_onel, x3_otherl, x4_thingl]) : Str × List Int)) rfl (ea_cons e_int (ea_cons (e_var 2 rfl rfl (.inl rfl)) (ea_cons (e_tup (ea_cons e_str (ea_cons (e_var 10 rfl rfl (.inl rfl)) (ea_cons (e_var 11 rfl rfl (.inl rfl)) (ea_cons (e_var 12 rfl rfl (.inl rfl)) ea_nil)))) (Nat.le_of_ble_eq_true rfl)) ea_nil))) (by /- side 41: pre of _law_asked_2 (2 : Int) v2_family (((Str.ofString "exchange"), [x2_onel, x3_otherl, x4_thingl]) : Str × List Int) -/ show pre__law_asked_2 (2 : Int) v2_family (((Str.ofString "exchange"), [x2_onel, x3_otherl, x4_thingl]) : Str × List Int); have hf := family_ok t1_draws; rw [h_v2_family] at hf; have ht : ToldOk ((Str.ofString "exchange"), [x2_onel, x3_otherl, x4_thingl]) := exch_told hf (cut_mem lx2) (cut_mem lx3) (rng_mem lx4); exact ⟨.inr rfl, fun _ => hf.n5, by have := hf.len; omega, ht.1⟩))) (e_repr hgd hr (by /- side 44: Rp (eB (m__law_is_right (v2_family).2 (((Str.ofString "exchange"), [x2_onel, x3_otherl, x4_thingl]) : Str × List Int))) -/ exact rp_bool _) (by rfl) T.b_repr (e_call c__law_is_right hr (by decide) (by rfl) ((v2_family).2, (((Str.ofString "exchange"), [x2_onel, x3_otherl, x4_thingl]) : Str × List Int)) rfl (ea_cons (e_var 4 rfl rfl (.inl rfl)) (ea_cons (e_tup (ea_cons e_str (ea_cons (e_var 10 rfl rfl (.inl rfl)) (ea_cons (e_var 11 rfl rfl (.inl rfl)) (ea_cons (e_var 12 rfl rfl (.inl rfl)) ea_nil)))) (Nat.le_of_ble_eq_true rfl)) ea_nil)) (by /- side 43: pre of _law_is_right (v2_family).2 (((Str.ofString "exchange"), [x2_onel, x3_otherl, x4_thingl]) : Str × List Int) -/ show pre__law_is_right (v2_family).2 (((Str.ofString "exchange"), [x2_onel, x3_otherl, x4_thingl]) : Str × List Int); have hf := family_ok t1_draws; rw [h_v2_family] at hf; have ht : ToldOk ((Str.ofString "exchange"), [x2_onel, x3_otherl, x4_thingl]) := exch_told hf (cut_mem lx2) (cut_mem lx3) (rng_mem lx4); exact ht)))) (fun hc4 => ?_) rfl (fun hc4 => ?_)
              · skip
                exact s_ret e_bl (.inl rfl)
              · skip
                exact s_nilLW ⟨.inl rfl, .inl rfl, .inl rfl, .inl rfl, .inl rfl, .inl rfl, .inl rfl, .inl rfl, .inl rfl, .inl rfl, .inl rfl, .inl rfl, .inr rfl, .inl rfl, .inl rfl, .inl rfl, trivial⟩ (.inl rfl)
            · skip
              exact s_nilLW ⟨.inl rfl, .inl rfl, .inl rfl, .inl rfl, .inl rfl, .inl rfl, .inl rfl, .inl rfl, .inl rfl, .inl rfl, .inl rfl, .inr rfl, .inl rfl, .inl rfl, .inl rfl, .inl rfl, trivial⟩ (.inl rfl)
          · skip
            exact s_nilLW ⟨.inl rfl, .inl rfl, .inl rfl, .inl rfl, .inl rfl, .inl rfl, .inl rfl, .inl rfl, .inl rfl, .inl rfl, .inr rfl, .inl rfl, .inl rfl, .inl rfl, .inl rfl, .inl rfl, trivial⟩ (.inl rfl)
        · skip
          refine s_cons (b_set (d := (eL (eP eI (eT eI))) [((0 : Int), [(0 : Int)]), ((10 : Int), [(0 : Int)]), ((v2_family).1, [(m__law_power (v2_family).1)]), ((v2_family).1, [(-(1 : Int))]), ((2 : Int), [(1 : Int), (1 : Int)]), ((2 : Int), [(2 : Int), (1 : Int)])]) 13 sc_law.nd rfl (.inl rfl) (.inl rfl) (Nat.le_of_ble_eq_true rfl) (.inl rfl) (e_el (el_lst (ea_cons (e_tup (ea_cons e_int (ea_cons (e_tup (ea_cons e_int ea_nil) (Nat.le_of_ble_eq_true rfl)) ea_nil)) (Nat.le_of_ble_eq_true rfl)) (ea_cons (e_tup (ea_cons e_int (ea_cons (e_tup (ea_cons e_int ea_nil) (Nat.le_of_ble_eq_true rfl)) ea_nil)) (Nat.le_of_ble_eq_true rfl)) (ea_cons (e_tup (ea_cons (e_var 3 rfl rfl (.inr (.inl rfl))) (ea_cons (e_tup (ea_cons (e_call c__law_power hr (by decide) (by rfl) (v2_family).1 rfl (ea_cons (e_var 3 rfl rfl (.inr (.inl rfl))) ea_nil) (by /- side 45: pre of _law_power (v2_family).1 -/ show pre__law_power (v2_family).1; have hf := family_ok t1_draws; rw [h_v2_family] at hf; exact ⟨by have := hf.n1; omega, by have := hf.n5; omega⟩)) ea_nil) (Nat.le_of_ble_eq_true rfl)) ea_nil)) (Nat.le_of_ble_eq_true rfl)) (ea_cons (e_tup (ea_cons (e_var 3 rfl rfl (.inr (.inl rfl))) (ea_cons (e_tup (ea_cons (e_neg e_int) ea_nil) (Nat.le_of_ble_eq_true rfl)) ea_nil)) (Nat.le_of_ble_eq_true rfl)) (ea_cons (e_tup (ea_cons e_int (ea_cons (e_tup (ea_cons e_int (ea_cons e_int ea_nil)) (Nat.le_of_ble_eq_true rfl)) ea_nil)) (Nat.le_of_ble_eq_true rfl)) (ea_cons (e_tup (ea_cons e_int (ea_cons (e_tup (ea_cons e_int (ea_cons e_int ea_nil)) (Nat.le_of_ble_eq_true rfl)) ea_nil)) (Nat.le_of_ble_eq_true rfl)) ea_nil)))))) (Nat.le_of_ble_eq_true rfl))) rfl) ?_
          refine s_let (a := [((0 : Int), [(0 : Int)]), ((10 : Int), [(0 : Int)]), ((v2_family).1, [(m__law_power (v2_family).1)]), ((v2_family).1, [(-(1 : Int))]), ((2 : Int), [(1 : Int), (1 : Int)]), ((2 : Int), [(2 : Int), (1 : Int)])]) (fun v7_wrong : (List (Int × (List Int))) => [.v (scD v_script), oL eI (List.reverse t3_draws), .v ((eP eI (eT eI)) v2_family), .v (eI (v2_family).1), .v ((eT eI) (v2_family).2), .v ((eO eW) (m__law_trouble (v2_family).2)), .v ((eO eW) (m_trouble_of (v2_family).2)), .v ((eL eI) v4_picks), .v ((eL eW) v6_listed), .no, .no, .no, .no, .v ((eL (eP eI (eT eI))) v7_wrong), .no, .no]) (fun (v : Bool) => Out.rt (eB v) []) _ (fun v7_wrong h_v7_wrong => ?_)
          refine s_cons (b_set (d := (eL eB) ((v7_wrong.map fun x2_one => (m_is_family x2_one)) ++ (v7_wrong.map fun x3_one => (m_is_matroid x3_one)))) 9 sc_law.nd rfl (.inl rfl) (.inl rfl) (Nat.le_of_ble_eq_true rfl) (.inl rfl) (e_el (el_catT (f := eB) (by /- side 50: ((v7_wrong.map fun x2_one => (m_is_family x2_one))).length + ((v7_wrong.map fun x3_one => (m_is_matroid x3_one))).length ≤ 1000000 -/ have hf := family_ok t1_draws; rw [h_v2_family] at hf; have hw : ∀ w ∈ v7_wrong, m_is_family w = false ∧ w.2.length ≤ 2 := (by rw [← h_v7_wrong]; exact wrong_ok hf.n1 hf.n5); have h6 : v7_wrong.length = 6 := (by rw [← h_v7_wrong]; rfl); rw [List.length_map, List.length_map]; omega) (e_el (el_lc (own := [("one", 10)]) rfl sc_law.nd (blkOk_by (by kernel_rfl)) (lc1m (f := (eP eI (eT eI))) 10 (fun x2_one => (m_is_family x2_one)) eB sc_law.nd rfl (fun _ => ⟨.inl rfl, .inr rfl⟩) (Nat.le_of_ble_eq_true rfl) (.inl rfl) rfl (it_list (e_var 13 rfl rfl (.inl rfl))) (by /- side 46: (v7_wrong).length ≤ 1000000 -/ have hf := family_ok t1_draws; rw [h_v2_family] at hf; have hw : ∀ w ∈ v7_wrong, m_is_family w = false ∧ w.2.length ≤ 2 := (by rw [← h_v7_wrong]; exact wrong_ok hf.n1 hf.n5); have h6 : v7_wrong.length = 6 := (by rw [← h_v7_wrong]; rfl); omega) (fun x2_one hx2 => ce_all (fun _ => (e_call c_is_family hr (by decide) (by rfl) x2_one rfl (ea_cons (e_var 10 rfl rfl (.inl rfl)) ea_nil) (by /- side 47: pre of is_family x2_one -/ show pre_is_family x2_one; have hf := family_ok t1_draws; rw [h_v2_family] at hf; have hw : ∀ w ∈ v7_wrong, m_is_family w = false ∧ w.2.length ≤ 2 := (by rw [← h_v7_wrong]; exact wrong_ok hf.n1 hf.n5); have h6 : v7_wrong.length = 6 := (by rw [← h_v7_wrong]; rfl); exact Nat.le_trans (hw _ hx2).2 (by decide)))))))) (r_el (el_lc (own := [("one", 10)]) rfl sc_law.nd (blkOk_by (by kernel_rfl)) (lc1m (f := (eP eI (eT eI))) 10 (fun x3_one => (m_is_matroid x3_one)) eB sc_law.nd rfl (fun _ => ⟨.inl rfl, .inr rfl⟩) (Nat.le_of_ble_eq_true rfl) (.inl rfl) rfl (it_list (e_var 13 rfl rfl (.inl rfl))) (by /- side 48: (v7_wrong).length ≤ 1000000 -/ have hf := family_ok t1_draws; rw [h_v2_family] at hf; have hw : ∀ w ∈ v7_wrong, m_is_family w = false ∧ w.2.length ≤ 2 := (by rw [← h_v7_wrong]; exact wrong_ok hf.n1 hf.n5); have h6 : v7_wrong.length = 6 := (by rw [← h_v7_wrong]; rfl); omega) (fun x3_one hx3 => ce_all (fun _ => (e_call c_is_matroid hr (by decide) (by rfl) x3_one rfl (ea_cons (e_var 10 rfl rfl (.inl rfl)) ea_nil) (by /- side 49: pre of is_matroid x3_one -/ show pre_is_matroid x3_one; have hf := family_ok t1_draws; rw [h_v2_family] at hf; have hw : ∀ w ∈ v7_wrong, m_is_family w = false ∧ w.2.length ≤ 2 := (by rw [← h_v7_wrong]; exact wrong_ok hf.n1 hf.n5); have h6 : v7_wrong.length = 6 := (by rw [← h_v7_wrong]; rfl); exact ⟨fun z => (by rw [(hw _ hx3).1] at z; cases z), Nat.le_trans (hw _ hx3).2 (by decide)⟩))))))))) rfl) ?_
          refine s_let (a := ((v7_wrong.map fun x2_one => (m_is_family x2_one)) ++ (v7_wrong.map fun x3_one => (m_is_matroid x3_one)))) (fun v8_told : (List Bool) => [.v (scD v_script), oL eI (List.reverse t3_draws), .v ((eP eI (eT eI)) v2_family), .v (eI (v2_family).1), .v ((eT eI) (v2_family).2), .v ((eO eW) (m__law_trouble (v2_family).2)), .v ((eO eW) (m_trouble_of (v2_family).2)), .v ((eL eI) v4_picks), .v ((eL eW) v6_listed), .v ((eL eB) v8_told), .no, .no, .no, .v ((eL (eP eI (eT eI))) v7_wrong), .no, .no]) (fun (v : Bool) => Out.rt (eB v) []) _ (fun v8_told h_v8_told => ?_)
          exact s_ret (e_andB (e_eqD hr.units (by /- side 52: NoDict -/ exact .lst (ndB _)) (by /- side 53: NoDict -/ exact nd_of (by decide +kernel)) (by /- side 54: shaped -/ exact shB _) (by /- side 55: shaped -/ decide +kernel) (e_var 9 rfl rfl (.inl rfl)) (e_el (el_rep (f := eB) (by decide) (by /- side 51: ([false]).length * ((12 : Int)).toNat ≤ 1000000 -/ decide) (e_el (el_lst (ea_cons e_bl ea_nil) (Nat.le_of_ble_eq_true rfl))) e_int))) (fun hb5_0 => (e_andB (e_eqD hr.units (by /- side 61: NoDict -/ have hf := family_ok t1_draws; rw [h_v2_family] at hf; have hw : ∀ w ∈ v7_wrong, m_is_family w = false ∧ w.2.length ≤ 2 := (by rw [← h_v7_wrong]; exact wrong_ok hf.n1 hf.n5); have h6 : v7_wrong.length = 6 := (by rw [← h_v7_wrong]; rfl); rw [flat_eq hw h6]; exact nd_of (by decide +kernel)) (by /- side 62: NoDict -/ exact nd_of (by decide +kernel)) (by /- side 63: shaped -/ have hf := family_ok t1_draws; rw [h_v2_family] at hf; have hw : ∀ w ∈ v7_wrong, m_is_family w = false ∧ w.2.length ≤ 2 := (by rw [← h_v7_wrong]; exact wrong_ok hf.n1 hf.n5); have h6 : v7_wrong.length = 6 := (by rw [← h_v7_wrong]; rfl); rw [flat_eq hw h6]; decide +kernel) (by /- side 64: shaped -/ decide +kernel) (e_call c__law_flat hr (by decide) (by rfl) (v7_wrong.map fun x4_one => ([(0 : Int), (2 : Int)].map fun x5_way => (m__law_asked_2 x5_way x4_one (((Str.ofString "none"), []) : Str × List Int)))) rfl (ea_cons (e_el (el_lc (own := [("one", 10)]) rfl sc_law.nd (blkOk_by (by kernel_rfl)) (lc1m (f := (eP eI (eT eI))) 10 (fun x4_one => ([(0 : Int), (2 : Int)].map fun x5_way => (m__law_asked_2 x5_way x4_one (((Str.ofString "none"), []) : Str × List Int)))) (eL eD) sc_law.nd rfl (fun _ => ⟨.inr rfl, .inl rfl⟩) (Nat.le_of_ble_eq_true rfl) (.inl rfl) rfl (it_list (e_var 13 rfl rfl (.inl rfl))) (by /- side 56: (v7_wrong).length ≤ 1000000 -/ have hf := family_ok t1_draws; rw [h_v2_family] at hf; have hw : ∀ w ∈ v7_wrong, m_is_family w = false ∧ w.2.length ≤ 2 := (by rw [← h_v7_wrong]; exact wrong_ok hf.n1 hf.n5); have h6 : v7_wrong.length = 6 := (by rw [← h_v7_wrong]; rfl); omega) (fun x4_one hx4 => ce_all (fun _ => (e_el (el_lc (own := [("way", 15)]) rfl sc_law.nd (blkOk_by (by kernel_rfl)) (lc1m (f := eI) 15 (fun x5_way => (m__law_asked_2 x5_way x4_one (((Str.ofString "none"), []) : Str × List Int))) eD sc_law.nd rfl (fun _ => ⟨.inl rfl, .inr rfl⟩) (Nat.le_of_ble_eq_true rfl) (.inl rfl) rfl (it_list (e_el (el_lst (ea_cons e_int (ea_cons e_int ea_nil)) (Nat.le_of_ble_eq_true rfl)))) (by /- side 57: ([(0 : Int), (2 : Int)]).length ≤ 1000000 -/ decide) (fun x5_way hx5 => ce_all (fun _ => (e_call c__law_asked_2 hr (by decide) (by rfl) (x5_way, x4_one, (((Str.ofString "none"), []) : Str × List Int)) rfl (ea_cons (e_var 15 rfl rfl (.inl rfl)) (ea_cons (e_var 10 rfl rfl (.inr (.inl rfl))) (ea_cons (e_tup (ea_cons e_str ea_nil) (Nat.le_of_ble_eq_true rfl)) ea_nil))) (by /- side 58: pre of _law_asked_2 x5_way x4_one (((Str.ofString "none"), []) : Str × List Int) -/ show pre__law_asked_2 x5_way x4_one (((Str.ofString "none"), []) : Str × List Int); have hf := family_ok t1_draws; rw [h_v2_family] at hf; have hw : ∀ w ∈ v7_wrong, m_is_family w = false ∧ w.2.length ≤ 2 := (by rw [← h_v7_wrong]; exact wrong_ok hf.n1 hf.n5); have h6 : v7_wrong.length = 6 := (by rw [← h_v7_wrong]; rfl); exact ⟨by simpa using hx5, fun z => (by rw [(hw _ hx4).1] at z; cases z), Nat.le_trans (hw _ hx4).2 (by decide), ok_n⟩)))))))))))) ea_nil) (by /- side 59: pre of _law_flat (v7_wrong.map fun x4_one => ([(0 : Int), (2 : Int)].map fun x5_way => (m__law_asked_2 x5_way x4_one (((Str.ofString "none"), []) : Str × List Int)))) -/ show pre__law_flat (v7_wrong.map fun x4_one => ([(0 : Int), (2 : Int)].map fun x5_way => (m__law_asked_2 x5_way x4_one (((Str.ofString "none"), []) : Str × List Int)))); have hf := family_ok t1_draws; rw [h_v2_family] at hf; have hw : ∀ w ∈ v7_wrong, m_is_family w = false ∧ w.2.length ≤ 2 := (by rw [← h_v7_wrong]; exact wrong_ok hf.n1 hf.n5); have h6 : v7_wrong.length = 6 := (by rw [← h_v7_wrong]; rfl); exact ⟨by rw [List.length_map]; omega, fun r hr => by obtain ⟨z, _, rfl⟩ := List.mem_map.mp hr; exact (by decide : 2 ≤ 100)⟩)) (e_el (el_rep (f := eS) (by decide) (by /- side 60: ([(Str.ofString "!family")]).length * ((12 : Int)).toNat ≤ 1000000 -/ decide) (e_el (el_lst (ea_cons e_str ea_nil) (Nat.le_of_ble_eq_true rfl))) e_int))) (fun hb5_1 => (e_one (e_isB (e_call c_is_family hr (by decide) (by rfl) ((9 : Int), (rng 0 (512 : Int))) rfl (ea_cons (e_tup (ea_cons e_int (ea_cons (e_tupRg rfl (by rfl) T.b_tuple (by rfl) T.b_range e_int (by decide)) ea_nil)) (Nat.le_of_ble_eq_true rfl)) ea_nil) (by /- side 65: pre of is_family ((9 : Int), (rng 0 (512 : Int))) -/ show pre_is_family ((9 : Int), (rng 0 (512 : Int))); show (rng 0 512).length ≤ 1000; rw [rng_len]; decide)) e_bl)))))) (.inl rfl)

theorem runL_all {α γ : Type} {step : Unit → α → Lp Unit γ} : ∀ {l : List α}, (∀ x ∈ l, step () x = .go ()) → runL step () l = .go ()
  | [], _ => rfl
  | x :: l, h => by
    rw [runL_cons, h x List.mem_cons_self]
    exact runL_all fun y hy => h y (List.mem_cons_of_mem _ hy)
theorem told_all {w : List (Int × List Int)} (h : ∀ f ∈ w, m_is_family f = false ∧ f.2.length ≤ 2) (h6 : w.length = 6) : (w.map fun f => m_is_family f) ++ (w.map fun f => m_is_matroid f) = List.replicate 12 false := by
  have e1 : (w.map fun f => m_is_family f) = w.map fun _ => false := List.map_congr_left fun f hf => (h f hf).1
  have e2 : (w.map fun f => m_is_matroid f) = w.map fun _ => false := List.map_congr_left fun f hf => by unfold m_is_matroid; rw [(h f hf).1]; rfl
  rw [e1, e2]
  match w, h6 with
  | [a, b, c, d, e, f], _ => rfl
theorem law_true (l : List Int) : m_law l = true := by
  unfold m_law
  simp only [lt]
  generalize List.reverse (m__law_more (List.reverse (m__law_draws l)) (160 : Int)).1 = t1
  split
  · rename_i h
    revert h
    decide +kernel
  · have hf := family_ok t1
    generalize m__law_family t1 = fr at hf ⊢
    obtain ⟨fam, t2⟩ := fr
    simp only at hf ⊢
    have he := trouble_eq hf.in32
    have htold : ∀ t, m__law_trouble fam.2 = some t → ToldOk t ∧ m__law_is_right fam.2 t = true := fun t e => trouble_told hf.in32 e
    split
    · rename_i h
      exfalso
      rw [asked1_eq, he] at h
      have e1 : m_is_matroid fam = (m__law_trouble fam.2).isNone := by unfold m_is_matroid; rw [hf.isf, he]; rfl
      rw [e1, hf.isf] at h
      cases hd : m__law_trouble fam.2 with
      | none => rw [hd] at h; simp at h
      | some t =>
        rw [hd] at h
        have := (htold t hd).2
        simp [optD, this] at h
    · have hpk := picks_ok (a := t2) hf.n1 hf.n5
      generalize (runT _ t2 (rng 0 (4 : Int))).1 = picks at hpk ⊢
      have hl := listed_ok (found := m_trouble_of fam.2) (due := m__law_trouble fam.2) (n := fam.1) (by rw [he]; exact fun t e => (htold t e).1) (fun t e => (htold t e).1) hpk.1 hpk.2 ⟨hf.n1, hf.n5⟩
      rw [runL_all fun x hx => by
        rw [asked2_eq hf (hl x hx)]
        simp]
      show lpK _ _ _ = true
      rw [runL_all fun one h1 => by
        rw [runL_all fun other h2 => by
          rw [runL_all fun thing h3 => by
            rw [asked2_eq hf (exch_told hf (cut_mem h1) (cut_mem h2) (rng_mem h3))]
            simp]
          rfl]
        rfl]
      have hw := wrong_ok hf.n1 hf.n5
      show ((PyData.eqv _ _) && ((PyData.eqv _ _) && _)) = true
      rw [told_all hw rfl, flat_eq hw rfl]
      decide +kernel

end
theorem all_mk {P : Program} {w : World} {K : PySem.W.Frag} {h : Heap} {mg : Str → Option Value} {fa : Addr} (X : K.In h) (G : h.Ns mainGlobals mg) (hfa : mg "law" = some (.ref fa))
    {C0 : Addr} {C1 : Addr} {C2 : Addr} {C3 : Addr} {C4 : Addr} {C5 : Addr} {C6 : Addr} {C7 : Addr} {tk0 : Tok} {tk1 : Tok} {tk2 : Tok} {tk3 : Tok} {f0 : Addr} {od0 an0 : Option Addr} {sl0 : Array (Option Value)} {oc0 kV0 dc0 pm0 cd0 ct0 : Value} {f1 : Addr} {od1 an1 : Option Addr} {sl1 : Array (Option Value)} {oc1 kV1 dc1 pm1 cd1 ct1 : Value} {f2 : Addr} {od2 an2 : Option Addr} {sl2 : Array (Option Value)} {oc2 kV2 dc2 pm2 cd2 ct2 : Value} {f3 : Addr} {od3 an3 : Option Addr} {sl3 : Array (Option Value)} {oc3 kV3 dc3 pm3 cd3 ct3 : Value} {f4 : Addr} {od4 an4 : Option Addr} {sl4 : Array (Option Value)} {oc4 kV4 dc4 pm4 cd4 ct4 : Value} {f5 : Addr} {od5 an5 : Option Addr} {sl5 : Array (Option Value)} {oc5 kV5 dc5 pm5 cd5 ct5 : Value} {f6 : Addr} {od6 an6 : Option Addr} {sl6 : Array (Option Value)} {oc6 kV6 dc6 pm6 cd6 ct6 : Value} {f7 : Addr} {od7 an7 : Option Addr} {sl7 : Array (Option Value)} {oc7 kV7 dc7 pm7 cd7 ct7 : Value} {f8 : Addr} {od8 an8 : Option Addr} {sl8 : Array (Option Value)} {oc8 kV8 dc8 pm8 cd8 ct8 : Value} {f9 : Addr} {od9 an9 : Option Addr} {sl9 : Array (Option Value)} {oc9 kV9 dc9 pm9 cd9 ct9 : Value} {f10 : Addr} {od10 an10 : Option Addr} {sl10 : Array (Option Value)} {oc10 kV10 dc10 pm10 cd10 ct10 : Value} {f11 : Addr} {od11 an11 : Option Addr} {sl11 : Array (Option Value)} {oc11 kV11 dc11 pm11 cd11 ct11 : Value} {f12 : Addr} {od12 an12 : Option Addr} {sl12 : Array (Option Value)} {oc12 kV12 dc12 pm12 cd12 ct12 : Value} {f13 : Addr} {od13 an13 : Option Addr} {sl13 : Array (Option Value)} {oc13 kV13 dc13 pm13 cd13 ct13 : Value} {f14 : Addr} {od14 an14 : Option Addr} {sl14 : Array (Option Value)} {oc14 kV14 dc14 pm14 cd14 ct14 : Value} {f15 : Addr} {od15 an15 : Option Addr} {sl15 : Array (Option Value)} {oc15 kV15 dc15 pm15 cd15 ct15 : Value} {f16 : Addr} {od16 an16 : Option Addr} {sl16 : Array (Option Value)} {oc16 kV16 dc16 pm16 cd16 ct16 : Value} {f17 : Addr} {od17 an17 : Option Addr} {sl17 : Array (Option Value)} {oc17 kV17 dc17 pm17 cd17 ct17 : Value} {f18 : Addr} {od18 an18 : Option Addr} {sl18 : Array (Option Value)} {oc18 kV18 dc18 pm18 cd18 ct18 : Value} {f19 : Addr} {od19 an19 : Option Addr} {sl19 : Array (Option Value)} {oc19 kV19 dc19 pm19 cd19 ct19 : Value} {f20 : Addr} {od20 an20 : Option Addr} {sl20 : Array (Option Value)} {oc20 kV20 dc20 pm20 cd20 ct20 : Value} {f21 : Addr} {od21 an21 : Option Addr} {sl21 : Array (Option Value)} {oc21 kV21 dc21 pm21 cd21 ct21 : Value} {f22 : Addr} {od22 an22 : Option Addr} {sl22 : Array (Option Value)} {oc22 kV22 dc22 pm22 cd22 ct22 : Value} {f23 : Addr} {od23 an23 : Option Addr} {sl23 : Array (Option Value)} {oc23 kV23 dc23 pm23 cd23 ct23 : Value} {f24 : Addr} {od24 an24 : Option Addr} {sl24 : Array (Option Value)} {oc24 kV24 dc24 pm24 cd24 ct24 : Value} {f25 : Addr} {od25 an25 : Option Addr} {sl25 : Array (Option Value)} {oc25 kV25 dc25 pm25 cd25 ct25 : Value} {f26 : Addr} {od26 an26 : Option Addr} {sl26 : Array (Option Value)} {oc26 kV26 dc26 pm26 cd26 ct26 : Value}
    (n0 : PySem.W.nsIn K mainGlobals "NotMatroid" = some (some (.ref C0)))
    (n1 : PySem.W.nsIn K mainGlobals "NotFamily" = some (some (.ref C1)))
    (n2 : PySem.W.nsIn K mainGlobals "NotGraph" = some (some (.ref C2)))
    (n3 : PySem.W.nsIn K mainGlobals "NotPaper" = some (some (.ref C3)))
    (n4 : PySem.W.nsIn K mainGlobals "BadNumber" = some (some (.ref C4)))
    (n5 : PySem.W.nsIn K mainGlobals "NoAnswer" = some (some (.ref C5)))
    (n6 : PySem.W.nsIn K mainGlobals "TooLarge" = some (some (.ref C6)))
    (n7 : PySem.W.nsIn K mainGlobals "BasisError" = some (some (.ref C7)))
    (q1 : PySem.W.excIn K C1 [.type "ValueError", .type "Exception", .type "BaseException", .type "object"] "ValueError.__new__" = true)
    (kc1 : PySem.W.keepIn K (.ref C1) = true)
    (b1 : PySem.W.subIn K (.ref C1) (.type "BaseException") = some true)
    (t1 : PySem.W.typeIn K (.ref C1) = some (.type "type"))
    (xa1 : PySem.W.findIn K (.ref C1) "__getattribute__" = some (some (.builtin "BaseException.__getattribute__")))
    (xb1 : PySem.W.findIn K (.ref C1) "__getattr__" = some none)
    (xc1 : PySem.W.subIn K (.ref C1) (.type "BaseException") = some true)
    (xd1 : PySem.W.hasDictIn K C1 = true)
    (xe1 : PySem.W.findIn K (.ref C1) "__class__" = some (some (.builtin "object.__class__")))
    (xf1 : PySem.W.specialIn K (.builtin "object.__class__") "__get__" = some (some (.builtin "getset_descriptor.__get__")))
    (xg1 : PySem.W.takesIn K (.builtin "object.__class__") = some true)
    (xh1 : PySem.W.mroIn K C1 (.type "object") = some true)
    (ne1_0 : C1 ≠ C0)
    (ss1_0 : PySem.W.subIn K (.ref C1) (.ref C0) = some false)
    (ne1_2 : C1 ≠ C2)
    (ss1_2 : PySem.W.subIn K (.ref C1) (.ref C2) = some false)
    (ne1_3 : C1 ≠ C3)
    (ss1_3 : PySem.W.subIn K (.ref C1) (.ref C3) = some false)
    (ne1_4 : C1 ≠ C4)
    (ss1_4 : PySem.W.subIn K (.ref C1) (.ref C4) = some false)
    (ne1_5 : C1 ≠ C5)
    (ss1_5 : PySem.W.subIn K (.ref C1) (.ref C5) = some false)
    (ne1_6 : C1 ≠ C6)
    (ss1_6 : PySem.W.subIn K (.ref C1) (.ref C6) = some false)
    (sb1 : PySem.W.subIn K (.ref C1) (.ref C7) = some true)
    (ci0 : PySem.W.isClsIn K C0 = true)
    (ti0 : PySem.W.typeIn K (.ref C0) = some (.type "type"))
    (ci1 : PySem.W.isClsIn K C1 = true)
    (ti1 : PySem.W.typeIn K (.ref C1) = some (.type "type"))
    (ci2 : PySem.W.isClsIn K C2 = true)
    (ti2 : PySem.W.typeIn K (.ref C2) = some (.type "type"))
    (ci3 : PySem.W.isClsIn K C3 = true)
    (ti3 : PySem.W.typeIn K (.ref C3) = some (.type "type"))
    (ci4 : PySem.W.isClsIn K C4 = true)
    (ti4 : PySem.W.typeIn K (.ref C4) = some (.type "type"))
    (ci5 : PySem.W.isClsIn K C5 = true)
    (ti5 : PySem.W.typeIn K (.ref C5) = some (.type "type"))
    (ci6 : PySem.W.isClsIn K C6 = true)
    (ti6 : PySem.W.typeIn K (.ref C6) = some (.type "type"))
    (ci7 : PySem.W.isClsIn K C7 = true)
    (ti7 : PySem.W.typeIn K (.ref C7) = some (.type "type"))
    (bb : PySem.W.subIn K (.ref C7) (.type "BaseException") = some true)
    (bd : PySem.W.hasDictIn K C7 = true)
    (z0 : PySem.W.nsIn K mainGlobals "range" = some none)
    (z1 : PySem.W.nsIn K mainGlobals "int" = some none)
    (z2 : PySem.W.nsIn K mainGlobals "len" = some none)
    (z3 : PySem.W.nsIn K mainGlobals "all" = some none)
    (z4 : PySem.W.nsIn K mainGlobals "zip" = some none)
    (z5 : PySem.W.nsIn K mainGlobals "any" = some none)
    (z6 : PySem.W.nsIn K mainGlobals "tuple" = some none)
    (z7 : PySem.W.nsIn K mainGlobals "isinstance" = some none)
    (z8 : PySem.W.nsIn K mainGlobals "list" = some none)
    (z9 : PySem.W.nsIn K mainGlobals "sum" = some none)
    (z10 : PySem.W.nsIn K mainGlobals "max" = some none)
    (z11 : PySem.W.nsIn K mainGlobals "sorted" = some none)
    (z12 : PySem.W.nsIn K mainGlobals "dict" = some none)
    (z13 : PySem.W.nsIn K mainGlobals "repr" = some none)
    (v0 : PySem.W.nsIn K mainGlobals "MOST_THINGS" = some (some (.int 9 tk0)))
    (v1 : PySem.W.nsIn K mainGlobals "NONE" = some (some (.str "none" tk1)))
    (v2 : PySem.W.nsIn K mainGlobals "SIZE" = some (some (.str "size" tk2)))
    (v3 : PySem.W.nsIn K mainGlobals "EXCHANGE" = some (some (.str "exchange" tk3)))
    (a0 : PySem.W.nsIn K mainGlobals "_law_number" = some (some (.ref f0)))
    (l0 : K.lookup f0 = some ⟨oc0, od0, .func (PySem.W.fnOf "_law_number" "_law_number" (defArgs (topS 24)) (defBody (topS 24)) (defScope (topS 24)) .none kV0 dc0 pm0 an0 cd0 ct0), sl0⟩)
    (c0 : PySem.W.codeIn K cd0 "_law_number" = true)
    (k0 : PySem.W.keepIn K (.ref f0) = true)
    (a1 : PySem.W.nsIn K mainGlobals "_law_power" = some (some (.ref f1)))
    (l1 : K.lookup f1 = some ⟨oc1, od1, .func (PySem.W.fnOf "_law_power" "_law_power" (defArgs (topS 31)) (defBody (topS 31)) (defScope (topS 31)) .none kV1 dc1 pm1 an1 cd1 ct1), sl1⟩)
    (c1 : PySem.W.codeIn K cd1 "_law_power" = true)
    (k1 : PySem.W.keepIn K (.ref f1) = true)
    (a2 : PySem.W.nsIn K mainGlobals "_law_things" = some (some (.ref f2)))
    (l2 : K.lookup f2 = some ⟨oc2, od2, .func (PySem.W.fnOf "_law_things" "_law_things" (defArgs (topS 32)) (defBody (topS 32)) (defScope (topS 32)) .none kV2 dc2 pm2 an2 cd2 ct2), sl2⟩)
    (c2 : PySem.W.codeIn K cd2 "_law_things" = true)
    (k2 : PySem.W.keepIn K (.ref f2) = true)
    (a3 : PySem.W.nsIn K mainGlobals "_law_size" = some (some (.ref f3)))
    (l3 : K.lookup f3 = some ⟨oc3, od3, .func (PySem.W.fnOf "_law_size" "_law_size" (defArgs (topS 33)) (defBody (topS 33)) (defScope (topS 33)) .none kV3 dc3 pm3 an3 cd3 ct3), sl3⟩)
    (c3 : PySem.W.codeIn K cd3 "_law_size" = true)
    (k3 : PySem.W.keepIn K (.ref f3) = true)
    (a4 : PySem.W.nsIn K mainGlobals "things_of" = some (some (.ref f4)))
    (l4 : K.lookup f4 = some ⟨oc4, od4, .func (PySem.W.fnOf "things_of" "things_of" (defArgs (topS 16)) (defBody (topS 16)) (defScope (topS 16)) .none kV4 dc4 pm4 an4 cd4 ct4), sl4⟩)
    (c4 : PySem.W.codeIn K cd4 "things_of" = true)
    (k4 : PySem.W.keepIn K (.ref f4) = true)
    (a5 : PySem.W.nsIn K mainGlobals "size_of" = some (some (.ref f5)))
    (l5 : K.lookup f5 = some ⟨oc5, od5, .func (PySem.W.fnOf "size_of" "size_of" (defArgs (topS 17)) (defBody (topS 17)) (defScope (topS 17)) .none kV5 dc5 pm5 an5 cd5 ct5), sl5⟩)
    (c5 : PySem.W.codeIn K cd5 "size_of" = true)
    (k5 : PySem.W.keepIn K (.ref f5) = true)
    (a6 : PySem.W.nsIn K mainGlobals "is_family" = some (some (.ref f6)))
    (l6 : K.lookup f6 = some ⟨oc6, od6, .func (PySem.W.fnOf "is_family" "is_family" (defArgs (topS 14)) (defBody (topS 14)) (defScope (topS 14)) .none kV6 dc6 pm6 an6 cd6 ct6), sl6⟩)
    (c6 : PySem.W.codeIn K cd6 "is_family" = true)
    (k6 : PySem.W.keepIn K (.ref f6) = true)
    (a7 : PySem.W.nsIn K mainGlobals "check_family" = some (some (.ref f7)))
    (l7 : K.lookup f7 = some ⟨oc7, od7, .func (PySem.W.fnOf "check_family" "check_family" (defArgs (topS 15)) (defBody (topS 15)) (defScope (topS 15)) .none kV7 dc7 pm7 an7 cd7 ct7), sl7⟩)
    (c7 : PySem.W.codeIn K cd7 "check_family" = true)
    (k7 : PySem.W.keepIn K (.ref f7) = true)
    (a8 : PySem.W.nsIn K mainGlobals "exchanges" = some (some (.ref f8)))
    (l8 : K.lookup f8 = some ⟨oc8, od8, .func (PySem.W.fnOf "exchanges" "exchanges" (defArgs (topS 18)) (defBody (topS 18)) (defScope (topS 18)) .none kV8 dc8 pm8 an8 cd8 ct8), sl8⟩)
    (c8 : PySem.W.codeIn K cd8 "exchanges" = true)
    (k8 : PySem.W.keepIn K (.ref f8) = true)
    (a9 : PySem.W.nsIn K mainGlobals "trouble_of" = some (some (.ref f9)))
    (l9 : K.lookup f9 = some ⟨oc9, od9, .func (PySem.W.fnOf "trouble_of" "trouble_of" (defArgs (topS 19)) (defBody (topS 19)) (defScope (topS 19)) .none kV9 dc9 pm9 an9 cd9 ct9), sl9⟩)
    (c9 : PySem.W.codeIn K cd9 "trouble_of" = true)
    (k9 : PySem.W.keepIn K (.ref f9) = true)
    (a10 : PySem.W.nsIn K mainGlobals "trouble" = some (some (.ref f10)))
    (l10 : K.lookup f10 = some ⟨oc10, od10, .func (PySem.W.fnOf "trouble" "trouble" (defArgs (topS 20)) (defBody (topS 20)) (defScope (topS 20)) .none kV10 dc10 pm10 an10 cd10 ct10), sl10⟩)
    (c10 : PySem.W.codeIn K cd10 "trouble" = true)
    (k10 : PySem.W.keepIn K (.ref f10) = true)
    (a11 : PySem.W.nsIn K mainGlobals "is_trouble" = some (some (.ref f11)))
    (l11 : K.lookup f11 = some ⟨oc11, od11, .func (PySem.W.fnOf "is_trouble" "is_trouble" (defArgs (topS 21)) (defBody (topS 21)) (defScope (topS 21)) .none kV11 dc11 pm11 an11 cd11 ct11), sl11⟩)
    (c11 : PySem.W.codeIn K cd11 "is_trouble" = true)
    (k11 : PySem.W.keepIn K (.ref f11) = true)
    (a12 : PySem.W.nsIn K mainGlobals "is_matroid" = some (some (.ref f12)))
    (l12 : K.lookup f12 = some ⟨oc12, od12, .func (PySem.W.fnOf "is_matroid" "is_matroid" (defArgs (topS 22)) (defBody (topS 22)) (defScope (topS 22)) .none kV12 dc12 pm12 an12 cd12 ct12), sl12⟩)
    (c12 : PySem.W.codeIn K cd12 "is_matroid" = true)
    (k12 : PySem.W.keepIn K (.ref f12) = true)
    (a13 : PySem.W.nsIn K mainGlobals "_law_draws" = some (some (.ref f13)))
    (l13 : K.lookup f13 = some ⟨oc13, od13, .func (PySem.W.fnOf "_law_draws" "_law_draws" (defArgs (topS 25)) (defBody (topS 25)) (defScope (topS 25)) .none kV13 dc13 pm13 an13 cd13 ct13), sl13⟩)
    (c13 : PySem.W.codeIn K cd13 "_law_draws" = true)
    (k13 : PySem.W.keepIn K (.ref f13) = true)
    (a14 : PySem.W.nsIn K mainGlobals "_law_next" = some (some (.ref f14)))
    (l14 : K.lookup f14 = some ⟨oc14, od14, .func (PySem.W.fnOf "_law_next" "_law_next" (defArgs (topS 27)) (defBody (topS 27)) (defScope (topS 27)) .none kV14 dc14 pm14 an14 cd14 ct14), sl14⟩)
    (c14 : PySem.W.codeIn K cd14 "_law_next" = true)
    (k14 : PySem.W.keepIn K (.ref f14) = true)
    (a15 : PySem.W.nsIn K mainGlobals "_law_flat" = some (some (.ref f15)))
    (l15 : K.lookup f15 = some ⟨oc15, od15, .func (PySem.W.fnOf "_law_flat" "_law_flat" (defArgs (topS 26)) (defBody (topS 26)) (defScope (topS 26)) .none kV15 dc15 pm15 an15 cd15 ct15), sl15⟩)
    (c15 : PySem.W.codeIn K cd15 "_law_flat" = true)
    (k15 : PySem.W.keepIn K (.ref f15) = true)
    (a16 : PySem.W.nsIn K mainGlobals "_law_more" = some (some (.ref f16)))
    (l16 : K.lookup f16 = some ⟨oc16, od16, .func (PySem.W.fnOf "_law_more" "_law_more" (defArgs (topS 28)) (defBody (topS 28)) (defScope (topS 28)) .none kV16 dc16 pm16 an16 cd16 ct16), sl16⟩)
    (c16 : PySem.W.codeIn K cd16 "_law_more" = true)
    (k16 : PySem.W.keepIn K (.ref f16) = true)
    (a17 : PySem.W.nsIn K mainGlobals "_law_pick" = some (some (.ref f17)))
    (l17 : K.lookup f17 = some ⟨oc17, od17, .func (PySem.W.fnOf "_law_pick" "_law_pick" (defArgs (topS 29)) (defBody (topS 29)) (defScope (topS 29)) .none kV17 dc17 pm17 an17 cd17 ct17), sl17⟩)
    (c17 : PySem.W.codeIn K cd17 "_law_pick" = true)
    (k17 : PySem.W.keepIn K (.ref f17) = true)
    (a18 : PySem.W.nsIn K mainGlobals "_law_kind" = some (some (.ref f18)))
    (l18 : K.lookup f18 = some ⟨oc18, od18, .func (PySem.W.fnOf "_law_kind" "_law_kind" (defArgs (topS 30)) (defBody (topS 30)) (defScope (topS 30)) .none kV18 dc18 pm18 an18 cd18 ct18), sl18⟩)
    (c18 : PySem.W.codeIn K cd18 "_law_kind" = true)
    (k18 : PySem.W.keepIn K (.ref f18) = true)
    (a19 : PySem.W.nsIn K mainGlobals "_law_trouble" = some (some (.ref f19)))
    (l19 : K.lookup f19 = some ⟨oc19, od19, .func (PySem.W.fnOf "_law_trouble" "_law_trouble" (defArgs (topS 34)) (defBody (topS 34)) (defScope (topS 34)) .none kV19 dc19 pm19 an19 cd19 ct19), sl19⟩)
    (c19 : PySem.W.codeIn K cd19 "_law_trouble" = true)
    (k19 : PySem.W.keepIn K (.ref f19) = true)
    (a20 : PySem.W.nsIn K mainGlobals "_law_columns" = some (some (.ref f20)))
    (l20 : K.lookup f20 = some ⟨oc20, od20, .func (PySem.W.fnOf "_law_columns" "_law_columns" (defArgs (topS 35)) (defBody (topS 35)) (defScope (topS 35)) .none kV20 dc20 pm20 an20 cd20 ct20), sl20⟩)
    (c20 : PySem.W.codeIn K cd20 "_law_columns" = true)
    (k20 : PySem.W.keepIn K (.ref f20) = true)
    (a21 : PySem.W.nsIn K mainGlobals "_law_free" = some (some (.ref f21)))
    (l21 : K.lookup f21 = some ⟨oc21, od21, .func (PySem.W.fnOf "_law_free" "_law_free" (defArgs (topS 36)) (defBody (topS 36)) (defScope (topS 36)) .none kV21 dc21 pm21 an21 cd21 ct21), sl21⟩)
    (c21 : PySem.W.codeIn K cd21 "_law_free" = true)
    (k21 : PySem.W.keepIn K (.ref f21) = true)
    (a22 : PySem.W.nsIn K mainGlobals "_law_matroid" = some (some (.ref f22)))
    (l22 : K.lookup f22 = some ⟨oc22, od22, .func (PySem.W.fnOf "_law_matroid" "_law_matroid" (defArgs (topS 37)) (defBody (topS 37)) (defScope (topS 37)) .none kV22 dc22 pm22 an22 cd22 ct22), sl22⟩)
    (c22 : PySem.W.codeIn K cd22 "_law_matroid" = true)
    (k22 : PySem.W.keepIn K (.ref f22) = true)
    (a23 : PySem.W.nsIn K mainGlobals "_law_is_right" = some (some (.ref f23)))
    (l23 : K.lookup f23 = some ⟨oc23, od23, .func (PySem.W.fnOf "_law_is_right" "_law_is_right" (defArgs (topS 39)) (defBody (topS 39)) (defScope (topS 39)) .none kV23 dc23 pm23 an23 cd23 ct23), sl23⟩)
    (c23 : PySem.W.codeIn K cd23 "_law_is_right" = true)
    (k23 : PySem.W.keepIn K (.ref f23) = true)
    (a24 : PySem.W.nsIn K mainGlobals "_law_family" = some (some (.ref f24)))
    (l24 : K.lookup f24 = some ⟨oc24, od24, .func (PySem.W.fnOf "_law_family" "_law_family" (defArgs (topS 40)) (defBody (topS 40)) (defScope (topS 40)) .none kV24 dc24 pm24 an24 cd24 ct24), sl24⟩)
    (c24 : PySem.W.codeIn K cd24 "_law_family" = true)
    (k24 : PySem.W.keepIn K (.ref f24) = true)
    (a25 : PySem.W.nsIn K mainGlobals "_law_asked" = some (some (.ref f25)))
    (l25 : K.lookup f25 = some ⟨oc25, od25, .func (PySem.W.fnOf "_law_asked" "_law_asked" (defArgs (topS 41)) (defBody (topS 41)) (defScope (topS 41)) .none kV25 dc25 pm25 an25 cd25 ct25), sl25⟩)
    (c25 : PySem.W.codeIn K cd25 "_law_asked" = true)
    (k25 : PySem.W.keepIn K (.ref f25) = true)
    (a26 : PySem.W.nsIn K mainGlobals "law" = some (some (.ref f26)))
    (l26 : K.lookup f26 = some ⟨oc26, od26, .func (PySem.W.fnOf "law" "law" (defArgs (topS 42)) (defBody (topS 42)) (defScope (topS 42)) .none kV26 dc26 pm26 an26 cd26 ct26), sl26⟩)
    (c26 : PySem.W.codeIn K cd26 "law" = true)
    (k26 : PySem.W.keepIn K (.ref f26) = true)
    : ∃ (qual : Str) (st : Stmt) (fd : FuncData) (N : List Str), Fun K "law" qual st fa fd ∧ FnScope N ["script"] (defScope st) ∧ (∀ (s : Shared) (u : Value), BindsTo s fd ⟨[u], []⟩ [("script", u)]) ∧ ∀ (base : Heap) (ns : List Int), K.In base → base.Ns mainGlobals mg → ns.length ≤ 63 → ∀ y : Db, y.A = callerA → Room 5 (y.A.deeper (envOfC qual (defScope st) y.s.heap.objs.size fa y.cdv)) →
        S (dctx P w K mg base N qual (defScope st) fa [] y) (defBody st) (ini [scD ns] N.length) (.rt (.bool true) []) := by
  have e := hfa.symm.trans (PySem.W.mg_of X G a26)
  cases e
  have m0 := PySem.W.mg_of X G n0
  have m1 := PySem.W.mg_of X G n1
  have m2 := PySem.W.mg_of X G n2
  have m3 := PySem.W.mg_of X G n3
  have m4 := PySem.W.mg_of X G n4
  have m5 := PySem.W.mg_of X G n5
  have m6 := PySem.W.mg_of X G n6
  have m7 := PySem.W.mg_of X G n7
  have i0 : xaOf mg "NotMatroid" = C0 := xaOf_is m0
  have i1 : xaOf mg "NotFamily" = C1 := xaOf_is m1
  have i2 : xaOf mg "NotGraph" = C2 := xaOf_is m2
  have i3 : xaOf mg "NotPaper" = C3 := xaOf_is m3
  have i4 : xaOf mg "BadNumber" = C4 := xaOf_is m4
  have i5 : xaOf mg "NoAnswer" = C5 := xaOf_is m5
  have i6 : xaOf mg "TooLarge" = C6 := xaOf_is m6
  have i7 : xaOf mg "BasisError" = C7 := xaOf_is m7
  have T : Top K mg (xaOf mg) :=
    { c_NotMatroid := xaOf_eq m0
      c_NotFamily := xaOf_eq m1
      c_NotGraph := xaOf_eq m2
      c_NotPaper := xaOf_eq m3
      c_BadNumber := xaOf_eq m4
      c_NoAnswer := xaOf_eq m5
      c_TooLarge := xaOf_eq m6
      c_BasisError := xaOf_eq m7
      k_NotFamily := ⟨by decide, excc_is i1 ⟨xa1, xb1, xc1, xd1, xe1, xf1, xg1, xh1⟩, kn_all (kit_is i1 i0 (kit_no ne1_0 ci0 ti0 ss1_0) (by decide)) (kit_is i1 i1 kit_self (by decide)) (kit_is i1 i2 (kit_no ne1_2 ci2 ti2 ss1_2) (by decide)) (kit_is i1 i3 (kit_no ne1_3 ci3 ti3 ss1_3) (by decide)) (kit_is i1 i4 (kit_no ne1_4 ci4 ti4 ss1_4) (by decide)) (kit_is i1 i5 (kit_no ne1_5 ci5 ti5 ss1_5) (by decide)) (kit_is i1 i6 (kit_no ne1_6 ci6 ti6 ss1_6) (by decide))⟩
      e_NotFamily := (by rw [i1, i7]; exact PySem.W.exm_ref bb bd ti7 sb1)
      x_NotFamily := (by rw [i1]; exact ⟨m1, q1, kc1, b1, t1⟩)
      b_range := PySem.W.mg_none_of X G z0
      b_int := PySem.W.mg_none_of X G z1
      b_len := PySem.W.mg_none_of X G z2
      b_all := PySem.W.mg_none_of X G z3
      b_zip := PySem.W.mg_none_of X G z4
      b_any := PySem.W.mg_none_of X G z5
      b_tuple := PySem.W.mg_none_of X G z6
      b_isinstance := PySem.W.mg_none_of X G z7
      b_list := PySem.W.mg_none_of X G z8
      b_sum := PySem.W.mg_none_of X G z9
      b_max := PySem.W.mg_none_of X G z10
      b_sorted := PySem.W.mg_none_of X G z11
      b_dict := PySem.W.mg_none_of X G z12
      b_repr := PySem.W.mg_none_of X G z13
      k_MOST_THINGS := ⟨_, PySem.W.mg_of X G v0⟩
      k_NONE := ⟨_, PySem.W.mg_of X G v1⟩
      k_SIZE := ⟨_, PySem.W.mg_of X G v2⟩
      k_EXCHANGE := ⟨_, PySem.W.mg_of X G v3⟩
      d__law_number := ⟨_, _, fun_mk (st := topS 24) l0 c0 k0, PySem.W.mg_of X G a0⟩
      d__law_power := ⟨_, _, fun_mk (st := topS 31) l1 c1 k1, PySem.W.mg_of X G a1⟩
      d__law_things := ⟨_, _, fun_mk (st := topS 32) l2 c2 k2, PySem.W.mg_of X G a2⟩
      d__law_size := ⟨_, _, fun_mk (st := topS 33) l3 c3 k3, PySem.W.mg_of X G a3⟩
      d_things_of := ⟨_, _, fun_mk (st := topS 16) l4 c4 k4, PySem.W.mg_of X G a4⟩
      d_size_of := ⟨_, _, fun_mk (st := topS 17) l5 c5 k5, PySem.W.mg_of X G a5⟩
      d_is_family := ⟨_, _, fun_mk (st := topS 14) l6 c6 k6, PySem.W.mg_of X G a6⟩
      d_check_family := ⟨_, _, fun_mk (st := topS 15) l7 c7 k7, PySem.W.mg_of X G a7⟩
      d_exchanges := ⟨_, _, fun_mk (st := topS 18) l8 c8 k8, PySem.W.mg_of X G a8⟩
      d_trouble_of := ⟨_, _, fun_mk (st := topS 19) l9 c9 k9, PySem.W.mg_of X G a9⟩
      d_trouble := ⟨_, _, fun_mk (st := topS 20) l10 c10 k10, PySem.W.mg_of X G a10⟩
      d_is_trouble := ⟨_, _, fun_mk (st := topS 21) l11 c11 k11, PySem.W.mg_of X G a11⟩
      d_is_matroid := ⟨_, _, fun_mk (st := topS 22) l12 c12 k12, PySem.W.mg_of X G a12⟩
      d__law_draws := ⟨_, _, fun_mk (st := topS 25) l13 c13 k13, PySem.W.mg_of X G a13⟩
      d__law_next := ⟨_, _, fun_mk (st := topS 27) l14 c14 k14, PySem.W.mg_of X G a14⟩
      d__law_flat := ⟨_, _, fun_mk (st := topS 26) l15 c15 k15, PySem.W.mg_of X G a15⟩
      d__law_more := ⟨_, _, fun_mk (st := topS 28) l16 c16 k16, PySem.W.mg_of X G a16⟩
      d__law_pick := ⟨_, _, fun_mk (st := topS 29) l17 c17 k17, PySem.W.mg_of X G a17⟩
      d__law_kind := ⟨_, _, fun_mk (st := topS 30) l18 c18 k18, PySem.W.mg_of X G a18⟩
      d__law_trouble := ⟨_, _, fun_mk (st := topS 34) l19 c19 k19, PySem.W.mg_of X G a19⟩
      d__law_columns := ⟨_, _, fun_mk (st := topS 35) l20 c20 k20, PySem.W.mg_of X G a20⟩
      d__law_free := ⟨_, _, fun_mk (st := topS 36) l21 c21 k21, PySem.W.mg_of X G a21⟩
      d__law_matroid := ⟨_, _, fun_mk (st := topS 37) l22 c22 k22, PySem.W.mg_of X G a22⟩
      d__law_is_right := ⟨_, _, fun_mk (st := topS 39) l23 c23 k23, PySem.W.mg_of X G a23⟩
      d__law_family := ⟨_, _, fun_mk (st := topS 40) l24 c24 k24, PySem.W.mg_of X G a24⟩
      d__law_asked := ⟨_, _, fun_mk (st := topS 41) l25 c25 k25, PySem.W.mg_of X G a25⟩
      d_law := ⟨_, _, fun_mk (st := topS 42) l26 c26 k26, PySem.W.mg_of X G a26⟩ }
  refine ⟨_, topS 42, _, N_law, fun_mk (st := topS 42) l26 c26 k26, sc_law, fun s u => .of_eq rfl, fun base ns _ _ hl y hA hr => ?_⟩
  have c__law_number := ok__law_number (P := P) (w := w) (base := base) T
  have c__law_power := ok__law_power (P := P) (w := w) (base := base) T
  have c__law_things := ok__law_things (P := P) (w := w) (base := base) T c__law_power
  have c__law_size := ok__law_size (P := P) (w := w) (base := base) T c__law_things
  have c_things_of := ok_things_of (P := P) (w := w) (base := base) T
  have c_size_of := ok_size_of (P := P) (w := w) (base := base) T c_things_of
  have c_is_family := ok_is_family (P := P) (w := w) (base := base) T
  have c_check_family := ok_check_family (P := P) (w := w) (base := base) T c_is_family
  have c_exchanges := ok_exchanges (P := P) (w := w) (base := base) T c_things_of
  have c_trouble_of := ok_trouble_of (P := P) (w := w) (base := base) T c_size_of c_things_of c_exchanges
  have c_trouble := ok_trouble (P := P) (w := w) (base := base) T c_check_family c_trouble_of
  have c_is_trouble := ok_is_trouble (P := P) (w := w) (base := base) T c_check_family c_size_of c_things_of c_exchanges
  have c_is_matroid := ok_is_matroid (P := P) (w := w) (base := base) T c_is_family c_trouble_of
  have c__law_draws := ok__law_draws (P := P) (w := w) (base := base) T c__law_number
  have c__law_next := ok__law_next (P := P) (w := w) (base := base) T
  have c__law_flat := ok__law_flat (P := P) (w := w) (base := base) T
  have c__law_more := ok__law_more (P := P) (w := w) (base := base) T c__law_next
  have c__law_pick := ok__law_pick (P := P) (w := w) (base := base) T c__law_next
  have c__law_kind := ok__law_kind (P := P) (w := w) (base := base) T
  have c__law_trouble := ok__law_trouble (P := P) (w := w) (base := base) T c__law_size c__law_things c__law_power
  have c__law_columns := ok__law_columns (P := P) (w := w) (base := base) T c__law_pick c__law_next
  have c__law_free := ok__law_free (P := P) (w := w) (base := base) T
  have c__law_matroid := ok__law_matroid (P := P) (w := w) (base := base) T c__law_next c__law_power c__law_size c__law_things c__law_columns c__law_free
  have c__law_is_right := ok__law_is_right (P := P) (w := w) (base := base) T c__law_size c__law_power c__law_things
  have c__law_family := ok__law_family (P := P) (w := w) (base := base) T c__law_matroid c__law_next c__law_power
  have c__law_asked_0 := ok__law_asked_0 (P := P) (w := w) (base := base) T c_trouble c_is_matroid c__law_kind
  have c__law_asked_2 := ok__law_asked_2 (P := P) (w := w) (base := base) T c_trouble c_is_trouble c__law_kind
  have := ok_law (P := P) (w := w) (base := base) T c__law_draws c__law_more c_is_matroid c_trouble c_is_trouble c__law_family c__law_trouble c__law_asked_0 c_is_family c__law_is_right c__law_next c__law_power c__law_asked_2 c__law_flat y hA hr ns hl
  rw [law_true] at this
  exact this
end K00
open PySem PySem.W PyProof.Rows
set_option maxRecDepth 100000 in
set_option maxHeartbeats 0 in
theorem PySem.Challenge.cw_everybasis_k00_families_and_bases_holds : PySem.Challenge.rw_everybasis_k00_families_and_bases.Holds := by
  w_on; o_law; k_head; (case hw => w_witness2)
  k_fill
  refine TL.law_walk (l := PySem.Challenge.rw_everybasis_k00_families_and_bases) (n := 63) (k := 5) (px := "script") rfl (by decide) rfl ⟨rfl, by decide, by decide⟩ (fun w h Y => PySem.W.kIn_of Y) ?F
  case F =>
    intro w mg fa h KX G hmg
    refine' K00.all_mk KX G hmg ?n0 ?n1 ?n2 ?n3 ?n4 ?n5 ?n6 ?n7 ?q1 ?kc1 ?b1 ?t1 ?xa1 ?xb1 ?xc1 ?xd1 ?xe1 ?xf1 ?xg1 ?xh1 ?ne1_0 ?ss1_0 ?ne1_2 ?ss1_2 ?ne1_3 ?ss1_3 ?ne1_4 ?ss1_4 ?ne1_5 ?ss1_5 ?ne1_6 ?ss1_6 ?sb1 ?ci0 ?ti0 ?ci1 ?ti1 ?ci2 ?ti2 ?ci3 ?ti3 ?ci4 ?ti4 ?ci5 ?ti5 ?ci6 ?ti6 ?ci7 ?ti7 ?bb ?bd ?z0 ?z1 ?z2 ?z3 ?z4 ?z5 ?z6 ?z7 ?z8 ?z9 ?z10 ?z11 ?z12 ?z13 ?v0 ?v1 ?v2 ?v3 ?a0 ?l0 ?c0 ?k0 ?a1 ?l1 ?c1 ?k1 ?a2 ?l2 ?c2 ?k2 ?a3 ?l3 ?c3 ?k3 ?a4 ?l4 ?c4 ?k4 ?a5 ?l5 ?c5 ?k5 ?a6 ?l6 ?c6 ?k6 ?a7 ?l7 ?c7 ?k7 ?a8 ?l8 ?c8 ?k8 ?a9 ?l9 ?c9 ?k9 ?a10 ?l10 ?c10 ?k10 ?a11 ?l11 ?c11 ?k11 ?a12 ?l12 ?c12 ?k12 ?a13 ?l13 ?c13 ?k13 ?a14 ?l14 ?c14 ?k14 ?a15 ?l15 ?c15 ?k15 ?a16 ?l16 ?c16 ?k16 ?a17 ?l17 ?c17 ?k17 ?a18 ?l18 ?c18 ?k18 ?a19 ?l19 ?c19 ?k19 ?a20 ?l20 ?c20 ?k20 ?a21 ?l21 ?c21 ?k21 ?a22 ?l22 ?c22 ?k22 ?a23 ?l23 ?c23 ?k23 ?a24 ?l24 ?c24 ?k24 ?a25 ?l25 ?c25 ?k25 ?a26 ?l26 ?c26 ?k26
    (case n0 => k_is)
    (case n1 => k_is)
    (case n2 => k_is)
    (case n3 => k_is)
    (case n4 => k_is)
    (case n5 => k_is)
    (case n6 => k_is)
    (case n7 => k_is)
    (case q1 => k_exc)
    (case kc1 => k_is)
    (case b1 => k_is)
    (case t1 => k_is)
    (case xa1 => k_is)
    (case xb1 => k_is)
    (case xc1 => k_is)
    (case xd1 => k_is)
    (case xe1 => k_is)
    (case xf1 => k_is)
    (case xg1 => k_is)
    (case xh1 => k_is)
    (case ne1_0 => decide)
    (case ss1_0 => k_is)
    (case ne1_2 => decide)
    (case ss1_2 => k_is)
    (case ne1_3 => decide)
    (case ss1_3 => k_is)
    (case ne1_4 => decide)
    (case ss1_4 => k_is)
    (case ne1_5 => decide)
    (case ss1_5 => k_is)
    (case ne1_6 => decide)
    (case ss1_6 => k_is)
    (case sb1 => k_is)
    (case ci0 => k_is)
    (case ti0 => k_is)
    (case ci1 => k_is)
    (case ti1 => k_is)
    (case ci2 => k_is)
    (case ti2 => k_is)
    (case ci3 => k_is)
    (case ti3 => k_is)
    (case ci4 => k_is)
    (case ti4 => k_is)
    (case ci5 => k_is)
    (case ti5 => k_is)
    (case ci6 => k_is)
    (case ti6 => k_is)
    (case ci7 => k_is)
    (case ti7 => k_is)
    (case bb => k_is)
    (case bd => k_is)
    (case z0 => k_is)
    (case z1 => k_is)
    (case z2 => k_is)
    (case z3 => k_is)
    (case z4 => k_is)
    (case z5 => k_is)
    (case z6 => k_is)
    (case z7 => k_is)
    (case z8 => k_is)
    (case z9 => k_is)
    (case z10 => k_is)
    (case z11 => k_is)
    (case z12 => k_is)
    (case z13 => k_is)
    (case v0 => k_is)
    (case v1 => k_is)
    (case v2 => k_is)
    (case v3 => k_is)
    (case a0 => k_is)
    (case l0 => k_is)
    (case c0 => k_is)
    (case k0 => k_is)
    (case a1 => k_is)
    (case l1 => k_is)
    (case c1 => k_is)
    (case k1 => k_is)
    (case a2 => k_is)
    (case l2 => k_is)
    (case c2 => k_is)
    (case k2 => k_is)
    (case a3 => k_is)
    (case l3 => k_is)
    (case c3 => k_is)
    (case k3 => k_is)
    (case a4 => k_is)
    (case l4 => k_is)
    (case c4 => k_is)
    (case k4 => k_is)
    (case a5 => k_is)
    (case l5 => k_is)
    (case c5 => k_is)
    (case k5 => k_is)
    (case a6 => k_is)
    (case l6 => k_is)
    (case c6 => k_is)
    (case k6 => k_is)
    (case a7 => k_is)
    (case l7 => k_is)
    (case c7 => k_is)
    (case k7 => k_is)
    (case a8 => k_is)
    (case l8 => k_is)
    (case c8 => k_is)
    (case k8 => k_is)
    (case a9 => k_is)
    (case l9 => k_is)
    (case c9 => k_is)
    (case k9 => k_is)
    (case a10 => k_is)
    (case l10 => k_is)
    (case c10 => k_is)
    (case k10 => k_is)
    (case a11 => k_is)
    (case l11 => k_is)
    (case c11 => k_is)
    (case k11 => k_is)
    (case a12 => k_is)
    (case l12 => k_is)
    (case c12 => k_is)
    (case k12 => k_is)
    (case a13 => k_is)
    (case l13 => k_is)
    (case c13 => k_is)
    (case k13 => k_is)
    (case a14 => k_is)
    (case l14 => k_is)
    (case c14 => k_is)
    (case k14 => k_is)
    (case a15 => k_is)
    (case l15 => k_is)
    (case c15 => k_is)
    (case k15 => k_is)
    (case a16 => k_is)
    (case l16 => k_is)
    (case c16 => k_is)
    (case k16 => k_is)
    (case a17 => k_is)
    (case l17 => k_is)
    (case c17 => k_is)
    (case k17 => k_is)
    (case a18 => k_is)
    (case l18 => k_is)
    (case c18 => k_is)
    (case k18 => k_is)
    (case a19 => k_is)
    (case l19 => k_is)
    (case c19 => k_is)
    (case k19 => k_is)
    (case a20 => k_is)
    (case l20 => k_is)
    (case c20 => k_is)
    (case k20 => k_is)
    (case a21 => k_is)
    (case l21 => k_is)
    (case c21 => k_is)
    (case k21 => k_is)
    (case a22 => k_is)
    (case l22 => k_is)
    (case c22 => k_is)
    (case k22 => k_is)
    (case a23 => k_is)
    (case l23 => k_is)
    (case c23 => k_is)
    (case k23 => k_is)
    (case a24 => k_is)
    (case l24 => k_is)
    (case c24 => k_is)
    (case k24 => k_is)
    (case a25 => k_is)
    (case l25 => k_is)
    (case c25 => k_is)
    (case k25 => k_is)
    (case a26 => k_is)
    (case l26 => k_is)
    (case c26 => k_is)
    (case k26 => k_is)

