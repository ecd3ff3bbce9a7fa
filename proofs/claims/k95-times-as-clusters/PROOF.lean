import PyProof.Rows.All
import Wide.All
import OpenK.AllK
import Wide.FinOn
import KE.KStateDown
import HandS.ForMost
import HandS.IsInst
import HandS.Wide
import HandS.Gcd
import HandS.Style
import HandS.Flow
import HandS.TupAny
import HandS.Conv
import HandS.Comp
import HandS.HeadHook2
import HandS.HeadEnd
import HandS.Head0
import HandS.Head1
import HandS.Head2
import HandS.HeadHook1
import HandS.Head3
import HandS.Deep
import KE.DataMinMax
import HandS.TupMul
import KE.KTupSum
import KE.SortData
import HandS.SetFor
import HandS.Strs
import HandS.TupSets
import HandS.TryOnly
import KE.DataCmp
import KE.KRevSl
import HandS.Flt
import PySem.Challenge.RW_shocksknown_k95_whole_times_as_clusters
set_option Elab.async false
set_option linter.all false
set_option maxRecDepth 100000
set_option maxHeartbeats 0
set_option exponentiation.threshold 500
set_option synthInstance.maxSize 5000
set_option synthInstance.maxHeartbeats 0
namespace PF
open PySem PySem.Spec PyProof.Rows L2
/-- data as the proofs see it: ref n is the n-th changeable list of the state; lst: a list that nobody changes any more; kst: a list that stood before (the script) -/
inductive D where
  | non | bl (b : Bool) | int (i : Int) | str (x : Str) | tup (xs : List D) | lst (xs : List D) | kst (xs : List D) | ref (n : Nat)
inductive MO where
  | lst (xs : List D)
abbrev Mem := List MO
abbrev Rho := List (Option D)
structure Wo where
  as : List Addr
  bad : Addr → Prop
  H : Hp
abbrev LINE : Nat := 16777216
theorem line_eq : sizeLine = LINE := sizeLine_eq
section
variable (K : PySem.W.Frag) (W : Wo)
def FzL (a : Addr) (vs : List V) : Prop := (W.H a = some (.lst vs) ∧ ¬ W.bad a) ∧ vs.length ≤ LINE
def FzK (a : Addr) (vs : List V) : Prop := (((∃ o, W.H a = some (.frz o (.lst vs))) ∧ ¬ W.bad a) ∨ SqL K (fun _ => none) a vs) ∧ vs.length ≤ LINE
def FzT (a : Addr) (vs : List V) : Prop := ((W.H a = some (.tup vs) ∧ ¬ W.bad a) ∨ SqT K (fun _ => none) a vs) ∧ vs.length ≤ LINE
mutual
def Rp : D → V → Prop
  | .non, v => v = .non
  | .bl b, v => v = .bl b
  | .int i, v => v = .int i
  | .str x, v => v = .str x
  | .tup ds, v => ∃ a vs, v = .ref a ∧ FzT K W a vs ∧ RpL ds vs
  | .lst ds, v => ∃ a vs, v = .ref a ∧ FzL W a vs ∧ RpL ds vs
  | .kst ds, v => ∃ a vs, v = .ref a ∧ FzK K W a vs ∧ RpL ds vs
  | .ref n, v => ∃ a, W.as[n]? = some a ∧ v = .ref a
def RpL : List D → List V → Prop
  | [], vs => vs = []
  | d :: ds, vs => ∃ v r, vs = v :: r ∧ Rp d v ∧ RpL ds r
end
def MoOk (a : Addr) : MO → Prop
  | .lst ds => ∃ vs, (W.H a = some (.lst vs) ∧ vs.length ≤ LINE) ∧ RpL K W ds vs
structure SR (M : Mem) : Prop where
  len : W.as.length = M.length
  nd : W.as.Nodup
  sub : ∀ a ∈ W.as, W.bad a
  bt : ∀ a, W.bad a → ∃ o, W.H a = some o
  obj : ∀ (n : Nat) (a : Addr) (mo : MO), W.as[n]? = some a → M[n]? = some mo → MoOk K W a mo
structure Sl (ρ : Rho) (σ : L2.St) : Prop where
  len : ρ.length = σ.length
  at_ : ∀ (i : Nat) (d : D), ρ[i]? = some (some d) → ∃ v, σ[i]? = some (some v) ∧ Rp K W d v
end
/-- one state behind another -/
structure Ext (W W' : Wo) : Prop where
  as : ∃ new, W'.as = W.as ++ new ∧ ∀ a ∈ new, W.H a = none
  bad : ∀ a, W.bad a → W'.bad a
  new : ∀ a, W'.bad a → W.bad a ∨ W.H a = none
  keep : ∀ a o, a ∉ W.as → W.H a = some o → W'.H a = some o
  live : ∀ a o, W.H a = some o → ∃ o', W'.H a = some o'
theorem Ext.refl (W : Wo) : Ext W W := ⟨⟨[], by simp, fun _ h => by simp at h⟩, fun _ h => h, fun _ h => .inl h, fun _ _ _ h => h, fun _ o h => ⟨o, h⟩⟩
theorem none_of_live {W W' : Wo} (e : Ext W W') {a : Addr} (h : W'.H a = none) : W.H a = none := by
  cases q : W.H a with
  | none => rfl
  | some o => obtain ⟨o', h'⟩ := e.live a o q; rw [h] at h'; cases h'
theorem Ext.trans {W W1 W2 : Wo} (e : Ext W W1) (e' : Ext W1 W2) : Ext W W2 := by
  obtain ⟨n1, h1, f1⟩ := e.as
  obtain ⟨n2, h2, f2⟩ := e'.as
  refine ⟨⟨n1 ++ n2, by rw [h2, h1, List.append_assoc], fun a ha => ?_⟩, fun a h => e'.bad a (e.bad a h), fun a h => ?_, fun a o ha h => ?_, fun a o h => ?_⟩
  · rcases List.mem_append.mp ha with h | h
    · exact f1 a h
    · exact none_of_live e (f2 a h)
  · rcases e'.new a h with h | h
    · exact e.new a h
    · exact .inr (none_of_live e h)
  · refine e'.keep a o (fun z => ?_) (e.keep a o ha h)
    rw [h1] at z
    rcases List.mem_append.mp z with z | z
    · exact ha z
    · rw [f1 a z] at h; cases h
  · obtain ⟨o', h'⟩ := e.live a o h
    exact e'.live a o' h'
section
variable {K : PySem.W.Frag} {W W' : Wo}
theorem Ext.frz {a : Addr} {u : HO} (e : Ext W W') (hs : ∀ a ∈ W.as, W.bad a) (h : W.H a = some u ∧ ¬ W.bad a) : W'.H a = some u ∧ ¬ W'.bad a := by
  obtain ⟨h, nb⟩ := h
  have na : a ∉ W.as := fun z => nb (hs a z)
  refine ⟨e.keep a _ na h, fun z => ?_⟩
  rcases e.new a z with z | z
  · exact nb z
  · rw [h] at z; cases z
mutual
theorem Rp.ext (e : Ext W W') (hs : ∀ a ∈ W.as, W.bad a) : ∀ (d : D) (v : V), Rp K W d v → Rp K W' d v
  | .non, _, h => h
  | .bl _, _, h => h
  | .int _, _, h => h
  | .str _, _, h => h
  | .tup ds, v, h => by
    obtain ⟨a, vs, e1, f, r⟩ := h
    exact ⟨a, vs, e1, ⟨f.1.imp (fun q => e.frz hs q) fun q => q, f.2⟩, RpL.ext e hs ds vs r⟩
  | .lst ds, v, h => by
    obtain ⟨a, vs, e1, f, r⟩ := h
    exact ⟨a, vs, e1, ⟨e.frz hs f.1, f.2⟩, RpL.ext e hs ds vs r⟩
  | .kst ds, v, h => by
    obtain ⟨a, vs, e1, f, r⟩ := h
    refine ⟨a, vs, e1, ⟨f.1.imp (fun q => ?_) fun q => q, f.2⟩, RpL.ext e hs ds vs r⟩
    obtain ⟨⟨o, q⟩, nb⟩ := q
    obtain ⟨q', nb'⟩ := e.frz hs ⟨q, nb⟩
    exact ⟨⟨o, q'⟩, nb'⟩
  | .ref n, v, h => by
    obtain ⟨a, h1, h2⟩ := h
    obtain ⟨new, h3, _⟩ := e.as
    refine ⟨a, ?_, h2⟩
    rw [h3]
    exact (List.getElem?_append_left (List.getElem?_eq_some_iff.mp h1).1).trans h1
theorem RpL.ext (e : Ext W W') (hs : ∀ a ∈ W.as, W.bad a) : ∀ (ds : List D) (vs : List V), RpL K W ds vs → RpL K W' ds vs
  | [], _, h => h
  | d :: ds, vs, h => by
    obtain ⟨v, r, e1, h1, h2⟩ := h
    exact ⟨v, r, e1, Rp.ext e hs d v h1, RpL.ext e hs ds r h2⟩
end
theorem Sl.ext {ρ : Rho} {σ : L2.St} (e : Ext W W') (hs : ∀ a ∈ W.as, W.bad a) (h : Sl K W ρ σ) : Sl K W' ρ σ :=
  ⟨h.len, fun i d hd => let ⟨v, h1, h2⟩ := h.at_ i d hd; ⟨v, h1, h2.ext e hs⟩⟩
theorem RpL.len : ∀ {ds : List D} {vs : List V}, RpL K W ds vs → ds.length = vs.length
  | [], _, h => by cases (show _ = _ from h); rfl
  | _ :: _, _, h => by
    obtain ⟨v, r, rfl, _, h2⟩ := h
    simp [RpL.len h2]
theorem RpL.get : ∀ {ds : List D} {vs : List V} {i : Nat} {d : D}, RpL K W ds vs → ds[i]? = some d → ∃ v, vs[i]? = some v ∧ Rp K W d v
  | [], _, _, _, _, h => by simp at h
  | x :: _, _, 0, d, h, e => by
    obtain ⟨v, r, rfl, h1, _⟩ := h
    simp at e; subst e
    exact ⟨v, rfl, h1⟩
  | _ :: _, _, i + 1, d, h, e => by
    obtain ⟨v, r, rfl, _, h2⟩ := h
    obtain ⟨u, a, b⟩ := RpL.get (i := i) (d := d) h2 (by simpa using e)
    exact ⟨u, by simpa using a, b⟩
theorem RpL.append : ∀ {ds es : List D} {vs us : List V}, RpL K W ds vs → RpL K W es us → RpL K W (ds ++ es) (vs ++ us)
  | [], _, _, _, h, h' => by cases (show _ = _ from h); exact h'
  | _ :: _, _, _, _, h, h' => by
    obtain ⟨v, r, rfl, h1, h2⟩ := h
    exact ⟨v, r ++ _, rfl, h1, RpL.append h2 h'⟩
theorem RpL.one {d : D} {v : V} (h : Rp K W d v) : RpL K W [d] [v] := ⟨v, [], rfl, h, rfl⟩
theorem RpL.take : ∀ {ds : List D} {vs : List V} (n : Nat), RpL K W ds vs → RpL K W (ds.take n) (vs.take n)
  | _, _, 0, _ => rfl
  | [], _, _ + 1, h => by cases (show _ = _ from h); rfl
  | _ :: _, _, n + 1, h => by
    obtain ⟨v, r, rfl, h1, h2⟩ := h
    exact ⟨v, _, rfl, h1, RpL.take n h2⟩
theorem RpL.drop : ∀ {ds : List D} {vs : List V} (n : Nat), RpL K W ds vs → RpL K W (ds.drop n) (vs.drop n)
  | _, _, 0, h => h
  | [], _, _ + 1, h => by cases (show _ = _ from h); rfl
  | _ :: _, _, n + 1, h => by
    obtain ⟨v, r, rfl, h1, h2⟩ := h
    exact RpL.drop n h2
theorem RpL.set : ∀ {ds : List D} {vs : List V} {d : D} {v : V} (n : Nat), RpL K W ds vs → Rp K W d v → RpL K W (ds.set n d) (vs.set n v)
  | [], _, _, _, _, h, _ => by cases (show _ = _ from h); exact rfl
  | _ :: _, _, _, _, 0, h, q => by
    obtain ⟨v, r, rfl, h1, h2⟩ := h
    exact ⟨_, _, rfl, q, h2⟩
  | _ :: _, _, _, _, n + 1, h, q => by
    obtain ⟨v, r, rfl, h1, h2⟩ := h
    exact ⟨_, _, rfl, h1, RpL.set n h2 q⟩
theorem RpL.reverse : ∀ {ds : List D} {vs : List V}, RpL K W ds vs → RpL K W ds.reverse vs.reverse
  | [], _, h => by cases (show _ = _ from h); exact rfl
  | d :: ds, _, h => by
    obtain ⟨v, r, rfl, h1, h2⟩ := h
    rw [List.reverse_cons, List.reverse_cons]
    exact (RpL.reverse h2).append (.one h1)
end
/-! ### what a piece of code computes -/
inductive Out where
  | nx (ρ : Rho) | ret (d : D) | bk (ρ : Rho) | ct (ρ : Rho)
abbrev FE := Rho → Mem → Option (D × Mem)
abbrev FT := Rho → Mem → Option (Bool × Mem)
abbrev FA := Rho → Mem → Option (List D × Mem)
abbrev FS := Rho → Mem → Option (Out × Mem)
def liftE (K : PySem.W.Frag) (f : FE) : TE := fun σ H Q => ∃ W ρ M, W.H = H ∧ SR K W M ∧ Sl K W ρ σ ∧ ∃ d M', f ρ M = some (d, M') ∧
  ∀ W' v, Ext W W' → SR K W' M' → Rp K W' d v → Q v W'.H
def liftT (K : PySem.W.Frag) (f : FT) : TT := fun σ H Q => ∃ W ρ M, W.H = H ∧ SR K W M ∧ Sl K W ρ σ ∧ ∃ d M', f ρ M = some (d, M') ∧
  ∀ W', Ext W W' → SR K W' M' → Q d W'.H
def liftA (K : PySem.W.Frag) (f : FA) : TA := fun σ H Q => ∃ W ρ M, W.H = H ∧ SR K W M ∧ Sl K W ρ σ ∧ ∃ d M', f ρ M = some (d, M') ∧
  ∀ W' v, Ext W W' → SR K W' M' → RpL K W' d v → Q v W'.H
/-- a new list comes last, nothing else knows it -/
def liftN (K : PySem.W.Frag) (f : FA) : TE := fun σ H Q => ∃ W ρ M, W.H = H ∧ SR K W M ∧ Sl K W ρ σ ∧ ∃ d M', f ρ M = some (d, M') ∧
  ∀ W' p vs, Ext W W' → SR K W' M' → W'.H p = none → RpL K W' d vs → vs.length ≤ LINE → Q (.ref p) (upd W'.H p (.lst vs))
def liftS (K : PySem.W.Frag) (f : FS) : TS := fun E σ H => ∃ W ρ M, W.H = H ∧ SR K W M ∧ Sl K W ρ σ ∧ ∃ o M', f ρ M = some (o, M') ∧
  match o with
  | .nx ρ' => ∀ W' σ', Ext W W' → SR K W' M' → Sl K W' ρ' σ' → E.nx σ' W'.H
  | .bk ρ' => ∀ W' σ', Ext W W' → SR K W' M' → Sl K W' ρ' σ' → E.bk σ' W'.H
  | .ct ρ' => ∀ W' σ', Ext W W' → SR K W' M' → Sl K W' ρ' σ' → E.ct σ' W'.H
  | .ret d => ∀ W' v, Ext W W' → SR K W' M' → Rp K W' d v → E.rt v W'.H
/-! ### weakening -/
section
variable {X : Cx}
theorem pe_weak {e : Expr} {t t' : TE} (h : PE X e t) (i : ∀ σ H Q, t' σ H Q → t σ H Q) : PE X e t' := ⟨fun pins s σ H Q I q => h.run pins s σ H Q I (i σ H Q q)⟩
theorem pt_weak {e : Expr} {t t' : TT} (h : PT X e t) (i : ∀ σ H Q, t' σ H Q → t σ H Q) : PT X e t' := ⟨fun pins s σ H Q I q => h.run pins s σ H Q I (i σ H Q q)⟩
theorem pw_weak {e : Expr} {t t' : TT} (h : PW X e t) (i : ∀ σ H Q, t' σ H Q → t σ H Q) : PW X e t' := ⟨fun wh pins s σ H Q I q => h.run wh pins s σ H Q I (i σ H Q q)⟩
theorem pa_weak {e : List Expr} {t t' : TA} (h : PA X e t) (i : ∀ σ H Q, t' σ H Q → t σ H Q) : PA X e t' := ⟨fun pos pins s σ H Q I q => h.run pos pins s σ H Q I (i σ H Q q)⟩
theorem ps_weak {e : Stmt} {t t' : TS} (h : PS X e t) (i : ∀ σ H Q, t' σ H Q → t σ H Q) : PS X e t' := ⟨fun pins s σ H D I q => h.run pins s σ H D I (i D σ H q)⟩
theorem pss_weak {e : List Stmt} {t t' : TS} (h : PSs X e t) (i : ∀ σ H Q, t' σ H Q → t σ H Q) : PSs X e t' := ⟨fun pins s σ H D I q => h.run pins s σ H D I (i D σ H q)⟩
abbrev PFE (X : Cx) (e : Expr) (f : FE) : Prop := PE X e (liftE X.K f)
abbrev PFN (X : Cx) (e : Expr) (f : FA) : Prop := PE X e (liftN X.K f)
abbrev PFT (X : Cx) (e : Expr) (f : FT) : Prop := PT X e (liftT X.K f)
abbrev PFW (X : Cx) (e : Expr) (f : FT) : Prop := PW X e (liftT X.K f)
abbrev PFA (X : Cx) (e : List Expr) (f : FA) : Prop := PA X e (liftA X.K f)
abbrev PFS (X : Cx) (e : Stmt) (f : FS) : Prop := PS X e (liftS X.K f)
abbrev PFSs (X : Cx) (e : List Stmt) (f : FS) : Prop := PSs X e (liftS X.K f)
end
end PF
namespace PF
open PySem PySem.Spec PyProof.Rows L2
/-! ### the state's steps -/
section
variable {K : PySem.W.Frag} {W W' : Wo} {M : Mem}
def Wo.put (W : Wo) (p : Addr) (o : HO) : Wo := { W with H := upd W.H p o }
theorem Ext.put {p : Addr} {o : HO} (hp : W.H p = none) : Ext W (W.put p o) :=
  ⟨⟨[], by simp [Wo.put], fun _ h => by simp at h⟩, fun _ h => h, fun _ h => .inl h, fun a u _ h => (upd_ne (ne_of_none h hp)).trans h, fun a u h => ⟨u, (upd_ne (ne_of_none h hp)).trans h⟩⟩
theorem MoOk.ext {a : Addr} {mo : MO} (e : Ext W W') (hs : ∀ a ∈ W.as, W.bad a) (h : MoOk K W a mo) (ha : W'.H a = W.H a) : MoOk K W' a mo := by
  cases mo with
  | lst ds => obtain ⟨vs, h1, h2⟩ := h; exact ⟨vs, ⟨ha.trans h1.1, h1.2⟩, h2.ext e hs⟩
theorem MoOk.there {a : Addr} {mo : MO} (h : MoOk K W a mo) : ∃ o, W.H a = some o := by
  cases mo with
  | lst ds => obtain ⟨vs, h1, h2⟩ := h; exact ⟨_, h1.1⟩
theorem SR.at_ (sr : SR K W M) {n : Nat} {a : Addr} (h : W.as[n]? = some a) : ∃ mo, M[n]? = some mo ∧ MoOk K W a mo := by
  have hn : n < M.length := by rw [← sr.len]; exact (List.getElem?_eq_some_iff.mp h).1
  exact ⟨M[n], by simp [hn], sr.obj n a _ h (by simp [hn])⟩
theorem SR.addr (sr : SR K W M) {n : Nat} {mo : MO} (h : M[n]? = some mo) : ∃ a, W.as[n]? = some a ∧ MoOk K W a mo := by
  have hn : n < W.as.length := by rw [sr.len]; exact (List.getElem?_eq_some_iff.mp h).1
  exact ⟨W.as[n], by simp [hn], sr.obj n _ mo (by simp [hn]) h⟩
theorem SR.put {p : Addr} {o : HO} (sr : SR K W M) (hp : W.H p = none) : SR K (W.put p o) M := by
  refine ⟨sr.len, sr.nd, sr.sub, fun a h => ?_, fun n a mo h1 h2 => ?_⟩
  · obtain ⟨o, q⟩ := sr.bt a h
    exact (Ext.put hp).live a o q
  · have m := sr.obj n a mo h1 h2
    obtain ⟨o', q⟩ := m.there
    exact m.ext (Ext.put hp) sr.sub (upd_ne (ne_of_none q hp))
theorem SR.nb {p : Addr} (sr : SR K W M) (hp : W.H p = none) : ¬ W.bad p := fun z => by
  obtain ⟨o, q⟩ := sr.bt p z
  rw [hp] at q; cases q
theorem Rp.newTup {p : Addr} {ds : List D} {vs : List V} (sr : SR K W M) (hp : W.H p = none) (h : RpL K W ds vs) (hl : vs.length ≤ LINE) : Rp K (W.put p (.tup vs)) (.tup ds) (.ref p) :=
  ⟨p, vs, rfl, ⟨.inl ⟨upd_same, sr.nb hp⟩, hl⟩, h.ext (Ext.put hp) sr.sub⟩
theorem Rp.newLst {p : Addr} {ds : List D} {vs : List V} (sr : SR K W M) (hp : W.H p = none) (h : RpL K W ds vs) (hl : vs.length ≤ LINE) : Rp K (W.put p (.lst vs)) (.lst ds) (.ref p) :=
  ⟨p, vs, rfl, ⟨⟨upd_same, sr.nb hp⟩, hl⟩, h.ext (Ext.put hp) sr.sub⟩
/-- a new changeable list -/
def Wo.mk2 (W : Wo) (p : Addr) (o : HO) : Wo := ⟨W.as ++ [p], fun a => W.bad a ∨ a = p, upd W.H p o⟩
theorem Ext.mk2 {p : Addr} {o : HO} (hp : W.H p = none) : Ext W (W.mk2 p o) := by
  refine ⟨⟨[p], rfl, fun a h => ?_⟩, fun _ h => .inl h, fun a h => ?_, fun a u _ h => (upd_ne (ne_of_none h hp)).trans h, fun a u h => ⟨u, (upd_ne (ne_of_none h hp)).trans h⟩⟩
  · have e : a = p := by simpa using h
    rw [e]; exact hp
  · rcases h with h | h
    · exact .inl h
    · rw [h]; exact .inr hp
theorem SR.mk2 {p : Addr} {ds : List D} {vs : List V} (sr : SR K W M) (hp : W.H p = none) (h : RpL K W ds vs) (hl : vs.length ≤ LINE) : SR K (W.mk2 p (.lst vs)) (M ++ [.lst ds]) := by
  have npa : p ∉ W.as := fun z => sr.nb hp (sr.sub p z)
  have E := Ext.mk2 (W := W) (o := .lst vs) hp
  refine ⟨by simp [Wo.mk2, sr.len], ?_, fun a h => ?_, fun a h => ?_, fun n a mo h1 h2 => ?_⟩
  · show (W.as ++ [p]).Nodup
    rw [List.nodup_append]
    refine ⟨sr.nd, by simp, fun a ha b hb => ?_⟩
    have e : b = p := by simpa using hb
    rw [e]; rintro rfl; exact npa ha
  · rcases List.mem_append.mp h with h | h
    · exact .inl (sr.sub a h)
    · exact .inr (by simpa using h)
  · rcases h with h | h
    · obtain ⟨o, q⟩ := sr.bt a h
      exact E.live a o q
    · rw [h]; exact ⟨_, upd_same⟩
  · have h1' : (W.as ++ [p])[n]? = some a := h1
    by_cases hn : n < W.as.length
    · rw [List.getElem?_append_left hn] at h1'
      rw [List.getElem?_append_left (by rw [← sr.len]; exact hn)] at h2
      have m := sr.obj n a mo h1' h2
      obtain ⟨o', q⟩ := m.there
      exact m.ext E sr.sub (upd_ne (ne_of_none q hp))
    · have e : n = W.as.length := by
        have := (List.getElem?_eq_some_iff.mp h1').1
        simp at this; omega
      subst e
      have ea : p = a := by simpa using h1'
      have em : MO.lst ds = mo := by
        rw [sr.len] at h2
        simpa using h2
      subst ea em
      exact ⟨vs, ⟨upd_same, hl⟩, h.ext E sr.sub⟩
theorem Rp.mk2 {p : Addr} {o : HO} (sr : SR K W M) : Rp K (W.mk2 p o) (.ref M.length) (.ref p) := ⟨p, by show (W.as ++ [p])[M.length]? = _; rw [← sr.len]; simp, rfl⟩
/-- a changeable list is written -/
theorem Ext.wr {a : Addr} {o : HO} (ha : a ∈ W.as) : Ext W (W.put a o) := by
  refine ⟨⟨[], by simp [Wo.put], fun _ h => by simp at h⟩, fun _ h => h, fun _ h => .inl h, fun b u hb h => (upd_ne fun z => hb (by rw [z]; exact ha)).trans h, fun b u h => ?_⟩
  by_cases hb : b = a
  · subst hb; exact ⟨_, upd_same⟩
  · exact ⟨u, (upd_ne hb).trans h⟩
theorem SR.wr {n : Nat} {a : Addr} {ds : List D} {vs : List V} (sr : SR K W M) (hn : W.as[n]? = some a) (h : RpL K W ds vs) (hl : vs.length ≤ LINE) : SR K (W.put a (.lst vs)) (M.set n (.lst ds)) := by
  have ha : a ∈ W.as := List.mem_of_getElem? hn
  have E := Ext.wr (W := W) (o := .lst vs) ha
  refine ⟨by rw [List.length_set]; exact sr.len, sr.nd, sr.sub, fun b hb => ?_, fun m b mo h1 h2 => ?_⟩
  · obtain ⟨o, q⟩ := sr.bt b hb
    exact E.live b o q
  · have h1' : W.as[m]? = some b := h1
    by_cases e : m = n
    · subst e
      rw [hn] at h1'; cases h1'
      have hm : m < M.length := by rw [← sr.len]; exact (List.getElem?_eq_some_iff.mp hn).1
      rw [List.getElem?_set_self hm] at h2
      cases h2
      exact ⟨vs, ⟨upd_same, hl⟩, h.ext E sr.sub⟩
    · rw [List.getElem?_set_ne (Ne.symm e)] at h2
      refine (sr.obj m b mo h1' h2).ext E sr.sub (upd_ne fun z => e ?_)
      subst z
      obtain ⟨q1, q2⟩ := List.getElem?_eq_some_iff.mp h1'
      obtain ⟨q3, q4⟩ := List.getElem?_eq_some_iff.mp hn
      exact (List.getElem_inj sr.nd).mp (q2.trans q4.symm)
end
/-! ### lists and tuples, read -/
def lsOf : D → Mem → Option (List D)
  | .lst xs, _ => some xs
  | .kst xs, _ => some xs
  | .ref n, M => match M[n]? with | some (.lst xs) => some xs | _ => none
  | _, _ => none
def sqOf : D → Mem → Option (List D)
  | .tup xs, _ => some xs
  | d, M => lsOf d M
section
variable {K : PySem.W.Frag} {W W' : Wo} {M : Mem} {d : D} {v : V} {xs : List D}
theorem SqL.any {H : Hp} {a : Addr} {vs : List V} (h : SqL K (fun _ => none) a vs) : SqL K H a vs := by
  rcases h with (h | ⟨o, h⟩) | h
  · cases (show (none : Option HO) = _ from h)
  · cases (show (none : Option HO) = _ from h)
  · exact .inr h
theorem SqT.any {H : Hp} {a : Addr} {vs : List V} (h : SqT K (fun _ => none) a vs) : SqT K H a vs := by
  rcases h with (h | ⟨o, h⟩) | h
  · cases (show (none : Option HO) = _ from h)
  · cases (show (none : Option HO) = _ from h)
  · exact .inr h
theorem ls_sq (sr : SR K W M) (h : Rp K W d v) (e : lsOf d M = some xs) : ∃ a vs, v = .ref a ∧ SqL K W.H a vs ∧ RpL K W xs vs := by
  cases d with
  | lst ds =>
    cases e
    obtain ⟨a, vs, e1, f, r⟩ := h
    exact ⟨a, vs, e1, .of f.1.1, r⟩
  | kst ds =>
    cases e
    obtain ⟨a, vs, e1, f, r⟩ := h
    refine ⟨a, vs, e1, ?_, r⟩
    rcases f.1 with ⟨⟨o, f⟩, _⟩ | f
    · exact .inl (.inr ⟨o, f⟩)
    · exact SqL.any f
  | ref n =>
    obtain ⟨a, h1, e1⟩ := h
    obtain ⟨mo, h2, m⟩ := sr.at_ h1
    have e' : (match M[n]? with | some (.lst xs) => some xs | _ => none) = some xs := e
    rw [h2] at e'
    cases mo with
    | lst ds =>
      cases e'
      obtain ⟨vs, q1, q2⟩ := m
      exact ⟨a, vs, e1, .of q1.1, q2⟩
  | _ => cases e
theorem ls_len (sr : SR K W M) (h : Rp K W d v) (e : lsOf d M = some xs) : xs.length ≤ LINE := by
  cases d with
  | lst ds =>
    cases e
    obtain ⟨a, vs, e1, f, r⟩ := h
    rw [r.len]; exact f.2
  | kst ds =>
    cases e
    obtain ⟨a, vs, e1, f, r⟩ := h
    rw [r.len]; exact f.2
  | ref n =>
    obtain ⟨a, h1, e1⟩ := h
    obtain ⟨mo, h2, m⟩ := sr.at_ h1
    have e' : (match M[n]? with | some (.lst xs) => some xs | _ => none) = some xs := e
    rw [h2] at e'
    cases mo with
    | lst ds =>
      cases e'
      obtain ⟨vs, q1, q2⟩ := m
      rw [q2.len]; exact q1.2
  | _ => cases e
theorem tp_sq (h : Rp K W (.tup xs) v) : ∃ a vs, v = .ref a ∧ SqT K W.H a vs ∧ RpL K W xs vs := by
  obtain ⟨a, vs, e1, f, r⟩ := h
  refine ⟨a, vs, e1, ?_, r⟩
  rcases f.1 with ⟨f, _⟩ | f
  · exact .of f
  · exact SqT.any f
theorem sq_len (sr : SR K W M) (h : Rp K W d v) (e : sqOf d M = some xs) : xs.length ≤ LINE := by
  cases d with
  | tup ds =>
    cases e
    obtain ⟨a, vs, e1, f, r⟩ := h
    rw [r.len]; exact f.2
  | lst ds => exact ls_len sr h e
  | kst ds => exact ls_len sr h e
  | ref n => exact ls_len sr h e
  | _ => cases e
theorem sq_sq (sr : SR K W M) (h : Rp K W d v) (e : sqOf d M = some xs) : ∃ a vs, v = .ref a ∧ (SqL K W.H a vs ∨ SqT K W.H a vs) ∧ RpL K W xs vs := by
  have l : lsOf d M = some xs → ∃ a vs, v = .ref a ∧ (SqL K W.H a vs ∨ SqT K W.H a vs) ∧ RpL K W xs vs := fun e => by
    obtain ⟨a, vs, h1, h2, h3⟩ := ls_sq sr h e
    exact ⟨a, vs, h1, .inl h2, h3⟩
  cases d with
  | tup ds =>
    cases e
    obtain ⟨a, vs, h1, h2, h3⟩ := tp_sq h
    exact ⟨a, vs, h1, .inr h2, h3⟩
  | _ => exact l e
end
/-! ### names, constants, two-place operations -/
def fVar (i : Nat) : FE := fun ρ M => match ρ[i]? with | some (some d) => some (d, M) | _ => none
def fC (d : D) : FE := fun _ M => some (d, M)
abbrev G1 := D → Mem → Option D
abbrev G2 := D → D → Mem → Option D
abbrev G2B := D → D → Mem → Option Bool
def f1 (g : G1) (fa : FE) : FE := fun ρ M => (fa ρ M).bind fun a => (g a.1 a.2).bind fun d => some (d, a.2)
def f2 (g : G2) (fa fb : FE) : FE := fun ρ M => (fa ρ M).bind fun a => (fb ρ a.2).bind fun b => (g a.1 b.1 b.2).bind fun d => some (d, b.2)
def gB (g : G2B) : G2 := fun x y M => (g x y M).map .bl
def f2T (g : G2B) (fa fb : FE) : FT := fun ρ M => (fa ρ M).bind fun a => (fb ρ a.2).bind fun b => (g a.1 b.1 b.2).bind fun d => some (d, b.2)
/-- the operation's reading follows from what it computes -/
def Op1 (K : PySem.W.Frag) (r : V → Hp → VK → Prop) (g : G1) : Prop := ∀ (W : Wo) (M : Mem) (x d : D) (v : V) (Q : VK), SR K W M → Rp K W x v → g x M = some d →
  (∀ W' v', Ext W W' → SR K W' M → Rp K W' d v' → Q v' W'.H) → r v W.H Q
def Op2 (K : PySem.W.Frag) (r : R2) (g : G2) : Prop := ∀ (W : Wo) (M : Mem) (x y d : D) (v u : V) (Q : VK), SR K W M → Rp K W x v → Rp K W y u → g x y M = some d →
  (∀ W' v', Ext W W' → SR K W' M → Rp K W' d v' → Q v' W'.H) → r v u W.H Q
section
variable {K : PySem.W.Frag}
theorem lift1 {r : V → Hp → VK → Prop} {g : G1} {fa : FE} (op : Op1 K r g) : ∀ σ H Q, liftE K (f1 g fa) σ H Q → tUn r (liftE K fa) σ H Q := by
  rintro σ H Q ⟨W, ρ, M, rfl, sr, sl, d, M', hf, k⟩
  obtain ⟨⟨x, M1⟩, hx, hf⟩ := Option.bind_eq_some_iff.mp hf
  obtain ⟨d', hg, hf⟩ := Option.bind_eq_some_iff.mp hf
  cases hf
  exact ⟨W, ρ, M, rfl, sr, sl, x, M1, hx, fun W1 v e1 s1 r1 => op W1 _ x d v Q s1 r1 hg fun W2 v' e2 s2 r2 => k W2 v' (e1.trans e2) s2 r2⟩
theorem lift2 {r : R2} {g : G2} {fa fb : FE} (op : Op2 K r g) : ∀ σ H Q, liftE K (f2 g fa fb) σ H Q → tOp r (liftE K fa) (liftE K fb) σ H Q := by
  rintro σ H Q ⟨W, ρ, M, rfl, sr, sl, d, M', hf, k⟩
  obtain ⟨⟨x, M1⟩, hx, hf⟩ := Option.bind_eq_some_iff.mp hf
  obtain ⟨⟨y, M2⟩, hy, hf⟩ := Option.bind_eq_some_iff.mp hf
  obtain ⟨d', hg, hf⟩ := Option.bind_eq_some_iff.mp hf
  cases hf
  exact ⟨W, ρ, M, rfl, sr, sl, x, M1, hx, fun W1 v e1 s1 r1 => ⟨W1, ρ, M1, rfl, s1, sl.ext e1 sr.sub, y, M2, hy, fun W2 u e2 s2 r2 =>
    op W2 _ x y d v u Q s2 (r1.ext e2 s1.sub) r2 hg fun W3 v' e3 s3 r3 => k W3 v' ((e1.trans e2).trans e3) s3 r3⟩⟩
theorem lift2T {r : R2} {g : G2B} {fa fb : FE} (op : Op2 K r (gB g)) : ∀ σ H Q, liftT K (f2T g fa fb) σ H Q → tTest (tOp r (liftE K fa) (liftE K fb)) σ H Q := by
  rintro σ H Q ⟨W, ρ, M, rfl, sr, sl, d, M', hf, k⟩
  obtain ⟨⟨x, M1⟩, hx, hf⟩ := Option.bind_eq_some_iff.mp hf
  obtain ⟨⟨y, M2⟩, hy, hf⟩ := Option.bind_eq_some_iff.mp hf
  obtain ⟨d', hg, hf⟩ := Option.bind_eq_some_iff.mp hf
  cases hf
  exact ⟨W, ρ, M, rfl, sr, sl, x, M1, hx, fun W1 v e1 s1 r1 => ⟨W1, ρ, M1, rfl, s1, sl.ext e1 sr.sub, y, M2, hy, fun W2 u e2 s2 r2 =>
    op W2 _ x y (.bl d) v u _ s2 (r1.ext e2 s1.sub) r2 (by rw [gB, hg]; rfl) fun W3 v' e3 s3 r3 => ⟨d, r3, k W3 ((e1.trans e2).trans e3) s3⟩⟩⟩
theorem Op2.or {r r' : R2} {g g' : G2} (h : Op2 K r g) (h' : Op2 K r' g') : Op2 K (fun x y H Q => r x y H Q ∨ r' x y H Q) (fun x y M => (g x y M).orElse fun _ => g' x y M) := by
  intro W M x y d v u Q sr rx ry hg k
  cases q : g x y M with
  | some z =>
    simp only [q, Option.orElse_some, Option.some.injEq] at hg
    subst hg
    exact .inl (h W M x y z v u Q sr rx ry q k)
  | none =>
    simp only [q, Option.orElse_none] at hg
    exact .inr (h' W M x y d v u Q sr rx ry hg k)
theorem Op2.sum {r r' : R2} {g : G2} (h : ∀ (W : Wo) (M : Mem) (x y d : D) (v u : V) (Q : VK), SR K W M → Rp K W x v → Rp K W y u → g x y M = some d →
  (∀ W' v', Ext W W' → SR K W' M → Rp K W' d v' → Q v' W'.H) → r v u W.H Q ∨ r' v u W.H Q) : Op2 K (fun x y H Q => r x y H Q ∨ r' x y H Q) g := h
end
section
variable {X : Cx} {a b c : Expr} {fa fb fc : FE} {pos : Pos}
theorem pf_var (i : Nat) {x : Str} {pos : Pos} (hN : X.N[i]? = some x := by rfl) (hv : Vis X.env.scope x := by first | exact Or.inl rfl | exact Or.inr (Or.inl rfl) | exact Or.inr (Or.inr rfl)) (hd : (x == ("__debug__" : Str)) = false := by decide)
    (hcd : (x == ("__classdict__" : Str)) = false := by decide) : PFE X (.Name x pos) (fVar i) := pe_weak (pe_var hN hv hd hcd) fun σ H Q ⟨W, ρ, M, hW, sr, sl, d, M', hf, k⟩ => by
  subst hW
  unfold fVar at hf
  split at hf
  · rename_i d' hd'
    cases hf
    obtain ⟨v, h1, h2⟩ := sl.at_ i _ hd'
    exact ⟨v, h1, k W v (.refl W) sr h2⟩
  · cases hf
theorem pf_c {d : D} {v : V} {e : Expr} (h : PE X e (tC v)) (r : ∀ W, Rp X.K W d v) : PFE X e (fC d) := pe_weak h fun σ H Q ⟨W, ρ, M, hW, sr, sl, d, M', hf, k⟩ => by
  subst hW
  cases hf
  exact k W v (.refl W) sr (r W)
theorem pf_int {i : Int} {j pos} : PFE X (.Constant (.int i) j pos) (fC (.int i)) := pf_c pe_int fun _ => rfl
theorem pf_bl {i : Bool} {j pos} : PFE X (.Constant (.bool i) j pos) (fC (.bl i)) := pf_c pe_bl fun _ => rfl
theorem pf_non {j pos} : PFE X (.Constant .none j pos) (fC .non) := pf_c pe_non fun _ => rfl
theorem pf_str {i : Str} {j pos} : PFE X (.Constant (.str i) j pos) (fC (.str i)) := pf_c pe_str fun _ => rfl
theorem pf_un {op : UnaryOp} {r : V → Hp → VK → Prop} {g : G1} (ho : UnR X (unaryOp op) r) (o : Op1 X.K r g) (ha : PFE X a fa) : PFE X (.UnaryOp op a pos) (f1 g fa) := pe_weak (pe_un ho ha) (lift1 o)
theorem pf_bin {op : Operator} {r : R2} {g : G2} (ho : OpR X (binaryOp op) r) (o : Op2 X.K r g) (ha : PFE X a fa) (hb : PFE X b fb) : PFE X (.BinOp a op b pos) (f2 g fa fb) := pe_weak (pe_op ho ha hb) (lift2 o)
theorem pf_cmp {op : CmpOp} {r : R2} {g : G2B} (ho : OpR X (compareOp op) r) (o : Op2 X.K r (gB g)) (ha : PFE X a fa) (hb : PFE X b fb) (hm : behindInMarks op b = false) : PFE X (.Compare a [op] [b] pos) (f2 (gB g) fa fb) := pe_weak (pe_cmpR ho ha hb hm) (lift2 o)
theorem pft_cmp {op : CmpOp} {r : R2} {g : G2B} (ho : OpR X (compareOp op) r) (o : Op2 X.K r (gB g)) (ha : PFE X a fa) (hb : PFE X b fb) (hm : behindInMarks op b = false) : PFT X (.Compare a [op] [b] pos) (f2T g fa fb) := pt_weak (pt_cmpR ho ha hb hm) (lift2T o)
theorem pf_ix {r : R2} {g : G2} (hr : IxR X r) (o : Op2 X.K r g) (ha : PFE X a fa) (hb : PFE X b fb) (hs : PlainIx b) : PFE X (.Subscript a b pos) (f2 g fa fb) := pe_weak (pe_ix hr ha hb hs) (lift2 o)
end
end PF
namespace PF
open PySem PySem.Spec PyProof.Rows L2
/-! ### arithmetic -/
/-- lists that are tracked as they are -/
def ltOf : D → Mem → Option (List D)
  | .lst xs, _ => some xs
  | .ref n, M => match M[n]? with | some (.lst xs) => some xs | _ => none
  | _, _ => none
theorem lt_sq {K : PySem.W.Frag} {W : Wo} {M : Mem} {d : D} {v : V} {xs : List D} (sr : SR K W M) (h : Rp K W d v) (e : ltOf d M = some xs) : ∃ a vs, v = .ref a ∧ W.H a = some (.lst vs) ∧ RpL K W xs vs := by
  cases d with
  | lst ds =>
    cases e
    obtain ⟨a, vs, e1, f, r⟩ := h
    exact ⟨a, vs, e1, f.1.1, r⟩
  | ref n =>
    obtain ⟨a, h1, e1⟩ := h
    obtain ⟨mo, h2, m⟩ := sr.at_ h1
    have e' : (match M[n]? with | some (.lst xs) => some xs | _ => none) = some xs := e
    rw [h2] at e'
    cases mo with
    | lst ds =>
      cases e'
      obtain ⟨vs, q1, q2⟩ := m
      exact ⟨a, vs, e1, q1.1, q2⟩
  | _ => cases e
def gAdd : G2 := fun x y M => match x, y with
  | .int i, .int j => some (.int (i + j))
  | .str a, .str b => if a.length + b.length ≤ LINE then some (.str (a ++ b)) else none
  | .tup a, .tup b => if a.length + b.length ≤ LINE then some (.tup (a ++ b)) else none
  | x, y => match ltOf x M, ltOf y M with
    | some a, some b => if a.length + b.length ≤ LINE then some (.lst (a ++ b)) else none
    | _, _ => none
def rAddA (K : PySem.W.Frag) : R2 := fun x y H Q => rI0 (fun i j => .int (i + j)) x y H Q ∨ (∃ i j, x = .str i ∧ y = .str j ∧ i.length + j.length ≤ sizeLine ∧ Q (.str (i ++ j)) H) ∨ rCatA K x y H Q ∨ rCat x y H Q
theorem op_addA {X : Cx} : OpR X (binaryOp .Add) (rAddA X.K) := op_add.or (op_add_str.or (op_catA.or op_cat))
theorem o_add {K : PySem.W.Frag} : Op2 K (rAddA K) gAdd := by
  intro W M x y d v u Q sr rx ry hg k
  have lists : (match ltOf x M, ltOf y M with
    | some a, some b => if a.length + b.length ≤ LINE then some (D.lst (a ++ b)) else none
    | _, _ => none) = some d → rCat v u W.H Q := fun e => by
    split at e
    · rename_i a b ha hb
      split at e
      · rename_i hl
        cases e
        obtain ⟨p, vs, rfl, h1, r1⟩ := lt_sq sr rx ha
        obtain ⟨q, us, rfl, h2, r2⟩ := lt_sq sr ry hb
        exact ⟨p, q, vs, us, rfl, rfl, h1, h2, by rw [line_eq, ← r1.len, ← r2.len]; exact hl, fun t nt => k _ _ (Ext.put nt) (sr.put nt) (.newLst sr nt (r1.append r2) (by rw [List.length_append, ← r1.len, ← r2.len]; exact hl))⟩
      · cases e
    · cases e
  unfold gAdd at hg
  split at hg
  · cases hg
    cases rx; cases ry
    exact .inl ⟨_, _, rfl, rfl, k W _ (.refl W) sr rfl⟩
  · split at hg
    · rename_i hl
      cases hg
      cases rx; cases ry
      exact .inr (.inl ⟨_, _, rfl, rfl, by rw [line_eq]; exact hl, k W _ (.refl W) sr rfl⟩)
    · cases hg
  · split at hg
    · rename_i a b hl
      cases hg
      obtain ⟨p, vs, rfl, h1, r1⟩ := tp_sq rx
      obtain ⟨q, us, rfl, h2, r2⟩ := tp_sq ry
      refine .inr (.inr (.inl ⟨p, q, vs, us, rfl, rfl, h1, h2, by rw [line_eq, ← r1.len, ← r2.len]; exact hl, fun e => ?_, fun _ e => ?_, fun _ _ t nt => k _ _ (Ext.put nt) (sr.put nt) (.newTup sr nt (r1.append r2) (by rw [List.length_append, ← r1.len, ← r2.len]; exact hl))⟩))
      · subst e
        have : a = [] := List.eq_nil_of_length_eq_zero r1.len
        subst this
        exact k W _ (.refl W) sr ry
      · subst e
        have : b = [] := List.eq_nil_of_length_eq_zero r2.len
        subst this
        exact k W _ (.refl W) sr (by rw [List.append_nil]; exact rx)
    · cases hg
  · exact .inr (.inr (.inr (lists hg)))
def rInts (f : Int → Int → Int) : G2 := fun x y _ => match x, y with | .int i, .int j => some (.int (f i j)) | _, _ => none
def gInts (c : Int → Int → Bool) (f : Int → Int → Int) : G2 := fun x y _ => match x, y with | .int i, .int j => if c i j then some (.int (f i j)) else none | _, _ => none
theorem o_ints0 {K : PySem.W.Frag} {f : Int → Int → Int} : Op2 K (rI0 fun i j => .int (f i j)) (rInts f) := by
  intro W M x y d v u Q sr rx ry hg k
  unfold rInts at hg
  split at hg
  · cases hg
    cases rx; cases ry
    exact ⟨_, _, rfl, rfl, k W _ (.refl W) sr rfl⟩
  · cases hg
theorem o_ints {K : PySem.W.Frag} {C : Int → Int → Prop} {c : Int → Int → Bool} {f : Int → Int → Int} (hc : ∀ i j, c i j = true → C i j) : Op2 K (rI C fun i j => .int (f i j)) (gInts c f) := by
  intro W M x y d v u Q sr rx ry hg k
  unfold gInts at hg
  split at hg
  · split at hg
    · rename_i h
      cases hg
      cases rx; cases ry
      exact ⟨_, _, rfl, rfl, hc _ _ h, k W _ (.refl W) sr rfl⟩
    · cases hg
  · cases hg
def gSub : G2 := rInts fun i j => i - j
def okMul (i j : Int) : Bool := decide (i.natAbs < 18446744073709551616) || (decide (j.natAbs < 18446744073709551616) || decide (i.natAbs.log2 + j.natAbs.log2 < 1000000))
def okDiv (j : Int) : Bool := decide (j ≠ 0) && decide (j.natAbs.log2 < 9000)
def okPow (i j : Int) : Bool := decide (0 ≤ j) && (decide (j ≤ 1000000) && decide (i.natAbs < 18446744073709551616))
def gMul : G2 := fun x y M => match x, y with
  | .int i, .int j => if okMul i j then some (.int (i * j)) else none
  | x, .int j => match ltOf x M with
    | some xs => if decide (-(9223372036854775808) ≤ j) && (decide (j < 9223372036854775808) && decide (xs.length * j.toNat ≤ LINE)) then some (.lst (List.replicate j.toNat xs).flatten) else none
    | none => none
  | _, _ => none
def gFdiv : G2 := gInts (fun _ j => okDiv j) Int.fdiv
def gMod : G2 := gInts (fun _ j => decide (j ≠ 0)) Int.fmod
def gPow : G2 := gInts okPow fun i j => i ^ j.toNat
theorem op_fdivA {X : Cx} : OpR X (binaryOp .FloorDiv) (rI (fun _ j => j ≠ 0 ∧ j.natAbs.log2 < 9000) fun i j => .int (i.fdiv j)) := opI fun _ _ _ _ _ _ _ hc q => floordiv_int hc.1 q (.inl (PyProof.noPylong_of_log2 hc.2))
theorem o_sub {K : PySem.W.Frag} : Op2 K (rI0 fun i j => .int (i - j)) gSub := o_ints0
theorem RpL.rep {K : PySem.W.Frag} {W : Wo} {xs : List D} {vs : List V} (h : RpL K W xs vs) : ∀ n : Nat, RpL K W (List.replicate n xs).flatten (List.replicate n vs).flatten
  | 0 => rfl
  | n + 1 => by
    rw [List.replicate_succ, List.replicate_succ, List.flatten_cons, List.flatten_cons]
    exact h.append (RpL.rep h n)
theorem okMul_ok {i j : Int} (h : okMul i j = true) : IntMulOk i j := by
  unfold okMul at h
  simp only [Bool.or_eq_true, decide_eq_true_eq] at h
  rcases h with h | h | h
  · exact CMul.ok (.inl ⟨by omega, by omega⟩)
  · exact CMul.ok (.inr ⟨by omega, by omega⟩)
  · exact CMulW.ok h
def rMulA : R2 := fun x y H Q => rI IntMulOk (fun i j => .int (i * j)) x y H Q ∨ rRep x y H Q
theorem op_mulA {X : Cx} : OpR X (binaryOp .Mult) rMulA := OpR.or (opI fun _ _ _ _ _ _ _ hc q => mul_int q hc) op_rep
theorem o_mul {K : PySem.W.Frag} : Op2 K rMulA gMul := by
  intro W M x y d v u Q sr rx ry hg k
  unfold gMul at hg
  split at hg
  · split at hg
    · rename_i h
      cases hg
      cases rx; cases ry
      exact .inl ⟨_, _, rfl, rfl, okMul_ok h, k W _ (.refl W) sr rfl⟩
    · cases hg
  · split at hg
    · rename_i xs hx
      split at hg
      · rename_i h
        cases hg
        simp only [Bool.and_eq_true, decide_eq_true_eq] at h
        obtain ⟨p, vs, rfl, h1, r1⟩ := lt_sq sr rx hx
        cases ry
        exact .inr ⟨p, _, vs, rfl, rfl, h1, h.1, h.2.1, by rw [line_eq, ← r1.len]; exact h.2.2, fun t nt => k _ _ (Ext.put nt) (sr.put nt) (.newLst sr nt (r1.rep _) (by rw [← (r1.rep _).len, PyProof.Rows.lm_len_rep_flat, Nat.mul_comm]; exact h.2.2))⟩
      · cases hg
    · cases hg
  · cases hg
theorem o_fdiv {K : PySem.W.Frag} : Op2 K (rI (fun _ j => j ≠ 0 ∧ j.natAbs.log2 < 9000) fun i j => .int (i.fdiv j)) gFdiv := o_ints fun i j h => by
  unfold okDiv at h
  simp only [Bool.and_eq_true, decide_eq_true_eq] at h
  exact h
theorem o_mod {K : PySem.W.Frag} : Op2 K (rI (fun _ j => j ≠ 0) fun i j => .int (i.fmod j)) gMod := o_ints fun i j h => of_decide_eq_true h
theorem o_pow {K : PySem.W.Frag} : Op2 K (rI CPow fun i j => .int (i ^ j.toNat)) gPow := o_ints fun i j h => by
  unfold okPow at h
  simp only [Bool.and_eq_true, decide_eq_true_eq] at h
  exact ⟨h.1, h.2.1, h.2.2⟩
def gNeg : G1 := fun x _ => match x with | .int i => some (.int (-i)) | _ => none
theorem o_neg {K : PySem.W.Frag} : Op1 K (rU fun i => .int (-i)) gNeg := by
  intro W M x d v Q sr rx hg k
  unfold gNeg at hg
  split at hg
  · cases hg
    cases rx
    exact ⟨_, rfl, k W _ (.refl W) sr rfl⟩
  · cases hg
/-! ### comparisons -/
def gCmp (c : Int → Int → Bool) : G2B := fun x y _ => match x, y with | .int i, .int j => some (c i j) | _, _ => none
theorem o_cmp {K : PySem.W.Frag} {c : Int → Int → Bool} : Op2 K (rI0 fun i j => .bl (c i j)) (gB (gCmp c)) := by
  intro W M x y d v u Q sr rx ry hg k
  unfold gB gCmp at hg
  split at hg
  · cases hg
    cases rx; cases ry
    exact ⟨_, _, rfl, rfl, k W _ (.refl W) sr rfl⟩
  · cases hg
/-! Python's == -/
mutual
def D.py : D → PyData
  | .non => .none
  | .bl b => .bool b
  | .int i => .int i
  | .str x => .str x
  | .tup xs => .tuple (D.pys xs)
  | .lst xs => .list (D.pys xs)
  | .kst xs => .list (D.pys xs)
  | .ref _ => .none
def D.pys : List D → List PyData
  | [] => []
  | x :: xs => x.py :: D.pys xs
end
mutual
/-- without references, at most n deep -/
def D.dp : Nat → D → Bool
  | _, .non => true
  | _, .bl _ => true
  | _, .int _ => true
  | _, .str x => PyData.strOk x
  | n, .tup xs => decide (0 < n) && D.dps (n - 1) xs
  | n, .lst xs => decide (0 < n) && D.dps (n - 1) xs
  | n, .kst xs => decide (0 < n) && D.dps (n - 1) xs
  | _, .ref _ => false
def D.dps : Nat → List D → Bool
  | _, [] => true
  | n, x :: xs => D.dp n x && D.dps n xs
end
/-- a list that is referred to, as a list -/
def D.val (d : D) (M : Mem) : Option D := match d with
  | .ref n => match M[n]? with | some (.lst xs) => some (.lst xs) | _ => none
  | d => some d
def gEq : G2B := fun x y M => match x.val M, y.val M with
  | some a, some b => if a.dp 60 && b.dp 60 then some (PyData.eqv a.py b.py) else none
  | _, _ => none
def gNe : G2B := fun x y M => (gEq x y M).map (! ·)
section
variable {K : PySem.W.Frag} {W : Wo} {M : Mem}
mutual
theorem dp_Dp : ∀ (n : Nat) (d : D) (v : V), d.dp n = true → Rp K W d v → Dp K W.H v d.py
  | _, .non, v, _, h => by cases (show _ = _ from h); exact .non
  | _, .bl b, v, _, h => by cases (show _ = _ from h); exact .bl b
  | _, .int b, v, _, h => by cases (show _ = _ from h); exact .int b
  | _, .str b, v, _, h => by cases (show _ = _ from h); exact .str b
  | n, .tup xs, v, hd, h => by
    obtain ⟨a, vs, e, h1, r⟩ := tp_sq h
    subst e
    rw [D.dp, Bool.and_eq_true] at hd
    rw [D.py]
    exact .tup h1 (dp_Dps (n - 1) xs vs hd.2 r)
  | n, .lst xs, v, hd, h => by
    obtain ⟨a, vs, e, f, r⟩ := h
    subst e
    rw [D.dp, Bool.and_eq_true] at hd
    rw [D.py]
    exact .lst (.of f.1.1) (dp_Dps (n - 1) xs vs hd.2 r)
  | n, .kst xs, v, hd, h => by
    obtain ⟨a, vs, e, f, r⟩ := h
    subst e
    rw [D.dp, Bool.and_eq_true] at hd
    rw [D.py]
    refine .lst ?_ (dp_Dps (n - 1) xs vs hd.2 r)
    rcases f.1 with ⟨⟨o, f⟩, _⟩ | f
    · exact .inl (.inr ⟨o, f⟩)
    · exact SqL.any f
  | _, .ref _, _, hd, _ => by rw [D.dp] at hd; cases hd
theorem dp_Dps : ∀ (n : Nat) (ds : List D) (vs : List V), D.dps n ds = true → RpL K W ds vs → DpAll K W.H vs (D.pys ds)
  | _, [], vs, _, h => by cases (show _ = _ from h); rw [D.pys]; exact .nil
  | n, d :: ds, vs, hd, h => by
    obtain ⟨v, r, e, h1, h2⟩ := h
    subst e
    rw [D.dps, Bool.and_eq_true] at hd
    rw [D.pys]
    exact .cons (dp_Dp n d v hd.1 h1) (dp_Dps n ds r hd.2 h2)
end
mutual
theorem dp_can : ∀ (n : Nat) (d : D), d.dp n = true → d.py.canLay0 = true ∧ d.py.depth ≤ n
  | n, .non, _ => by rw [D.py]; exact ⟨by simp [PyData.canLay0], by simp [PyData.depth]⟩
  | n, .bl _, _ => by rw [D.py]; exact ⟨by simp [PyData.canLay0], by simp [PyData.depth]⟩
  | n, .int _, _ => by rw [D.py]; exact ⟨by simp [PyData.canLay0], by simp [PyData.depth]⟩
  | n, .str _, h => by rw [D.py]; rw [D.dp] at h; exact ⟨by simpa [PyData.canLay0] using h, by simp [PyData.depth]⟩
  | n, .tup xs, h => by
    rw [D.dp, Bool.and_eq_true, decide_eq_true_eq] at h
    obtain ⟨h1, h2⟩ := dps_can (n - 1) xs h.2
    rw [D.py]
    exact ⟨by simpa [PyData.canLay0] using h1, by simp only [PyData.depth]; omega⟩
  | n, .lst xs, h => by
    rw [D.dp, Bool.and_eq_true, decide_eq_true_eq] at h
    obtain ⟨h1, h2⟩ := dps_can (n - 1) xs h.2
    rw [D.py]
    exact ⟨by simpa [PyData.canLay0] using h1, by simp only [PyData.depth]; omega⟩
  | n, .kst xs, h => by
    rw [D.dp, Bool.and_eq_true, decide_eq_true_eq] at h
    obtain ⟨h1, h2⟩ := dps_can (n - 1) xs h.2
    rw [D.py]
    exact ⟨by simpa [PyData.canLay0] using h1, by simp only [PyData.depth]; omega⟩
  | _, .ref _, h => by rw [D.dp] at h; cases h
theorem dps_can : ∀ (n : Nat) (ds : List D), D.dps n ds = true → PyData.canLayAll0 (D.pys ds) = true ∧ PyData.depthAll (D.pys ds) ≤ n
  | n, [], _ => by rw [D.pys]; exact ⟨by simp [PyData.canLayAll0], by simp [PyData.depthAll]⟩
  | n, d :: ds, h => by
    rw [D.dps, Bool.and_eq_true] at h
    obtain ⟨h1, h2⟩ := dp_can n d h.1
    obtain ⟨h3, h4⟩ := dps_can n ds h.2
    rw [D.pys]
    exact ⟨by simp [PyData.canLayAll0, h1, h3], by simp only [PyData.depthAll]; omega⟩
end
theorem val_Rp {d d' : D} {v : V} (sr : SR K W M) (h : Rp K W d v) (e : d.val M = some d') (hp : d'.dp 60 = true) : Dp K W.H v d'.py := by
  cases d with
  | ref n =>
    obtain ⟨a, h1, e1⟩ := h
    obtain ⟨mo, h2, m⟩ := sr.at_ h1
    have e' : (match M[n]? with | some (.lst xs) => some (D.lst xs) | _ => none) = some d' := e
    rw [h2] at e'
    cases mo with
    | lst ds =>
      cases e'
      obtain ⟨vs, q1, q2⟩ := m
      subst e1
      rw [D.dp, Bool.and_eq_true] at hp
      rw [D.py]
      exact .lst (.of q1.1) (dp_Dps _ ds vs hp.2 q2)
  | _ => cases e; exact dp_Dp 60 _ v hp h
theorem shaped_of {d : D} (h : d.dp 60 = true) : SeqAt.shaped d.py = true := by
  obtain ⟨h1, h2⟩ := dp_can 60 d h
  unfold SeqAt.shaped
  rw [h1, decide_eq_true (Nat.le_trans h2 (by decide))]
  rfl
theorem o_eq : Op2 K (rEqD K) (gB gEq) := by
  intro W M x y d v u Q sr rx ry hg k
  unfold gB gEq at hg
  split at hg
  · rename_i a b ha hb
    split at hg
    · rename_i h
      cases hg
      rw [Bool.and_eq_true] at h
      exact ⟨_, _, val_Rp sr rx ha h.1, val_Rp sr ry hb h.2, shaped_of h.1, shaped_of h.2, k W _ (.refl W) sr rfl⟩
    · cases hg
  · cases hg
theorem o_ne : Op2 K (rNeD K) (gB gNe) := by
  intro W M x y d v u Q sr rx ry hg k
  unfold gB gNe gEq at hg
  split at hg
  · rename_i a b ha hb
    split at hg
    · rename_i h
      cases hg
      rw [Bool.and_eq_true] at h
      exact ⟨_, _, val_Rp sr rx ha h.1, val_Rp sr ry hb h.2, shaped_of h.1, shaped_of h.2, k W _ (.refl W) sr rfl⟩
    · cases hg
  · cases hg
/-- is None; is True, is False of a bool -/
def isNn : D → Bool
  | .non => true
  | _ => false
def gIs : G2B := fun x y _ => match y with
  | .non => some (isNn x)
  | .bl b => match x with | .bl a => some (decide (a = b)) | _ => none
  | _ => none
def gIsNot : G2B := fun x y M => (gIs x y M).map (! ·)
theorem isNon_rel {d : D} {v : V} (h : Rp K W d v) : decide (v = .non) = isNn d := by
  cases d with
  | non => cases (show _ = _ from h); rfl
  | bl _ => cases (show _ = _ from h); rfl
  | int _ => cases (show _ = _ from h); rfl
  | str _ => cases (show _ = _ from h); rfl
  | tup _ => obtain ⟨a, vs, e, _⟩ := h; subst e; rfl
  | lst _ => obtain ⟨a, vs, e, _⟩ := h; subst e; rfl
  | kst _ => obtain ⟨a, vs, e, _⟩ := h; subst e; rfl
  | ref _ => obtain ⟨a, _, e⟩ := h; subst e; rfl
end
def rIsA : R2 := fun x y H Q => (y = .non ∧ Q (.bl (decide (x = .non))) H) ∨ rIsB x y H Q
def rIsNotA : R2 := fun x y H Q => (y = .non ∧ Q (.bl (!decide (x = .non))) H) ∨ rNotB x y H Q
theorem op_isA {X : Cx} : OpR X (compareOp .Is) rIsA := op_isN.or op_isBl
theorem op_isNotA {X : Cx} : OpR X (compareOp .IsNot) rIsNotA := op_notN.or op_notBl
theorem o_is {K : PySem.W.Frag} : Op2 K rIsA (gB gIs) := by
  intro W M x y d v u Q sr rx ry hg k
  unfold gB gIs at hg
  split at hg
  · cases hg
    cases (show _ = _ from ry)
    exact .inl ⟨rfl, k W _ (.refl W) sr (by rw [isNon_rel rx]; rfl)⟩
  · split at hg
    · cases hg
      cases (show _ = _ from ry); cases (show _ = _ from rx)
      exact .inr ⟨_, _, rfl, rfl, k W _ (.refl W) sr rfl⟩
    · cases hg
  · cases hg
theorem o_isNot {K : PySem.W.Frag} : Op2 K rIsNotA (gB gIsNot) := by
  intro W M x y d v u Q sr rx ry hg k
  unfold gB gIsNot gIs at hg
  split at hg
  · cases hg
    cases (show _ = _ from ry)
    exact .inl ⟨rfl, k W _ (.refl W) sr (by rw [isNon_rel rx]; rfl)⟩
  · split at hg
    · cases hg
      cases (show _ = _ from ry); cases (show _ = _ from rx)
      exact .inr ⟨_, _, rfl, rfl, k W _ (.refl W) sr rfl⟩
    · cases hg
  · cases hg
/-! ### subscripts -/
def ixD (xs : List D) (i : Int) : Option D := atI xs i
def gIx : G2 := fun x y M => match y with
  | .int i => match x with
    | .str z => if z.length ≤ LINE then (atI z.cps.toList i).map fun c => .str ⟨#[c]⟩ else none
    | x => (sqOf x M).bind fun xs => atI xs i
  | _ => none
theorem RpL.atI {K : PySem.W.Frag} {W : Wo} {xs : List D} {vs : List V} {i : Int} {d : D} (h : RpL K W xs vs) (e : atI xs i = some d) : ∃ v, L2.atI vs i = some v ∧ Rp K W d v := by
  unfold L2.atI at e ⊢
  rw [← h.len]
  obtain ⟨j, hj, e⟩ := Option.bind_eq_some_iff.mp e
  obtain ⟨v, h1, h2⟩ := h.get e
  exact ⟨v, by rw [hj]; exact h1, h2⟩
theorem o_ix {K : PySem.W.Frag} : Op2 K (rIx K) gIx := by
  intro W M x y d v u Q sr rx ry hg k
  unfold gIx at hg
  split at hg
  · cases (show _ = _ from ry)
    split at hg
    · split at hg
      · rename_i h
        cases (show _ = _ from rx)
        obtain ⟨c, hc, hg⟩ := Option.map_eq_some_iff.mp hg
        subst hg
        exact .inr (.inr ⟨_, _, c, rfl, rfl, by rw [line_eq]; exact h, hc, k W _ (.refl W) sr rfl⟩)
      · cases hg
    · obtain ⟨xs, hx, hg⟩ := Option.bind_eq_some_iff.mp hg
      obtain ⟨p, vs, rfl, h1, r1⟩ := sq_sq sr rx hx
      obtain ⟨z, h2, r2⟩ := r1.atI hg
      rcases h1 with h1 | h1
      · exact .inl ⟨p, vs, _, z, rfl, rfl, h1, h2, k W _ (.refl W) sr r2⟩
      · exact .inr (.inl ⟨p, vs, _, z, rfl, rfl, h1, h2, k W _ (.refl W) sr r2⟩)
  · cases hg
end PF
namespace PF
open PySem PySem.Spec PyProof.Rows L2
/-! ### truth, and, or, not -/
def gTru (d : D) (M : Mem) : Option Bool := match d with
  | .non => some false
  | .bl b => some b
  | .int i => some (i != 0)
  | .str x => if x.length ≤ LINE then some ((x.length : Int) != 0) else none
  | d => (sqOf d M).map fun xs => !xs.isEmpty
section
variable {K : PySem.W.Frag} {W : Wo} {M : Mem}
theorem RpL.emp {xs : List D} {vs : List V} (h : RpL K W xs vs) : (!xs.isEmpty) = !vs.isEmpty := by
  cases xs with
  | nil => cases (show _ = _ from h); rfl
  | cons d ds => obtain ⟨v, r, e, _⟩ := h; subst e; rfl
theorem tru_of {d : D} {v : V} {k : Bool} (sr : SR K W M) (h : Rp K W d v) (e : gTru d M = some k) : TruV K v W.H k := by
  have seq : (sqOf d M).map (fun xs => !xs.isEmpty) = some k → TruV K v W.H k := fun e => by
    obtain ⟨xs, hx, e⟩ := Option.map_eq_some_iff.mp e
    obtain ⟨a, vs, e1, h1, r⟩ := sq_sq sr h hx
    subst e1
    rcases h1 with h1 | h1
    · exact .inl ⟨vs, h1, by rw [← e]; exact r.emp⟩
    · exact .inr (.inl ⟨vs, h1, by rw [← e]; exact r.emp⟩)
  cases d with
  | non => cases (show _ = _ from h); cases e; exact rfl
  | bl b => cases (show _ = _ from h); cases e; exact rfl
  | int i => cases (show _ = _ from h); cases e; exact rfl
  | str x =>
    cases (show _ = _ from h)
    have e' : (if x.length ≤ LINE then some ((x.length : Int) != 0) else none) = some k := e
    split at e'
    · rename_i hl
      cases e'
      exact ⟨by rw [line_eq]; exact hl, rfl⟩
    · cases e'
  | _ => exact seq e
end
def fTru (fa : FE) : FT := fun ρ M => (fa ρ M).bind fun a => (gTru a.1 a.2).bind fun k => some (k, a.2)
def fNot (fa : FT) : FT := fun ρ M => (fa ρ M).bind fun a => some (!a.1, a.2)
def fAnd (fa fb : FT) : FT := fun ρ M => (fa ρ M).bind fun a => if a.1 = true then fb ρ a.2 else some (false, a.2)
def fOr (fa fb : FT) : FT := fun ρ M => (fa ρ M).bind fun a => if a.1 = true then some (true, a.2) else fb ρ a.2
def fAndV (fa fb : FE) : FE := fun ρ M => (fa ρ M).bind fun a => (gTru a.1 a.2).bind fun k => if k = true then fb ρ a.2 else some a
def fOrV (fa fb : FE) : FE := fun ρ M => (fa ρ M).bind fun a => (gTru a.1 a.2).bind fun k => if k = true then some a else fb ρ a.2
def fNotV (fa : FE) : FE := fun ρ M => (fa ρ M).bind fun a => (gTru a.1 a.2).bind fun k => some (.bl (!k), a.2)
def fIfE (fc : FT) (fa fb : FE) : FE := fun ρ M => (fc ρ M).bind fun c => if c.1 = true then fa ρ c.2 else fb ρ c.2
def fChain (g g' : G2B) (fa fb fc : FE) : FE := fun ρ M => (fa ρ M).bind fun a => (fb ρ a.2).bind fun b => (g a.1 b.1 b.2).bind fun k =>
  if k = true then (fc ρ b.2).bind fun c => (g' b.1 c.1 c.2).bind fun z => some (.bl z, c.2) else some (.bl false, b.2)
def fChainT (g g' : G2B) (fa fb fc : FE) : FT := fun ρ M => (fa ρ M).bind fun a => (fb ρ a.2).bind fun b => (g a.1 b.1 b.2).bind fun k =>
  if k = true then (fc ρ b.2).bind fun c => (g' b.1 c.1 c.2).bind fun z => some (z, c.2) else some (false, b.2)
section
variable {X : Cx} {a b c : Expr} {rest : List Expr} {fa fb fc : FE} {ta tb : FT} {pos : Pos}
theorem pft_tru (ha : PFE X a fa) (he : ∀ whole, isTrue a X.env whole = (do let v ← whole; standAt a.pos; holding [v] (truthy v)) := by intro _; rfl) : PFT X a (fTru fa) := pt_weak (pt_truth ha he) fun σ H Q => by
  rintro ⟨W, ρ, M, rfl, sr, sl, d, M', hf, k⟩
  obtain ⟨⟨x, M1⟩, hx, hf⟩ := Option.bind_eq_some_iff.mp hf
  obtain ⟨t, ht, hf⟩ := Option.bind_eq_some_iff.mp hf
  cases hf
  exact ⟨W, ρ, M, rfl, sr, sl, x, _, hx, fun W1 v e1 s1 r1 => ⟨_, tru_of s1 r1 ht, k W1 e1 s1⟩⟩
theorem pft_not (ha : PFT X a ta) : PFT X (.UnaryOp .Not a pos) (fNot ta) := pt_weak (pt_not ha) fun σ H Q => by
  rintro ⟨W, ρ, M, rfl, sr, sl, d, M', hf, k⟩
  obtain ⟨⟨x, M1⟩, hx, hf⟩ := Option.bind_eq_some_iff.mp hf
  cases hf
  exact ⟨W, ρ, M, rfl, sr, sl, x, _, hx, fun W1 e1 s1 => k W1 e1 s1⟩
theorem pfw_and1 (ha : PFT X a ta) : PFW X (.BoolOp .And [a] pos) ta := pw_and1 ha
theorem pfw_or1 (ha : PFT X a ta) : PFW X (.BoolOp .Or [a] pos) ta := pw_or1 ha
theorem pfw_and (ha : PFT X a ta) (hb : PFW X (.BoolOp .And (b :: rest) pos) tb) : PFW X (.BoolOp .And (a :: b :: rest) pos) (fAnd ta tb) := pw_weak (pw_and ha hb) fun σ H Q => by
  rintro ⟨W, ρ, M, rfl, sr, sl, d, M', hf, k⟩
  obtain ⟨⟨x, M1⟩, hx, hf⟩ := Option.bind_eq_some_iff.mp hf
  refine ⟨W, ρ, M, rfl, sr, sl, x, M1, hx, fun W1 e1 s1 => ?_⟩
  cases x with
  | true =>
    rw [if_pos rfl] at hf ⊢
    exact ⟨W1, ρ, M1, rfl, s1, sl.ext e1 sr.sub, d, M', hf, fun W2 e2 s2 => k W2 (e1.trans e2) s2⟩
  | false =>
    rw [if_neg Bool.false_ne_true] at hf ⊢
    cases hf
    exact k W1 e1 s1
theorem pfw_or (ha : PFT X a ta) (hb : PFW X (.BoolOp .Or (b :: rest) pos) tb) : PFW X (.BoolOp .Or (a :: b :: rest) pos) (fOr ta tb) := pw_weak (pw_or ha hb) fun σ H Q => by
  rintro ⟨W, ρ, M, rfl, sr, sl, d, M', hf, k⟩
  obtain ⟨⟨x, M1⟩, hx, hf⟩ := Option.bind_eq_some_iff.mp hf
  refine ⟨W, ρ, M, rfl, sr, sl, x, M1, hx, fun W1 e1 s1 => ?_⟩
  cases x with
  | false =>
    rw [if_neg Bool.false_ne_true] at hf ⊢
    exact ⟨W1, ρ, M1, rfl, s1, sl.ext e1 sr.sub, d, M', hf, fun W2 e2 s2 => k W2 (e1.trans e2) s2⟩
  | true =>
    rw [if_pos rfl] at hf ⊢
    cases hf
    exact k W1 e1 s1
theorem pf_one {op} (h : PFE X a fa) : PFE X (.BoolOp op [a] pos) fa := pe_one h
theorem pf_and (ha : PFE X a fa) (hb : PFE X (.BoolOp .And (b :: rest) pos) fb) : PFE X (.BoolOp .And (a :: b :: rest) pos) (fAndV fa fb) := pe_weak (pe_andT ha hb) fun σ H Q => by
  rintro ⟨W, ρ, M, rfl, sr, sl, d, M', hf, k⟩
  obtain ⟨⟨x, M1⟩, hx, hf⟩ := Option.bind_eq_some_iff.mp hf
  obtain ⟨t, ht, hf⟩ := Option.bind_eq_some_iff.mp hf
  refine ⟨W, ρ, M, rfl, sr, sl, x, M1, hx, fun W1 v e1 s1 r1 => ⟨t, tru_of s1 r1 ht, ?_⟩⟩
  cases t with
  | true =>
    rw [if_pos rfl] at hf ⊢
    exact ⟨W1, ρ, M1, rfl, s1, sl.ext e1 sr.sub, d, M', hf, fun W2 v e2 s2 r2 => k W2 v (e1.trans e2) s2 r2⟩
  | false =>
    rw [if_neg Bool.false_ne_true] at hf ⊢
    cases hf
    exact k W1 v e1 s1 r1
theorem pf_or (ha : PFE X a fa) (hb : PFE X (.BoolOp .Or (b :: rest) pos) fb) : PFE X (.BoolOp .Or (a :: b :: rest) pos) (fOrV fa fb) := pe_weak (pe_orT ha hb) fun σ H Q => by
  rintro ⟨W, ρ, M, rfl, sr, sl, d, M', hf, k⟩
  obtain ⟨⟨x, M1⟩, hx, hf⟩ := Option.bind_eq_some_iff.mp hf
  obtain ⟨t, ht, hf⟩ := Option.bind_eq_some_iff.mp hf
  refine ⟨W, ρ, M, rfl, sr, sl, x, M1, hx, fun W1 v e1 s1 r1 => ⟨t, tru_of s1 r1 ht, ?_⟩⟩
  cases t with
  | false =>
    rw [if_neg Bool.false_ne_true] at hf ⊢
    exact ⟨W1, ρ, M1, rfl, s1, sl.ext e1 sr.sub, d, M', hf, fun W2 v e2 s2 r2 => k W2 v (e1.trans e2) s2 r2⟩
  | true =>
    rw [if_pos rfl] at hf ⊢
    cases hf
    exact k W1 v e1 s1 r1
theorem pf_not (ha : PFE X a fa) : PFE X (.UnaryOp .Not a pos) (fNotV fa) := pe_weak (pe_notT ha) fun σ H Q => by
  rintro ⟨W, ρ, M, rfl, sr, sl, d, M', hf, k⟩
  obtain ⟨⟨x, M1⟩, hx, hf⟩ := Option.bind_eq_some_iff.mp hf
  obtain ⟨t, ht, hf⟩ := Option.bind_eq_some_iff.mp hf
  cases hf
  exact ⟨W, ρ, M, rfl, sr, sl, x, _, hx, fun W1 v e1 s1 r1 => ⟨t, tru_of s1 r1 ht, k W1 _ e1 s1 rfl⟩⟩
theorem pf_if (hc : PFT X c ta) (ha : PFE X a fa) (hb : PFE X b fb) : PFE X (.IfExp c a b pos) (fIfE ta fa fb) := pe_weak (pe_ifExp hc ha hb) fun σ H Q => by
  rintro ⟨W, ρ, M, rfl, sr, sl, d, M', hf, k⟩
  obtain ⟨⟨x, M1⟩, hx, hf⟩ := Option.bind_eq_some_iff.mp hf
  refine ⟨W, ρ, M, rfl, sr, sl, x, M1, hx, fun W1 e1 s1 => ?_⟩
  cases x with
  | false =>
    rw [if_neg Bool.false_ne_true] at hf ⊢
    exact ⟨W1, ρ, M1, rfl, s1, sl.ext e1 sr.sub, d, M', hf, fun W2 v e2 s2 r2 => k W2 v (e1.trans e2) s2 r2⟩
  | true =>
    rw [if_pos rfl] at hf ⊢
    exact ⟨W1, ρ, M1, rfl, s1, sl.ext e1 sr.sub, d, M', hf, fun W2 v e2 s2 r2 => k W2 v (e1.trans e2) s2 r2⟩
theorem pf_chain {op op' : CmpOp} {r r' : R2} {g g' : G2B} (ho : OpR X (compareOp op) r) (o : Op2 X.K r (gB g)) (ho' : OpR X (compareOp op') r') (o' : Op2 X.K r' (gB g')) (ha : PFE X a fa) (hb : PFE X b fb) (hc : PFE X c fc)
    (hm : lastMarks [op, op'] [b, c] = false := by with_unfolding_all rfl) : PFE X (.Compare a [op, op'] [b, c] pos) (fChain g g' fa fb fc) := pe_weak (pe_chain ho ho' ha hb hc hm) fun σ H Q => by
  rintro ⟨W, ρ, M, rfl, sr, sl, d, M', hf, k⟩
  obtain ⟨⟨x, M1⟩, hx, hf⟩ := Option.bind_eq_some_iff.mp hf
  obtain ⟨⟨y, M2⟩, hy, hf⟩ := Option.bind_eq_some_iff.mp hf
  obtain ⟨t, ht, hf⟩ := Option.bind_eq_some_iff.mp hf
  refine ⟨W, ρ, M, rfl, sr, sl, x, M1, hx, fun W1 v e1 s1 r1 => ⟨W1, ρ, M1, rfl, s1, sl.ext e1 sr.sub, y, M2, hy, fun W2 u e2 s2 r2 => ?_⟩⟩
  refine o W2 M2 x y (.bl t) v u _ s2 (r1.ext e2 s1.sub) r2 (by rw [gB, ht]; rfl) fun W3 z e3 s3 r3 => ⟨t, r3, ?_⟩
  cases t with
  | false =>
    rw [if_neg Bool.false_ne_true] at hf ⊢
    cases hf
    exact k W3 _ ((e1.trans e2).trans e3) s3 rfl
  | true =>
    rw [if_pos rfl] at hf ⊢
    obtain ⟨⟨z', M3⟩, hz, hf⟩ := Option.bind_eq_some_iff.mp hf
    obtain ⟨t', ht', hf⟩ := Option.bind_eq_some_iff.mp hf
    cases hf
    exact ⟨W3, ρ, M2, rfl, s3, sl.ext ((e1.trans e2).trans e3) sr.sub, z', _, hz, fun W4 q e4 s4 r4 => o' W4 _ y z' (.bl t') u q _ s4 (r2.ext (e3.trans e4) s2.sub) r4 (by rw [gB, ht']; rfl) fun W5 q' e5 s5 r5 => k W5 q' (((e1.trans e2).trans e3).trans (e4.trans e5)) s5 r5⟩
theorem pft_chain {op op' : CmpOp} {r r' : R2} {g g' : G2B} (ho : OpR X (compareOp op) r) (o : Op2 X.K r (gB g)) (ho' : OpR X (compareOp op') r') (o' : Op2 X.K r' (gB g')) (ha : PFE X a fa) (hb : PFE X b fb) (hc : PFE X c fc)
    (hm : lastMarks [op, op'] [b, c] = false := by with_unfolding_all rfl) : PFT X (.Compare a [op, op'] [b, c] pos) (fChainT g g' fa fb fc) := pt_weak (pt_chain ho ho' ha hb hc hm) fun σ H Q => by
  rintro ⟨W, ρ, M, rfl, sr, sl, d, M', hf, k⟩
  obtain ⟨⟨x, M1⟩, hx, hf⟩ := Option.bind_eq_some_iff.mp hf
  obtain ⟨⟨y, M2⟩, hy, hf⟩ := Option.bind_eq_some_iff.mp hf
  obtain ⟨t, ht, hf⟩ := Option.bind_eq_some_iff.mp hf
  refine ⟨W, ρ, M, rfl, sr, sl, x, M1, hx, fun W1 v e1 s1 r1 => ⟨W1, ρ, M1, rfl, s1, sl.ext e1 sr.sub, y, M2, hy, fun W2 u e2 s2 r2 => ?_⟩⟩
  refine o W2 M2 x y (.bl t) v u _ s2 (r1.ext e2 s1.sub) r2 (by rw [gB, ht]; rfl) fun W3 z e3 s3 r3 => ⟨t, r3, ?_⟩
  cases t with
  | false =>
    rw [if_neg Bool.false_ne_true] at hf ⊢
    cases hf
    exact ⟨false, rfl, k W3 ((e1.trans e2).trans e3) s3⟩
  | true =>
    rw [if_pos rfl] at hf ⊢
    obtain ⟨⟨z', M3⟩, hz, hf⟩ := Option.bind_eq_some_iff.mp hf
    obtain ⟨t', ht', hf⟩ := Option.bind_eq_some_iff.mp hf
    cases hf
    exact ⟨W3, ρ, M2, rfl, s3, sl.ext ((e1.trans e2).trans e3) sr.sub, z', _, hz, fun W4 q e4 s4 r4 => o' W4 _ y z' (.bl _) u q _ s4 (r2.ext (e3.trans e4) s2.sub) r4 (by rw [gB, ht']; rfl) fun W5 q' e5 s5 r5 => ⟨_, r5, k W5 (((e1.trans e2).trans e3).trans (e4.trans e5)) s5⟩⟩
end
/-! ### argument lists, displays, slices -/
def fNil : FA := fun _ M => some ([], M)
def fCons (fa : FE) (fr : FA) : FA := fun ρ M => (fa ρ M).bind fun a => (fr ρ a.2).bind fun r => some (a.1 :: r.1, r.2)
def fTup (f : FA) : FE := fun ρ M => (f ρ M).bind fun a => if a.1.length ≤ LINE then some (.tup a.1, a.2) else none
def fLstD (f : FA) : FA := fun ρ M => (f ρ M).bind fun a => if a.1.length ≤ LINE then some a else none
def fFz (f : FA) : FE := fun ρ M => (f ρ M).bind fun a => some (.lst a.1, a.2)
def fMut (f : FA) : FE := fun ρ M => (f ρ M).bind fun a => some (.ref a.2.length, a.2 ++ [.lst a.1])
abbrev FO := Rho → Mem → Option (Option Int × Mem)
def liftO (K : PySem.W.Frag) (f : FO) : TO := fun σ H Q => ∃ W ρ M, W.H = H ∧ SR K W M ∧ Sl K W ρ σ ∧ ∃ d M', f ρ M = some (d, M') ∧ ∀ W', Ext W W' → SR K W' M' → Q d W'.H
abbrev PFO (X : Cx) (e : Option Expr) (f : FO) : Prop := PO X e (liftO X.K f)
def fNoPart : FO := fun _ M => some (none, M)
def fPart (fa : FE) : FO := fun ρ M => (fa ρ M).bind fun a => match a.1 with | .int i => some (some i, a.2) | _ => none
def cutD (xs : List D) (lo hi : Option Int) : List D := (xs.drop (HT.sIx xs.length 0 lo)).take (HT.sIx xs.length xs.length hi - HT.sIx xs.length 0 lo)
def gSlice (x : D) (lo hi : Option Int) (M : Mem) : Option D := match x with
  | .tup xs => some (.tup (cutD xs lo hi))
  | x => (lsOf x M).map fun xs => .lst (cutD xs lo hi)
def fSlice (fa : FE) (fl fh : FO) : FE := fun ρ M => (fa ρ M).bind fun a => (fl ρ a.2).bind fun l => (fh ρ l.2).bind fun h => (gSlice a.1 l.1 h.1 h.2).bind fun d => some (d, h.2)
def fSliceN (fa : FE) (fl fh : FO) : FA := fun ρ M => (fa ρ M).bind fun a => (fl ρ a.2).bind fun l => (fh ρ l.2).bind fun h => (lsOf a.1 h.2).bind fun d => some (cutD d l.1 h.1, h.2)
section
variable {X : Cx} {a b c : Expr} {es : List Expr} {fa fb fc : FE} {f : FA} {pos : Pos}
theorem pfa_nil : PFA X [] fNil := pa_weak pa_nil fun σ H Q => by
  rintro ⟨W, ρ, M, rfl, sr, sl, d, M', hf, k⟩
  cases hf
  exact k W [] (.refl W) sr rfl
theorem pfa_cons (ha : PFE X a fa) (hr : PFA X es f) (hs : starEach (a :: es) X.env = (false, eval a X.env) :: starEach es X.env := by rfl) : PFA X (a :: es) (fCons fa f) := pa_weak (pa_cons ha hr hs) fun σ H Q => by
  rintro ⟨W, ρ, M, rfl, sr, sl, d, M', hf, k⟩
  obtain ⟨⟨x, M1⟩, hx, hf⟩ := Option.bind_eq_some_iff.mp hf
  obtain ⟨⟨r, M2⟩, hr, hf⟩ := Option.bind_eq_some_iff.mp hf
  cases hf
  exact ⟨W, ρ, M, rfl, sr, sl, x, M1, hx, fun W1 v e1 s1 r1 => ⟨W1, ρ, M1, rfl, s1, sl.ext e1 sr.sub, r, _, hr, fun W2 vs e2 s2 r2 => k W2 (v :: vs) (e1.trans e2) s2 ⟨v, vs, rfl, r1.ext e2 s1.sub, r2⟩⟩⟩
theorem pf_tup {x1} (h : PFA X es f) : PFE X (.Tuple es x1 pos) (fTup f) := pe_weak (pe_tup h) fun σ H Q => by
  rintro ⟨W, ρ, M, rfl, sr, sl, d, M', hf, k⟩
  obtain ⟨⟨x, M1⟩, hx, hf⟩ := Option.bind_eq_some_iff.mp hf
  split at hf
  · rename_i hl
    cases hf
    exact ⟨W, ρ, M, rfl, sr, sl, x, _, hx, fun W1 vs e1 s1 r1 => ⟨by rw [line_eq, ← r1.len]; exact hl, fun p hp => k _ _ (e1.trans (Ext.put hp)) (s1.put hp) (.newTup s1 hp r1 (by rw [← r1.len]; exact hl))⟩⟩
  · cases hf
theorem pfn_lst (h : PFA X es f) : PFN X (.List es pos) (fLstD f) := pe_weak (pe_lst h) fun σ H Q => by
  rintro ⟨W, ρ, M, rfl, sr, sl, d, M', hf, k⟩
  obtain ⟨⟨x, M1⟩, hx, hf⟩ := Option.bind_eq_some_iff.mp hf
  split at hf
  · rename_i hl
    cases hf
    exact ⟨W, ρ, M, rfl, sr, sl, d, _, hx, fun W1 vs e1 s1 r1 => ⟨by rw [line_eq, ← r1.len]; exact hl, fun p hp => k W1 p vs e1 s1 hp r1 (by rw [← r1.len]; exact hl)⟩⟩
  · cases hf
theorem pf_fz (h : PFN X a f) : PFE X a (fFz f) := pe_weak h fun σ H Q => by
  rintro ⟨W, ρ, M, rfl, sr, sl, d, M', hf, k⟩
  obtain ⟨⟨x, M1⟩, hx, hf⟩ := Option.bind_eq_some_iff.mp hf
  cases hf
  exact ⟨W, ρ, M, rfl, sr, sl, x, _, hx, fun W1 p vs e1 s1 hp r1 hl => k _ _ (e1.trans (Ext.put hp)) (s1.put hp) (.newLst s1 hp r1 hl)⟩
theorem pf_mut (h : PFN X a f) : PFE X a (fMut f) := pe_weak h fun σ H Q => by
  rintro ⟨W, ρ, M, rfl, sr, sl, d, M', hf, k⟩
  obtain ⟨⟨x, M1⟩, hx, hf⟩ := Option.bind_eq_some_iff.mp hf
  cases hf
  exact ⟨W, ρ, M, rfl, sr, sl, x, _, hx, fun W1 p vs e1 s1 hp r1 hl => k _ _ (e1.trans (Ext.mk2 hp)) (s1.mk2 hp r1 hl) (.mk2 s1)⟩
theorem po_weak {e : Option Expr} {t t' : TO} (h : PO X e t) (i : ∀ σ H Q, t' σ H Q → t σ H Q) : PO X e t' := ⟨fun pins s σ H Q I q => h.run pins s σ H Q I (i σ H Q q)⟩
theorem pfo_none : PFO X none fNoPart := po_weak po_none fun σ H Q => by
  rintro ⟨W, ρ, M, rfl, sr, sl, d, M', hf, k⟩
  cases hf
  exact k W (.refl W) sr
theorem pfo_some (ha : PFE X a fa) : PFO X (some a) (fPart fa) := po_weak (po_some ha) fun σ H Q => by
  rintro ⟨W, ρ, M, rfl, sr, sl, d, M', hf, k⟩
  obtain ⟨⟨x, M1⟩, hx, hf⟩ := Option.bind_eq_some_iff.mp hf
  dsimp only at hf
  split at hf
  · cases hf
    exact ⟨W, ρ, M, rfl, sr, sl, _, _, hx, fun W1 v e1 s1 r1 => ⟨_, r1, k W1 e1 s1⟩⟩
  · cases hf
theorem RpL.cut {K : PySem.W.Frag} {W : Wo} {xs : List D} {vs : List V} (h : RpL K W xs vs) (lo hi : Option Int) : RpL K W (cutD xs lo hi) (cutV vs lo hi) := by
  unfold cutD cutV
  rw [h.len]
  exact (h.drop _).take _
theorem cut_len (vs : List V) (lo hi : Option Int) (h : vs.length ≤ LINE) : (cutV vs lo hi).length ≤ LINE := Nat.le_trans (cutV_length vs lo hi) h
def rSlice (K : PySem.W.Frag) : V → Option Int → Option Int → Hp → VK → Prop := fun x lo hi H Q => rSlA K x lo hi H Q ∨ rSlL K x lo hi H Q
theorem sl_any : SlR X (rSlice X.K) := sl_tupA.or sl_list
theorem pf_slice {lo hi : Option Expr} {fl fh : FO} {p2 : Pos} (ha : PFE X a fa) (hl : PFO X lo fl) (hh : PFO X hi fh) : PFE X (.Subscript a (.Slice lo hi none p2) pos) (fSlice fa fl fh) := pe_weak (pe_slice sl_any ha hl hh) fun σ H Q => by
  rintro ⟨W, ρ, M, rfl, sr, sl, d, M', hf, k⟩
  obtain ⟨⟨x, M1⟩, hx, hf⟩ := Option.bind_eq_some_iff.mp hf
  obtain ⟨⟨l, M2⟩, hl, hf⟩ := Option.bind_eq_some_iff.mp hf
  obtain ⟨⟨h, M3⟩, hh, hf⟩ := Option.bind_eq_some_iff.mp hf
  obtain ⟨d', hd, hf⟩ := Option.bind_eq_some_iff.mp hf
  cases hf
  refine ⟨W, ρ, M, rfl, sr, sl, x, M1, hx, fun W1 v e1 s1 r1 => ⟨W1, ρ, M1, rfl, s1, sl.ext e1 sr.sub, l, M2, hl, fun W2 e2 s2 => ⟨W2, ρ, M2, rfl, s2, sl.ext (e1.trans e2) sr.sub, h, _, hh, fun W3 e3 s3 => ?_⟩⟩⟩
  have r3 := r1.ext (e2.trans e3) s1.sub
  have e123 := e1.trans (e2.trans e3)
  have lists : (lsOf x M3).map (fun xs => D.lst (cutD xs l h)) = some d → rSlice X.K v l h W3.H Q := fun e => by
    obtain ⟨xs, hx, e⟩ := Option.map_eq_some_iff.mp e
    subst e
    obtain ⟨p, vs, rfl, h1, q1⟩ := ls_sq s3 r3 hx
    exact .inr ⟨p, vs, rfl, h1, fun t nt => k _ _ (e123.trans (Ext.put nt)) (s3.put nt) (.newLst s3 nt (q1.cut l h) (cut_len _ _ _ (by rw [← q1.len]; exact ls_len s3 r3 hx)))⟩
  cases x with
  | tup xs =>
    cases hd
    obtain ⟨p, vs, rfl, h1, q1⟩ := tp_sq r3
    refine .inl ⟨p, vs, rfl, h1, fun e => ?_, fun _ t nt => k _ _ (e123.trans (Ext.put nt)) (s3.put nt) (.newTup s3 nt (q1.cut l h) (cut_len _ _ _ (by rw [← q1.len]; exact sq_len s3 r3 rfl)))⟩
    have ec : cutD xs l h = xs := by
      unfold cutD
      rw [q1.len, e.1, e.2, ← q1.len]
      simp
    exact k W3 _ e123 s3 (by rw [ec]; exact r3)
  | _ => exact lists hd
theorem pfn_slice {lo hi : Option Expr} {fl fh : FO} {p2 : Pos} (ha : PFE X a fa) (hl : PFO X lo fl) (hh : PFO X hi fh) : PFN X (.Subscript a (.Slice lo hi none p2) pos) (fSliceN fa fl fh) := pe_weak (pe_slice sl_list ha hl hh) fun σ H Q => by
  rintro ⟨W, ρ, M, rfl, sr, sl, d, M', hf, k⟩
  obtain ⟨⟨x, M1⟩, hx, hf⟩ := Option.bind_eq_some_iff.mp hf
  obtain ⟨⟨l, M2⟩, hl, hf⟩ := Option.bind_eq_some_iff.mp hf
  obtain ⟨⟨h, M3⟩, hh, hf⟩ := Option.bind_eq_some_iff.mp hf
  obtain ⟨d', hd, hf⟩ := Option.bind_eq_some_iff.mp hf
  cases hf
  refine ⟨W, ρ, M, rfl, sr, sl, x, M1, hx, fun W1 v e1 s1 r1 => ⟨W1, ρ, M1, rfl, s1, sl.ext e1 sr.sub, l, M2, hl, fun W2 e2 s2 => ⟨W2, ρ, M2, rfl, s2, sl.ext (e1.trans e2) sr.sub, h, _, hh, fun W3 e3 s3 => ?_⟩⟩⟩
  have r3 := r1.ext (e2.trans e3) s1.sub
  have hl := ls_len s3 r3 hd
  obtain ⟨p, vs, rfl, h1, q1⟩ := ls_sq s3 r3 hd
  exact ⟨p, vs, rfl, h1, fun t nt => k W3 t _ (e1.trans (e2.trans e3)) s3 nt (q1.cut l h) (cut_len _ _ _ (by rw [← q1.len]; exact hl))⟩
/-- xs[::-1] of a list -/
def fRevN (fa : FE) : FA := fun ρ M => (fa ρ M).bind fun a => (lsOf a.1 a.2).bind fun xs => some (xs.reverse, a.2)
theorem pfn_rev {k : Nat} {p1 p2 p3 pos : Pos} (ha : PFE X a fa) : PFN X (.Subscript a (.Slice none none (some (.UnaryOp .USub (.Constant (.int 1) k p1) p2)) p3) pos) (fRevN fa) := pe_weak (pe_revL ha) fun σ H Q => by
  rintro ⟨W, ρ, M, rfl, sr, sl, d, M', hf, k⟩
  obtain ⟨⟨x, M1⟩, hx, hf⟩ := Option.bind_eq_some_iff.mp hf
  obtain ⟨xs, hl, hf⟩ := Option.bind_eq_some_iff.mp hf
  cases hf
  refine ⟨W, ρ, M, rfl, sr, sl, x, _, hx, fun W1 v e1 s1 r1 => ?_⟩
  have hz := ls_len s1 r1 hl
  obtain ⟨p, vs, rfl, h1, q1⟩ := ls_sq s1 r1 hl
  exact ⟨p, vs, rfl, h1, fun t nt => k W1 t _ e1 s1 nt q1.reverse (by rw [List.length_reverse, ← q1.len]; exact hz)⟩
end
end PF
namespace PF
open PySem PySem.Spec PyProof.Rows L2
/-! ### equality of data, as a Bool -/
mutual
def D.beq : D → D → Bool
  | .non, .non => true
  | .bl a, .bl b => a == b
  | .int a, .int b => a == b
  | .str a, .str b => decide (a = b)
  | .tup a, .tup b => D.beqs a b
  | .lst a, .lst b => D.beqs a b
  | .kst a, .kst b => D.beqs a b
  | .ref a, .ref b => a == b
  | _, _ => false
def D.beqs : List D → List D → Bool
  | [], [] => true
  | a :: as, b :: bs => D.beq a b && D.beqs as bs
  | _, _ => false
end
mutual
theorem D.beq_refl : ∀ a : D, D.beq a a = true
  | .non => by simp [D.beq]
  | .bl _ => by simp [D.beq]
  | .int _ => by simp [D.beq]
  | .str _ => by simp [D.beq]
  | .ref _ => by simp [D.beq]
  | .tup xs => by rw [D.beq]; exact D.beqs_refl xs
  | .lst xs => by rw [D.beq]; exact D.beqs_refl xs
  | .kst xs => by rw [D.beq]; exact D.beqs_refl xs
theorem D.beqs_refl : ∀ a : List D, D.beqs a a = true
  | [] => by simp [D.beqs]
  | x :: xs => by rw [D.beqs, D.beq_refl x, D.beqs_refl xs]; rfl
end
mutual
theorem D.eq_of_beq : ∀ a b : D, D.beq a b = true → a = b
  | .non, b, h => by cases b <;> simp [D.beq] at h ⊢
  | .bl _, b, h => by cases b <;> simp [D.beq] at h ⊢ <;> exact h
  | .int _, b, h => by cases b <;> simp [D.beq] at h ⊢ <;> exact h
  | .str _, b, h => by cases b <;> simp [D.beq] at h ⊢ <;> exact h
  | .ref _, b, h => by cases b <;> simp [D.beq] at h ⊢ <;> exact h
  | .tup xs, b, h => by
    cases b with
    | tup ys => rw [D.beq] at h; rw [D.eqs_of_beqs xs ys h]
    | _ => simp [D.beq] at h
  | .lst xs, b, h => by
    cases b with
    | lst ys => rw [D.beq] at h; rw [D.eqs_of_beqs xs ys h]
    | _ => simp [D.beq] at h
  | .kst xs, b, h => by
    cases b with
    | kst ys => rw [D.beq] at h; rw [D.eqs_of_beqs xs ys h]
    | _ => simp [D.beq] at h
theorem D.eqs_of_beqs : ∀ a b : List D, D.beqs a b = true → a = b
  | [], [], _ => rfl
  | [], _ :: _, h => by simp [D.beqs] at h
  | _ :: _, [], h => by simp [D.beqs] at h
  | x :: xs, y :: ys, h => by
    rw [D.beqs, Bool.and_eq_true] at h
    rw [D.eq_of_beq x y h.1, D.eqs_of_beqs xs ys h.2]
end
/-! ### what statements compute, wanted at an end -/
def OutK (K : PySem.W.Frag) (E : Ends) (W : Wo) (M' : Mem) : Out → Prop
  | .nx ρ' => ∀ W' σ', Ext W W' → SR K W' M' → Sl K W' ρ' σ' → E.nx σ' W'.H
  | .bk ρ' => ∀ W' σ', Ext W W' → SR K W' M' → Sl K W' ρ' σ' → E.bk σ' W'.H
  | .ct ρ' => ∀ W' σ', Ext W W' → SR K W' M' → Sl K W' ρ' σ' → E.ct σ' W'.H
  | .ret d => ∀ W' v, Ext W W' → SR K W' M' → Rp K W' d v → E.rt v W'.H
theorem OutK.ext {K : PySem.W.Frag} {E : Ends} {W W1 : Wo} {M' : Mem} {o : Out} (e : Ext W W1) (h : OutK K E W M' o) : OutK K E W1 M' o := by
  cases o with
  | nx ρ => exact fun W' σ' e' => h W' σ' (e.trans e')
  | bk ρ => exact fun W' σ' e' => h W' σ' (e.trans e')
  | ct ρ => exact fun W' σ' e' => h W' σ' (e.trans e')
  | ret d => exact fun W' v e' => h W' v (e.trans e')
theorem liftS_iff {K : PySem.W.Frag} {f : FS} {E : Ends} {σ : L2.St} {H : Hp} : liftS K f E σ H ↔ ∃ W ρ M, W.H = H ∧ SR K W M ∧ Sl K W ρ σ ∧ ∃ o M', f ρ M = some (o, M') ∧ OutK K E W M' o := by
  constructor
  · rintro ⟨W, ρ, M, h1, h2, h3, o, M', hf, k⟩
    refine ⟨W, ρ, M, h1, h2, h3, o, M', hf, ?_⟩
    cases o <;> exact k
  · rintro ⟨W, ρ, M, h1, h2, h3, o, M', hf, k⟩
    refine ⟨W, ρ, M, h1, h2, h3, o, M', hf, ?_⟩
    cases o <;> exact k
theorem sl_set {K : PySem.W.Frag} {W : Wo} {ρ : Rho} {σ : L2.St} {i : Nat} {d : D} {v : V} (h : Sl K W ρ σ) (r : Rp K W d v) : Sl K W (ρ.set i (some d)) (σ.set i (some v)) := by
  refine ⟨by rw [List.length_set, List.length_set]; exact h.len, fun j e hj => ?_⟩
  by_cases hji : j = i
  · subst hji
    have hl : j < ρ.length := by
      have := (List.getElem?_eq_some_iff.mp hj).1
      rw [List.length_set] at this; exact this
    rw [List.getElem?_set_self hl] at hj
    cases hj
    exact ⟨v, by rw [List.getElem?_set_self (by rw [← h.len]; exact hl)], r⟩
  · rw [List.getElem?_set_ne (Ne.symm hji)] at hj ⊢
    exact h.at_ j e hj
/-! ### targets -/
abbrev FG := D → Rho → Option Rho
abbrev FGs := List D → Rho → Option Rho
/-- vs: the slots that the target may change -/
def liftG (K : PySem.W.Frag) (vs : List Nat) (t : FG) : TG := fun v σ H Q => ∃ W ρ M d, W.H = H ∧ SR K W M ∧ Sl K W ρ σ ∧ Rp K W d v ∧ ∃ ρ', t d ρ = some ρ' ∧ ∀ W' σ', Ext W W' → SR K W' M → Sl K W' ρ' σ' → wipe σ' vs = wipe σ vs → Q σ' W'.H
def liftGs (K : PySem.W.Frag) (vs : List Nat) (t : FGs) : TGs := fun v σ H Q => ∃ W ρ M d, W.H = H ∧ SR K W M ∧ Sl K W ρ σ ∧ RpL K W d v ∧ ∃ ρ', t d ρ = some ρ' ∧ ∀ W' σ', Ext W W' → SR K W' M → Sl K W' ρ' σ' → wipe σ' vs = wipe σ vs → Q σ' W'.H
abbrev PFG (X : Cx) (vs : List Nat) (e : Expr) (t : FG) : Prop := PG X e (liftG X.K vs t)
abbrev PFGs (X : Cx) (vs : List Nat) (e : List Expr) (t : FGs) : Prop := PGs X e (liftGs X.K vs t)
def tN (i : Nat) : FG := fun d ρ => some (ρ.set i (some d))
def tT (n : Nat) (t : FGs) : FG := fun d ρ => match d with | .tup xs => if xs.length = n then t xs ρ else none | _ => none
def tsN : FGs := fun ds ρ => match ds with | [] => some ρ | _ => none
def tsC (t : FG) (u : FGs) : FGs := fun ds ρ => match ds with | d :: r => (t d ρ).bind fun ρ' => u r ρ' | [] => none
theorem wipe_set_in {i : Nat} {v : Option V} : ∀ {vs : List Nat} {σ : L2.St}, i ∈ vs → wipe (σ.set i v) vs = wipe σ vs
  | [], _, h => by simp at h
  | w :: vs, σ, h => by
    unfold wipe
    by_cases hw : i ∈ vs
    · rw [wipe_set_in hw]
    · have e : i = w := by
        rcases List.mem_cons.mp h with e | h
        · exact e
        · exact absurd h hw
      subst e
      have out : ∀ (ws : List Nat) (σ : L2.St), i ∉ ws → wipe (σ.set i v) ws = (wipe σ ws).set i v := by
        intro ws
        induction ws with
        | nil => intro σ _; rfl
        | cons z zs ih =>
          intro σ hz
          unfold wipe
          rw [ih σ fun q => hz (List.mem_cons_of_mem _ q), List.set_comm _ _ (fun q => hz (by rw [q]; exact List.mem_cons_self))]
      rw [out vs σ hw, List.set_set]
section
variable {X : Cx} {pos : Pos} {vs : List Nat}
theorem pg_weak {e : Expr} {t t' : TG} (h : PG X e t) (i : ∀ v σ H Q, t' v σ H Q → t v σ H Q) : PG X e t' := ⟨fun pins s σ H v u Q I r q => h.run pins s σ H v u Q I r (i v σ H Q q)⟩
theorem pgs_weak {e : List Expr} {t t' : TGs} (h : PGs X e t) (i : ∀ v σ H Q, t' v σ H Q → t v σ H Q) : PGs X e t' := ⟨fun pins s σ H v u Q I r q => h.run pins s σ H v u Q I r (i v σ H Q q)⟩
theorem pfg_name {i : Nat} {x : Str} (hN : X.N.Nodup) (hi : X.N[i]? = some x) (hx : Loc X.env.scope x) (hv : i ∈ vs := by decide) (hf : X.fn x = true ∨ X.env.scope.names.lookup x = some .local := by first | exact .inl rfl | exact .inr rfl | assumption) : PFG X vs (.Name x pos) (tN i) := pg_weak (pg_name hN hi hx hf) fun v σ H Q => by
  rintro ⟨W, ρ, M, d, rfl, sr, sl, r, ρ', ht, k⟩
  cases ht
  exact k W _ (.refl W) sr (sl_set sl r) (wipe_set_in hv)
theorem pfgs_nil : PFGs X vs [] tsN := pgs_weak pgs_nil fun v σ H Q => by
  rintro ⟨W, ρ, M, d, rfl, sr, sl, r, ρ', ht, k⟩
  unfold tsN at ht
  split at ht
  · cases ht
    cases (show _ = _ from r)
    exact ⟨rfl, k W _ (.refl W) sr sl rfl⟩
  · cases ht
theorem pfgs_cons {e : Expr} {es : List Expr} {t : FG} {u : FGs} (h1 : PFG X vs e t) (h2 : PFGs X vs es u) (hs : (assignEach (e :: es) X.env).map (·.2) = assign e X.env :: (assignEach es X.env).map (·.2) := by rfl) : PFGs X vs (e :: es) (tsC t u) := pgs_weak (pgs_cons h1 h2 hs) fun v σ H Q => by
  rintro ⟨W, ρ, M, d, rfl, sr, sl, r, ρ', ht, k⟩
  unfold tsC at ht
  split at ht
  · obtain ⟨ρ1, h1, h2⟩ := Option.bind_eq_some_iff.mp ht
    obtain ⟨v1, vr, rfl, q1, q2⟩ := r
    exact ⟨v1, vr, rfl, W, ρ, M, _, rfl, sr, sl, q1, ρ1, h1, fun W1 σ1 e1 s1 l1 w1 => ⟨W1, ρ1, M, _, rfl, s1, l1, q2.ext e1 sr.sub, ρ', h2, fun W2 σ2 e2 s2 l2 w2 => k W2 σ2 (e1.trans e2) s2 l2 (w2.trans w1)⟩⟩
  · cases ht
theorem pfg_tup {es : List Expr} {k : Nat} {t : FGs} {n : Nat} (hc : X.calm = true) (h : PFGs X vs es t) (hn : (assignEach es X.env).length = n := by rfl) (hst : (assignEach es X.env).findIdx? (·.1) = none := by rfl) : PFG X vs (.Tuple es k pos) (tT n t) := pg_weak (pg_tup hc h hn hst) fun v σ H Q => by
  rintro ⟨W, ρ, M, d, rfl, sr, sl, r, ρ', ht, k⟩
  unfold tT at ht
  split at ht
  · split at ht
    · rename_i hl
      obtain ⟨a, vs, rfl, h1, q1⟩ := tp_sq r
      exact ⟨a, vs, rfl, h1, by rw [← q1.len]; exact hl, W, ρ, M, _, rfl, sr, sl, q1, ρ', ht, k⟩
    · cases ht
  · cases ht
end
/-! ### statements -/
def sNext : FS := fun ρ M => some (.nx ρ, M)
def sSeq (f g : FS) : FS := fun ρ M => (f ρ M).bind fun o => match o.1 with | .nx ρ' => g ρ' o.2 | _ => some o
def sBreak : FS := fun ρ M => some (.bk ρ, M)
def sCont : FS := fun ρ M => some (.ct ρ, M)
def sDrop (f : FE) : FS := fun ρ M => (f ρ M).bind fun a => some (.nx ρ, a.2)
def sRet (f : FE) : FS := fun ρ M => (f ρ M).bind fun a => some (.ret a.1, a.2)
def sRetN : FS := fun _ M => some (.ret .non, M)
def sIf (c : FT) (f g : FS) : FS := fun ρ M => (c ρ M).bind fun a => if a.1 = true then f ρ a.2 else g ρ a.2
def sSet (i : Nat) (f : FE) : FS := fun ρ M => (f ρ M).bind fun a => some (.nx (ρ.set i (some a.1)), a.2)
def sAsg (f : FE) (t : FG) : FS := fun ρ M => (f ρ M).bind fun a => (t a.1 ρ).bind fun ρ' => some (.nx ρ', a.2)
def sPar (i j : Nat) (f : FA) : FS := fun ρ M => (f ρ M).bind fun a => match a.1 with | [x, y] => some (.nx ((ρ.set i (some x)).set j (some y)), a.2) | _ => none
def sPar3 (i j l : Nat) (f : FA) : FS := fun ρ M => (f ρ M).bind fun a => match a.1 with | [x, y, z] => some (.nx (((ρ.set i (some x)).set j (some y)).set l (some z)), a.2) | _ => none
abbrev G2M := D → D → Mem → Option (D × Mem)
def sAug (i : Nat) (g : G2M) (f : FE) : FS := fun ρ M => match ρ[i]? with | some (some x) => (f ρ M).bind fun a => (g x a.1 a.2).bind fun z => some (.nx (ρ.set i (some z.1)), z.2) | _ => none
def Op2M (K : PySem.W.Frag) (r : R2) (g : G2M) : Prop := ∀ (W : Wo) (M M' : Mem) (x y d : D) (v u : V) (Q : VK), SR K W M → Rp K W x v → Rp K W y u → g x y M = some (d, M') →
  (∀ W' v', Ext W W' → SR K W' M' → Rp K W' d v' → Q v' W'.H) → r v u W.H Q
section
variable {X : Cx} {st : Stmt} {rest : List Stmt} {f g : FS} {e : Expr} {fe : FE} {pos : Pos}
theorem pfs_nil : PFSs X [] sNext := pss_weak pss_nil fun E σ H => by
  rw [liftS_iff]
  rintro ⟨W, ρ, M, rfl, sr, sl, o, M', hf, k⟩
  cases hf
  exact k W σ (.refl W) sr sl
theorem pfs_cons (h1 : PFS X st f) (h2 : PFSs X rest g) : PFSs X (st :: rest) (sSeq f g) := pss_weak (pss_cons h1 h2) fun E σ H => by
  rw [liftS_iff]
  rintro ⟨W, ρ, M, rfl, sr, sl, o, M', hf, k⟩
  obtain ⟨⟨o1, M1⟩, h1, hf⟩ := Option.bind_eq_some_iff.mp hf
  show liftS X.K f _ σ W.H
  rw [liftS_iff]
  refine ⟨W, ρ, M, rfl, sr, sl, o1, M1, h1, ?_⟩
  cases o1 with
  | nx ρ1 =>
    intro W1 σ1 e1 s1 l1
    exact liftS_iff.mpr ⟨W1, ρ1, M1, rfl, s1, l1, o, M', hf, k.ext e1⟩
  | ret d => cases hf; exact k
  | bk d => cases hf; exact k
  | ct d => cases hf; exact k
theorem pfs_one (h1 : PFS X st f) : PFSs X [st] f := pss_one h1
theorem pfs_pass : PFS X (.Pass pos) sNext := ps_weak ps_pass fun E σ H => by
  rw [liftS_iff]
  rintro ⟨W, ρ, M, rfl, sr, sl, o, M', hf, k⟩
  cases hf
  exact k W σ (.refl W) sr sl
theorem pfs_break : PFS X (.Break pos) sBreak := ps_weak ps_break fun E σ H => by
  rw [liftS_iff]
  rintro ⟨W, ρ, M, rfl, sr, sl, o, M', hf, k⟩
  cases hf
  exact k W σ (.refl W) sr sl
theorem pfs_continue : PFS X (.Continue pos) sCont := ps_weak ps_continue fun E σ H => by
  rw [liftS_iff]
  rintro ⟨W, ρ, M, rfl, sr, sl, o, M', hf, k⟩
  cases hf
  exact k W σ (.refl W) sr sl
theorem pfs_doc {x j pos pos'} : PFS X (.Expr (.Constant (.str x) j pos) pos') sNext := ps_weak ps_doc fun E σ H => by
  rw [liftS_iff]
  rintro ⟨W, ρ, M, rfl, sr, sl, o, M', hf, k⟩
  cases hf
  exact k W σ (.refl W) sr sl
theorem pfs_expr (he : PFE X e fe) (hs : swapsWith e none pos.line X.env = pure false := by rfl) : PFS X (.Expr e pos) (sDrop fe) := ps_weak (ps_expr he hs) fun E σ H => by
  rw [liftS_iff]
  rintro ⟨W, ρ, M, rfl, sr, sl, o, M', hf, k⟩
  obtain ⟨⟨x, M1⟩, hx, hf⟩ := Option.bind_eq_some_iff.mp hf
  cases hf
  exact ⟨W, ρ, M, rfl, sr, sl, x, _, hx, fun W1 v e1 s1 r1 => k W1 σ e1 s1 (sl.ext e1 sr.sub)⟩
theorem pfs_ret (he : PFE X e fe) : PFS X (.Return (some e) pos) (sRet fe) := ps_weak (ps_ret he) fun E σ H => by
  rw [liftS_iff]
  rintro ⟨W, ρ, M, rfl, sr, sl, o, M', hf, k⟩
  obtain ⟨⟨x, M1⟩, hx, hf⟩ := Option.bind_eq_some_iff.mp hf
  cases hf
  exact ⟨W, ρ, M, rfl, sr, sl, x, _, hx, fun W1 v e1 s1 r1 => k W1 v e1 s1 r1⟩
theorem pfs_retN : PFS X (.Return none pos) sRetN := ps_weak ps_retN fun E σ H => by
  rw [liftS_iff]
  rintro ⟨W, ρ, M, rfl, sr, sl, o, M', hf, k⟩
  cases hf
  exact k W .non (.refl W) sr rfl
theorem pfs_if {c : Expr} {a b : List Stmt} {fc : FT} (hc : PFT X c fc) (ha : PFSs X a f) (hb : PFSs X b g) : PFS X (.If c a b pos) (sIf fc f g) := ps_weak (ps_if hc ha hb) fun E σ H => by
  rw [liftS_iff]
  rintro ⟨W, ρ, M, rfl, sr, sl, o, M', hf, k⟩
  obtain ⟨⟨x, M1⟩, hx, hf⟩ := Option.bind_eq_some_iff.mp hf
  refine ⟨W, ρ, M, rfl, sr, sl, x, M1, hx, fun W1 e1 s1 => ?_⟩
  cases x with
  | true =>
    rw [if_pos rfl] at hf ⊢
    exact liftS_iff.mpr ⟨W1, ρ, M1, rfl, s1, sl.ext e1 sr.sub, o, M', hf, k.ext e1⟩
  | false =>
    rw [if_neg Bool.false_ne_true] at hf ⊢
    exact liftS_iff.mpr ⟨W1, ρ, M1, rfl, s1, sl.ext e1 sr.sub, o, M', hf, k.ext e1⟩
theorem pfs_set {i : Nat} {x : Str} {pos' : Pos} (hN : X.N.Nodup) (hi : X.N[i]? = some x) (hx : Loc X.env.scope x) (he : PFE X e fe) (hs : swapsWith e (some (.Name x pos')) pos.line X.env = pure false := by rfl) (hf : X.fn x = true ∨ X.env.scope.names.lookup x = some .local := by first | exact .inl rfl | exact .inr rfl | assumption) :
    PFS X (.Assign [.Name x pos'] e pos) (sSet i fe) := ps_weak (ps_set hN hi hx he hs hf) fun E σ H => by
  rw [liftS_iff]
  rintro ⟨W, ρ, M, rfl, sr, sl, o, M', hf, k⟩
  obtain ⟨⟨x, M1⟩, hx, hf⟩ := Option.bind_eq_some_iff.mp hf
  cases hf
  exact ⟨W, ρ, M, rfl, sr, sl, x, _, hx, fun W1 v e1 s1 r1 => k W1 _ e1 s1 (sl_set (sl.ext e1 sr.sub) r1)⟩
theorem pfs_asg {tg : Expr} {t : FG} {vs : List Nat} (he : PFE X e fe) (hg : PFG X vs tg t) (hs : swapsWithSole [tg] e pos.line X.env = pure false := by rfl) (hw : swappedStores [tg] e X.env = pure none := by rfl)
    (h1 : (assignEach [tg] X.env).map (·.2) = [assign tg X.env] := by rfl) : PFS X (.Assign [tg] e pos) (sAsg fe t) := ps_weak (ps_asg he hg hs hw h1) fun E σ H => by
  rw [liftS_iff]
  rintro ⟨W, ρ, M, rfl, sr, sl, o, M', hf, k⟩
  obtain ⟨⟨x, M1⟩, hx, hf⟩ := Option.bind_eq_some_iff.mp hf
  obtain ⟨ρ', ht, hf⟩ := Option.bind_eq_some_iff.mp hf
  cases hf
  exact ⟨W, ρ, M, rfl, sr, sl, x, _, hx, fun W1 v e1 s1 r1 => ⟨W1, ρ, _, x, rfl, s1, sl.ext e1 sr.sub, r1, ρ', ht, fun W2 σ2 e2 s2 l2 _ => k W2 σ2 (e1.trans e2) s2 l2⟩⟩
theorem pfs_par {i j : Nat} {x y : Str} {a b : Expr} {fa : FA} {px py pt : Pos} {kt k2 pt2} (hc : X.calm = true) (hN : X.N.Nodup) (hi : X.N[i]? = some x) (hj : X.N[j]? = some y) (hij : i ≠ j)
    (hx : X.env.scope.names.lookup x = some .local) (hy : X.env.scope.names.lookup y = some .local) (ha : PFA X [a, b] fa)
    (hw : swappedStores [.Tuple [.Name x px, .Name y py] kt pt] (.Tuple [a, b] k2 pt2) X.env = pure (some [x, y]))
    (hs : swapsWithSole [.Tuple [.Name x px, .Name y py] kt pt] (.Tuple [a, b] k2 pt2) pos.line X.env = pure false := by rfl) :
    PFS X (.Assign [.Tuple [.Name x px, .Name y py] kt pt] (.Tuple [a, b] k2 pt2) pos) (sPar i j fa) := ps_weak (ps_par hc hN hi hj hij hx hy ha hw hs) fun E σ H => by
  rw [liftS_iff]
  rintro ⟨W, ρ, M, rfl, sr, sl, o, M', hf, k⟩
  obtain ⟨⟨x, M1⟩, hx, hf⟩ := Option.bind_eq_some_iff.mp hf
  dsimp only at hf
  split at hf
  · cases hf
    refine ⟨W, ρ, M, rfl, sr, sl, _, _, hx, fun W1 v e1 s1 r1 => ?_⟩
    obtain ⟨v1, r, rfl, q1, v2, r', rfl, q2, q3⟩ := r1
    cases (show _ = _ from q3)
    exact ⟨v1, v2, rfl, k W1 _ e1 s1 (sl_set (sl_set (sl.ext e1 sr.sub) q1) q2)⟩
  · cases hf
theorem pfs_par3 {i j l : Nat} {x y z : Str} {a b c : Expr} {fa : FA} {px py pz pt : Pos} {kt k2 pt2} (hc : X.calm = true) (hN : X.N.Nodup) (hi : X.N[i]? = some x) (hj : X.N[j]? = some y) (hl : X.N[l]? = some z) (hij : i ≠ j) (hil : i ≠ l) (hjl : j ≠ l)
    (hx : X.env.scope.names.lookup x = some .local) (hy : X.env.scope.names.lookup y = some .local) (hz : X.env.scope.names.lookup z = some .local) (ha : PFA X [a, b, c] fa)
    (hw : swappedStores [.Tuple [.Name x px, .Name y py, .Name z pz] kt pt] (.Tuple [a, b, c] k2 pt2) X.env = pure (some [x, y, z]))
    (hs : swapsWithSole [.Tuple [.Name x px, .Name y py, .Name z pz] kt pt] (.Tuple [a, b, c] k2 pt2) pos.line X.env = pure false := by rfl) :
    PFS X (.Assign [.Tuple [.Name x px, .Name y py, .Name z pz] kt pt] (.Tuple [a, b, c] k2 pt2) pos) (sPar3 i j l fa) := ps_weak (ps_par3 hc hN hi hj hl hij hil hjl hx hy hz ha hw hs) fun E σ H => by
  rw [liftS_iff]
  rintro ⟨W, ρ, M, rfl, sr, sl, o, M', hf, k⟩
  obtain ⟨⟨x, M1⟩, hx, hf⟩ := Option.bind_eq_some_iff.mp hf
  dsimp only at hf
  split at hf
  · cases hf
    refine ⟨W, ρ, M, rfl, sr, sl, _, _, hx, fun W1 v e1 s1 r1 => ?_⟩
    obtain ⟨v1, r, rfl, q1, v2, r', rfl, q2, v3, r'', rfl, q3, q4⟩ := r1
    cases (show _ = _ from q4)
    exact ⟨v1, v2, v3, rfl, k W1 _ e1 s1 (sl_set (sl_set (sl_set (sl.ext e1 sr.sub) q1) q2) q3)⟩
  · cases hf
theorem pfs_aug {i : Nat} {x : Str} {op : Operator} {r : R2} {gm : G2M} {pos' : Pos} (hN : X.N.Nodup) (hi : X.N[i]? = some x) (hx : Loc X.env.scope x) (he : PFE X e fe) (ho : OpR X (inplaceOp op) r) (o : Op2M X.K r gm) (hf : X.fn x = true ∨ X.env.scope.names.lookup x = some .local := by first | exact .inl rfl | exact .inr rfl | assumption) :
    PFS X (.AugAssign (.Name x pos') op e pos) (sAug i gm fe) := ps_weak (ps_aug (ti := r) hN hi hx he ho hf) fun E σ H => by
  rw [liftS_iff]
  rintro ⟨W, ρ, M, rfl, sr, sl, o', M', hf, k⟩
  unfold sAug at hf
  split at hf
  · rename_i d hd
    obtain ⟨⟨y, M1⟩, hy, hf⟩ := Option.bind_eq_some_iff.mp hf
    obtain ⟨⟨z, M2⟩, hz, hf⟩ := Option.bind_eq_some_iff.mp hf
    cases hf
    obtain ⟨v, h1, h2⟩ := sl.at_ i d hd
    exact ⟨v, h1, W, ρ, M, rfl, sr, sl, y, M1, hy, fun W1 u e1 s1 r1 => o W1 M1 _ d y z v u _ s1 (h2.ext e1 sr.sub) r1 hz fun W2 w e2 s2 r2 => k W2 _ (e1.trans e2) s2 (sl_set (sl.ext (e1.trans e2) sr.sub) r2)⟩
  · cases hf
end
/-! ### while -/
def sWhileN (fc : FT) (fb : FS) : Nat → FS
  | 0, _, _ => none
  | n + 1, ρ, M => (fc ρ M).bind fun c => if c.1 = true then (fb ρ c.2).bind fun o => match o.1 with
      | .nx ρ' => sWhileN fc fb n ρ' o.2
      | .ct ρ' => sWhileN fc fb n ρ' o.2
      | .bk ρ' => some (.nx ρ', o.2)
      | .ret d => some (.ret d, o.2)
    else some (.nx ρ, c.2)
def fuel (ρ : Rho) (M : Mem) : Nat := ρ.foldl (fun n d => n + match d with | some (.int i) => i.natAbs | _ => 0) 1000000
def sWhile (fc : FT) (fb : FS) : FS := fun ρ M => sWhileN fc fb (fuel ρ M) ρ M
theorem pfs_while {X : Cx} {pos : Pos} {c : Expr} {body : List Stmt} {fc : FT} {fb : FS} (hp : PassesOwn (model X.prog X.w) X.A X.env X.xe) (hc : PFT X c fc) (hb : PFSs X body fb) : PFS X (.While c body [] pos) (sWhile fc fb) := ps_weak (ps_while hp hc hb) fun E σ H => by
  rw [liftS_iff]
  rintro ⟨W, ρ, M, rfl, sr, sl, o, M', hf, k⟩
  refine ⟨fun n σ' H' => ∃ W1 ρ1 M1, W1.H = H' ∧ Ext W W1 ∧ SR X.K W1 M1 ∧ Sl X.K W1 ρ1 σ' ∧ sWhileN fc fb n ρ1 M1 = some (o, M'), ⟨_, W, ρ, M, rfl, .refl W, sr, sl, hf⟩, ?_⟩
  rintro n σ1 H1 ⟨W1, ρ1, M1, rfl, e1, s1, l1, hw⟩
  cases n with
  | zero => cases hw
  | succ n =>
    obtain ⟨⟨b, M2⟩, hcx, hw⟩ := Option.bind_eq_some_iff.mp hw
    refine ⟨W1, ρ1, M1, rfl, s1, l1, b, M2, hcx, fun W2 e2 s2 => ?_⟩
    cases b with
    | false =>
      rw [if_neg Bool.false_ne_true] at hw ⊢
      cases hw
      exact k W2 σ1 (e1.trans e2) s2 (l1.ext e2 s1.sub)
    | true =>
      rw [if_pos rfl] at hw ⊢
      obtain ⟨⟨o3, M3⟩, ho, hw⟩ := Option.bind_eq_some_iff.mp hw
      refine ⟨fun σ' H' => ∃ W3 ρ3, W3.H = H' ∧ Ext W W3 ∧ SR X.K W3 M3 ∧ Sl X.K W3 ρ3 σ' ∧ sWhileN fc fb n ρ3 M3 = some (o, M'), ?_, liftS_iff.mpr ⟨W2, ρ1, M2, rfl, s2, l1.ext e2 s1.sub, o3, M3, ho, ?_⟩⟩
      · rintro σ' H' ⟨W3, ρ3, h1, h2, h3, h4, h5⟩
        exact ⟨n, Nat.lt_succ_self n, W3, ρ3, M3, h1, h2, h3, h4, h5⟩
      · cases o3 with
        | nx ρ3 => exact fun W3 σ3 e3 s3 l3 => ⟨W3, ρ3, rfl, (e1.trans e2).trans e3, s3, l3, hw⟩
        | ct ρ3 => exact fun W3 σ3 e3 s3 l3 => ⟨W3, ρ3, rfl, (e1.trans e2).trans e3, s3, l3, hw⟩
        | bk ρ3 => cases hw; exact fun W3 σ3 e3 s3 l3 => k W3 σ3 ((e1.trans e2).trans e3) s3 l3
        | ret d => cases hw; exact fun W3 v e3 s3 r3 => k W3 v ((e1.trans e2).trans e3) s3 r3
/-! ### for -/
/-- the items, and the changeable list that they are read from, if it is one -/
abbrev FI := Rho → Mem → Option ((List D × Option Nat) × Mem)
def chk (k : Option Nat) (xs : List D) (M : Mem) : Bool := match k with
  | none => true
  | some n => match M[n]? with | some (.lst ys) => D.beqs ys xs | _ => false
def JOk (K : PySem.W.Frag) (W : Wo) (J : It) (xs : List D) (k : Option Nat) : Prop := xs.length ≤ LINE ∧ ∀ W' M', Ext W W' → SR K W' M' → chk k xs M' = true → ∀ i,
  (∀ d, xs[i]? = some d → J.go i W'.H ∧ ∀ x H', J.yld i W'.H x H' → H' = W'.H ∧ Rp K W' d x) ∧ (xs.length ≤ i → J.stop i W'.H)
def liftI (K : PySem.W.Frag) (f : FI) : TI := fun σ H R => ∃ W ρ M, W.H = H ∧ SR K W M ∧ Sl K W ρ σ ∧ ∃ xs k M', f ρ M = some ((xs, k), M') ∧
  ∀ W' J, Ext W W' → SR K W' M' → JOk K W' J xs k → R J W'.H
abbrev PFI (X : Cx) (tg e : Expr) (f : FI) : Prop := PI X tg e (liftI X.K f)
def sLoop (c : Mem → Bool) (step : D → FS) : List D → FS
  | [], ρ, M => if c M = true then some (.nx ρ, M) else none
  | d :: ds, ρ, M => if c M = true then (step d ρ M).bind fun o => match o.1 with
      | .nx ρ' => sLoop c step ds ρ' o.2
      | .ct ρ' => sLoop c step ds ρ' o.2
      | .bk ρ' => some (.nx ρ', o.2)
      | .ret d => some (.ret d, o.2)
    else none
def sStep (t : FG) (fb : FS) (d : D) : FS := fun ρ M => (t d ρ).bind fun ρ' => fb ρ' M
def sFor (fi : FI) (t : FG) (fb : FS) : FS := fun ρ M => (fi ρ M).bind fun a => sLoop (chk a.1.2 a.1.1) (sStep t fb) a.1.1 ρ a.2
theorem pfs_for {X : Cx} {pos : Pos} {tg iter : Expr} {body : List Stmt} {fi : FI} {t : FG} {vs : List Nat} {fb : FS} (hp : PassesOwn (model X.prog X.w) X.A X.env X.xe) (hc : X.calm = true) (hi : PFI X tg iter fi) (hg : PFG X vs tg t) (hb : PFSs X body fb)
    (hs : ∀ x, foldedSetIterable iter X.env x = pure x := by intro _; rfl) : PFS X (.For tg iter body [] pos) (sFor fi t fb) := ps_weak (ps_for hp hc hi hg hb hs) fun E σ H => by
  rw [liftS_iff]
  rintro ⟨W, ρ, M, rfl, sr, sl, o, M', hf, k⟩
  obtain ⟨⟨⟨xs, kk⟩, M1⟩, hi, hf⟩ := Option.bind_eq_some_iff.mp hf
  refine ⟨W, ρ, M, rfl, sr, sl, xs, kk, M1, hi, fun W1 J e1 s1 jo => ?_⟩
  refine ⟨fun i m σ' H' => ∃ W2 ρ2 M2, W2.H = H' ∧ Ext W1 W2 ∧ SR X.K W2 M2 ∧ Sl X.K W2 ρ2 σ' ∧ i ≤ xs.length ∧ m = xs.length - i ∧ sLoop (chk kk xs) (sStep t fb) (xs.drop i) ρ2 M2 = some (o, M'), ⟨xs.length, W1, ρ, M1, rfl, .refl W1, s1, sl.ext e1 sr.sub, Nat.zero_le _, rfl, hf⟩, ?_⟩
  rintro i m σ2 H2 ⟨W2, ρ2, Mt, rfl, e2, s2, l2, hil, rfl, hw⟩
  by_cases hlt : i < xs.length
  · right
    have hd : xs.drop i = xs[i] :: xs.drop (i + 1) := List.drop_eq_getElem_cons hlt
    rw [hd] at hw
    unfold sLoop at hw
    split at hw
    · rename_i hck
      obtain ⟨⟨o3, M3⟩, ho, hw⟩ := Option.bind_eq_some_iff.mp hw
      obtain ⟨hgo, hy⟩ := (jo.2 W2 Mt e2 s2 hck i).1 xs[i] (by simp [hlt])
      refine ⟨hgo, fun σ' H' => ∃ W3 ρ3, W3.H = H' ∧ Ext W1 W3 ∧ SR X.K W3 M3 ∧ Sl X.K W3 ρ3 σ' ∧ sLoop (chk kk xs) (sStep t fb) (xs.drop (i + 1)) ρ3 M3 = some (o, M'), ?_, fun x H' hx => ?_⟩
      · rintro σ' H' ⟨W3, ρ3, h1, h2, h3, h4, h5⟩
        exact ⟨xs.length - (i + 1), by omega, W3, ρ3, M3, h1, h2, h3, h4, hlt, rfl, h5⟩
      · obtain ⟨rfl, rx⟩ := hy x H' hx
        obtain ⟨ρ3, ht, ho⟩ := Option.bind_eq_some_iff.mp ho
        refine ⟨W2, ρ2, Mt, xs[i], rfl, s2, l2, rx, ρ3, ht, fun W3 σ3 e3 s3 l3 _ => liftS_iff.mpr ⟨W3, ρ3, Mt, rfl, s3, l3, o3, M3, ho, ?_⟩⟩
        cases o3 with
        | nx ρ4 => exact fun W4 σ4 e4 s4 l4 => ⟨W4, ρ4, rfl, e2.trans (e3.trans e4), s4, l4, hw⟩
        | ct ρ4 => exact fun W4 σ4 e4 s4 l4 => ⟨W4, ρ4, rfl, e2.trans (e3.trans e4), s4, l4, hw⟩
        | bk ρ4 => cases hw; exact fun W4 σ4 e4 s4 l4 => k W4 σ4 (e1.trans (e2.trans (e3.trans e4))) s4 l4
        | ret d => cases hw; exact fun W4 v e4 s4 r4 => k W4 v (e1.trans (e2.trans (e3.trans e4))) s4 r4
    · cases hw
  · left
    have e : i = xs.length := by omega
    subst e
    rw [List.drop_length] at hw
    unfold sLoop at hw
    split at hw
    · rename_i hck
      cases hw
      exact ⟨(jo.2 W2 _ e2 s2 hck xs.length).2 (Nat.le_refl _), k W2 σ2 (e1.trans e2) s2 l2⟩
    · cases hw
/-! ### what a for walks -/
def fiSq (fa : FE) : FI := fun ρ M => (fa ρ M).bind fun a => match a.1 with
  | .ref n => (lsOf a.1 a.2).bind fun xs => some ((xs, some n), a.2)
  | d => (sqOf d a.2).bind fun xs => some ((xs, none), a.2)
def rgD (lo : Int) (n : Nat) : List D := (List.range n).map fun (i : Nat) => D.int (lo + i)
def okR (i j : Int) : Bool := Nat.ble i.natAbs 1000000000 && (Nat.ble j.natAbs 1000000000 && Nat.ble (j - i).toNat 16777216)
theorem okR_ok {i j : Int} (h : okR i j = true) : (-(4611686018427387904) ≤ i ∧ i < 4611686018427387904) ∧ (-(4611686018427387904) ≤ j ∧ j < 4611686018427387904) ∧ j - i ≤ 16777216 := by
  unfold okR at h
  rw [Bool.and_eq_true, Bool.and_eq_true] at h
  have h1 := Nat.le_of_ble_eq_true h.1
  have h2 := Nat.le_of_ble_eq_true h.2.1
  have h3 := Nat.le_of_ble_eq_true h.2.2
  omega
def fiRg1 (f : FA) : FI := fun ρ M => (f ρ M).bind fun a => match a.1 with | [.int j] => if okR 0 j then some ((rgD 0 j.toNat, none), a.2) else none | _ => none
def fiRg2 (f : FA) : FI := fun ρ M => (f ρ M).bind fun a => match a.1 with | [.int i, .int j] => if okR i j then some ((rgD i (j - i).toNat, none), a.2) else none | _ => none
section
variable {X : Cx} {tg a : Expr} {fa : FE}
theorem pi_weak {e : Expr} {t t' : TI} (h : PI X tg e t) (i : ∀ σ H Q, t' σ H Q → t σ H Q) : PI X tg e t' := ⟨fun pins s σ H Q I q => h.run pins s σ H Q I (i σ H Q q)⟩
def iSeq (K : PySem.W.Frag) (tl : TE) : TI := fun σ H R => tl σ H fun x H1 => ∃ a, x = .ref a ∧ (((∃ xs, SqL K H1 a xs) ∧ R (Itl K a) H1) ∨ ((∃ xs, SqT K H1 a xs) ∧ R (Itt K a) H1))
/-- a list or a tuple is walked -/
theorem pi_seq {l : Expr} {tl : TE} (hl : PE X l tl) : PI X tg l (iSeq X.K tl) := by
  refine ⟨fun pins s σ H R I h => ?_⟩
  refine thn (hl.run pins s σ H _ I h) fun vv s1 ⟨x, H1, I1, r1, p, ex, q⟩ => ?_
  subst ex
  cases r1
  have fresh : ∀ b ∈ [s1.heap.objs.size], FpOk X pins H1 b := fun b hb => by
    obtain rfl : b = s1.heap.objs.size := by simpa using hb
    exact I1.fpOk (Nat.le_refl _) (I1.hok.fresh (Nat.le_refl _))
  rcases q with ⟨⟨xs, hq⟩, q⟩ | ⟨⟨xs, hq⟩, q⟩
  · obtain ⟨its, rv, pl, _⟩ := I1.list hq
    exact wpAny_pyIter_list pl.isList ⟨s1.heap.objs.size, [s1.heap.objs.size], _, _, H1, rfl, I1.kept (t' := s1.toks) fun b u eb => Heap.get?_push_of_some _ eb, turn_list p _, ⟨_, Heap.get?_push_size _ rfl, rfl, rfl⟩, fresh, q⟩
  · obtain ⟨its, rv, pt, _⟩ := I1.tuple hq
    exact wpAny_pyIter_tuple (show s1.heap.IsTuple p its.toArray from pt) ⟨s1.heap.objs.size, [s1.heap.objs.size], _, _, H1, rfl, I1.kept (t' := s1.toks) fun b u eb => Heap.get?_push_of_some _ eb, turn_tuple p _, ⟨_, Heap.get?_push_size _ rfl, rfl, rfl⟩, fresh, q⟩
theorem jok_of {K : PySem.W.Frag} {W : Wo} {J : It} {xs : List D} {kk : Option Nat} (hz : xs.length ≤ LINE) (h : ∀ W' M', Ext W W' → SR K W' M' → chk kk xs M' = true → ∃ vs, RpL K W' xs vs ∧ (∀ i x, vs[i]? = some x → J.go i W'.H ∧ ∀ y H', J.yld i W'.H y H' → H' = W'.H ∧ y = x) ∧ ∀ i, vs.length ≤ i → J.stop i W'.H) : JOk K W J xs kk := by
  refine ⟨hz, fun W' M' e s c i => ?_⟩
  obtain ⟨vs, r, h1, h2⟩ := h W' M' e s c
  refine ⟨fun d hd => ?_, fun hl => h2 i (by rw [← r.len]; exact hl)⟩
  obtain ⟨v, hv, rv⟩ := r.get hd
  obtain ⟨g, y⟩ := h1 i v hv
  exact ⟨g, fun x H' hx => ⟨(y x H' hx).1, by rw [(y x H' hx).2]; exact rv⟩⟩
theorem walk_l {K : PySem.W.Frag} {H : Hp} {p : Addr} {vs : List V} (h : SqL K H p vs) : (∀ i x, vs[i]? = some x → (Itl K p).go i H ∧ ∀ y H', (Itl K p).yld i H y H' → H' = H ∧ y = x) ∧ ∀ i, vs.length ≤ i → (Itl K p).stop i H :=
  ⟨fun i x hx => ⟨⟨vs, x, h, hx⟩, fun y H' q => ⟨q.1, Option.some.inj ((q.2 vs h).symm.trans hx)⟩⟩, fun i hi => ⟨vs, h, hi⟩⟩
theorem walk_t {K : PySem.W.Frag} {H : Hp} {p : Addr} {vs : List V} (h : SqT K H p vs) : (∀ i x, vs[i]? = some x → (Itt K p).go i H ∧ ∀ y H', (Itt K p).yld i H y H' → H' = H ∧ y = x) ∧ ∀ i, vs.length ≤ i → (Itt K p).stop i H :=
  ⟨fun i x hx => ⟨⟨vs, x, h, hx⟩, fun y H' q => ⟨q.1, Option.some.inj ((q.2 vs h).symm.trans hx)⟩⟩, fun i hi => ⟨vs, h, hi⟩⟩
theorem jok_sq {K : PySem.W.Frag} {W : Wo} {M : Mem} {d : D} {v : V} {xs : List D} (sr : SR K W M) (h : Rp K W d v) (hn : ∀ n, d ≠ .ref n) (e : sqOf d M = some xs) :
    ∃ p, v = .ref p ∧ (((∃ vs, SqL K W.H p vs) ∧ JOk K W (Itl K p) xs none) ∨ ((∃ vs, SqT K W.H p vs) ∧ JOk K W (Itt K p) xs none)) := by
  obtain ⟨p, vs, rfl, h1, r⟩ := sq_sq sr h e
  refine ⟨p, rfl, ?_⟩
  cases d with
  | tup ds =>
    have hz := sq_len sr h e
    cases e
    obtain ⟨p', vs', e', q, r'⟩ := tp_sq h
    cases e'
    refine .inr ⟨⟨_, q⟩, jok_of hz fun W' M' ex s _ => ?_⟩
    obtain ⟨p2, vs2, e2, q2, r2⟩ := tp_sq (h.ext ex sr.sub)
    cases e2
    exact ⟨vs2, r2, walk_t q2⟩
  | ref n => exact absurd rfl (hn n)
  | lst ds =>
    have e' : lsOf (.lst ds) M = some xs := e
    obtain ⟨p', vs', e2, q, r'⟩ := ls_sq sr h e'
    cases e2
    refine .inl ⟨⟨_, q⟩, jok_of (sq_len sr h e) fun W' M' ex s _ => ?_⟩
    obtain ⟨p2, vs2, e2, q2, r2⟩ := ls_sq s (h.ext ex sr.sub) (show lsOf (.lst ds) M' = some xs from e')
    cases e2
    exact ⟨vs2, r2, walk_l q2⟩
  | kst ds =>
    have e' : lsOf (.kst ds) M = some xs := e
    obtain ⟨p', vs', e2, q, r'⟩ := ls_sq sr h e'
    cases e2
    refine .inl ⟨⟨_, q⟩, jok_of (sq_len sr h e) fun W' M' ex s _ => ?_⟩
    obtain ⟨p2, vs2, e2, q2, r2⟩ := ls_sq s (h.ext ex sr.sub) (show lsOf (.kst ds) M' = some xs from e')
    cases e2
    exact ⟨vs2, r2, walk_l q2⟩
  | _ => cases e
theorem pfi_sq (ha : PFE X a fa) : PFI X tg a (fiSq fa) := pi_weak (pi_seq ha) fun σ H R => by
  rintro ⟨W, ρ, M, rfl, sr, sl, xs, kk, M', hf, k⟩
  obtain ⟨⟨x, M1⟩, hx, hf⟩ := Option.bind_eq_some_iff.mp hf
  refine ⟨W, ρ, M, rfl, sr, sl, x, M1, hx, fun W1 v e1 s1 r1 => ?_⟩
  have other : (∀ n, x ≠ .ref n) → (sqOf x M1).bind (fun xs => some ((xs, (none : Option Nat)), M1)) = some ((xs, kk), M') → ∃ p, v = .ref p ∧ (((∃ xs, SqL X.K W1.H p xs) ∧ R (Itl X.K p) W1.H) ∨ ((∃ xs, SqT X.K W1.H p xs) ∧ R (Itt X.K p) W1.H)) := fun hn e => by
    obtain ⟨ys, hy, e⟩ := Option.bind_eq_some_iff.mp e
    cases e
    obtain ⟨p, rfl, q⟩ := jok_sq s1 r1 hn hy
    exact ⟨p, rfl, q.imp (fun z => ⟨z.1, k W1 _ e1 s1 z.2⟩) fun z => ⟨z.1, k W1 _ e1 s1 z.2⟩⟩
  cases x with
  | ref n =>
    obtain ⟨ys, hy, hf⟩ := Option.bind_eq_some_iff.mp hf
    cases hf
    obtain ⟨p, vs, rfl, q, r⟩ := ls_sq s1 r1 hy
    refine ⟨p, rfl, .inl ⟨⟨_, q⟩, k W1 _ e1 s1 (jok_of (ls_len s1 r1 hy) fun W' M' ex s c => ?_)⟩⟩
    unfold chk at c
    dsimp only at c
    split at c
    · rename_i zs hz
      have ez := D.eqs_of_beqs _ _ c
      subst ez
      obtain ⟨p2, vs2, e2, q2, r2⟩ := ls_sq s (r1.ext ex s1.sub) (show lsOf (.ref n) M' = some zs by simp only [lsOf, hz])
      cases e2
      exact ⟨vs2, r2, walk_l q2⟩
    · cases c
  | tup _ => exact other (fun n z => nomatch z) hf
  | lst _ => exact other (fun n z => nomatch z) hf
  | kst _ => exact other (fun n z => nomatch z) hf
  | non => exact other (fun n z => nomatch z) hf
  | bl _ => exact other (fun n z => nomatch z) hf
  | int _ => exact other (fun n z => nomatch z) hf
  | str _ => exact other (fun n z => nomatch z) hf
theorem jok_rg {K : PySem.W.Frag} {W : Wo} {lo : Int} {n : Nat} (hn : n ≤ LINE) : JOk K W (Itr lo n) (rgD lo n) none := by
  have hl : (rgD lo n).length = n := by unfold rgD; simp
  refine ⟨by rw [hl]; exact hn, fun W' M' e s c i => ?_⟩
  refine ⟨fun d hd => ?_, fun h => by rw [hl] at h; exact h⟩
  have hi : i < n := by rw [← hl]; exact (List.getElem?_eq_some_iff.mp hd).1
  have hd' : d = D.int (lo + i) := by
    unfold rgD at hd
    rw [List.getElem?_map, List.getElem?_range hi] at hd
    cases hd; rfl
  subst hd'
  exact ⟨hi, fun x H' hx => ⟨hx.1, hx.2⟩⟩
theorem pfi_rg1 {f : FA} {p pos : Pos} (hg : Gl X "range") (hm : X.mg "range" = none) (ha : PFA X [a] f) (hs : starEach [a] X.env = [(false, eval a X.env)] := by rfl) : PFI X tg (.Call (.Name "range" p) [a] [] pos) (fiRg1 f) := pi_weak (pi_range1 hg hm ha hs) fun σ H R => by
  rintro ⟨W, ρ, M, rfl, sr, sl, xs, kk, M', hf, k⟩
  obtain ⟨⟨x, M1⟩, hx, hf⟩ := Option.bind_eq_some_iff.mp hf
  dsimp only at hf
  split at hf
  · split at hf
    · rename_i hr
      cases hf
      replace hr := okR_ok hr
      refine ⟨W, ρ, M, rfl, sr, sl, _, _, hx, fun W1 v e1 s1 r1 => ?_⟩
      obtain ⟨v1, r, rfl, q1, q2⟩ := r1
      cases (show _ = _ from q1); cases (show _ = _ from q2)
      exact ⟨_, rfl, hr.2.1.1, hr.2.1.2, k W1 _ e1 s1 (jok_rg (by show _ ≤ 16777216; omega))⟩
    · cases hf
  · cases hf
theorem pfi_rg2 {b : Expr} {f : FA} {p pos : Pos} (hg : Gl X "range") (hm : X.mg "range" = none) (ha : PFA X [a, b] f) (hs : starEach [a, b] X.env = [(false, eval a X.env), (false, eval b X.env)] := by rfl) (hs2 : starEach [b] X.env = [(false, eval b X.env)] := by rfl) :
    PFI X tg (.Call (.Name "range" p) [a, b] [] pos) (fiRg2 f) := pi_weak (pi_range2 hg hm ha hs hs2) fun σ H R => by
  rintro ⟨W, ρ, M, rfl, sr, sl, xs, kk, M', hf, k⟩
  obtain ⟨⟨x, M1⟩, hx, hf⟩ := Option.bind_eq_some_iff.mp hf
  dsimp only at hf
  split at hf
  · split at hf
    · rename_i hr
      cases hf
      replace hr := okR_ok hr
      refine ⟨W, ρ, M, rfl, sr, sl, _, _, hx, fun W1 v e1 s1 r1 => ?_⟩
      obtain ⟨v1, r, rfl, q1, v2, r', rfl, q2, q3⟩ := r1
      cases (show _ = _ from q1); cases (show _ = _ from q2); cases (show _ = _ from q3)
      exact ⟨_, _, rfl, ⟨hr.1.1, hr.1.2, hr.2.1.1, hr.2.1.2⟩, k W1 _ e1 s1 (jok_rg (by show _ ≤ 16777216; omega))⟩
    · cases hf
  · cases hf
end
end PF
namespace PF
open PySem PySem.Spec PyProof.Rows L2
/-! ### list comprehensions -/
/-- the state without the list that grows -/
def Wo.minus (W : Wo) (p : Addr) : Wo := ⟨W.as, fun a => W.bad a ∧ a ≠ p, fun a => if a = p then none else W.H a⟩
def Wo.plus (W : Wo) (p : Addr) (o : HO) : Wo := ⟨W.as, fun a => W.bad a ∨ a = p, upd W.H p o⟩
section
variable {K : PySem.W.Frag} {W W' W3 : Wo} {M : Mem} {p : Addr} {o : HO}
theorem minus_H {a : Addr} (h : a ≠ p) : (W.minus p).H a = W.H a := if_neg h
theorem minus_self : (W.minus p).H p = none := if_pos rfl
mutual
theorem Rp.minus (hb : W.bad p) (hn : p ∉ W.as) : ∀ (d : D) (v : V), Rp K W d v → Rp K (W.minus p) d v
  | .non, _, h => h
  | .bl _, _, h => h
  | .int _, _, h => h
  | .str _, _, h => h
  | .tup ds, v, h => by
    obtain ⟨a, vs, e1, f, r⟩ := h
    refine ⟨a, vs, e1, ⟨f.1.imp (fun q => ?_) fun q => q, f.2⟩, RpL.minus hb hn ds vs r⟩
    exact ⟨(minus_H fun z => q.2 (by rw [z]; exact hb)).trans q.1, fun z => q.2 z.1⟩
  | .lst ds, v, h => by
    obtain ⟨a, vs, e1, f, r⟩ := h
    exact ⟨a, vs, e1, ⟨⟨(minus_H fun z => f.1.2 (by rw [z]; exact hb)).trans f.1.1, fun z => f.1.2 z.1⟩, f.2⟩, RpL.minus hb hn ds vs r⟩
  | .kst ds, v, h => by
    obtain ⟨a, vs, e1, f, r⟩ := h
    refine ⟨a, vs, e1, ⟨f.1.imp (fun q => ?_) fun q => q, f.2⟩, RpL.minus hb hn ds vs r⟩
    obtain ⟨⟨o, q1⟩, q2⟩ := q
    exact ⟨⟨o, (minus_H fun z => q2 (by rw [z]; exact hb)).trans q1⟩, fun z => q2 z.1⟩
  | .ref n, v, h => h
theorem RpL.minus (hb : W.bad p) (hn : p ∉ W.as) : ∀ (ds : List D) (vs : List V), RpL K W ds vs → RpL K (W.minus p) ds vs
  | [], _, h => h
  | d :: ds, vs, h => by
    obtain ⟨v, r, e1, h1, h2⟩ := h
    exact ⟨v, r, e1, Rp.minus hb hn d v h1, RpL.minus hb hn ds r h2⟩
end
theorem SR.minus (hb : W.bad p) (hn : p ∉ W.as) (sr : SR K W M) : SR K (W.minus p) M := by
  have ne : ∀ a, a ∈ W.as → a ≠ p := fun a h z => hn (by rw [← z]; exact h)
  refine ⟨sr.len, sr.nd, fun a h => ⟨sr.sub a h, ne a h⟩, fun a h => ?_, fun n a mo h1 h2 => ?_⟩
  · obtain ⟨o, q⟩ := sr.bt a h.1
    exact ⟨o, (minus_H h.2).trans q⟩
  · have m := sr.obj n a mo h1 h2
    have na := ne a (List.mem_of_getElem? h1)
    cases mo with
    | lst ds =>
      obtain ⟨vs, q1, q2⟩ := m
      exact ⟨vs, ⟨(minus_H na).trans q1.1, q1.2⟩, q2.minus hb hn⟩
theorem Ext.plus (hp : W.H p = none) : Ext W (W.plus p o) := by
  refine ⟨⟨[], by simp [Wo.plus], fun _ h => by simp at h⟩, fun _ h => .inl h, fun a h => ?_, fun a u _ h => (upd_ne (ne_of_none h hp)).trans h, fun a u h => ⟨u, (upd_ne (ne_of_none h hp)).trans h⟩⟩
  rcases h with h | h
  · exact .inl h
  · rw [h]; exact .inr hp
theorem SR.plus (sr : SR K W M) (hp : W.H p = none) : SR K (W.plus p o) M := by
  have E := Ext.plus (W := W) (o := o) hp
  refine ⟨sr.len, sr.nd, fun a h => .inl (sr.sub a h), fun a h => ?_, fun n a mo h1 h2 => ?_⟩
  · rcases h with h | h
    · obtain ⟨u, q⟩ := sr.bt a h
      exact E.live a u q
    · rw [h]; exact ⟨o, upd_same⟩
  · have m := sr.obj n a mo h1 h2
    obtain ⟨o', q⟩ := m.there
    exact m.ext E sr.sub (upd_ne (ne_of_none q hp))
/-- behind a step from W with the list at p: W without it, and the list as it was -/
theorem Ext.unplus (sr : SR K W M) (hp : W.H p = none) (e : Ext (W.plus p o) W3) : Ext W (W3.minus p) ∧ W3.bad p ∧ p ∉ W3.as ∧ W3.H p = some o := by
  have npa : p ∉ W.as := fun z => sr.nb hp (sr.sub p z)
  have h3 : W3.H p = some o := e.keep p o npa upd_same
  have hb : W3.bad p := e.bad p (.inr rfl)
  obtain ⟨new, ea, fr⟩ := e.as
  have frW : ∀ a ∈ new, W.H a = none ∧ a ≠ p := fun a ha => by
    have q : upd W.H p o a = none := fr a ha
    by_cases z : a = p
    · rw [z, upd_same] at q; cases q
    · rw [upd_ne z] at q; exact ⟨q, z⟩
  refine ⟨⟨⟨new, ea, fun a ha => (frW a ha).1⟩, fun a h => ⟨e.bad a (.inl h), fun z => sr.nb hp (by rw [← z]; exact h)⟩, fun a h => ?_, fun a u ha hu => ?_, fun a u hu => ?_⟩, hb, fun z => ?_, h3⟩
  · rcases e.new a h.1 with q | q
    · rcases q with q | q
      · exact .inl q
      · exact absurd q h.2
    · have q' : upd W.H p o a = none := q
      rw [upd_ne h.2] at q'
      exact .inr q'
  · have na : a ≠ p := ne_of_none hu hp
    exact (minus_H na).trans (e.keep a u ha ((upd_ne na).trans hu))
  · have na : a ≠ p := ne_of_none hu hp
    obtain ⟨u', q⟩ := e.live a u ((upd_ne na).trans hu)
    exact ⟨u', (minus_H na).trans q⟩
  · have z' : p ∈ W.as ++ new := by
      have q := z
      rw [ea] at q
      exact q
    rcases List.mem_append.mp z' with z | z
    · exact npa z
    · exact (frW p z).2 rfl
end
def wipeR (ρ : Rho) : List Nat → Rho
  | [] => ρ
  | v :: vs => (wipeR ρ vs).set v none
theorem wipeR_len (ρ : Rho) : ∀ vs : List Nat, (wipeR ρ vs).length = ρ.length
  | [] => rfl
  | v :: vs => by unfold wipeR; rw [List.length_set, wipeR_len ρ vs]
theorem Sl.wipe {K : PySem.W.Frag} {W : Wo} {ρ : Rho} {σ : L2.St} (h : Sl K W ρ σ) : ∀ vs : List Nat, Sl K W (wipeR ρ vs) (L2.wipe σ vs)
  | [] => h
  | v :: vs => by
    have ih := Sl.wipe h vs
    refine ⟨by unfold wipeR L2.wipe; rw [List.length_set, List.length_set]; exact ih.len, fun i d hi => ?_⟩
    unfold wipeR at hi
    unfold L2.wipe
    by_cases e : v = i
    · subst e
      by_cases hl : v < (wipeR ρ vs).length
      · rw [List.getElem?_set_self hl] at hi; cases hi
      · rw [List.getElem?_eq_none (by rw [List.length_set]; omega)] at hi; cases hi
    · rw [List.getElem?_set_ne e] at hi ⊢
      exact ih.at_ i d hi
theorem wipe_idem (σ : L2.St) (vs : List Nat) : L2.wipe (L2.wipe σ vs) vs = L2.wipe σ vs := by
  have at_ : ∀ (vs ws : List Nat) (σ : L2.St) (i : Nat), i ∈ vs → (L2.wipe σ vs)[i]? = (if i < σ.length then some none else none) := by
    intro vs
    induction vs with
    | nil => intro ws σ i h; simp at h
    | cons v vs ih =>
      intro ws σ i h
      unfold L2.wipe
      by_cases e : v = i
      · subst e
        by_cases hl : v < σ.length
        · rw [List.getElem?_set_self (by rw [wipe_length]; exact hl), if_pos hl]
        · rw [List.getElem?_eq_none (by rw [List.length_set, wipe_length]; omega), if_neg hl]
      · rw [List.getElem?_set_ne e]
        rcases List.mem_cons.mp h with q | q
        · exact absurd q.symm e
        · exact ih ws σ i q
  apply List.ext_getElem?
  intro i
  by_cases h : i ∈ vs
  · rw [at_ vs [] _ i h, at_ vs [] _ i h, wipe_length]
  · rw [wipe_out h, wipe_out h]
def lcLoop (c : Mem → Bool) (t : FG) (ft : FT) (fe : FE) (ρ : Rho) : List D → List D → Mem → Option (List D × Mem)
  | [], acc, M => if c M = true then some (acc, M) else none
  | d :: ds, acc, M => if c M = true then (t d ρ).bind fun ρ' => (ft ρ' M).bind fun b =>
      if b.1 = true then (fe ρ' b.2).bind fun y => lcLoop c t ft fe ρ ds (acc ++ [y.1]) y.2 else lcLoop c t ft fe ρ ds acc b.2
    else none
/-- [elt for t in fi if ft] -/
def fLC (vs : List Nat) (fi : FI) (t : FG) (ft : FT) (fe : FE) : FA := fun ρ M => (fi ρ M).bind fun a => lcLoop (chk a.1.2 a.1.1) t ft fe (wipeR ρ vs) a.1.1 [] a.2
def fYes : FT := fun _ M => some (true, M)
abbrev PFTs (X : Cx) (ifs : List Expr) (f : FT) : Prop := PTs X ifs (liftT X.K f)
theorem pts_weak {X : Cx} {e : List Expr} {t t' : TT} (h : PTs X e t) (i : ∀ σ H Q, t' σ H Q → t σ H Q) : PTs X e t' := ⟨fun pins s σ H Q I q => h.run pins s σ H Q I (i σ H Q q)⟩
theorem pfts_nil {X : Cx} : PFTs X [] fYes := pts_weak pts_nil fun σ H Q => by
  rintro ⟨W, ρ, M, rfl, sr, sl, d, M', hf, k⟩
  cases hf
  exact k W (.refl W) sr
theorem pfts_one {X : Cx} {c : Expr} {f : FT} (h : PFT X c f) : PFTs X [c] f := pts_one h
theorem lc_lift {K : PySem.W.Frag} {fi : FI} {t : FG} {ft : FT} {fe : FE} {vs : List Nat} : ∀ σ H Q, liftN K (fLC vs fi t ft fe) σ H Q → tLc (liftI K fi) (liftG K vs t) (liftT K ft) (liftE K fe) vs σ H Q := by
  rintro σ H Q ⟨W, ρ, M, rfl, sr, sl, out, M', hf, k⟩
  obtain ⟨⟨⟨xs, kk⟩, M1⟩, hi, hf⟩ := Option.bind_eq_some_iff.mp hf
  refine ⟨W, ρ, M, rfl, sr, sl, xs, kk, M1, hi, fun W1 J e1 s1 jo D hD => ?_⟩
  -- the loop: W2 is the state without the growing list
  refine ⟨fun i m H' => ∃ W2 Mt acc ws, H' = upd W2.H D (.lst ws) ∧ W2.H D = none ∧ Ext W1 W2 ∧ SR K W2 Mt ∧ RpL K W2 acc ws ∧ ws.length ≤ i ∧ i ≤ xs.length ∧ m = xs.length - i ∧
    lcLoop (chk kk xs) t ft fe (wipeR ρ vs) (xs.drop i) acc Mt = some (out, M'), ⟨xs.length, W1, M1, [], [], rfl, hD, .refl W1, s1, rfl, Nat.le_refl _, Nat.zero_le _, rfl, hf⟩, ?_⟩
  rintro i m H' ⟨W2, Mt, acc, ws, rfl, hD2, e2, s2, racc, hws, hil, rfl, hw⟩
  have eP : Ext W2 (W2.plus D (.lst ws)) := Ext.plus hD2
  have sP : SR K (W2.plus D (.lst ws)) Mt := s2.plus hD2
  by_cases hlt : i < xs.length
  · right
    have hd : xs.drop i = xs[i] :: xs.drop (i + 1) := List.drop_eq_getElem_cons hlt
    rw [hd] at hw
    unfold lcLoop at hw
    split at hw
    · rename_i hck
      obtain ⟨ρ', ht, hw⟩ := Option.bind_eq_some_iff.mp hw
      obtain ⟨⟨b, M3⟩, hb, hw⟩ := Option.bind_eq_some_iff.mp hw
      obtain ⟨hgo, hy⟩ := (jo.2 _ Mt (e2.trans eP) sP hck i).1 xs[i] (by simp [hlt])
      refine ⟨hgo, fun H' => ∃ W4 Mt acc ws, H' = upd W4.H D (.lst ws) ∧ W4.H D = none ∧ Ext W1 W4 ∧ SR K W4 Mt ∧ RpL K W4 acc ws ∧ ws.length ≤ i + 1 ∧
        lcLoop (chk kk xs) t ft fe (wipeR ρ vs) (xs.drop (i + 1)) acc Mt = some (out, M'), ?_, fun x H' hx => ?_⟩
      · rintro H' ⟨W4, Mt', acc', ws', h1, h2, h3, h4, h5, h6, h7⟩
        exact ⟨xs.length - (i + 1), by omega, W4, Mt', acc', ws', h1, h2, h3, h4, h5, h6, hlt, rfl, h7⟩
      · obtain ⟨rfl, rx⟩ := hy x H' hx
        have slW : Sl K (W2.plus D (.lst ws)) (wipeR ρ vs) (L2.wipe σ vs) := (sl.ext (e1.trans (e2.trans eP)) sr.sub).wipe vs
        refine ⟨_, wipeR ρ vs, Mt, xs[i], rfl, sP, slW, rx, ρ', ht, fun W3 σ3 e3 s3 l3 w3 => ⟨by rw [w3, wipe_idem], ?_⟩⟩
        refine ⟨W3, ρ', Mt, rfl, s3, l3, b, M3, hb, fun W4 e4 s4 => ?_⟩
        cases b with
        | false =>
          rw [if_neg Bool.false_ne_true] at hw ⊢
          obtain ⟨e5, b5, n5, h5⟩ := Ext.unplus s2 hD2 (e3.trans e4)
          refine ⟨W4.minus D, M3, acc, ws, ?_, minus_self, e2.trans e5, s4.minus b5 n5, (racc.ext e5 s2.sub), by omega, hw⟩
          funext a
          by_cases z : a = D
          · subst z; rw [upd_same]; exact h5
          · rw [upd_ne z]; exact (minus_H z).symm
        | true =>
          rw [if_pos rfl] at hw ⊢
          obtain ⟨⟨y, M5⟩, hye, hw⟩ := Option.bind_eq_some_iff.mp hw
          refine ⟨W4, ρ', M3, rfl, s4, l3.ext e4 s3.sub, y, M5, hye, fun W5 v e5 s5 r5 => ?_⟩
          obtain ⟨e6, b6, n6, h6⟩ := Ext.unplus s2 hD2 ((e3.trans e4).trans e5)
          have hz : ws.length < LINE := by have := jo.1; omega
          refine ⟨ws, h6, by rw [line_eq]; exact hz, W5.minus D, M5, acc ++ [y], ws ++ [v], ?_, minus_self, e2.trans e6, s5.minus b6 n6, (racc.ext e6 s2.sub).append (.one (r5.minus b6 n6)), by rw [List.length_append, List.length_singleton]; omega, hw⟩
          funext a
          by_cases z : a = D
          · subst z; rw [upd_same, upd_same]
          · rw [upd_ne z, upd_ne z]; exact (minus_H z).symm
    · cases hw
  · left
    have e : i = xs.length := by omega
    subst e
    rw [List.drop_length] at hw
    unfold lcLoop at hw
    split at hw
    · rename_i hck
      cases hw
      refine ⟨(jo.2 _ _ (e2.trans eP) sP hck xs.length).2 (Nat.le_refl _), ?_⟩
      exact k W2 D ws (e1.trans e2) s2 hD2 racc (by have := jo.1; omega)
    · cases hw
section
variable {X : Cx} {elt tg iter : Expr} {ifs : List Expr} {scope : Scope} {own : List (Str × Nat)} {pos : Pos} {fi : FI} {t : FG} {ft : FT} {fe : FE}
theorem pfn_lc (hc : X.calm = true) (hN : X.N.Nodup) (hi : PFI X tg iter fi) (ok : BlkOk X.N X.env.scope scope own)
    (hg : ∀ (s : Shared) (H : Hp) (C : Addr) (cl : List (Str × Addr)) (fp : List Addr), PFG (X.blk s H scope (compEnvC scope cl C X.env) fp) (own.map (·.2)) tg t) (ht : ∀ (s : Shared) (H : Hp) (C : Addr) (cl : List (Str × Addr)) (fp : List Addr), PFTs (X.blk s H scope (compEnvC scope cl C X.env) fp) ifs ft)
    (he : ∀ (s : Shared) (H : Hp) (C : Addr) (cl : List (Str × Addr)) (fp : List Addr), PFE (X.blk s H scope (compEnvC scope cl C X.env) fp) elt fe) (hs : ∀ x, foldedSetIterable iter X.env x = pure x := by intro _; rfl) :
    PFN X (.ListComp elt [⟨tg, iter, ifs, 0⟩] scope pos) (fLC (own.map (·.2)) fi t ft fe) := pe_weak (pe_lc hc hN hi ok hg ht he hs) lc_lift
theorem set_fz {K : PySem.W.Frag} {i : Nat} {f : FA} : ∀ E σ H, liftS K (sSet i (fFz f)) E σ H → liftN K f σ H fun x H1 => gName i x σ H1 E.nx := fun E σ H => by
  rw [liftS_iff]
  rintro ⟨W, ρ, M, rfl, sr, sl, o, M', hf, k⟩
  obtain ⟨⟨x, M1⟩, hx, hf⟩ := Option.bind_eq_some_iff.mp hf
  obtain ⟨⟨y, M2⟩, hy, hx⟩ := Option.bind_eq_some_iff.mp hx
  cases hx; cases hf
  exact ⟨W, ρ, M, rfl, sr, sl, y, _, hy, fun W1 p vs e1 s1 hp r1 hl => k _ _ (e1.trans (Ext.put hp)) (s1.put hp) (sl_set (sl.ext (e1.trans (Ext.put hp)) sr.sub) (.newLst s1 hp r1 hl))⟩
theorem set_mut {K : PySem.W.Frag} {i : Nat} {f : FA} : ∀ E σ H, liftS K (sSet i (fMut f)) E σ H → liftN K f σ H fun x H1 => gName i x σ H1 E.nx := fun E σ H => by
  rw [liftS_iff]
  rintro ⟨W, ρ, M, rfl, sr, sl, o, M', hf, k⟩
  obtain ⟨⟨x, M1⟩, hx, hf⟩ := Option.bind_eq_some_iff.mp hf
  obtain ⟨⟨y, M2⟩, hy, hx⟩ := Option.bind_eq_some_iff.mp hx
  cases hx; cases hf
  exact ⟨W, ρ, M, rfl, sr, sl, y, _, hy, fun W1 p vs e1 s1 hp r1 hl => k _ _ (e1.trans (Ext.mk2 hp)) (s1.mk2 hp r1 hl) (sl_set (sl.ext (e1.trans (Ext.mk2 hp)) sr.sub) (.mk2 s1))⟩
theorem pfs_setLcF {i : Nat} {y : Str} {py spos : Pos} (hc : X.calm = true) (hN : X.N.Nodup) (hy : X.N[i]? = some y) (hyl : X.env.scope.names.lookup y = some .local)
    (hsw : swapsWith (.ListComp elt [⟨tg, iter, ifs, 0⟩] scope pos) (some (.Name y py)) spos.line X.env = pure true) (hi : PFI X tg iter fi) (ok : BlkOk X.N X.env.scope scope own)
    (hg : ∀ (s : Shared) (H : Hp) (C : Addr) (cl : List (Str × Addr)) (fp : List Addr), PFG (X.blk s H scope (compEnvC scope cl C X.env) fp) (own.map (·.2)) tg t) (ht : ∀ (s : Shared) (H : Hp) (C : Addr) (cl : List (Str × Addr)) (fp : List Addr), PFTs (X.blk s H scope (compEnvC scope cl C X.env) fp) ifs ft)
    (he : ∀ (s : Shared) (H : Hp) (C : Addr) (cl : List (Str × Addr)) (fp : List Addr), PFE (X.blk s H scope (compEnvC scope cl C X.env) fp) elt fe) (hs : ∀ x, foldedSetIterable iter X.env x = pure x := by intro _; rfl) :
    PFS X (.Assign [.Name y py] (.ListComp elt [⟨tg, iter, ifs, 0⟩] scope pos) spos) (sSet i (fFz (fLC (own.map (·.2)) fi t ft fe))) := ps_weak (ps_setLc hc hN hy hyl hsw hi ok hg ht he hs) fun E σ H h => lc_lift _ _ _ (set_fz E σ H h)
theorem pfs_setLcM {i : Nat} {y : Str} {py spos : Pos} (hc : X.calm = true) (hN : X.N.Nodup) (hy : X.N[i]? = some y) (hyl : X.env.scope.names.lookup y = some .local)
    (hsw : swapsWith (.ListComp elt [⟨tg, iter, ifs, 0⟩] scope pos) (some (.Name y py)) spos.line X.env = pure true) (hi : PFI X tg iter fi) (ok : BlkOk X.N X.env.scope scope own)
    (hg : ∀ (s : Shared) (H : Hp) (C : Addr) (cl : List (Str × Addr)) (fp : List Addr), PFG (X.blk s H scope (compEnvC scope cl C X.env) fp) (own.map (·.2)) tg t) (ht : ∀ (s : Shared) (H : Hp) (C : Addr) (cl : List (Str × Addr)) (fp : List Addr), PFTs (X.blk s H scope (compEnvC scope cl C X.env) fp) ifs ft)
    (he : ∀ (s : Shared) (H : Hp) (C : Addr) (cl : List (Str × Addr)) (fp : List Addr), PFE (X.blk s H scope (compEnvC scope cl C X.env) fp) elt fe) (hs : ∀ x, foldedSetIterable iter X.env x = pure x := by intro _; rfl) :
    PFS X (.Assign [.Name y py] (.ListComp elt [⟨tg, iter, ifs, 0⟩] scope pos) spos) (sSet i (fMut (fLC (own.map (·.2)) fi t ft fe))) := ps_weak (ps_setLc hc hN hy hyl hsw hi ok hg ht he hs) fun E σ H h => lc_lift _ _ _ (set_mut E σ H h)
end
end PF
namespace PF
open PySem PySem.Spec PyProof.Rows L2
/-! ### data without references; without lists -/
mutual
def D.nr : D → Bool
  | .ref _ => false
  | .tup xs => D.nrs xs
  | .lst xs => D.nrs xs
  | .kst xs => D.nrs xs
  | _ => true
def D.nrs : List D → Bool
  | [] => true
  | x :: xs => D.nr x && D.nrs xs
end
mutual
def D.nl : D → Bool
  | .ref _ => false
  | .tup xs => D.nls xs
  | .lst _ => false
  | .kst _ => false
  | _ => true
def D.nls : List D → Bool
  | [] => true
  | x :: xs => D.nl x && D.nls xs
end
section
variable {K : PySem.W.Frag} {W W' : Wo}
mutual
theorem Rp.nr (hH : W'.H = W.H) (hb : ∀ a, W'.bad a → W.bad a) : ∀ (d : D) (v : V), d.nr = true → Rp K W d v → Rp K W' d v
  | .non, _, _, h => h
  | .bl _, _, _, h => h
  | .int _, _, _, h => h
  | .str _, _, _, h => h
  | .ref _, _, hn, _ => by rw [D.nr] at hn; cases hn
  | .tup ds, v, hn, h => by
    rw [D.nr] at hn
    obtain ⟨a, vs, e1, f, r⟩ := h
    exact ⟨a, vs, e1, ⟨f.1.imp (fun q => ⟨by rw [hH]; exact q.1, fun z => q.2 (hb a z)⟩) fun q => q, f.2⟩, RpL.nr hH hb ds vs hn r⟩
  | .lst ds, v, hn, h => by
    rw [D.nr] at hn
    obtain ⟨a, vs, e1, f, r⟩ := h
    exact ⟨a, vs, e1, ⟨⟨by rw [hH]; exact f.1.1, fun z => f.1.2 (hb a z)⟩, f.2⟩, RpL.nr hH hb ds vs hn r⟩
  | .kst ds, v, hn, h => by
    rw [D.nr] at hn
    obtain ⟨a, vs, e1, f, r⟩ := h
    refine ⟨a, vs, e1, ⟨f.1.imp (fun q => ?_) fun q => q, f.2⟩, RpL.nr hH hb ds vs hn r⟩
    obtain ⟨⟨o, q1⟩, q2⟩ := q
    exact ⟨⟨o, by rw [hH]; exact q1⟩, fun z => q2 (hb a z)⟩
theorem RpL.nr (hH : W'.H = W.H) (hb : ∀ a, W'.bad a → W.bad a) : ∀ (ds : List D) (vs : List V), D.nrs ds = true → RpL K W ds vs → RpL K W' ds vs
  | [], _, _, h => h
  | d :: ds, vs, hn, h => by
    rw [D.nrs, Bool.and_eq_true] at hn
    obtain ⟨v, r, e1, h1, h2⟩ := h
    exact ⟨v, r, e1, Rp.nr hH hb d v hn.1 h1, RpL.nr hH hb ds r hn.2 h2⟩
end
/-- tuples alone: what is wrongly shut away is a list -/
def LstAt (H : Hp) (a : Addr) : Prop := ∃ vs, H a = some (.lst vs)
mutual
theorem Rp.nl (hH : W'.H = W.H) (hb : ∀ a, W'.bad a → W.bad a ∨ LstAt W.H a) : ∀ (d : D) (v : V), d.nl = true → Rp K W d v → Rp K W' d v
  | .non, _, _, h => h
  | .bl _, _, _, h => h
  | .int _, _, _, h => h
  | .str _, _, _, h => h
  | .ref _, _, hn, _ => by rw [D.nl] at hn; cases hn
  | .lst _, _, hn, _ => by rw [D.nl] at hn; cases hn
  | .kst _, _, hn, _ => by rw [D.nl] at hn; cases hn
  | .tup ds, v, hn, h => by
    rw [D.nl] at hn
    obtain ⟨a, vs, e1, f, r⟩ := h
    refine ⟨a, vs, e1, ⟨f.1.imp (fun q => ⟨by rw [hH]; exact q.1, fun z => ?_⟩) fun q => q, f.2⟩, RpL.nl hH hb ds vs hn r⟩
    rcases hb a z with z | ⟨us, z⟩
    · exact q.2 z
    · rw [q.1] at z; cases z
theorem RpL.nl (hH : W'.H = W.H) (hb : ∀ a, W'.bad a → W.bad a ∨ LstAt W.H a) : ∀ (ds : List D) (vs : List V), D.nls ds = true → RpL K W ds vs → RpL K W' ds vs
  | [], _, _, h => h
  | d :: ds, vs, hn, h => by
    rw [D.nls, Bool.and_eq_true] at hn
    obtain ⟨v, r, e1, h1, h2⟩ := h
    exact ⟨v, r, e1, Rp.nl hH hb d v hn.1 h1, RpL.nl hH hb ds r hn.2 h2⟩
end
end
/-! ### a def's promise by a function on data -/
abbrev FnC := List D → Mem → Option (D × Mem)
def spOf (K : PySem.W.Frag) (c : FnC) (n : Nat) : Sp := fun vs H Q _ => vs.length = n ∧ ∃ W M ds, W.H = H ∧ SR K W M ∧ RpL K W ds vs ∧ ∃ d M', c ds M = some (d, M') ∧
  ∀ W' v, Ext W W' → SR K W' M' → Rp K W' d v → Q v W'.H
def MO.nr : MO → Bool
  | .lst xs => D.nrs xs
def Mem.nr : Mem → Bool
  | [] => true
  | m :: ms => m.nr && Mem.nr ms
/-- what is handed back; mu: a new list stays changeable -/
def fin (mu : Bool) (k : Nat) (d : D) (M : Mem) : Option (D × Mem) :=
  if Mem.nr (M.take k) = true then (match d with
    | .ref j => if j < k then none else match M[j]? with
      | some (.lst xs) => if D.nrs xs = true then (if mu = true then some (.ref k, M.take k ++ [.lst xs]) else some (.lst xs, M.take k)) else none
      | none => none
    | d => if d.nr = true then some (d, M.take k) else none) else none
def startR (n : Nat) (ds : List D) : Rho := ds.map some ++ List.replicate (n - ds.length) none
def runFn (mu : Bool) (n : Nat) (f : FS) : FnC := fun ds M => (f (startR n ds) M).bind fun o => match o.1 with
  | .ret d => fin mu M.length d o.2
  | .nx _ => fin mu M.length .non o.2
  | _ => none
section
variable {K : PySem.W.Frag} {W W' : Wo} {M M' : Mem}
theorem sl_start {ds : List D} {vs : List V} {N : List Str} (h : RpL K W ds vs) : Sl K W (startR N.length ds) (L2.start N vs) := by
  have hl := h.len
  refine ⟨by unfold startR L2.start; simp [hl], fun i d hi => ?_⟩
  unfold startR at hi
  unfold L2.start
  by_cases hlt : i < ds.length
  · rw [List.getElem?_append_left (by rw [List.length_map]; exact hlt), List.getElem?_map, List.getElem?_eq_getElem hlt] at hi
    have e : ds[i] = d := by simpa using hi
    obtain ⟨v, h1, h2⟩ := h.get (i := i) (d := d) (by rw [List.getElem?_eq_getElem hlt, e])
    refine ⟨v, ?_, h2⟩
    rw [List.getElem?_append_left (by rw [List.length_map, ← hl]; exact hlt), List.getElem?_map, h1]
    rfl
  · rw [List.getElem?_append_right (by rw [List.length_map]; omega)] at hi
    have := List.mem_of_getElem? hi
    simp at this
theorem Mem.nr_at : ∀ {M : Mem} {n : Nat} {mo : MO}, Mem.nr M = true → M[n]? = some mo → mo.nr = true
  | [], _, _, _, h => by simp at h
  | m :: ms, 0, mo, hn, h => by
    rw [Mem.nr, Bool.and_eq_true] at hn
    simp at h; subst h; exact hn.1
  | m :: ms, n + 1, mo, hn, h => by
    rw [Mem.nr, Bool.and_eq_true] at hn
    exact Mem.nr_at hn.2 (by simpa using h)
theorem MoOk.nr {a : Addr} {mo : MO} (hH : W'.H = W.H) (hb : ∀ a, W'.bad a → W.bad a) (hn : mo.nr = true) (h : MoOk K W a mo) : MoOk K W' a mo := by
  cases mo with
  | lst xs =>
    obtain ⟨vs, h1, h2⟩ := h
    exact ⟨vs, ⟨by rw [hH]; exact h1.1, h1.2⟩, h2.nr hH hb _ _ hn⟩
theorem take_as {new : List Addr} (e : W'.as = W.as ++ new) (hl : W.as.length = M.length) : W'.as.take M.length = W.as := by
  rw [e, ← hl, List.take_left]
/-- the state when a def has come back, but for its own lists -/
theorem fin_ok {mu : Bool} {d d' : D} {v : V} {M2 : Mem} (sr : SR K W M) (ex : Ext W W') (s : SR K W' M') (r : Rp K W' d v) (e : fin mu M.length d M' = some (d', M2)) :
    ∃ W2, W2.H = W'.H ∧ Ext W W2 ∧ SR K W2 M2 ∧ Rp K W2 d' v := by
  obtain ⟨new, ea, fr⟩ := ex.as
  have hl := sr.len
  have hat : ∀ n a, W.as[n]? = some a → W'.as[n]? = some a := fun n a h => by
    rw [ea]; exact (List.getElem?_append_left (List.getElem?_eq_some_iff.mp h).1).trans h
  unfold fin at e
  split at e
  · rename_i hnr
    -- the plain end
    have plain : ∀ bad' : Addr → Prop, (∀ a, bad' a → W'.bad a) → (∀ a, W.bad a → bad' a) → SR K ⟨W.as, bad', W'.H⟩ (M'.take M.length) ∧ Ext W ⟨W.as, bad', W'.H⟩ := fun bad' hb1 hb2 => by
      refine ⟨⟨?_, sr.nd, fun a h => hb2 a (sr.sub a h), fun a h => s.bt a (hb1 a h), fun n a mo h1 h2 => ?_⟩, ⟨⟨[], by simp, fun _ h => by simp at h⟩, hb2, fun a h => ex.new a (hb1 a h), ex.keep, ex.live⟩⟩
      · rw [List.length_take, ← s.len, ea, List.length_append]
        show W.as.length = _
        omega
      · have hn : n < M.length := by rw [← hl]; exact (List.getElem?_eq_some_iff.mp h1).1
        have h2' : M'[n]? = some mo := by rw [List.getElem?_take_of_lt hn] at h2; exact h2
        exact MoOk.nr (W := W') (W' := ⟨W.as, bad', W'.H⟩) rfl hb1 (Mem.nr_at hnr h2) (s.obj n a mo (hat n a h1) h2')
    have other : (∀ j, d ≠ .ref j) → (if d.nr = true then some (d, M'.take M.length) else none) = some (d', M2) → ∃ W2, W2.H = W'.H ∧ Ext W W2 ∧ SR K W2 M2 ∧ Rp K W2 d' v := fun _ e => by
      split at e
      · rename_i hn
        cases e
        obtain ⟨p1, p2⟩ := plain W'.bad (fun _ h => h) ex.bad
        exact ⟨⟨W.as, W'.bad, W'.H⟩, rfl, p2, p1, Rp.nr (W := W') (W' := ⟨W.as, W'.bad, W'.H⟩) rfl (fun _ h => h) _ _ hn r⟩
      · cases e
    cases d with
    | ref j =>
      dsimp only at e
      split at e
      · cases e
      · rename_i hj
        split at e
        · rename_i xs hx
          split at e
          · rename_i hn
            obtain ⟨a, h1, e1⟩ := r
            obtain ⟨vs, q1, q2⟩ := s.obj j a _ h1 hx
            have haN : a ∈ new := by
              rw [ea, List.getElem?_append_right (by omega)] at h1
              exact List.mem_of_getElem? h1
            have hWa : W.H a = none := fr a haN
            have nb : ¬ W.bad a := sr.nb hWa
            split at e
            · cases e
              obtain ⟨p1, p2⟩ := plain W'.bad (fun _ h => h) ex.bad
              have naW : a ∉ W.as := fun z => nb (sr.sub a z)
              refine ⟨⟨W.as ++ [a], W'.bad, W'.H⟩, rfl, ⟨⟨[a], rfl, fun b hb => by rw [show b = a by simpa using hb]; exact hWa⟩, ex.bad, ex.new, ex.keep, ex.live⟩, ?_, ⟨a, ?_, e1⟩⟩
              · refine ⟨?_, ?_, fun b hb => ?_, s.bt, fun n b mo h1' h2' => ?_⟩
                · have := p1.len
                  simp only [List.length_append, List.length_singleton]
                  show W.as.length + 1 = _
                  rw [show W.as.length = (M'.take M.length).length from this]
                · show (W.as ++ [a]).Nodup
                  rw [List.nodup_append]
                  refine ⟨sr.nd, by simp, fun b hb c hc => ?_⟩
                  rw [show c = a by simpa using hc]
                  rintro rfl; exact naW hb
                · rcases List.mem_append.mp hb with hb | hb
                  · exact ex.bad b (sr.sub b hb)
                  · rw [show b = a by simpa using hb]; exact s.sub a (List.mem_of_getElem? h1)
                · have h1'' : (W.as ++ [a])[n]? = some b := h1'
                  have hk : (M'.take M.length).length = W.as.length := p1.len.symm
                  by_cases hlt : n < W.as.length
                  · rw [List.getElem?_append_left hlt] at h1''
                    rw [List.getElem?_append_left (by rw [hk]; exact hlt)] at h2'
                    exact MoOk.nr (W := ⟨W.as, W'.bad, W'.H⟩) (W' := ⟨W.as ++ [a], W'.bad, W'.H⟩) rfl (fun _ h => h) (Mem.nr_at hnr h2') (p1.obj n b mo h1'' h2')
                  · have en : n = W.as.length := by
                      have := (List.getElem?_eq_some_iff.mp h1'').1
                      simp at this; omega
                    subst en
                    have eb : a = b := by simpa using h1''
                    have em : MO.lst xs = mo := by
                      rw [← hk] at h2'
                      simpa using h2'
                    subst eb em
                    exact ⟨vs, q1, RpL.nr (W := W') (W' := ⟨W.as ++ [a], W'.bad, W'.H⟩) rfl (fun _ h => h) _ _ hn q2⟩
              · show (W.as ++ [a])[M.length]? = some a
                rw [← hl]; simp
            · cases e
              obtain ⟨p1, p2⟩ := plain (fun b => W'.bad b ∧ b ≠ a) (fun _ h => h.1) fun b hb => ⟨ex.bad b hb, fun z => nb (by rw [← z]; exact hb)⟩
              exact ⟨⟨W.as, fun b => W'.bad b ∧ b ≠ a, W'.H⟩, rfl, p2, p1, a, vs, e1, ⟨⟨q1.1, fun z => z.2 rfl⟩, q1.2⟩, RpL.nr (W := W') (W' := ⟨W.as, fun b => W'.bad b ∧ b ≠ a, W'.H⟩) rfl (fun _ h => h.1) _ _ hn q2⟩
          · cases e
        · cases e
    | non => exact other (fun _ z => nomatch z) e
    | bl _ => exact other (fun _ z => nomatch z) e
    | int _ => exact other (fun _ z => nomatch z) e
    | str _ => exact other (fun _ z => nomatch z) e
    | tup _ => exact other (fun _ z => nomatch z) e
    | lst _ => exact other (fun _ z => nomatch z) e
    | kst _ => exact other (fun _ z => nomatch z) e
  · cases e
end
/-- THE RULE for a def: what its body computes, from its arguments to what is handed back -/
theorem fn_ok {P : Program} {w : World} {K : PySem.W.Frag} {mg : Str → Option Value} {base : Heap} {x qual : Str} {params : Arguments} {body : List Stmt} {scope : Scope} {f : Addr} {fd : FuncData} {N ps : List Str} {k : Nat} {mu : Bool} {g : FS}
    (F : FunD K x qual params body scope [] [] f fd) (S : FnScope N ps scope)
    (hb : ∀ (cdv : Value) (A : Around) (outer : List Env) (s : Shared) (H : Hp) (E : XK), Room k (A.deeper (envOfC qual scope s.heap.objs.size f cdv)) →
      PFSs (cxOf CX0 P w K mg base N qual scope f cdv A outer s H E).nox body g) : FnOk P w K mg base CX0 (k + 1) f fd ps (spOf K (runFn mu N.length g) ps.length) := by
  refine F.ok S (fun vs H Q E h => h.1) fun cdv A outer s H vs Q E hr h => ⟨_, (hb cdv A outer s H E hr).nox, ?_⟩
  obtain ⟨_, W, M, ds, rfl, sr, r, d, M', hc, k⟩ := h
  obtain ⟨⟨o, M1⟩, hg, hc⟩ := Option.bind_eq_some_iff.mp hc
  refine liftS_iff.mpr ⟨W, _, M, rfl, sr, sl_start r, o, M1, hg, ?_⟩
  cases o with
  | ret d1 =>
    intro W1 v e1 s1 r1
    obtain ⟨W2, hH, e2, s2, r2⟩ := fin_ok sr e1 s1 r1 hc
    show Q v W1.H
    rw [← hH]
    exact k W2 v e2 s2 r2
  | nx ρ1 =>
    intro W1 σ1 e1 s1 l1
    obtain ⟨W2, hH, e2, s2, r2⟩ := fin_ok (d := .non) (v := .non) sr e1 s1 rfl hc
    show Q .non W1.H
    rw [← hH]
    exact k W2 .non e2 s2 r2
  | bk ρ1 => cases hc
  | ct ρ1 => cases hc
/-- another function that says the same (where it says something) -/
theorem fn_as {P : Program} {w : World} {K : PySem.W.Frag} {mg : Str → Option Value} {base : Heap} {f : Addr} {fd : FuncData} {ps : List Str} {k n : Nat} {c c' : FnC} (F : FnOk P w K mg base CX0 k f fd ps (spOf K c n))
    (h : ∀ ds M r, c' ds M = some r → c ds M = some r) : FnOk P w K mg base CX0 k f fd ps (spOf K c' n) := F.imp fun vs H Q E ⟨hl, W, M, ds, h1, h2, h3, d, M', hc, k⟩ => ⟨hl, W, M, ds, h1, h2, h3, d, M', h ds M _ hc, k⟩
/-! ### the call of a def -/
/-- an argument that is only read: a changeable list stands as a list -/
def argP (M : Mem) : D → Option D
  | .ref n => match M[n]? with | some (.lst xs) => if D.nrs xs = true then some (.lst xs) else none | none => none
  | d => if d.nr = true then some d else none
def argsP (M : Mem) : List D → Option (List D)
  | [] => some []
  | d :: ds => (argP M d).bind fun e => (argsP M ds).bind fun es => some (e :: es)
def D.isRef : D → Bool
  | .ref _ => true
  | _ => false
def anyRef : List D → Bool
  | [] => false
  | d :: ds => d.isRef || anyRef ds
/-- nothing is changed by the callee -/
def callP (c : FnC) (ds : List D) (M : Mem) : Option (D × Mem) := (argsP M ds).bind fun es => (c es []).bind fun r => match r.2 with
  | [] => if anyRef ds && !r.1.nl then none else some (r.1, M)
  | [.lst xs] => match r.1 with
    | .ref 0 => if anyRef ds && !D.nls xs then none else if D.nrs xs = true then some (.ref M.length, M ++ [.lst xs]) else none
    | _ => none
  | _ => none
def fCall (c : FnC) (fa : FA) : FE := fun ρ M => (fa ρ M).bind fun a => callP c a.1 a.2
section
variable {K : PySem.W.Frag} {W : Wo} {M : Mem}
/-- the state as a callee sees it that changes nothing: the lists that are handed in are free -/
def Wo.lend (W : Wo) (as : List Addr) (free : Addr → Prop) : Wo := ⟨as, fun a => W.bad a ∧ ¬ free a, W.H⟩
theorem args_ok {as : List Addr} {free : Addr → Prop} (sr : SR K W M) : ∀ {ds es : List D} {vs : List V}, argsP M ds = some es → RpL K W ds vs → (∀ n a, D.ref n ∈ ds → W.as[n]? = some a → free a) →
    RpL K (W.lend as free) es vs
  | [], es, vs, e, r, _ => by cases e; exact r
  | d :: ds, es, vs, e, r, hf => by
    obtain ⟨d', hd, e⟩ := Option.bind_eq_some_iff.mp e
    obtain ⟨es', hes, e⟩ := Option.bind_eq_some_iff.mp e
    cases e
    obtain ⟨v, vr, rfl, r1, r2⟩ := r
    refine ⟨v, vr, rfl, ?_, args_ok sr hes r2 fun n a hm ha => hf n a (List.mem_cons_of_mem _ hm) ha⟩
    have other : (if d.nr = true then some d else none) = some d' → Rp K (W.lend as free) d' v := fun q => by
      split at q
      · rename_i hn
        cases q
        exact Rp.nr (W := W) (W' := W.lend as free) rfl (fun _ z => z.1) _ _ hn r1
      · cases q
    cases d with
    | ref n =>
      obtain ⟨a, h1, e1⟩ := r1
      obtain ⟨mo, hmo, m⟩ := sr.at_ h1
      cases mo with
      | lst xs =>
        simp only [argP, hmo] at hd
        split at hd
        · rename_i hn
          cases hd
          obtain ⟨us, q1, q2⟩ := m
          exact ⟨a, us, e1, ⟨⟨q1.1, fun z => z.2 (hf n a List.mem_cons_self h1)⟩, q1.2⟩, RpL.nr (W := W) (W' := W.lend as free) rfl (fun _ z => z.1) _ _ hn q2⟩
        · cases hd
    | non => exact other hd
    | bl _ => exact other hd
    | int _ => exact other hd
    | str _ => exact other hd
    | tup _ => exact other hd
    | lst _ => exact other hd
    | kst _ => exact other hd
theorem noRef : ∀ {ds : List D}, anyRef ds = false → ∀ n, D.ref n ∉ ds
  | [], _, _ => by simp
  | d :: ds, h, n => by
    rw [anyRef, Bool.or_eq_false_iff] at h
    intro z
    rcases List.mem_cons.mp z with z | z
    · rw [← z] at h; exact absurd h.1 (by simp [D.isRef])
    · exact noRef h.2 n z
/-- which lists are handed in -/
def Lent (W : Wo) (ds : List D) (a : Addr) : Prop := ∃ n, D.ref n ∈ ds ∧ W.as[n]? = some a
theorem lent_lst (sr : SR K W M) {ds : List D} {a : Addr} (h : Lent W ds a) : LstAt W.H a ∧ a ∈ W.as := by
  obtain ⟨n, _, h2⟩ := h
  obtain ⟨mo, _, m⟩ := sr.at_ h2
  cases mo with
  | lst xs => obtain ⟨vs, q, _⟩ := m; exact ⟨⟨vs, q.1⟩, List.mem_of_getElem? h2⟩
theorem callP_ok {c : FnC} {n : Nat} {ds : List D} {vs : List V} {d : D} {M' : Mem} {Q : VK} {E : XK} (sr : SR K W M) (r : RpL K W ds vs) (hn : vs.length = n) (e : callP c ds M = some (d, M'))
    (k : ∀ W' v, Ext W W' → SR K W' M' → Rp K W' d v → Q v W'.H) : spOf K c n vs W.H Q E := by
  obtain ⟨es, he, e⟩ := Option.bind_eq_some_iff.mp e
  obtain ⟨⟨d1, M1⟩, hc, e⟩ := Option.bind_eq_some_iff.mp e
  have sL : SR K (W.lend [] (Lent W ds)) [] := ⟨rfl, List.nodup_nil, fun a h => by simp [Wo.lend] at h, fun a h => sr.bt a h.1, fun n a mo h => by simp [Wo.lend] at h⟩
  refine ⟨hn, W.lend [] (Lent W ds), [], es, rfl, sL, args_ok sr he r fun n a h1 h2 => ⟨n, h1, h2⟩, d1, M1, hc, fun W1 v e1 s1 r1 => ?_⟩
  have keepAll : ∀ a o, W.H a = some o → W1.H a = some o := fun a o h => e1.keep a o (by simp [Wo.lend]) h
  have newb : ∀ a, W1.bad a → W.bad a ∨ W.H a = none := fun a h => (e1.new a h).imp (fun z => z.1) fun z => z
  -- the caller's state behind it
  have sr2 : ∀ (as' : List Addr), (∀ a ∈ as', W.H a = none ∧ W1.bad a) → Ext W ⟨W.as ++ as', fun a => W.bad a ∨ W1.bad a, W1.H⟩ := fun as' h =>
    ⟨⟨as', rfl, fun a ha => (h a ha).1⟩, fun a z => .inl z, fun a z => z.elim .inl (newb a), fun a o _ q => keepAll a o q, fun a o q => ⟨o, keepAll a o q⟩⟩
  have old : ∀ {W2 : Wo}, W2.H = W1.H → Ext W W2 → ∀ n a mo, W.as[n]? = some a → M[n]? = some mo → MoOk K W2 a mo := fun hH ex n a mo h1 h2 => by
    have m := sr.obj n a mo h1 h2
    obtain ⟨o, q⟩ := m.there
    exact m.ext ex sr.sub (by rw [hH, keepAll a o q, q])
  have badLst : ∀ a, (W.bad a ∨ W1.bad a) → W1.bad a ∨ (Lent W ds a ∧ LstAt W1.H a) := fun a z => by
    rcases z with z | z
    · by_cases q : Lent W ds a
      · obtain ⟨us, q2⟩ := (lent_lst sr q).1
        exact .inr ⟨q, us, keepAll a _ q2⟩
      · exact .inl (e1.bad a ⟨z, q⟩)
    · exact .inl z
  have badLst' : ∀ a, (W.bad a ∨ W1.bad a) → W1.bad a ∨ LstAt W1.H a := fun a z => (badLst a z).imp (fun q => q) fun q => q.2
  have noB : anyRef ds = false → ∀ a, (W.bad a ∨ W1.bad a) → W1.bad a := fun hr a z => by
    rcases badLst a z with q | ⟨⟨n, q, _⟩, _⟩
    · exact q
    · exact absurd q (noRef hr n)
  have toW2 : ∀ (as' : List Addr) (d : D) (v : V), d.nr = true → (anyRef ds && !d.nl) = false → Rp K W1 d v → Rp K ⟨W.as ++ as', fun a => W.bad a ∨ W1.bad a, W1.H⟩ d v := fun as' d v hnr h r => by
    cases hr : anyRef ds with
    | false => exact Rp.nr (W := W1) (W' := ⟨W.as ++ as', fun a => W.bad a ∨ W1.bad a, W1.H⟩) rfl (noB hr) _ _ hnr r
    | true => exact Rp.nl (W := W1) (W' := ⟨W.as ++ as', fun a => W.bad a ∨ W1.bad a, W1.H⟩) rfl badLst' _ _ (by rw [hr] at h; simpa using h) r
  have as1 : W1.as.length = M1.length := s1.len
  dsimp only at e
  split at e
  · -- nothing new
    have e0 : W1.as = [] := List.eq_nil_of_length_eq_zero as1
    split at e
    · cases e
    · rename_i h
      cases e
      have hnr : ∀ (d : D) (v : V), Rp K W1 d v → d.nr = true := by
        have both : (∀ (d : D) (v : V), Rp K W1 d v → d.nr = true) ∧ True := by
          refine ⟨fun d => ?_, trivial⟩
          refine D.rec (motive_1 := fun d => ∀ v, Rp K W1 d v → d.nr = true) (motive_2 := fun ds => ∀ vs, RpL K W1 ds vs → D.nrs ds = true) ?_ ?_ ?_ ?_ ?_ ?_ ?_ ?_ ?_ ?_ d
          · intro v _; rw [D.nr] <;> simp
          · intro b v _; rw [D.nr] <;> simp
          · intro i v _; rw [D.nr] <;> simp
          · intro x v _; rw [D.nr] <;> simp
          · intro xs ih v h; obtain ⟨a, vs, _, _, r⟩ := h; rw [D.nr]; exact ih vs r
          · intro xs ih v h; obtain ⟨a, vs, _, _, r⟩ := h; rw [D.nr]; exact ih vs r
          · intro xs ih v h; obtain ⟨a, vs, _, _, r⟩ := h; rw [D.nr]; exact ih vs r
          · intro n v h; obtain ⟨a, q, _⟩ := h; rw [e0] at q; simp at q
          · intro vs _; rw [D.nrs]
          · intro d ds i1 i2 vs h; obtain ⟨v, r, _, h1, h2⟩ := h; rw [D.nrs, i1 v h1, i2 r h2]; rfl
        exact both.1
      have ex := sr2 [] fun a h => by simp at h
      rw [List.append_nil] at ex
      have rd := toW2 [] d v (hnr d v r1) (by simpa using h) r1
      rw [List.append_nil] at rd
      exact k ⟨W.as, fun a => W.bad a ∨ W1.bad a, W1.H⟩ v ex ⟨sr.len, sr.nd, fun a q => .inl (sr.sub a q), fun a q => q.elim (fun z => let ⟨o, hq⟩ := sr.bt a z; ⟨o, keepAll a o hq⟩) (s1.bt a), fun n a mo h1 h2 => old (W2 := ⟨W.as, fun a => W.bad a ∨ W1.bad a, W1.H⟩) rfl ex n a mo h1 h2⟩ rd
  · -- a new list
    rename_i xs
    split at e
    · rename_i hd
      split at e
      · cases e
      · rename_i h
        split at e
        · rename_i hnr
          cases e
          obtain ⟨p, hp, ev⟩ := r1
          have e1' : W1.as = [p] := by
            have hl : W1.as.length = 1 := as1
            match hW : W1.as, hl with
            | [q], _ => rw [hW] at hp; simp at hp; rw [hp]
          obtain ⟨vs1, q1, q2⟩ := s1.obj 0 p (.lst xs) hp rfl
          have hpn : W.H p = none := by
            obtain ⟨new, ea, fr⟩ := e1.as
            refine fr p ?_
            have ea' : W1.as = new := by rw [ea]; rfl
            rw [← ea', e1']; simp
          have pb : W1.bad p := s1.sub p (by rw [e1']; simp)
          have npW : p ∉ W.as := fun z => sr.nb hpn (sr.sub p z)
          have ex := sr2 [p] fun a h => by rw [show a = p by simpa using h]; exact ⟨hpn, pb⟩
          have rxs : RpL K ⟨W.as ++ [p], fun a => W.bad a ∨ W1.bad a, W1.H⟩ xs vs1 := by
            cases hr : anyRef ds with
            | false => exact RpL.nr (W := W1) (W' := ⟨W.as ++ [p], fun a => W.bad a ∨ W1.bad a, W1.H⟩) rfl (noB hr) _ _ hnr q2
            | true => exact RpL.nl (W := W1) (W' := ⟨W.as ++ [p], fun a => W.bad a ∨ W1.bad a, W1.H⟩) rfl badLst' _ _ (by rw [hr] at h; simpa using h) q2
          refine k ⟨W.as ++ [p], fun a => W.bad a ∨ W1.bad a, W1.H⟩ v ex ⟨by simp [sr.len], ?_, fun a q => ?_, fun a q => q.elim (fun z => let ⟨o, hq⟩ := sr.bt a z; ⟨o, keepAll a o hq⟩) (s1.bt a), fun n a mo h1 h2 => ?_⟩ ⟨p, by show (W.as ++ [p])[M.length]? = some p; rw [← sr.len]; simp, ev⟩
          · show (W.as ++ [p]).Nodup
            rw [List.nodup_append]
            refine ⟨sr.nd, by simp, fun a ha b hb => ?_⟩
            rw [show b = p by simpa using hb]
            rintro rfl; exact npW ha
          · rcases List.mem_append.mp q with q | q
            · exact .inl (sr.sub a q)
            · rw [show a = p by simpa using q]; exact .inr pb
          · have h1' : (W.as ++ [p])[n]? = some a := h1
            by_cases hlt : n < W.as.length
            · rw [List.getElem?_append_left hlt] at h1'
              rw [List.getElem?_append_left (by rw [← sr.len]; exact hlt)] at h2
              exact old (W2 := ⟨W.as ++ [p], fun a => W.bad a ∨ W1.bad a, W1.H⟩) rfl ex n a mo h1' h2
            · have en : n = W.as.length := by
                have := (List.getElem?_eq_some_iff.mp h1').1
                simp at this; omega
              subst en
              have eb : p = a := by simpa using h1'
              have em : MO.lst xs = mo := by
                rw [sr.len] at h2
                simpa using h2
              subst eb em
              exact ⟨vs1, q1, rxs⟩
        · cases e
    · cases e
  · cases e
end
section
variable {X : Cx} {k n : Nat} {f : Addr} {fd : FuncData} {ps : List Str} {c : FnC} {x : Str} {p pos : Pos} {e : Expr} {es : List Expr} {fa : FA}
theorem pf_call (F : FnOk X.prog X.w X.K X.mg X.base CX0 k f fd ps (spOf X.K c n)) (hr : Room k X.A) (hg : Gl X x) (hm : X.mg x = some (.ref f)) (hk : PySem.W.keepIn X.K (.ref f) = true) (hb : Binds X.K fd ps []) (ha : PFA X (e :: es) fa) (hn : n = es.length + 1 := by rfl)
    (hlen : ∀ ρ M r, fa ρ M = some r → r.1.length = es.length + 1) (hdb : (x == ("__debug__" : Str)) = false := by decide) (he : starEach (e :: es) X.env = (false, eval e X.env) :: starEach es X.env := by rfl) (hpl : (backTo pos (starEach es X.env)).any (·.1) = false := by rfl) :
    PFE X (.Call (.Name x p) (e :: es) [] pos) (fCall c fa) := pe_weak (pe_call F hr hg hm hk hb .nil pass0 ha hdb he hpl) fun σ H Q => by
  rintro ⟨W, ρ, M, rfl, sr, sl, d, M', hf, k⟩
  obtain ⟨⟨ds, M1⟩, hx, hf⟩ := Option.bind_eq_some_iff.mp hf
  refine ⟨W, ρ, M, rfl, sr, sl, ds, M1, hx, fun W1 vs e1 s1 r1 => ?_⟩
  show spOf X.K c n (vs ++ []) W1.H Q E0
  rw [List.append_nil]
  exact callP_ok s1 r1 (by rw [← r1.len, hn]; exact hlen _ _ _ hx) hf fun W2 v e2 s2 r2 => k W2 v (e1.trans e2) s2 r2
theorem pf_call0 (F : FnOk X.prog X.w X.K X.mg X.base CX0 k f fd ps (spOf X.K c 0)) (hr : Room k X.A) (hg : Gl X x) (hm : X.mg x = some (.ref f)) (hk : PySem.W.keepIn X.K (.ref f) = true) (hb : Binds X.K fd ps []) (hdb : (x == ("__debug__" : Str)) = false := by decide) :
    PFE X (.Call (.Name x p) [] [] pos) (fCall c fNil) := pe_weak (pe_call0 F hr hg hm hk hb .nil pass0 hdb) fun σ H Q => by
  rintro ⟨W, ρ, M, rfl, sr, sl, d, M', hf, k⟩
  show spOf X.K c 0 ([] ++ []) W.H Q E0
  exact callP_ok (ds := []) sr rfl rfl hf fun W2 v e2 s2 r2 => k W2 v e2 s2 r2
end
theorem len_nil : ∀ ρ M (r : List D × Mem), fNil ρ M = some r → r.1.length = 0 := fun ρ M r h => by cases h; rfl
theorem len_cons {fa : FE} {f : FA} {n : Nat} (h : ∀ ρ M r, f ρ M = some r → r.1.length = n) : ∀ ρ M (r : List D × Mem), fCons fa f ρ M = some r → r.1.length = n + 1 := fun ρ M r e => by
  obtain ⟨a, ha, e⟩ := Option.bind_eq_some_iff.mp e
  obtain ⟨b, hb, e⟩ := Option.bind_eq_some_iff.mp e
  cases e
  simp [h _ _ _ hb]
end PF
namespace PF
open PySem PySem.Spec PyProof.Rows L2
/-! ### a call that changes one list -/
def refIn (n : Nat) : List D → Bool
  | [] => false
  | .ref m :: ds => decide (m = n) || refIn n ds
  | _ :: ds => refIn n ds
theorem refIn_no {n : Nat} : ∀ {ds : List D}, refIn n ds = false → D.ref n ∉ ds
  | [], _ => by simp
  | d :: ds, h => by
    intro z
    rcases List.mem_cons.mp z with z | z
    · subst z
      simp [refIn] at h
    · refine refIn_no (ds := ds) ?_ z
      cases d with
      | ref m => rw [refIn, Bool.or_eq_false_iff] at h; exact h.2
      | _ => exact h
def callS (i : Nat) (c : FnC) (ds : List D) (M : Mem) : Option (D × Mem) := match ds[i]? with
  | some (.ref n) => match M[n]? with
    | some mo => if mo.nr && !refIn n (ds.set i .non) then (argsP M (ds.set i .non)).bind fun es => (c (es.set i (.ref 0)) [mo]).bind fun r => match r.2 with
        | [.lst xs] => if (D.nrs xs && r.1.nr) && !(anyRef (ds.set i .non) && !(r.1.nl && D.nls xs)) then some (r.1, M.set n (.lst xs)) else none
        | _ => none
      else none
    | none => none
  | _ => none
def fCallS (i : Nat) (c : FnC) (fa : FA) : FE := fun ρ M => (fa ρ M).bind fun a => callS i c a.1 a.2
section
variable {K : PySem.W.Frag} {W : Wo} {M : Mem}
theorem callS_ok {i : Nat} {c : FnC} {n : Nat} {ds : List D} {vs : List V} {d : D} {M' : Mem} {Q : VK} {E : XK} (sr : SR K W M) (r : RpL K W ds vs) (hn : vs.length = n) (e : callS i c ds M = some (d, M'))
    (k : ∀ W' v, Ext W W' → SR K W' M' → Rp K W' d v → Q v W'.H) : spOf K c n vs W.H Q E := by
  unfold callS at e
  split at e
  · rename_i m hm
    split at e
    · rename_i mo hmo
      split at e
      · rename_i hc0
        rw [Bool.and_eq_true, Bool.not_eq_true'] at hc0
        obtain ⟨hnr, hri⟩ := hc0
        obtain ⟨es, he, e⟩ := Option.bind_eq_some_iff.mp e
        obtain ⟨⟨d1, M1⟩, hc, e⟩ := Option.bind_eq_some_iff.mp e
        obtain ⟨a, ha, mok⟩ := sr.addr hmo
        obtain ⟨vi, hvi, ri⟩ := r.get hm
        obtain ⟨a', ha', ev⟩ := ri
        obtain rfl : a = a' := Option.some.inj (ha.symm.trans ha')
        have haW : a ∈ W.as := List.mem_of_getElem? ha
        have nl : ¬ Lent W (ds.set i .non) a := fun ⟨j, h1, h2⟩ => by
          obtain ⟨q1, q2⟩ := List.getElem?_eq_some_iff.mp h2
          obtain ⟨q3, q4⟩ := List.getElem?_eq_some_iff.mp ha
          have : j = m := (List.getElem_inj sr.nd).mp (q2.trans q4.symm)
          subst this
          exact refIn_no hri h1
        have sL : SR K (W.lend [a] (Lent W (ds.set i .non))) [mo] := by
          refine ⟨rfl, by simp [Wo.lend], fun b h => ?_, fun b h => sr.bt b h.1, fun j b mo' h1 h2 => ?_⟩
          · rw [show b = a by simpa [Wo.lend] using h]
            exact ⟨sr.sub a haW, nl⟩
          · cases j with
            | zero =>
              have eb : a = b := by simpa [Wo.lend] using h1
              have em : mo = mo' := by simpa using h2
              subst eb em
              exact MoOk.nr (W := W) (W' := W.lend [a] (Lent W (ds.set i .non))) rfl (fun _ z => z.1) hnr mok
            | succ j => simp at h2
        have r' : RpL K W (ds.set i .non) (vs.set i .non) := r.set i rfl
        have rE := args_ok (as := [a]) sr he r' (free := Lent W (ds.set i .non)) fun j b h1 h2 => ⟨j, h1, h2⟩
        have rE2 : RpL K (W.lend [a] (Lent W (ds.set i .non))) (es.set i (.ref 0)) vs := by
          have q := rE.set (d := .ref 0) (v := .ref a) i ⟨a, rfl, rfl⟩
          rw [List.set_set] at q
          have ev' : vs.set i (.ref a) = vs := by
            rw [← ev]
            obtain ⟨h1, h2⟩ := List.getElem?_eq_some_iff.mp hvi
            rw [← h2]; exact List.set_getElem_self h1
          rw [ev'] at q
          exact q
        refine ⟨hn, W.lend [a] (Lent W (ds.set i .non)), [mo], _, rfl, sL, rE2, d1, M1, hc, fun W1 v e1 s1 r1 => ?_⟩
        have keepAll : ∀ b o, b ≠ a → W.H b = some o → W1.H b = some o := fun b o hb h => e1.keep b o (by simpa [Wo.lend] using hb) h
        dsimp only at e
        split at e
        · rename_i xs
          split at e
          · rename_i hcond
            rw [Bool.and_eq_true, Bool.and_eq_true, Bool.not_eq_true'] at hcond
            obtain ⟨⟨hxs, hd⟩, hl⟩ := hcond
            cases e
            obtain ⟨new, ea, fr⟩ := e1.as
            have enew : new = [] := by
              have h1 := s1.len
              rw [ea] at h1
              simp [Wo.lend] at h1
              exact h1
            subst enew
            have ea1 : W1.as = [a] := by rw [ea]; rfl
            obtain ⟨us, q1, q2⟩ := s1.obj 0 a (.lst xs) (by rw [ea1]; rfl) rfl
            have ex : Ext W ⟨W.as, fun b => W.bad b ∨ W1.bad b, W1.H⟩ := by
              refine ⟨⟨[], by simp, fun _ h => by simp at h⟩, fun b h => .inl h, fun b h => h.elim .inl fun z => (e1.new b z).imp (fun q => q.1) fun q => q, fun b o hb h => keepAll b o (fun z => hb (by rw [z]; exact haW)) h, fun b o h => ?_⟩
              by_cases z : b = a
              · subst z; exact ⟨_, q1.1⟩
              · exact ⟨o, keepAll b o z h⟩
            have badLst : ∀ b, (W.bad b ∨ W1.bad b) → W1.bad b ∨ (Lent W (ds.set i .non) b ∧ LstAt W1.H b) := fun b z => by
              rcases z with z | z
              · by_cases q : Lent W (ds.set i .non) b
                · have nb : b ≠ a := fun z => nl (by rw [← z]; exact q)
                  obtain ⟨us, q2⟩ := (lent_lst sr q).1
                  exact .inr ⟨q, us, keepAll b _ nb q2⟩
                · exact .inl (e1.bad b ⟨z, q⟩)
              · exact .inl z
            have noB : anyRef (ds.set i .non) = false → ∀ b, (W.bad b ∨ W1.bad b) → W1.bad b := fun hr b z => by
              rcases badLst b z with q | ⟨⟨j, q, _⟩, _⟩
              · exact q
              · exact absurd q (noRef hr j)
            have toD : ∀ (d : D) (v : V), d.nr = true → (anyRef (ds.set i .non) = true → d.nl = true) → Rp K W1 d v → Rp K ⟨W.as, fun b => W.bad b ∨ W1.bad b, W1.H⟩ d v := fun d v h1 h2 r => by
              cases hr : anyRef (ds.set i .non) with
              | false => exact Rp.nr (W := W1) (W' := ⟨W.as, fun b => W.bad b ∨ W1.bad b, W1.H⟩) rfl (noB hr) _ _ h1 r
              | true => exact Rp.nl (W := W1) (W' := ⟨W.as, fun b => W.bad b ∨ W1.bad b, W1.H⟩) rfl (fun b z => (badLst b z).imp (fun q => q) fun q => q.2) _ _ (h2 hr) r
            have toL : RpL K ⟨W.as, fun b => W.bad b ∨ W1.bad b, W1.H⟩ xs us := by
              cases hr : anyRef (ds.set i .non) with
              | false => exact RpL.nr (W := W1) (W' := ⟨W.as, fun b => W.bad b ∨ W1.bad b, W1.H⟩) rfl (noB hr) _ _ hxs q2
              | true =>
                rw [hr, Bool.true_and, Bool.not_eq_false', Bool.and_eq_true] at hl
                exact RpL.nl (W := W1) (W' := ⟨W.as, fun b => W.bad b ∨ W1.bad b, W1.H⟩) rfl (fun b z => (badLst b z).imp (fun q => q) fun q => q.2) _ _ hl.2 q2
            refine k ⟨W.as, fun b => W.bad b ∨ W1.bad b, W1.H⟩ v ex ⟨by rw [List.length_set]; exact sr.len, sr.nd, fun b h => .inl (sr.sub b h), fun b h => h.elim (fun z => let ⟨o, q⟩ := sr.bt b z; ex.live b o q) (s1.bt b), fun j b mo' h1 h2 => ?_⟩ (toD _ _ hd (fun hr => ?_) r1)
            · have h1' : W.as[j]? = some b := h1
              by_cases z : j = m
              · subst z
                obtain rfl : a = b := Option.some.inj (ha.symm.trans h1')
                have hl : j < M.length := by rw [← sr.len]; exact (List.getElem?_eq_some_iff.mp ha).1
                rw [List.getElem?_set_self hl] at h2
                cases h2
                exact ⟨us, q1, toL⟩
              · rw [List.getElem?_set_ne (Ne.symm z)] at h2
                have nb : b ≠ a := fun q => z (by
                  subst q
                  obtain ⟨q1, q2⟩ := List.getElem?_eq_some_iff.mp h1'
                  obtain ⟨q3, q4⟩ := List.getElem?_eq_some_iff.mp ha
                  exact (List.getElem_inj sr.nd).mp (q2.trans q4.symm))
                have mk := sr.obj j b mo' h1' h2
                obtain ⟨o, q⟩ := mk.there
                exact mk.ext ex sr.sub (by rw [q]; exact keepAll b o nb q)
            · rw [hr, Bool.true_and, Bool.not_eq_false', Bool.and_eq_true] at hl
              exact hl.1
          · cases e
        · cases e
      · cases e
    · cases e
  · cases e
end
section
variable {X : Cx} {k n : Nat} {f : Addr} {fd : FuncData} {ps : List Str} {c : FnC} {x : Str} {p pos : Pos} {e : Expr} {es : List Expr} {fa : FA}
theorem pf_callS (i : Nat) (F : FnOk X.prog X.w X.K X.mg X.base CX0 k f fd ps (spOf X.K c n)) (hr : Room k X.A) (hg : Gl X x) (hm : X.mg x = some (.ref f)) (hk : PySem.W.keepIn X.K (.ref f) = true) (hb : Binds X.K fd ps []) (ha : PFA X (e :: es) fa) (hn : n = es.length + 1 := by rfl)
    (hlen : ∀ ρ M r, fa ρ M = some r → r.1.length = es.length + 1) (hdb : (x == ("__debug__" : Str)) = false := by decide) (he : starEach (e :: es) X.env = (false, eval e X.env) :: starEach es X.env := by rfl) (hpl : (backTo pos (starEach es X.env)).any (·.1) = false := by rfl) :
    PFE X (.Call (.Name x p) (e :: es) [] pos) (fCallS i c fa) := pe_weak (pe_call F hr hg hm hk hb .nil pass0 ha hdb he hpl) fun σ H Q => by
  rintro ⟨W, ρ, M, rfl, sr, sl, d, M', hf, k⟩
  obtain ⟨⟨ds, M1⟩, hx, hf⟩ := Option.bind_eq_some_iff.mp hf
  refine ⟨W, ρ, M, rfl, sr, sl, ds, M1, hx, fun W1 vs e1 s1 r1 => ?_⟩
  show spOf X.K c n (vs ++ []) W1.H Q E0
  rw [List.append_nil]
  exact callS_ok s1 r1 (by rw [← r1.len, hn]; exact hlen _ _ _ hx) hf fun W2 v e2 s2 r2 => k W2 v (e1.trans e2) s2 r2
end
/-! ### calls of built-ins -/
abbrev GN := List D → Mem → Option D
def fB (g : GN) (fa : FA) : FE := fun ρ M => (fa ρ M).bind fun a => (g a.1 a.2).bind fun d => some (d, a.2)
def OpN (K : PySem.W.Frag) (r : List V → Hp → VK → Prop) (g : GN) : Prop := ∀ (W : Wo) (M : Mem) (ds : List D) (d : D) (vs : List V) (Q : VK), SR K W M → RpL K W ds vs → g ds M = some d →
  (∀ W' v', Ext W W' → SR K W' M → Rp K W' d v' → Q v' W'.H) → r vs W.H Q
/-- .. that make a new list -/
abbrev GNN := List D → Mem → Option (List D)
def fBN (g : GNN) (fa : FA) : FA := fun ρ M => (fa ρ M).bind fun a => (g a.1 a.2).bind fun d => some (d, a.2)
def OpNN (K : PySem.W.Frag) (r : List V → Hp → VK → Prop) (g : GNN) : Prop := ∀ (W : Wo) (M : Mem) (ds xs : List D) (vs : List V) (Q : VK), SR K W M → RpL K W ds vs → g ds M = some xs →
  (∀ p us, W.H p = none → RpL K W xs us → us.length ≤ LINE → Q (.ref p) (upd W.H p (.lst us))) → r vs W.H Q
section
variable {X : Cx} {e : Expr} {es : List Expr} {fa : FA} {x : Str} {p pos : Pos} {r : List V → Hp → VK → Prop} {g : GN} {gn : GNN} {id T : String}
theorem lB (o : OpN X.K r g) : ∀ σ H Q, liftE X.K (fB g fa) σ H Q → tCB r (liftA X.K fa) σ H Q := by
  rintro σ H Q ⟨W, ρ, M, rfl, sr, sl, d, M', hf, k⟩
  obtain ⟨⟨ds, M1⟩, hx, hf⟩ := Option.bind_eq_some_iff.mp hf
  obtain ⟨d', hg, hf⟩ := Option.bind_eq_some_iff.mp hf
  cases hf
  exact ⟨W, ρ, M, rfl, sr, sl, ds, _, hx, fun W1 vs e1 s1 r1 => o W1 _ ds d vs Q s1 r1 hg fun W2 v e2 s2 r2 => k W2 v (e1.trans e2) s2 r2⟩
theorem lBN (o : OpNN X.K r gn) : ∀ σ H Q, liftN X.K (fBN gn fa) σ H Q → tCB r (liftA X.K fa) σ H Q := by
  rintro σ H Q ⟨W, ρ, M, rfl, sr, sl, d, M', hf, k⟩
  obtain ⟨⟨ds, M1⟩, hx, hf⟩ := Option.bind_eq_some_iff.mp hf
  obtain ⟨d', hg, hf⟩ := Option.bind_eq_some_iff.mp hf
  cases hf
  exact ⟨W, ρ, M, rfl, sr, sl, ds, _, hx, fun W1 vs e1 s1 r1 => o W1 _ ds d vs Q s1 r1 hg fun q us hq ru hl => k W1 q us e1 s1 hq ru hl⟩
theorem pf_b (hc : CallR X (.builtin id) r) (o : OpN X.K r g) (hg : Gl X x) (hm : X.mg x = none) (hv : bootBuiltins x = some (.builtin id)) (ha : PFA X (e :: es) fa) (hn : x ≠ "__name__" := by decide) (hdb : (x == ("__debug__" : Str)) = false := by decide)
    (he : starEach (e :: es) X.env = (false, eval e X.env) :: starEach es X.env := by rfl) (hpl : (backTo pos (starEach es X.env)).any (·.1) = false := by rfl) : PFE X (.Call (.Name x p) (e :: es) [] pos) (fB g fa) := pe_weak (pe_callB hc hg hm hv ha hn hdb he hpl) (lB o)
theorem pf_ty (hc : CallR X (.type T) r) (o : OpN X.K r g) (hg : Gl X x) (hm : X.mg x = none) (hv : bootBuiltins x = some (.type T)) (ha : PFA X (e :: es) fa) (hn : x ≠ "__name__" := by decide) (hdb : (x == ("__debug__" : Str)) = false := by decide)
    (he : starEach (e :: es) X.env = (false, eval e X.env) :: starEach es X.env := by rfl) (hpl : (backTo pos (starEach es X.env)).any (·.1) = false := by rfl) : PFE X (.Call (.Name x p) (e :: es) [] pos) (fB g fa) := pe_weak (pe_callTy hc hg hm hv ha hn hdb he hpl) (lB o)
theorem pfn_b (hc : CallR X (.builtin id) r) (o : OpNN X.K r gn) (hg : Gl X x) (hm : X.mg x = none) (hv : bootBuiltins x = some (.builtin id)) (ha : PFA X (e :: es) fa) (hn : x ≠ "__name__" := by decide) (hdb : (x == ("__debug__" : Str)) = false := by decide)
    (he : starEach (e :: es) X.env = (false, eval e X.env) :: starEach es X.env := by rfl) (hpl : (backTo pos (starEach es X.env)).any (·.1) = false := by rfl) : PFN X (.Call (.Name x p) (e :: es) [] pos) (fBN gn fa) := pe_weak (pe_callB hc hg hm hv ha hn hdb he hpl) (lBN o)
theorem pfn_ty (hc : CallR X (.type T) r) (o : OpNN X.K r gn) (hg : Gl X x) (hm : X.mg x = none) (hv : bootBuiltins x = some (.type T)) (ha : PFA X (e :: es) fa) (hn : x ≠ "__name__" := by decide) (hdb : (x == ("__debug__" : Str)) = false := by decide)
    (he : starEach (e :: es) X.env = (false, eval e X.env) :: starEach es X.env := by rfl) (hpl : (backTo pos (starEach es X.env)).any (·.1) = false := by rfl) : PFN X (.Call (.Name x p) (e :: es) [] pos) (fBN gn fa) := pe_weak (pe_callTy hc hg hm hv ha hn hdb he hpl) (lBN o)
/-- a built-in function that the module has under a name (math.gcd) -/
theorem pf_bfun (hc : CallR X (.builtin id) r) (o : OpN X.K r g) (hg : Gl X x) (hm : X.mg x = some (.builtin id)) (ha : PFA X (e :: es) fa) (hdb : (x == ("__debug__" : Str)) = false := by decide)
    (he : starEach (e :: es) X.env = (false, eval e X.env) :: starEach es X.env := by rfl) (hpl : (backTo pos (starEach es X.env)).any (·.1) = false := by rfl) : PFE X (.Call (.Name x p) (e :: es) [] pos) (fB g fa) := pe_weak (pe_callBfun hc hg hm ha hdb he hpl) (lB o)
end
section
variable {K : PySem.W.Frag}
theorem rl1 {W : Wo} {d : D} {vs : List V} (h : RpL K W [d] vs) : ∃ v, vs = [v] ∧ Rp K W d v := by
  obtain ⟨v, r, rfl, h1, h2⟩ := h
  cases (show _ = _ from h2)
  exact ⟨v, rfl, h1⟩
theorem rl2 {W : Wo} {d e : D} {vs : List V} (h : RpL K W [d, e] vs) : ∃ v u, vs = [v, u] ∧ Rp K W d v ∧ Rp K W e u := by
  obtain ⟨v, r, rfl, h1, h2⟩ := h
  obtain ⟨u, rfl, h3⟩ := rl1 h2
  exact ⟨v, u, rfl, h1, h3⟩
def gLen : GN := fun ds M => match ds with
  | [.str x] => if x.length ≤ LINE then some (.int x.length) else none
  | [d] => (sqOf d M).map fun xs => .int xs.length
  | _ => none
theorem o_len : OpN K (fun xs H Q => ∃ x n, xs = [x] ∧ LenV K x H n ∧ Q (.int n) H) gLen := by
  intro W M ds d vs Q sr r hg k
  unfold gLen at hg
  split at hg
  · split at hg
    · rename_i h
      cases hg
      obtain ⟨v, rfl, r1⟩ := rl1 r
      cases (show _ = _ from r1)
      exact ⟨_, _, rfl, ⟨by rw [line_eq]; exact h, rfl⟩, k W _ (.refl W) sr rfl⟩
    · cases hg
  · obtain ⟨xs, hx, hg⟩ := Option.map_eq_some_iff.mp hg
    subst hg
    obtain ⟨v, rfl, r1⟩ := rl1 r
    obtain ⟨p, us, rfl, h1, r2⟩ := sq_sq sr r1 hx
    refine ⟨_, us.length, rfl, h1.imp (fun z => ⟨us, z, rfl⟩) fun z => ⟨us, z, rfl⟩, k W _ (.refl W) sr ?_⟩
    rw [r2.len]; exact rfl
  · cases hg
def gInt : GN := fun ds _ => match ds with
  | [.int i] => some (.int i)
  | [.bl b] => some (.int (if b then 1 else 0))
  | _ => none
theorem o_int : OpN K (fun xs H Q => (∃ i, xs = [.int i] ∧ Q (.int i) H) ∨ ∃ k, xs = [.bl k] ∧ Q (.int (if k then 1 else 0)) H) gInt := by
  intro W M ds d vs Q sr r hg k
  unfold gInt at hg
  split at hg
  · cases hg
    obtain ⟨v, rfl, r1⟩ := rl1 r
    cases (show _ = _ from r1)
    exact .inl ⟨_, rfl, k W _ (.refl W) sr rfl⟩
  · cases hg
    obtain ⟨v, rfl, r1⟩ := rl1 r
    cases (show _ = _ from r1)
    exact .inr ⟨_, rfl, k W _ (.refl W) sr rfl⟩
  · cases hg
def gI1 (f : Int → Int) : GN := fun ds _ => match ds with | [.int i] => some (.int (f i)) | _ => none
def gI2 (f : Int → Int → Int) : GN := fun ds _ => match ds with | [.int i, .int j] => some (.int (f i j)) | _ => none
theorem o_i1 {f : Int → Int} : OpN K (fun xs H Q => ∃ i, xs = [.int i] ∧ Q (.int (f i)) H) (gI1 f) := by
  intro W M ds d vs Q sr r hg k
  unfold gI1 at hg
  split at hg
  · cases hg
    obtain ⟨v, rfl, r1⟩ := rl1 r
    cases (show _ = _ from r1)
    exact ⟨_, rfl, k W _ (.refl W) sr rfl⟩
  · cases hg
theorem o_i2 {f : Int → Int → Int} : OpN K (fun xs H Q => ∃ i j, xs = [.int i, .int j] ∧ Q (.int (f i j)) H) (gI2 f) := by
  intro W M ds d vs Q sr r hg k
  unfold gI2 at hg
  split at hg
  · cases hg
    obtain ⟨v, u, rfl, r1, r2⟩ := rl2 r
    cases (show _ = _ from r1); cases (show _ = _ from r2)
    exact ⟨_, _, rfl, k W _ (.refl W) sr rfl⟩
  · cases hg
def gAbs : GN := gI1 fun i => if i < 0 then -i else i
def gMax2 : GN := gI2 fun i j => if j > i then j else i
def gMin2 : GN := gI2 fun i j => if j < i then j else i
def gGcd : GN := gI2 fun a b => ((Nat.gcd a.natAbs b.natAbs : Nat) : Int)
def gTuple : GN := fun ds M => match ds with
  | [d] => (sqOf d M).map .tup
  | _ => none
theorem o_tuple : OpN K (fun xs H Q => ∃ p ys, xs = [.ref p] ∧ ((SqL K H p ys ∧ ∀ l, H l = none → Q (.ref l) (upd H l (.tup ys))) ∨ (SqT K H p ys ∧ Q (.ref p) H))) gTuple := by
  intro W M ds d vs Q sr r hg k
  unfold gTuple at hg
  split at hg
  · rename_i d0
    obtain ⟨xs, hx, hg⟩ := Option.map_eq_some_iff.mp hg
    subst hg
    obtain ⟨v, rfl, r1⟩ := rl1 r
    have hl := sq_len sr r1 hx
    have lists : lsOf d0 M = some xs → ∃ p ys, [v] = [V.ref p] ∧ ((SqL K W.H p ys ∧ ∀ l, W.H l = none → Q (.ref l) (upd W.H l (.tup ys))) ∨ (SqT K W.H p ys ∧ Q (.ref p) W.H)) := fun e => by
      obtain ⟨p, us, rfl, h1, r2⟩ := ls_sq sr r1 e
      exact ⟨p, us, rfl, .inl ⟨h1, fun l nl => k _ _ (Ext.put nl) (sr.put nl) (.newTup sr nl r2 (by rw [← r2.len]; exact hl))⟩⟩
    cases d0 with
    | tup ys =>
      cases hx
      obtain ⟨p, us, rfl, h1, r2⟩ := tp_sq r1
      exact ⟨p, us, rfl, .inr ⟨h1, k W _ (.refl W) sr r1⟩⟩
    | _ => exact lists hx
  · cases hg
def gList : GNN := fun ds M => match ds with
  | [d] => sqOf d M
  | _ => none
theorem o_list : OpNN K (fun xs H Q => ∃ p ys, xs = [.ref p] ∧ (SqL K H p ys ∨ SqT K H p ys) ∧ ∀ l, H l = none → Q (.ref l) (upd H l (.lst ys))) gList := by
  intro W M ds xs vs Q sr r hg k
  unfold gList at hg
  split at hg
  · obtain ⟨v, rfl, r1⟩ := rl1 r
    have hl := sq_len sr r1 hg
    obtain ⟨p, us, rfl, h1, r2⟩ := sq_sq sr r1 hg
    exact ⟨p, us, rfl, h1, fun l nl => k l us nl r2 (by rw [← r2.len]; exact hl)⟩
  · cases hg
end
/-! isinstance of one built-in class -/
inductive Ty where
  | non | bl | int | str | tup | lst
  deriving DecidableEq
def Ty.nm : Ty → String
  | .non => "NoneType" | .bl => "bool" | .int => "int" | .str => "str" | .tup => "tuple" | .lst => "list"
def tyOf : D → Ty
  | .non => .non | .bl _ => .bl | .int _ => .int | .str _ => .str | .tup _ => .tup | .lst _ => .lst | .kst _ => .lst | .ref _ => .lst
def isi (t T : Ty) : Bool := decide (t = T) || (decide (t = .bl) && decide (T = .int))
theorem kit_tab : ∀ t T : Ty, T ≠ .non → kitB t.nm T.nm = some (isi t T) := by
  intro t T h
  cases T with
  | non => exact absurd rfl h
  | _ => cases t <;> decide +kernel
section
variable {K : PySem.W.Frag} {W : Wo} {M : Mem}
theorem tyX_of {d : D} {v : V} (sr : SR K W M) (h : Rp K W d v) : TyX K W.H v (.type (tyOf d).nm) := by
  have kl : ∀ {a : Addr} {vs : List V}, SqL K (fun _ => none) a vs → TyX K W.H (.ref a) (.type "list") := fun h => by
    rcases h with (h | ⟨o, h⟩) | ⟨o, its, n, h1, h2, _⟩
    · cases (show (none : Option HO) = _ from h)
    · cases (show (none : Option HO) = _ from h)
    · exact .kList h1 h2
  cases d with
  | non => cases (show _ = _ from h); exact .base .non
  | bl b => cases (show _ = _ from h); exact .base (.bl b)
  | int i => cases (show _ = _ from h); exact .base (.int i)
  | str x => cases (show _ = _ from h); exact .base (.str x)
  | tup xs =>
    obtain ⟨a, vs, rfl, f, _⟩ := h
    rcases f.1 with f | f
    · exact .base (.tup f.1)
    · rcases f with (f | ⟨o, f⟩) | ⟨o, its, n, h1, h2, _⟩
      · cases (show (none : Option HO) = _ from f)
      · cases (show (none : Option HO) = _ from f)
      · exact .kTuple h1 h2
  | lst xs =>
    obtain ⟨a, vs, rfl, f, _⟩ := h
    exact .base (.lst f.1.1)
  | kst xs =>
    obtain ⟨a, vs, rfl, f, _⟩ := h
    rcases f.1 with ⟨⟨o, f⟩, _⟩ | f
    · exact .base (.frz f)
    · exact kl f
  | ref n =>
    obtain ⟨a, h1, rfl⟩ := h
    obtain ⟨mo, _, m⟩ := sr.at_ h1
    cases mo with
    | lst xs => obtain ⟨vs, q, _⟩ := m; exact .base (.lst q.1)
end
def fIsi (T : Ty) (fa : FE) : FE := fun ρ M => (fa ρ M).bind fun a => some (.bl (isi (tyOf a.1) T), a.2)
theorem pf_isi {X : Cx} {e : Expr} {fa : FE} {y : Str} {p q pos : Pos} (T : Ty) (hT : T ≠ .non) (hg : Gl X "isinstance") (hm : X.mg "isinstance" = none) (ha : PFE X e fa) (hgT : Gl X y) (hmT : X.mg y = none) (hvT : bootBuiltins y = some (.type T.nm)) (hy : y ≠ "__name__" := by decide) (hdy : (y == ("__debug__" : Str)) = false := by decide)
    (he : starEach [e, .Name y q] X.env = (false, eval e X.env) :: starEach [.Name y q] X.env := by rfl) (hpl : (backTo pos (starEach [.Name y q] X.env)).any (·.1) = false := by rfl) (hs1 : starEach [.Name y q] X.env = (false, eval (.Name y q) X.env) :: starEach [] X.env := by rfl) :
    PFE X (.Call (.Name "isinstance" p) [e, .Name y q] [] pos) (fIsi T fa) :=
  pe_weak (pe_callB call_isi hg hm boot_isinstance (pa_cons ha (pa_cons (pe_bltn (v := .ty T.nm) hgT hmT hvT rfl hy hdy) pa_nil hs1) he) (by decide) (by decide) he hpl) fun σ H Q => by
    rintro ⟨W, ρ, M, rfl, sr, sl, d, M', hf, k⟩
    obtain ⟨⟨x, M1⟩, hx, hf⟩ := Option.bind_eq_some_iff.mp hf
    cases hf
    exact ⟨W, ρ, M, rfl, sr, sl, x, _, hx, fun W1 v e1 s1 r1 => ⟨v, .ty T.nm, .type (tyOf x).nm, .type T.nm, _, rfl, .ty _, tyX_of s1 r1, kit_ty (kit_tab _ _ hT), k W1 _ e1 s1 rfl⟩⟩
/-! ### methods -/
abbrev GM := D → List D → Mem → Option (D × Mem)
def tyOk (T : String) (d : D) (M : Mem) : Bool := if T = "list" then (lsOf d M).isSome else if T = "str" then (match d with | .str _ => true | _ => false) else false
def fM (T : String) (g : GM) (fo : FE) (fa : FA) : FE := fun ρ M => (fo ρ M).bind fun o => if tyOk T o.1 o.2 = true then (fa ρ o.2).bind fun a => g o.1 a.1 a.2 else none
def OpM (K : PySem.W.Frag) (r : V → List V → Hp → VK → Prop) (g : GM) : Prop := ∀ (W : Wo) (M M' : Mem) (x d : D) (ds : List D) (v : V) (vs : List V) (Q : VK), SR K W M → Rp K W x v → RpL K W ds vs → g x ds M = some (d, M') →
  (∀ W' v', Ext W W' → SR K W' M' → Rp K W' d v' → Q v' W'.H) → r v vs W.H Q
section
variable {K : PySem.W.Frag} {W : Wo} {M : Mem}
theorem tyV_of {T : String} {d : D} {v : V} (sr : SR K W M) (h : Rp K W d v) (e : tyOk T d M = true) : tyV K T v W.H := by
  unfold tyOk at e
  split at e
  · rename_i hT
    subst hT
    obtain ⟨xs, hx⟩ := Option.isSome_iff_exists.mp e
    obtain ⟨p, vs, rfl, h1, _⟩ := ls_sq sr h hx
    exact .inl ⟨rfl, vs, h1⟩
  · split at e
    · rename_i hT
      subst hT
      split at e
      · cases (show _ = _ from h); exact rfl
      · cases e
    · cases e
end
section
variable {X : Cx} {o e : Expr} {es : List Expr} {fo : FE} {fa : FA} {name : Str} {apos cpos : Pos} {T id : String} {r : V → List V → Hp → VK → Prop} {g : GM}
theorem pf_m0 (pa : PlainAttrs T) (slot : Slot T name id) (hty : typeOf (.builtin id) = pure (.type "method_descriptor")) (hm : MtR X id r) (op : OpM X.K r g) (ho : PFE X o fo)
    (hbase : attributeBase o name X.env (eval o X.env) = eval o X.env := by rfl) (hline : (apos.endLine == cpos.line) = true := by rfl) : PFE X (.Call (.Attribute o name apos) [] [] cpos) (fM T g fo fNil) := pe_weak (pe_bm0 pa slot hty hm ho hbase hline) fun σ H Q => by
  rintro ⟨W, ρ, M, rfl, sr, sl, d, M', hf, k⟩
  obtain ⟨⟨x, M1⟩, hx, hf⟩ := Option.bind_eq_some_iff.mp hf
  split at hf
  · rename_i ht
    exact ⟨W, ρ, M, rfl, sr, sl, x, M1, hx, fun W1 v e1 s1 r1 => ⟨tyV_of s1 r1 ht, op W1 M1 M' x d [] v [] Q s1 r1 rfl hf fun W2 u e2 s2 r2 => k W2 u (e1.trans e2) s2 r2⟩⟩
  · cases hf
theorem pf_m (pa : PlainAttrs T) (slot : Slot T name id) (hty : typeOf (.builtin id) = pure (.type "method_descriptor")) (hm : MtR X id r) (op : OpM X.K r g) (ho : PFE X o fo) (ha : PFA X (e :: es) fa)
    (hbase : attributeBase o name X.env (eval o X.env) = eval o X.env := by rfl)
    (hfew : ((backTo cpos (starEach (e :: es) X.env)).all (fun x => !x.1) && (backToKw cpos (keywordEach [] X.env)).all (fun x => x.1.isSome)
      && decide ((e :: es).length + ([] : List Keyword).length + (if ([] : List Keyword).isEmpty then 0 else 1) < 30)) = true := by rfl)
    (hline : (apos.endLine == cpos.line) = true := by rfl) (hs : starEach (e :: es) X.env = (false, eval e X.env) :: starEach es X.env := by rfl) (hplain : (backTo cpos (starEach es X.env)).any (·.1) = false := by rfl) :
    PFE X (.Call (.Attribute o name apos) (e :: es) [] cpos) (fM T g fo fa) := pe_weak (pe_bm pa slot hty hm ho ha hbase hfew hline hs hplain) fun σ H Q => by
  rintro ⟨W, ρ, M, rfl, sr, sl, d, M', hf, k⟩
  obtain ⟨⟨x, M1⟩, hx, hf⟩ := Option.bind_eq_some_iff.mp hf
  split at hf
  · rename_i ht
    obtain ⟨⟨ds, M2⟩, hd, hf⟩ := Option.bind_eq_some_iff.mp hf
    exact ⟨W, ρ, M, rfl, sr, sl, x, M1, hx, fun W1 v e1 s1 r1 => ⟨tyV_of s1 r1 ht, W1, ρ, M1, rfl, s1, sl.ext e1 sr.sub, ds, M2, hd, fun W2 vs e2 s2 r2 => op W2 M2 M' x d ds v vs Q s2 (r1.ext e2 s1.sub) r2 hf fun W3 u e3 s3 r3 => k W3 u ((e1.trans e2).trans e3) s3 r3⟩⟩
  · cases hf
end
/-- a changeable list, as it stands -/
def mlOf (d : D) (M : Mem) : Option (Nat × List D) := match d with
  | .ref n => match M[n]? with | some (.lst xs) => some (n, xs) | _ => none
  | _ => none
def gAppend : GM := fun x ds M => match ds with
  | [d] => (mlOf x M).bind fun l => if l.2.length < LINE then some (.non, M.set l.1 (.lst (l.2 ++ [d]))) else none
  | _ => none
def gPop : GM := fun x ds M => match ds with
  | [] => (mlOf x M).bind fun l => (l.2[l.2.length - 1]?).bind fun d => some (d, M.set l.1 (.lst l.2.dropLast))
  | _ => none
def gReverse : GM := fun x ds M => match ds with
  | [] => (mlOf x M).bind fun l => some (.non, M.set l.1 (.lst l.2.reverse))
  | _ => none
section
variable {K : PySem.W.Frag} {W : Wo} {M : Mem}
theorem ml_ok {x : D} {v : V} {n : Nat} {xs : List D} (sr : SR K W M) (h : Rp K W x v) (e : mlOf x M = some (n, xs)) : ∃ a vs, v = .ref a ∧ W.as[n]? = some a ∧ W.H a = some (.lst vs) ∧ RpL K W xs vs ∧ vs.length ≤ LINE := by
  cases x with
  | ref m =>
    obtain ⟨a, h1, e1⟩ := h
    obtain ⟨mo, h2, q⟩ := sr.at_ h1
    cases mo with
    | lst ys =>
      have e' : (match M[m]? with | some (.lst xs) => some (m, xs) | _ => none) = some (n, xs) := e
      rw [h2] at e'
      cases e'
      obtain ⟨vs, q1, q2⟩ := q
      exact ⟨a, vs, e1, h1, q1.1, q2, q1.2⟩
  | _ => cases e
theorem o_append : OpM K rAppend gAppend := by
  intro W M M' x d ds v vs Q sr rx r hg k
  unfold gAppend at hg
  split at hg
  · obtain ⟨⟨n, xs⟩, hl, hg⟩ := Option.bind_eq_some_iff.mp hg
    split at hg
    · rename_i hz
      cases hg
      obtain ⟨u, rfl, r1⟩ := rl1 r
      obtain ⟨a, ws, rfl, ha, hH, rw_, hlen⟩ := ml_ok sr rx hl
      refine ⟨a, ws, u, rfl, rfl, hH, by rw [line_eq, ← rw_.len]; exact hz, ?_⟩
      exact k _ _ (Ext.wr (List.mem_of_getElem? ha)) (sr.wr ha (rw_.append (.one r1)) (by
        rw [List.length_append, List.length_singleton, ← rw_.len]; exact hz)) rfl
    · cases hg
  · cases hg
theorem RpL.dropLast {xs : List D} {vs : List V} (h : RpL K W xs vs) : RpL K W xs.dropLast vs.dropLast := by
  rw [List.dropLast_eq_take, List.dropLast_eq_take, h.len]
  exact h.take _
theorem o_pop : OpM K rPop gPop := by
  intro W M M' x d ds v vs Q sr rx r hg k
  unfold gPop at hg
  split at hg
  · obtain ⟨⟨n, xs⟩, hl, hg⟩ := Option.bind_eq_some_iff.mp hg
    obtain ⟨y, hy, hg⟩ := Option.bind_eq_some_iff.mp hg
    cases hg
    cases (show _ = _ from r)
    obtain ⟨a, ws, rfl, ha, hH, rw_, hlen⟩ := ml_ok sr rx hl
    obtain ⟨z, hz, rz⟩ := rw_.get hy
    have e := Ext.wr (W := W) (o := .lst ws.dropLast) (List.mem_of_getElem? ha)
    exact ⟨a, ws, z, rfl, rfl, hH, by rw [← rw_.len]; exact hz, k _ _ e (sr.wr ha rw_.dropLast (by rw [List.length_dropLast]; omega)) (rz.ext e sr.sub)⟩
  · cases hg
theorem o_reverse : OpM K rReverse gReverse := by
  intro W M M' x d ds v vs Q sr rx r hg k
  unfold gReverse at hg
  split at hg
  · obtain ⟨⟨n, xs⟩, hl, hg⟩ := Option.bind_eq_some_iff.mp hg
    cases hg
    cases (show _ = _ from r)
    obtain ⟨a, ws, rfl, ha, hH, rw_, hlen⟩ := ml_ok sr rx hl
    exact ⟨a, ws, rfl, rfl, hH, k _ _ (Ext.wr (List.mem_of_getElem? ha)) (sr.wr ha rw_.reverse (by rw [List.length_reverse]; exact hlen)) rfl⟩
  · cases hg
end
/-- xs[i] = e -/
def sSetIx (fe fo fi : FE) : FS := fun ρ M => (fe ρ M).bind fun v => (fo ρ v.2).bind fun o => (fi ρ o.2).bind fun i => match i.1 with
  | .int k => (mlOf o.1 i.2).bind fun l => (ixN l.2.length k).bind fun j => some (.nx ρ, i.2.set l.1 (.lst (l.2.set j v.1)))
  | _ => none
theorem pfs_setIx {X : Cx} {e o i : Expr} {fe fo fi : FE} {p pos : Pos} (he : PFE X e fe) (ho : PFE X o fo) (hi : PFE X i fi)
    (ha : ∀ v, assign (.Subscript o i p) X.env v = (do
      let ov ← holding [v] (eval o X.env)
      let iv ← holding [v, ov] (eval i X.env)
      standAt p
      holding [v, ov, iv] (setItem ov iv v)
      release [v, ov, iv] []) := by intro _; rfl)
    (hs : swapsWithSole [.Subscript o i p] e pos.line X.env = pure false := by rfl) (hw : swappedStores [.Subscript o i p] e X.env = pure none := by rfl)
    (h1 : (assignEach [.Subscript o i p] X.env).map (·.2) = [assign (.Subscript o i p) X.env] := by rfl) : PFS X (.Assign [.Subscript o i p] e pos) (sSetIx fe fo fi) :=
  ps_weak (ps_asg he (pg_sub ho hi set_list ha) hs hw h1) fun E σ H => by
    rw [liftS_iff]
    rintro ⟨W, ρ, M, rfl, sr, sl, o', M', hf, k⟩
    obtain ⟨⟨v, M1⟩, hv, hf⟩ := Option.bind_eq_some_iff.mp hf
    obtain ⟨⟨x, M2⟩, hx, hf⟩ := Option.bind_eq_some_iff.mp hf
    obtain ⟨⟨y, M3⟩, hy, hf⟩ := Option.bind_eq_some_iff.mp hf
    dsimp only at hf
    split at hf
    · obtain ⟨⟨n, xs⟩, hl, hf⟩ := Option.bind_eq_some_iff.mp hf
      obtain ⟨j, hj, hf⟩ := Option.bind_eq_some_iff.mp hf
      cases hf
      refine ⟨W, ρ, M, rfl, sr, sl, v, M1, hv, fun W1 vv e1 s1 r1 => ⟨W1, ρ, M1, rfl, s1, sl.ext e1 sr.sub, x, M2, hx, fun W2 ov e2 s2 r2 => ⟨W2, ρ, M2, rfl, s2, sl.ext (e1.trans e2) sr.sub, _, M3, hy, fun W3 iv e3 s3 r3 => ?_⟩⟩⟩
      cases (show _ = _ from r3)
      obtain ⟨a, ws, rfl, ha, hH, rw_, hlen⟩ := ml_ok s3 (r2.ext e3 s2.sub) hl
      have e4 := Ext.wr (W := W3) (o := .lst (ws.set j vv)) (List.mem_of_getElem? ha)
      have e14 := ((e1.trans e2).trans e3).trans e4
      exact ⟨a, ws, _, j, rfl, rfl, hH, by rw [← rw_.len]; exact hj, k _ σ e14 (s3.wr ha (rw_.set j (r1.ext (e2.trans e3) s1.sub)) (by rw [List.length_set]; exact hlen)) (sl.ext e14 sr.sub)⟩
    · cases hf
end PF
namespace PF
open PySem PySem.Spec PyProof.Rows L2
/-- a def of the module that keeps what c says -/
structure Cal (P : Program) (w : World) (K : PySem.W.Frag) (mg : Str → Option Value) (base : Heap) (k : Nat) (x : Str) (c : FnC) (n : Nat) : Prop where
  ex : ∃ (f : Addr) (fd : FuncData) (ps : List Str), mg x = some (.ref f) ∧ PySem.W.keepIn K (.ref f) = true ∧ L2.Binds K fd ps [] ∧ FnOk P w K mg base CX0 k f fd ps (spOf K c n)
section
variable {P : Program} {w : World} {K : PySem.W.Frag} {mg : Str → Option Value} {base : Heap} {k n : Nat} {x : Str} {c c' : FnC} {f : Addr} {fd : FuncData} {ps : List Str}
theorem cal_of (g : mg x = some (.ref f)) (hk : PySem.W.keepIn K (.ref f) = true) (b : L2.Binds K fd ps []) (F : FnOk P w K mg base CX0 k f fd ps (spOf K c n)) : Cal P w K mg base k x c n := ⟨f, fd, ps, g, hk, b, F⟩
theorem cal_none {qual : Str} {params : Arguments} {body : List Stmt} {scope : Scope} (g : mg x = some (.ref f)) (hk : PySem.W.keepIn K (.ref f) = true) (b : L2.Binds K fd ps []) (F : FunD K x qual params body scope [] [] f fd) (h : ∀ ds M, c ds M = none) : Cal P w K mg base k x c n :=
  ⟨f, fd, ps, g, hk, b, ⟨fun vs H Q E ⟨_, W, M, ds, _, _, _, d, M', e, _⟩ => (by rw [h] at e; cases e), fun A outer s H args us vs Q E _ _ _ _ ⟨_, W, M, ds, _, _, _, d, M', e, _⟩ => (by rw [h] at e; cases e)⟩⟩
/-- another function that says the same where it says something -/
theorem Cal.as (C : Cal P w K mg base k x c n) (h : ∀ ds M r, c' ds M = some r → c ds M = some r) : Cal P w K mg base k x c' n :=
  let ⟨f, fd, ps, g, hk, b, F⟩ := C.ex
  ⟨f, fd, ps, g, hk, b, fn_as F h⟩
theorem Cal.mono {k' : Nat} (C : Cal P w K mg base k x c n) (h : k ≤ k') : Cal P w K mg base k' x c n :=
  let ⟨f, fd, ps, g, hk, b, F⟩ := C.ex
  ⟨f, fd, ps, g, hk, b, F.mono h⟩
end
section
variable {X : Cx} {k n : Nat} {c : FnC} {x : Str} {p pos : Pos} {e : Expr} {es : List Expr} {fa : FA}
theorem pf_callC (C : Cal X.prog X.w X.K X.mg X.base k x c (es.length + 1)) (hr : Room k X.A) (hg : Gl X x) (ha : PFA X (e :: es) fa)
    (hlen : ∀ ρ M r, fa ρ M = some r → r.1.length = es.length + 1) (hdb : (x == ("__debug__" : Str)) = false := by decide) (he : starEach (e :: es) X.env = (false, eval e X.env) :: starEach es X.env := by rfl) (hpl : (backTo pos (starEach es X.env)).any (·.1) = false := by rfl) :
    PFE X (.Call (.Name x p) (e :: es) [] pos) (fCall c fa) :=
  let ⟨_, _, _, g, hk, b, F⟩ := C.ex
  pf_call F hr hg g hk b ha rfl hlen hdb he hpl
theorem pf_callCS (i : Nat) (C : Cal X.prog X.w X.K X.mg X.base k x c (es.length + 1)) (hr : Room k X.A) (hg : Gl X x) (ha : PFA X (e :: es) fa)
    (hlen : ∀ ρ M r, fa ρ M = some r → r.1.length = es.length + 1) (hdb : (x == ("__debug__" : Str)) = false := by decide) (he : starEach (e :: es) X.env = (false, eval e X.env) :: starEach es X.env := by rfl) (hpl : (backTo pos (starEach es X.env)).any (·.1) = false := by rfl) :
    PFE X (.Call (.Name x p) (e :: es) [] pos) (fCallS i c fa) :=
  let ⟨_, _, _, g, hk, b, F⟩ := C.ex
  pf_callS i F hr hg g hk b ha rfl hlen hdb he hpl
end
/-- the built-ins are the built-ins -/
structure Bn (mg : Str → Option Value) : Prop where
  len : mg "len" = none
  int : mg "int" = none
  abs : mg "abs" = none
  tuple : mg "tuple" = none
  list : mg "list" = none
  range : mg "range" = none
  isinstance : mg "isinstance" = none
  bool : mg "bool" = none
  str : mg "str" = none
  min : mg "min" = none
  max : mg "max" = none
  sum : mg "sum" = none
  sorted : mg "sorted" = none
  any : mg "any" = none
  all : mg "all" = none
  set : mg "set" = none
  dict : mg "dict" = none
  type : mg "type" = none
def bnNames : List Str := ["len", "int", "abs", "tuple", "list", "range", "isinstance", "bool", "str", "min", "max", "sum", "sorted", "any", "all", "set", "dict", "type"]
theorem bn_of {mg : Str → Option Value} (h : ∀ (i : Nat) (x : Str), bnNames[i]? = some x → mg x = none) : Bn mg :=
  ⟨h 0 _ rfl, h 1 _ rfl, h 2 _ rfl, h 3 _ rfl, h 4 _ rfl, h 5 _ rfl, h 6 _ rfl, h 7 _ rfl, h 8 _ rfl, h 9 _ rfl, h 10 _ rfl, h 11 _ rfl, h 12 _ rfl, h 13 _ rfl, h 14 _ rfl, h 15 _ rfl, h 16 _ rfl, h 17 _ rfl⟩
/-- the law's own promise, from what it computes of the script -/
def spLaw (K : PySem.W.Frag) : Sp := fun vs H Q _ => ∃ (a : Addr) (ns : List Int), vs = [.ref a] ∧ SqL K H a (ns.map V.int) ∧ Only H ∧ ns.length ≤ 63 ∧ ∀ H', Q (.bl true) H'
theorem rp_ints {K : PySem.W.Frag} {W : Wo} : ∀ ns : List Int, RpL K W (ns.map D.int) (ns.map V.int)
  | [] => rfl
  | n :: ns => ⟨.int n, _, rfl, rfl, rp_ints ns⟩
theorem law_sp {K : PySem.W.Frag} {c : FnC} (h : ∀ ns : List Int, ns.length ≤ 63 → c [.kst (ns.map .int)] [] = some (.bl true, [])) : ∀ vs H Q E, spLaw K vs H Q E → spOf K c 1 vs H Q E := by
  rintro vs H Q E ⟨a, ns, rfl, hS, hO, hl, q⟩
  refine ⟨rfl, ⟨[], fun _ => False, H⟩, [], [.kst (ns.map .int)], rfl, ⟨rfl, List.nodup_nil, fun _ z => by simp at z, fun _ z => z.elim, fun n a mo z => by simp at z⟩, ⟨_, _, rfl, ⟨a, ns.map V.int, rfl, ⟨?_, by rw [List.length_map]; show ns.length ≤ 16777216; omega⟩, rp_ints ns⟩, rfl⟩, .bl true, [], h ns hl, fun W' v _ _ r => ?_⟩
  · rcases hS with (hS | ⟨o, hS⟩) | hS
    · rcases hO a with z | ⟨o, xs, z⟩
      · rw [hS] at z; cases z
      · rw [hS] at z; cases z
    · exact .inl ⟨⟨o, hS⟩, fun z => z⟩
    · exact .inr (.inr hS)
  · cases (show _ = _ from r)
    exact q W'.H
end PF
namespace PF
open PySem PySem.Spec PyProof.Rows L2
/-- names that stand for built-in functions of modules -/
def impB (im : List (Str × String)) (K : PySem.W.Frag) : Bool := im.all fun q => He.eqO (PySem.W.nsIn K mainGlobals q.1) (some (some (.builtin q.2)))
def seeX (im : List (Str × String)) (fa : List He.Fa) (fn : List He.DefD) (K : PySem.W.Frag) : Bool × He.AlD := (impB im K, He.obsD fa fn K)
def obX (n : Nat) (im : List (Str × String)) (fa : List He.Fa) (fn : List He.DefD) (g : Addr → Option Obj) : Bool × He.AlD := seeX im fa fn (He.frG g (He.asD g n))
def SaysX (im : List (Str × String)) (fa : List He.Fa) (fn : List He.DefD) (K : PySem.W.Frag) : Prop := seeX im fa fn K = (true, He.valD fn)
def hkX (n : Nat) (im : List (Str × String)) (fa : List He.Fa) (fn : List He.DefD) : PySem.W.Hook where
  α := Bool × He.AlD
  obs := fun t => obX n im fa fn t.heap.get?
  val := fun _ => (true, He.valD fn)
  says := fun _ h => ∃ K : PySem.W.Frag, K.In h ∧ SaysX im fa fn K
  of := fun _ _ e => ⟨_, He.frG_in, e⟩
  keeps := fun _ _ _ ⟨K, hK, c⟩ k => ⟨K, PySem.W.Frag.In.keeps hK k, c⟩
theorem obX_eq {n : Nat} {im : List (Str × String)} {fa : List He.Fa} {fn : List He.DefD} {g : Addr → Option Obj} {s : Shared} (h : ∀ a, g a = s.heap.get? a) : obX n im fa fn g = (hkX n im fa fn).obs s := by
  rw [show g = s.heap.get? from funext h]; rfl
section
variable {im : List (Str × String)} {fa : List He.Fa} {fn : List He.DefD} {K : PySem.W.Frag}
theorem SaysX.d (c : SaysX im fa fn K) : He.SaysD fa fn K := congrArg (fun z : Bool × He.AlD => z.2) c
theorem SaysX.imp (c : SaysX im fa fn K) {h : Heap} {mg : Str → Option Value} (X : K.In h) (G : h.Ns mainGlobals mg) (i : Nat) {x : Str} {b : String} (e : im[i]? = some (x, b)) : mg x = some (.builtin b) := by
  have c1 : impB im K = true := congrArg (fun z : Bool × He.AlD => z.1) c
  exact PySem.W.mg_of X G (He.eqO_ok (List.all_eq_true.mp c1 _ (List.mem_of_getElem? e)))
end
/-- the function objects, from names -/
theorem fun_at {h : Heap} {mg : Str → Option Value} {K : PySem.W.Frag} (X : K.In h) (G : h.Ns mainGlobals mg) {im : List (Str × String)} {fa : List He.Fa} {fn : List He.DefD} (c : SaysX im fa fn K) (i : Nat) {x : Str} (e : fa[i]? = some (He.Fa.glo x)) : mg x = some (.ref (He.ga K x)) := He.glo_ok X G (c.d.fact i e)
theorem bn_at {h : Heap} {mg : Str → Option Value} {K : PySem.W.Frag} (X : K.In h) (G : h.Ns mainGlobals mg) {im : List (Str × String)} {fa : List He.Fa} {fn : List He.DefD} (c : SaysX im fa fn K) (e : ∀ (i : Nat) (x : Str), bnNames[i]? = some x → fa[i]? = some (He.Fa.free x)) : Bn mg :=
  bn_of fun i x q => He.free_ok X G (c.d.fact i (e i x q))
end PF
namespace PF
open PySem PySem.Spec PyProof.Rows L2
/-! xs.pop(i) -/
def gPop1 : GM := fun x ds M => match ds with
  | [.int i] => (mlOf x M).bind fun l => (ixN l.2.length i).bind fun k => (l.2[k]?).bind fun d => some (d, M.set l.1 (.lst (l.2.eraseIdx k)))
  | _ => none
section
variable {K : PySem.W.Frag} {W : Wo} {M : Mem}
theorem RpL.eraseIdx {xs : List D} {vs : List V} (h : RpL K W xs vs) (k : Nat) : RpL K W (xs.eraseIdx k) (vs.eraseIdx k) := by
  rw [List.eraseIdx_eq_take_drop_succ, List.eraseIdx_eq_take_drop_succ]
  exact (h.take k).append (h.drop (k + 1))
theorem o_pop1 : OpM K rPopAt gPop1 := by
  intro W M M' x d ds v vs Q sr rx r hg k
  unfold gPop1 at hg
  split at hg
  · rename_i i
    obtain ⟨⟨n, xs⟩, hl, hg⟩ := Option.bind_eq_some_iff.mp hg
    obtain ⟨j, hj, hg⟩ := Option.bind_eq_some_iff.mp hg
    obtain ⟨y, hy, hg⟩ := Option.bind_eq_some_iff.mp hg
    cases hg
    obtain ⟨u, rfl, r1⟩ := rl1 r
    cases (show _ = _ from r1)
    obtain ⟨a, ws, rfl, ha, hH, rw_, hlen⟩ := ml_ok sr rx hl
    obtain ⟨z, hz, rz⟩ := rw_.get hy
    obtain ⟨q1, q2, q3, q4⟩ := ixN_seq hj
    have hL : ws.length ≤ 16777216 := hlen
    have el : xs.length = ws.length := rw_.len
    have q3' : -(ws.length : Int) ≤ i := by rw [← el]; exact q3
    have q4' : i < (ws.length : Int) := by rw [← el]; exact q4
    have e := Ext.wr (W := W) (o := .lst (ws.eraseIdx j)) (List.mem_of_getElem? ha)
    refine ⟨a, ws, _, j, z, rfl, rfl, hH, by omega, by omega, by rw [← el]; exact q1, hz, ?_⟩
    exact k _ _ e (sr.wr ha (rw_.eraseIdx j) (Nat.le_trans (List.length_eraseIdx_le ws j) hlen)) (rz.ext e sr.sub)
  · cases hg
end
/-! a + b of lists, as a new list -/
def gCat : D → D → Mem → Option (List D) := fun x y M => match ltOf x M, ltOf y M with
  | some a, some b => if a.length + b.length ≤ LINE then some (a ++ b) else none
  | _, _ => none
def f2N (g : D → D → Mem → Option (List D)) (fa fb : FE) : FA := fun ρ M => (fa ρ M).bind fun a => (fb ρ a.2).bind fun b => (g a.1 b.1 b.2).bind fun d => some (d, b.2)
theorem pfn_cat {X : Cx} {a b : Expr} {fa fb : FE} {pos : Pos} (ha : PFE X a fa) (hb : PFE X b fb) : PFN X (.BinOp a .Add b pos) (f2N gCat fa fb) := pe_weak (pe_op op_cat ha hb) fun σ H Q => by
  rintro ⟨W, ρ, M, rfl, sr, sl, d, M', hf, k⟩
  obtain ⟨⟨x, M1⟩, hx, hf⟩ := Option.bind_eq_some_iff.mp hf
  obtain ⟨⟨y, M2⟩, hy, hf⟩ := Option.bind_eq_some_iff.mp hf
  obtain ⟨z, hz, hf⟩ := Option.bind_eq_some_iff.mp hf
  cases hf
  refine ⟨W, ρ, M, rfl, sr, sl, x, M1, hx, fun W1 v e1 s1 r1 => ⟨W1, ρ, M1, rfl, s1, sl.ext e1 sr.sub, y, _, hy, fun W2 u e2 s2 r2 => ?_⟩⟩
  unfold gCat at hz
  split at hz
  · rename_i p q hp hq
    split at hz
    · rename_i hl
      cases hz
      obtain ⟨p1, vs, rfl, h1, t1⟩ := lt_sq s2 (r1.ext e2 s1.sub) hp
      obtain ⟨q1, us, rfl, h2, t2⟩ := lt_sq s2 r2 hq
      exact ⟨p1, q1, vs, us, rfl, rfl, h1, h2, by rw [line_eq, ← t1.len, ← t2.len]; exact hl, fun t nt => k W2 t _ (e1.trans e2) s2 nt (t1.append t2) (by rw [List.length_append, ← t1.len, ← t2.len]; exact hl)⟩
    · cases hz
  · cases hz
end PF
namespace PF
open PySem PySem.Spec PyProof.Rows L2
/-! sums -/
def intsOf : List D → Option (List Int)
  | [] => some []
  | .int i :: r => (intsOf r).map (i :: ·)
  | _ => none
theorem intsOf_ok {K : PySem.W.Frag} {W : Wo} : ∀ {xs : List D} {ns : List Int} {vs : List V}, intsOf xs = some ns → RpL K W xs vs → vs = ns.map V.int
  | [], ns, vs, e, r => by
    cases (show some [] = some ns from e)
    cases (show _ = _ from r); rfl
  | .int i :: xs, ns, vs, e, r => by
    obtain ⟨ms, h1, rfl⟩ := Option.map_eq_some_iff.mp (show (intsOf xs).map (i :: ·) = some ns from e)
    obtain ⟨v, us, rfl, r1, r2⟩ := r
    cases (show _ = _ from r1)
    rw [intsOf_ok h1 r2]; rfl
  | .non :: _, _, _, e, _ => nomatch (show (none : Option (List Int)) = some _ from e)
  | .bl _ :: _, _, _, e, _ => nomatch (show (none : Option (List Int)) = some _ from e)
  | .str _ :: _, _, _, e, _ => nomatch (show (none : Option (List Int)) = some _ from e)
  | .tup _ :: _, _, _, e, _ => nomatch (show (none : Option (List Int)) = some _ from e)
  | .lst _ :: _, _, _, e, _ => nomatch (show (none : Option (List Int)) = some _ from e)
  | .kst _ :: _, _, _, e, _ => nomatch (show (none : Option (List Int)) = some _ from e)
  | .ref _ :: _, _, _, e, _ => nomatch (show (none : Option (List Int)) = some _ from e)
def gSum : GN := fun ds M => match ds with
  | [d] => (lsOf d M).bind fun xs => (intsOf xs).map fun ns => .int ns.sum
  | _ => none
theorem o_sum {K : PySem.W.Frag} : OpN K (rSum K) gSum := by
  intro W M ds d vs Q sr r hg k
  unfold gSum at hg
  split at hg
  · obtain ⟨xs, hx, hg⟩ := Option.bind_eq_some_iff.mp hg
    obtain ⟨ns, hn, hg⟩ := Option.map_eq_some_iff.mp hg
    subst hg
    obtain ⟨v, rfl, r1⟩ := rl1 r
    obtain ⟨p, us, rfl, h1, r2⟩ := ls_sq sr r1 hx
    refine ⟨p, ns, rfl, ?_, k W _ (.refl W) sr rfl⟩
    rw [← intsOf_ok hn r2]
    exact h1
  · cases hg
/-! x += y of ints -/
def gIAdd : G2M := fun x y M => match x, y with
  | .int i, .int j => some (.int (i + j), M)
  | _, _ => none
theorem o_iadd {K : PySem.W.Frag} : Op2M K (rI0 fun i j => .int (i + j)) gIAdd := by
  intro W M M' x y d v u Q sr rx ry hg k
  unfold gIAdd at hg
  split at hg
  · cases hg
    cases (show _ = _ from rx); cases (show _ = _ from ry)
    exact ⟨_, _, rfl, rfl, k W _ (.refl W) sr rfl⟩
  · cases hg
/-! the least and the greatest of a list of alike data -/
def rMinDt (K : PySem.W.Frag) : List V → Hp → VK → Prop := fun vs H Q => ∃ (a : Addr) (ys : List V) (d : PyData) (ds : List PyData), vs = [V.ref a] ∧ (SqL K H a ys ∨ SqT K H a ys) ∧ DpAll K H ys (d :: ds) ∧ PyData.canLayAll0 (d :: ds) = true ∧ PySem.W.AlikeAll (d :: ds) ∧ PyData.depthAll (d :: ds) ≤ 60 ∧
  ∀ (i : Nat) (v : V), ys[i]? = some v → (d :: ds)[i]? = some (PySem.W.minD d ds) → Q v H
theorem cr_minDt {X : Cx} (hc : X.calm = true) (hu : X.A.units + 64 < cLine) : CallR X (.builtin "min") (rMinDt X.K) := by
  intro pins s σ H vs us Q I r h
  obtain ⟨a, ys, d, ds, rfl, hs, hd, hl0, hal, hdp, q⟩ := h
  rcases hs with hs | hs
  · obtain ⟨its, rv, hl, _⟩ := I.list hs
    rw [Vals.ref1 r]
    obtain ⟨as, hr⟩ := Dp.readsAll I (d :: ds) ys its hd rv
    refine PySem.W.min_list_data (I.ok.hd hc) hl.isList hr hal (by omega) fun i v h' tk bs hv hrd hk => ?_
    have hv' : its[i]? = some v := by simpa using hv
    have hlen := rv.length
    have hi : i < ys.length := by
      have := (List.getElem?_eq_some_iff.mp hv').1
      omega
    obtain ⟨u, hu1, ry⟩ := rv.get (List.getElem?_eq_getElem hi)
    have euv : u = v := Option.some.inj (hu1.symm.trans hv')
    subst euv
    refine ⟨ys[i], H, I.kept hk, ry, q i _ (List.getElem?_eq_getElem hi) ?_⟩
    obtain ⟨bs2, r2, hlt, hmem, _⟩ := PySem.W.readsAll_at hr i u hv'
    have r3 := PySem.W.reads_keeps hk r2
    have can : ∀ (l : List PyData) (z : PyData), PyData.canLayAll0 l = true → z ∈ l → z.canLay0 = true := by
      intro l
      induction l with
      | nil => intro z _ hz; cases hz
      | cons x l ih =>
        intro z hc hz
        have hc' : (x.canLay0 && PyData.canLayAll0 l) = true := by simpa [PyData.canLayAll0] using hc
        rw [Bool.and_eq_true] at hc'
        rcases List.mem_cons.mp hz with rfl | hz
        · exact hc'.1
        · exact ih z hc'.2 hz
    have c1 := can _ _ hl0 hmem
    have e2 := SeqAt.readOf_eq c1 r3
    have hmm : PySem.W.minD d ds ∈ d :: ds := by
      have : ∀ (l : List PyData) (x : PyData), l.foldl (fun a y => if PySem.W.dataLt y a then y else a) x = x ∨ l.foldl (fun a y => if PySem.W.dataLt y a then y else a) x ∈ l := by
        intro l
        induction l with
        | nil => intro x; exact .inl rfl
        | cons y l ih =>
          intro x
          rw [List.foldl_cons]
          rcases ih (if PySem.W.dataLt y x then y else x) with h | h
          · split at h
            · exact .inr (by rw [if_pos (by assumption), h]; exact List.mem_cons_self)
            · rw [if_neg (by assumption)]; exact .inl h
          · exact .inr (List.mem_cons_of_mem _ h)
      unfold PySem.W.minD
      rcases this ds d with h | h
      · rw [h]; exact List.mem_cons_self
      · exact List.mem_cons_of_mem _ h
    have e3 := SeqAt.readOf_eq (can _ _ hl0 hmm) hrd
    rw [e2] at e3
    rw [← e3, List.getElem?_eq_getElem hlt]
    rw [List.getD_eq_getElem?_getD, List.getElem?_eq_getElem hlt]
    rfl
  · obtain ⟨its, rv, hl, _⟩ := I.tuple hs
    rw [Vals.ref1 r]
    obtain ⟨as, hr⟩ := Dp.readsAll I (d :: ds) ys its hd rv
    refine PySem.W.min_tuple_data (I.ok.hd hc) hl hr hal (by omega) fun i v h' tk bs hv hrd hk => ?_
    have hv' : its[i]? = some v := by simpa using hv
    have hlen := rv.length
    have hi : i < ys.length := by
      have := (List.getElem?_eq_some_iff.mp hv').1
      omega
    obtain ⟨u, hu1, ry⟩ := rv.get (List.getElem?_eq_getElem hi)
    have euv : u = v := Option.some.inj (hu1.symm.trans hv')
    subst euv
    refine ⟨ys[i], H, I.kept hk, ry, q i _ (List.getElem?_eq_getElem hi) ?_⟩
    obtain ⟨bs2, r2, hlt, hmem, _⟩ := PySem.W.readsAll_at hr i u hv'
    have r3 := PySem.W.reads_keeps hk r2
    have can : ∀ (l : List PyData) (z : PyData), PyData.canLayAll0 l = true → z ∈ l → z.canLay0 = true := by
      intro l
      induction l with
      | nil => intro z _ hz; cases hz
      | cons x l ih =>
        intro z hc hz
        have hc' : (x.canLay0 && PyData.canLayAll0 l) = true := by simpa [PyData.canLayAll0] using hc
        rw [Bool.and_eq_true] at hc'
        rcases List.mem_cons.mp hz with rfl | hz
        · exact hc'.1
        · exact ih z hc'.2 hz
    have c1 := can _ _ hl0 hmem
    have e2 := SeqAt.readOf_eq c1 r3
    have hmm : PySem.W.minD d ds ∈ d :: ds := by
      have : ∀ (l : List PyData) (x : PyData), l.foldl (fun a y => if PySem.W.dataLt y a then y else a) x = x ∨ l.foldl (fun a y => if PySem.W.dataLt y a then y else a) x ∈ l := by
        intro l
        induction l with
        | nil => intro x; exact .inl rfl
        | cons y l ih =>
          intro x
          rw [List.foldl_cons]
          rcases ih (if PySem.W.dataLt y x then y else x) with h | h
          · split at h
            · exact .inr (by rw [if_pos (by assumption), h]; exact List.mem_cons_self)
            · rw [if_neg (by assumption)]; exact .inl h
          · exact .inr (List.mem_cons_of_mem _ h)
      unfold PySem.W.minD
      rcases this ds d with h | h
      · rw [h]; exact List.mem_cons_self
      · exact List.mem_cons_of_mem _ h
    have e3 := SeqAt.readOf_eq (can _ _ hl0 hmm) hrd
    rw [e2] at e3
    rw [← e3, List.getElem?_eq_getElem hlt]
    rw [List.getD_eq_getElem?_getD, List.getElem?_eq_getElem hlt]
    rfl
mutual
theorem py_inj : ∀ (a b : D), a.nl = true → b.nl = true → a.py = b.py → a = b
  | .non, b, _, hb, e => by cases b <;> simp [D.py, D.nl] at e hb ⊢
  | .bl x, b, _, hb, e => by cases b <;> simp [D.py, D.nl] at e hb ⊢; exact e
  | .int x, b, _, hb, e => by cases b <;> simp [D.py, D.nl] at e hb ⊢; exact e
  | .str x, b, _, hb, e => by cases b <;> simp [D.py, D.nl] at e hb ⊢; exact e
  | .tup xs, b, ha, hb, e => by
    cases b with
    | tup ys =>
      rw [D.nl] at ha hb
      rw [D.py, D.py] at e
      rw [pys_inj xs ys ha hb (by injection e)]
    | _ => simp [D.py, D.nl] at e hb
  | .lst _, _, ha, _, _ => by simp [D.nl] at ha
  | .kst _, _, ha, _, _ => by simp [D.nl] at ha
  | .ref _, _, ha, _, _ => by simp [D.nl] at ha
theorem pys_inj : ∀ (a b : List D), D.nls a = true → D.nls b = true → D.pys a = D.pys b → a = b
  | [], [], _, _, _ => rfl
  | [], y :: ys, _, _, e => by simp [D.pys] at e
  | x :: xs, [], _, _, e => by simp [D.pys] at e
  | x :: xs, y :: ys, ha, hb, e => by
    rw [D.nls, Bool.and_eq_true] at ha hb
    rw [D.pys, D.pys] at e
    injection e with e1 e2
    rw [py_inj x y ha.1 hb.1 e1, pys_inj xs ys ha.2 hb.2 e2]
end
theorem pys_at : ∀ {xs : List D} {i : Nat} {z : PyData}, (D.pys xs)[i]? = some z → ∃ d, xs[i]? = some d ∧ d.py = z
  | [], i, z, h => by simp [D.pys] at h
  | x :: xs, 0, z, h => by rw [D.pys] at h; simp at h; exact ⟨x, rfl, h⟩
  | x :: xs, i + 1, z, h => by
    rw [D.pys] at h
    obtain ⟨d, h1, h2⟩ := pys_at (xs := xs) (i := i) (by simpa using h)
    exact ⟨d, by simpa using h1, h2⟩
theorem pys_mem : ∀ {xs : List D} {z : PyData}, z ∈ D.pys xs → ∃ d, d ∈ xs ∧ d.py = z
  | [], z, h => by simp [D.pys] at h
  | x :: xs, z, h => by
    rw [D.pys] at h
    rcases List.mem_cons.mp h with rfl | h
    · exact ⟨x, by simp, rfl⟩
    · obtain ⟨d, h1, h2⟩ := pys_mem h
      exact ⟨d, List.mem_cons_of_mem _ h1, h2⟩
theorem nls_at : ∀ {xs : List D} {d : D}, D.nls xs = true → d ∈ xs → d.nl = true
  | x :: xs, d, h, hd => by
    rw [D.nls, Bool.and_eq_true] at h
    rcases List.mem_cons.mp hd with rfl | hd
    · exact h.1
    · exact nls_at h.2 hd
/-- min of x :: xs -/
def minDd (x : D) (xs : List D) : D := xs.foldl (fun a y => if PySem.W.dataLt y.py a.py = true then y else a) x
def okAl (l : List D) : Bool := (D.nls l && D.dps 59 l) && ((l.all fun a => l.all fun b => PySem.W.alike a.py b.py) && l.all fun a => !isNn a)
theorem minDd_py : ∀ (xs : List D) (x : D), (minDd x xs).py = PySem.W.minD x.py (D.pys xs)
  | [], x => by rw [D.pys]; rfl
  | y :: xs, x => by
    rw [D.pys]
    show (minDd (if PySem.W.dataLt y.py x.py = true then y else x) xs).py = PySem.W.minD (if PySem.W.dataLt y.py x.py then y.py else x.py) (D.pys xs)
    rw [minDd_py xs]
    split <;> rfl
theorem minDd_mem : ∀ (xs : List D) (x : D), minDd x xs ∈ x :: xs
  | [], x => by simp [minDd]
  | y :: xs, x => by
    show minDd (if PySem.W.dataLt y.py x.py = true then y else x) xs ∈ _
    have := minDd_mem xs (if PySem.W.dataLt y.py x.py = true then y else x)
    rcases List.mem_cons.mp this with h | h
    · rw [h]; split <;> simp
    · exact List.mem_cons_of_mem _ (List.mem_cons_of_mem _ h)
def gMin1 : GN := fun ds M => match ds with
  | [d] => (sqOf d M).bind fun l => match l with
    | x :: xs => if okAl (x :: xs) = true then some (minDd x xs) else none
    | [] => none
  | _ => none
theorem o_min1 {K : PySem.W.Frag} : OpN K (rMinDt K) gMin1 := by
  intro W M ds d vs Q sr r hg k
  unfold gMin1 at hg
  split at hg
  · obtain ⟨l, hx, hg⟩ := Option.bind_eq_some_iff.mp hg
    split at hg
    · rename_i x xs
      split at hg
      · rename_i ok
        cases hg
        unfold okAl at ok
        rw [Bool.and_eq_true, Bool.and_eq_true, Bool.and_eq_true] at ok
        obtain ⟨⟨o1, o2⟩, o3, o4⟩ := ok
        obtain ⟨v, rfl, r1⟩ := rl1 r
        obtain ⟨p, us, rfl, h1, r2⟩ := sq_sq sr r1 hx
        have hdp := dp_Dps 59 (x :: xs) us o2 r2
        obtain ⟨q1, q2⟩ := dps_can 59 (x :: xs) o2
        rw [D.pys] at hdp q1 q2
        refine ⟨p, us, x.py, D.pys xs, rfl, h1, hdp, q1, ⟨fun a ha b hb => ?_, fun a ha => ?_⟩, by omega, fun i v hv hi => ?_⟩
        · obtain ⟨a0, ha0, rfl⟩ := pys_mem (xs := x :: xs) (by rw [D.pys]; exact ha)
          obtain ⟨b0, hb0, rfl⟩ := pys_mem (xs := x :: xs) (by rw [D.pys]; exact hb)
          exact List.all_eq_true.mp (List.all_eq_true.mp o3 a0 ha0) b0 hb0
        · obtain ⟨a0, ha0, rfl⟩ := pys_mem (xs := x :: xs) (by rw [D.pys]; exact ha)
          have h4 := List.all_eq_true.mp o4 a0 ha0
          have h5 := nls_at o1 ha0
          cases a0 <;> simp [isNn, D.py, D.nl] at h4 h5 ⊢
        · obtain ⟨z, hz, hzp⟩ := pys_at (xs := x :: xs) (i := i) (by rw [D.pys]; exact hi)
          have hm := minDd_mem xs x
          have e : z = minDd x xs := py_inj _ _ (nls_at o1 (List.mem_of_getElem? hz)) (nls_at o1 hm) (by rw [hzp, minDd_py])
          obtain ⟨v', hv', rz⟩ := r2.get hz
          have : v' = v := Option.some.inj (hv'.symm.trans hv)
          subst this
          rw [← e] at k
          exact k W v' (.refl W) sr rz
      · cases hg
    · cases hg
  · cases hg
/-! xs.index(y) -/
def findI {α : Type} (p : α → Bool) : List α → Option Nat
  | [] => none
  | x :: xs => if p x = true then some 0 else (findI p xs).map (· + 1)
def gIndex : GM := fun x ds M => match ds with
  | [.int y] => match x with
    | .lst xs => (intsOf xs).bind fun ns => (findI (fun z => decide (z = y)) ns).map fun (j : Nat) => (.int (j : Int), M)
    | _ => none
  | _ => none
theorem findI_ok {α : Type} {p : α → Bool} : ∀ {xs : List α} {j : Nat}, findI p xs = some j → ∃ z, xs[j]? = some z ∧ p z = true ∧ ∀ m z', m < j → xs[m]? = some z' → p z' = false
  | [], j, h => by cases h
  | x :: xs, j, h => by
    rw [findI] at h
    split at h
    · rename_i hp
      cases h
      exact ⟨x, rfl, hp, fun m z' hm => absurd hm (Nat.not_lt_zero _)⟩
    · rename_i hp
      obtain ⟨i, hi, rfl⟩ := Option.map_eq_some_iff.mp h
      obtain ⟨z, h1, h2, h3⟩ := findI_ok hi
      refine ⟨z, by simpa using h1, h2, fun m z' hm hz => ?_⟩
      cases m with
      | zero => simp at hz; subst hz; simpa using hp
      | succ m => exact h3 m z' (by omega) (by simpa using hz)
theorem pys_get : ∀ {xs : List D} {i : Nat} {d : D}, xs[i]? = some d → (D.pys xs)[i]? = some d.py
  | [], i, d, h => by simp at h
  | x :: xs, 0, d, h => by simp at h; subst h; rw [D.pys]; rfl
  | x :: xs, i + 1, d, h => by rw [D.pys]; simpa using pys_get (xs := xs) (i := i) (by simpa using h)
theorem o_index {K : PySem.W.Frag} : OpM K (rIndex K) gIndex := by
  intro W M M' x d ds v vs Q sr rx r hg k
  unfold gIndex at hg
  split at hg
  · rename_i y
    split at hg
    · rename_i xs
      obtain ⟨ns, hn, hg⟩ := Option.bind_eq_some_iff.mp hg
      obtain ⟨j, hj, hg⟩ := Option.map_eq_some_iff.mp hg
      cases hg
      obtain ⟨u, rfl, r1⟩ := rl1 r
      cases (show _ = _ from r1)
      obtain ⟨z, h1, h2, h3⟩ := findI_ok hj
      obtain ⟨a, us, rfl, h4, r2⟩ := ls_sq sr rx (xs := xs) rfl
      have eus := intsOf_ok hn r2
      subst eus
      refine ⟨a, _, .int y, j, .int z, rfl, rfl, h4, rfl, ?_, ?_, ?_, fun m z' hm hz => ?_, k W _ (.refl W) sr rfl⟩
      · rw [List.all_map]
        exact List.all_eq_true.mpr fun _ _ => rfl
      · rw [List.getElem?_map, h1]; rfl
      · have : z = y := of_decide_eq_true h2
        subst this
        simp [eqV]
      · rw [List.getElem?_map] at hz
        obtain ⟨i, hi, rfl⟩ := Option.map_eq_some_iff.mp hz
        have := h3 m i hm hi
        have hne : i ≠ y := of_decide_eq_false this
        simp [eqV, hne]
    · cases hg
  · cases hg
end PF
namespace PF
open PySem PySem.Spec PyProof.Rows L2 HT
/-! t += u of tuples -/
theorem noI_tup : typeLookup (.type "tuple") (dunderI "add") = pure none := by
  rw [typeLookup_type]
  rw [builtinLookup_eq_fast]
  kernel_rfl
section
variable {prog : Program} {w : World} {A : Around} {E : Value → Shared → Prop} {s : Shared}
theorem icat {t b : Addr} {vs ws : List Value} {Q : Value → Shared → Prop} (ht : IsTup s.heap t vs.toArray) (hb : IsTup s.heap b ws.toArray) (h0 : vs = [] → Q (.ref b) s)
    (h1 : vs ≠ [] → ws = [] → Q (.ref t) s) (h2 : vs ≠ [] → ws ≠ [] → Q (.ref s.heap.objs.size) { s with heap := s.heap.push { cls := .type "tuple", data := .seq (vs ++ ws).toArray } })
    (hz : vs.length + ws.length ≤ sizeLine) : wpAny (model prog w) A (inplaceOp .Add (.ref t) (.ref b)) Q E s := by
  obtain ⟨⟨c1, d1, x1, s1⟩, o1, hc1, n1, hd1⟩ := id ht
  obtain ⟨⟨c2, d2, x2, s2⟩, o2, hc2, n2, hd2⟩ := id hb
  simp only at hc1 hd1 hc2 hd2
  subst hc1 hd1 hc2 hd2
  refine wpAny_inplaceOp_concat ⟨_, o1, rfl⟩ ⟨_, o2, rfl⟩ noI_tup
    noFill_tuple_add seq_tuple_add ?_
  by_cases hv : vs = []
  · subst hv
    exact call_meets PySem.F.slot_tuple_add ⟨_, o1, rfl⟩ PySem.F.entry_tuple_add
      (PySem.F.args_tuple_add_2 _ _) (tuple_addW0 t b _ ws.toArray n1 n2 d1 d2 s1 s2 (by simp)) ⟨o1, o2, h0 rfl⟩
  · by_cases hw : ws = []
    · exact call_meets PySem.F.slot_tuple_add ⟨_, o1, rfl⟩ PySem.F.entry_tuple_add
        (PySem.F.args_tuple_add_2 _ _) (tuple_addW1 t b vs.toArray ws.toArray n1 n2 d1 d2 s1 s2 (by simpa using hv) (by simp [hw])) ⟨o1, o2, h1 hv hw⟩
    · refine call_meets PySem.F.slot_tuple_add ⟨_, o1, rfl⟩ PySem.F.entry_tuple_add
        (PySem.F.args_tuple_add_2 _ _) (tuple_addW2 t b vs.toArray ws.toArray n1 n2 d1 d2 s1 s2 (by simpa using hv) (by simpa using hw) (by simpa using hz)) ⟨o1, o2, ?_⟩
      have e : vs.toArray ++ ws.toArray = (vs ++ ws).toArray := by simp
      rw [e]
      exact h2 hv hw
end
theorem iop_catA {X : Cx} : OpR X (inplaceOp .Add) (rCatA X.K) := by
  intro pins s σ H x y v u Q I rx ry h
  obtain ⟨a, b, xs, ys, rfl, rfl, ha, hb, hz, q0, q1, q2⟩ := h
  cases rx
  cases ry
  obtain ⟨its, r1, p1, _⟩ := I.tuple ha
  obtain ⟨its2, r2, p2, _⟩ := I.tuple hb
  refine icat p1 p2 (fun z => ⟨.ref b, H, I, rfl, q0 (r1.nil_iff.mp z)⟩) (fun z z2 => ⟨.ref a, H, I, rfl, q1 (fun e => z (r1.nil_iff.mpr e)) (r2.nil_iff.mp z2)⟩) (fun z z2 => ?_) (by rw [← r1.length, ← r2.length]; exact hz)
  refine ⟨.ref s.heap.objs.size, _, I.laid (t' := s.toks) (o := .tup (xs ++ ys)) (fun b ob q => Heap.get?_push_of_some _ q) (Nat.le_refl _) ?_, rfl,
    q2 (fun e => z (r1.nil_iff.mpr e)) (fun e => z2 (r2.nil_iff.mpr e)) _ (I.hok.fresh (Nat.le_refl _))⟩
  exact ⟨by rw [List.length_append]; exact hz, _, r1.append r2,
    IsTup.new _ _⟩
end PF
namespace PF
open PySem PySem.Spec PyProof.Rows L2 HT
/-! x += y: ints, tuples -/
def gIAddA : G2M := fun x y M => match x, y with
  | .int i, .int j => some (.int (i + j), M)
  | .tup a, .tup b => if a.length + b.length ≤ LINE then some (.tup (a ++ b), M) else none
  | _, _ => none
def rIAddA (K : PySem.W.Frag) : R2 := fun x y H Q => rI0 (fun i j => .int (i + j)) x y H Q ∨ rCatA K x y H Q
theorem iop_addA {X : Cx} : OpR X (inplaceOp .Add) (rIAddA X.K) := iop_add.or iop_catA
theorem o_iaddA {K : PySem.W.Frag} : Op2M K (rIAddA K) gIAddA := by
  intro W M M' x y d v u Q sr rx ry hg k
  unfold gIAddA at hg
  split at hg
  · cases hg
    cases (show _ = _ from rx); cases (show _ = _ from ry)
    exact .inl ⟨_, _, rfl, rfl, k W _ (.refl W) sr rfl⟩
  · split at hg
    · rename_i a b hl
      cases hg
      obtain ⟨p, vs, rfl, h1, r1⟩ := tp_sq rx
      obtain ⟨q, us, rfl, h2, r2⟩ := tp_sq ry
      refine .inr ⟨p, q, vs, us, rfl, rfl, h1, h2, by rw [line_eq, ← r1.len, ← r2.len]; exact hl, fun e => ?_, fun _ e => ?_, fun _ _ t nt => ?_⟩
      · subst e
        have : a = [] := List.eq_nil_of_length_eq_zero r1.len
        subst this
        exact k W _ (.refl W) sr ry
      · subst e
        have : b = [] := List.eq_nil_of_length_eq_zero r2.len
        subst this
        exact k W _ (.refl W) sr (by rw [List.append_nil]; exact rx)
      · exact k _ _ (Ext.put nt) (sr.put nt) (.newTup sr nt (r1.append r2) (by rw [List.length_append, ← r1.len, ← r2.len]; exact hl))
    · cases hg
  · cases hg
/-! x in a list, a tuple of ints -/
def gIn : G2B := fun x y M => match x with
  | .int i => (sqOf y M).bind fun xs => (intsOf xs).map fun ns => ns.any fun n => decide (n = i)
  | _ => none
def gNotIn : G2B := fun x y M => (gIn x y M).map (! ·)
section
variable {K : PySem.W.Frag} {W : Wo} {M : Mem}
theorem in_ok {x y : D} {v u : V} {t : Bool} (sr : SR K W M) (rx : Rp K W x v) (ry : Rp K W y u) (h : gIn x y M = some t) :
    ∃ p xs, u = .ref p ∧ (SqL K W.H p xs ∨ SqT K W.H p xs) ∧ flatV v = true ∧ xs.all flatV = true ∧ inV v xs = t := by
  unfold gIn at h
  split at h
  · rename_i i
    cases (show _ = _ from rx)
    obtain ⟨xs, hx, h⟩ := Option.bind_eq_some_iff.mp h
    obtain ⟨ns, hn, h⟩ := Option.map_eq_some_iff.mp h
    subst h
    obtain ⟨p, us, rfl, h1, r2⟩ := sq_sq sr ry hx
    have e := intsOf_ok hn r2
    subst e
    refine ⟨p, _, rfl, h1, rfl, ?_, ?_⟩
    · rw [List.all_map]
      exact List.all_eq_true.mpr fun _ _ => rfl
    · unfold inV
      rw [List.any_map]
      congr 1
  · cases h
theorem o_in : Op2 K (rIn K false) (gB gIn) := by
  intro W M x y d v u Q sr rx ry hg k
  obtain ⟨t, ht, rfl⟩ := Option.map_eq_some_iff.mp hg
  obtain ⟨p, xs, rfl, h1, h2, h3, h4⟩ := in_ok sr rx ry ht
  exact ⟨p, xs, rfl, h1, h2, h3, by
    rw [if_neg Bool.false_ne_true, h4]
    exact k W _ (.refl W) sr rfl⟩
theorem o_notIn : Op2 K (rIn K true) (gB gNotIn) := by
  intro W M x y d v u Q sr rx ry hg k
  obtain ⟨t, ht, rfl⟩ := Option.map_eq_some_iff.mp hg
  obtain ⟨t', ht', rfl⟩ := Option.map_eq_some_iff.mp ht
  obtain ⟨p, xs, rfl, h1, h2, h3, h4⟩ := in_ok sr rx ry ht'
  exact ⟨p, xs, rfl, h1, h2, h3, by
    rw [if_pos rfl, h4]
    exact k W _ (.refl W) sr rfl⟩
end
/-! t * 1 of a tuple is the tuple itself -/
theorem mul_one (l : Addr) (items : Array Value) (n : Nat) (dd : Option Addr) (sl : Array (Option Value)) (u : Tok) :
    Meets (Builtin.«tuple.__mul__» ⟨[.ref l, .int 1 u], []⟩) (fun _ R s => s.heap.get? l = some { cls := .type "tuple", dict := dd, data := .seq items n, slots := sl } ∧ R (.ok (.ret (Value.ref l))) s) :=
  .of_wp fun prog w A R s h => by
    obtain ⟨hp, g, d, tk, os⟩ := s
    obtain ⟨hl, h⟩ := h
    have f1 := AutoSeq1.idx_int
    have c1 : (items.isEmpty || (1 : Int) == 1) = true := by simp
    wp_walk using wpAny_loadPart' hl
    repeat (first
      | (refine wpAny_ite_false (decide_eq_false (by decide)) ?_; wp_walk using wpAny_loadPart' hl)
      | (refine wpAny_ite_true (decide_eq_true (by rw [c1])) ?_; wp_walk using wpAny_loadPart' hl))
    exact ⟨_, rfl, h⟩
def rRep1 (K : PySem.W.Frag) : R2 := fun x y H Q => ∃ l xs, x = .ref l ∧ y = .int 1 ∧ SqT K H l xs ∧ Q (.ref l) H
theorem op_rep1 {X : Cx} : OpR X (binaryOp .Mult) (rRep1 X.K) := by
  intro pins s σ H x y v u Q I rx ry h
  obtain ⟨l, xs, rfl, rfl, hT, q⟩ := h
  cases rx
  obtain ⟨t, rfl⟩ := ry
  obtain ⟨its, r, ⟨⟨c1, d1, x1, s1⟩, ho, hc, n, hd⟩, hs⟩ := I.tuple hT
  simp only at hc hd
  subst hc hd
  exact wpAny_binaryOp_repeat_ref (T := "tuple") (U := "int") (by decide) ⟨_, ho, rfl⟩ (fun s' => typeIs_int s' 1 t)
    noFill_tuple_mul F.fills_int_mul F.slot_int_rmul repeat_tuple F.slot_int_index.lookup
    (call_meets F.slot_int_rmul (typeIs_int s 1 t) F.entry_int_rmul
      (F.args_int_rmul_2 _ _) (int_rmul_tuple 1 t l its.toArray n d1 s1)
      ⟨ho, rfl, ⟨_, ho, rfl⟩, call_meets F.slot_tuple_mul ⟨_, ho, rfl⟩
        F.entry_tuple_mul (F.args_tuple_mul_2 _ _) (mul_one l its.toArray n d1 s1 t) ⟨ho, ⟨.ref l, H, I, rfl, q⟩⟩⟩)
def rRepA (K : PySem.W.Frag) : R2 := fun x y H Q => rRep1 K x y H Q ∨ rRepT K x y H Q
theorem op_repTA {X : Cx} : OpR X (binaryOp .Mult) (rRepA X.K) := op_rep1.or op_repT
def gRepT : G2 := fun x y M => match x, y with
  | .tup xs, .int j => if j = 1 then some (.tup xs) else if (!xs.isEmpty && decide (2 ≤ j)) && (decide (j ≤ 1000) && decide (xs.length ≤ 1000)) then some (.tup (List.replicate j.toNat xs).flatten) else none
  | _, _ => none
theorem o_repT {K : PySem.W.Frag} : Op2 K (rRepA K) gRepT := by
  intro W M x y d v u Q sr rx ry hg k
  unfold gRepT at hg
  split at hg
  · rename_i xs j
    cases (show _ = _ from ry)
    obtain ⟨p, vs, rfl, h1, r1⟩ := tp_sq rx
    split at hg
    · rename_i hj
      cases hg
      subst hj
      exact .inl ⟨p, vs, rfl, rfl, h1, k W _ (.refl W) sr rx⟩
    · split at hg
      · rename_i h
        cases hg
        simp only [Bool.and_eq_true, decide_eq_true_eq] at h
        obtain ⟨⟨h2, h3⟩, h4, h5⟩ := h
        have hl := r1.len
        have hne : vs ≠ [] := by
          rintro rfl
          have : xs = [] := List.eq_nil_of_length_eq_zero hl
          subst this
          cases h2
        refine .inr ⟨p, j, vs, rfl, rfl, h1, hne, h3, h4, by omega, fun t nt => ?_⟩
        refine k _ _ (Ext.put nt) (sr.put nt) (.newTup sr nt (r1.rep _) ?_)
        rw [PyProof.Rows.lm_len_rep_flat]
        have a1 : j.toNat * vs.length ≤ 1000 * 1000 := Nat.mul_le_mul (by omega) (by omega)
        show _ ≤ 16777216
        omega
      · cases hg
  · cases hg
end PF
namespace PF
open PySem PySem.Spec PyProof.Rows L2
/-! the greatest of a list of alike data -/
def rMaxDt (K : PySem.W.Frag) : List V → Hp → VK → Prop := fun vs H Q => ∃ (a : Addr) (ys : List V) (d : PyData) (ds : List PyData), vs = [V.ref a] ∧ (SqL K H a ys ∨ SqT K H a ys) ∧ DpAll K H ys (d :: ds) ∧ PyData.canLayAll0 (d :: ds) = true ∧ PySem.W.AlikeAll (d :: ds) ∧ PyData.depthAll (d :: ds) ≤ 60 ∧
  ∀ (i : Nat) (v : V), ys[i]? = some v → (d :: ds)[i]? = some (PySem.W.maxD d ds) → Q v H
theorem cr_maxDt {X : Cx} (hc : X.calm = true) (hu : X.A.units + 64 < cLine) : CallR X (.builtin "max") (rMaxDt X.K) := by
  intro pins s σ H vs us Q I r h
  obtain ⟨a, ys, d, ds, rfl, hs, hd, hl0, hal, hdp, q⟩ := h
  rcases hs with hs | hs
  · obtain ⟨its, rv, hl, _⟩ := I.list hs
    rw [Vals.ref1 r]
    obtain ⟨as, hr⟩ := Dp.readsAll I (d :: ds) ys its hd rv
    refine PySem.W.max_list_data (I.ok.hd hc) hl.isList hr hal (by omega) fun i v h' tk bs hv hrd hk => ?_
    have hv' : its[i]? = some v := by simpa using hv
    have hlen := rv.length
    have hi : i < ys.length := by
      have := (List.getElem?_eq_some_iff.mp hv').1
      omega
    obtain ⟨u, hu1, ry⟩ := rv.get (List.getElem?_eq_getElem hi)
    have euv : u = v := Option.some.inj (hu1.symm.trans hv')
    subst euv
    refine ⟨ys[i], H, I.kept hk, ry, q i _ (List.getElem?_eq_getElem hi) ?_⟩
    obtain ⟨bs2, r2, hlt, hmem, _⟩ := PySem.W.readsAll_at hr i u hv'
    have r3 := PySem.W.reads_keeps hk r2
    have can : ∀ (l : List PyData) (z : PyData), PyData.canLayAll0 l = true → z ∈ l → z.canLay0 = true := by
      intro l
      induction l with
      | nil => intro z _ hz; cases hz
      | cons x l ih =>
        intro z hc hz
        have hc' : (x.canLay0 && PyData.canLayAll0 l) = true := by simpa [PyData.canLayAll0] using hc
        rw [Bool.and_eq_true] at hc'
        rcases List.mem_cons.mp hz with rfl | hz
        · exact hc'.1
        · exact ih z hc'.2 hz
    have c1 := can _ _ hl0 hmem
    have e2 := SeqAt.readOf_eq c1 r3
    have hmm : PySem.W.maxD d ds ∈ d :: ds := by
      have : ∀ (l : List PyData) (x : PyData), l.foldl (fun a y => if PySem.W.dataLt a y then y else a) x = x ∨ l.foldl (fun a y => if PySem.W.dataLt a y then y else a) x ∈ l := by
        intro l
        induction l with
        | nil => intro x; exact .inl rfl
        | cons y l ih =>
          intro x
          rw [List.foldl_cons]
          rcases ih (if PySem.W.dataLt x y then y else x) with h | h
          · split at h
            · exact .inr (by rw [if_pos (by assumption), h]; exact List.mem_cons_self)
            · rw [if_neg (by assumption)]; exact .inl h
          · exact .inr (List.mem_cons_of_mem _ h)
      unfold PySem.W.maxD
      rcases this ds d with h | h
      · rw [h]; exact List.mem_cons_self
      · exact List.mem_cons_of_mem _ h
    have e3 := SeqAt.readOf_eq (can _ _ hl0 hmm) hrd
    rw [e2] at e3
    rw [← e3, List.getElem?_eq_getElem hlt]
    rw [List.getD_eq_getElem?_getD, List.getElem?_eq_getElem hlt]
    rfl
  · obtain ⟨its, rv, hl, _⟩ := I.tuple hs
    rw [Vals.ref1 r]
    obtain ⟨as, hr⟩ := Dp.readsAll I (d :: ds) ys its hd rv
    refine PySem.W.max_tuple_data (I.ok.hd hc) hl hr hal (by omega) fun i v h' tk bs hv hrd hk => ?_
    have hv' : its[i]? = some v := by simpa using hv
    have hlen := rv.length
    have hi : i < ys.length := by
      have := (List.getElem?_eq_some_iff.mp hv').1
      omega
    obtain ⟨u, hu1, ry⟩ := rv.get (List.getElem?_eq_getElem hi)
    have euv : u = v := Option.some.inj (hu1.symm.trans hv')
    subst euv
    refine ⟨ys[i], H, I.kept hk, ry, q i _ (List.getElem?_eq_getElem hi) ?_⟩
    obtain ⟨bs2, r2, hlt, hmem, _⟩ := PySem.W.readsAll_at hr i u hv'
    have r3 := PySem.W.reads_keeps hk r2
    have can : ∀ (l : List PyData) (z : PyData), PyData.canLayAll0 l = true → z ∈ l → z.canLay0 = true := by
      intro l
      induction l with
      | nil => intro z _ hz; cases hz
      | cons x l ih =>
        intro z hc hz
        have hc' : (x.canLay0 && PyData.canLayAll0 l) = true := by simpa [PyData.canLayAll0] using hc
        rw [Bool.and_eq_true] at hc'
        rcases List.mem_cons.mp hz with rfl | hz
        · exact hc'.1
        · exact ih z hc'.2 hz
    have c1 := can _ _ hl0 hmem
    have e2 := SeqAt.readOf_eq c1 r3
    have hmm : PySem.W.maxD d ds ∈ d :: ds := by
      have : ∀ (l : List PyData) (x : PyData), l.foldl (fun a y => if PySem.W.dataLt a y then y else a) x = x ∨ l.foldl (fun a y => if PySem.W.dataLt a y then y else a) x ∈ l := by
        intro l
        induction l with
        | nil => intro x; exact .inl rfl
        | cons y l ih =>
          intro x
          rw [List.foldl_cons]
          rcases ih (if PySem.W.dataLt x y then y else x) with h | h
          · split at h
            · exact .inr (by rw [if_pos (by assumption), h]; exact List.mem_cons_self)
            · rw [if_neg (by assumption)]; exact .inl h
          · exact .inr (List.mem_cons_of_mem _ h)
      unfold PySem.W.maxD
      rcases this ds d with h | h
      · rw [h]; exact List.mem_cons_self
      · exact List.mem_cons_of_mem _ h
    have e3 := SeqAt.readOf_eq (can _ _ hl0 hmm) hrd
    rw [e2] at e3
    rw [← e3, List.getElem?_eq_getElem hlt]
    rw [List.getD_eq_getElem?_getD, List.getElem?_eq_getElem hlt]
    rfl
/-- max of x :: xs -/
def maxDd (x : D) (xs : List D) : D := xs.foldl (fun a y => if PySem.W.dataLt a.py y.py = true then y else a) x
theorem maxDd_py : ∀ (xs : List D) (x : D), (maxDd x xs).py = PySem.W.maxD x.py (D.pys xs)
  | [], x => by rw [D.pys]; rfl
  | y :: xs, x => by
    rw [D.pys]
    show (maxDd (if PySem.W.dataLt x.py y.py = true then y else x) xs).py = PySem.W.maxD (if PySem.W.dataLt x.py y.py then y.py else x.py) (D.pys xs)
    rw [maxDd_py xs]
    split <;> rfl
theorem maxDd_mem : ∀ (xs : List D) (x : D), maxDd x xs ∈ x :: xs
  | [], x => by simp [maxDd]
  | y :: xs, x => by
    show maxDd (if PySem.W.dataLt x.py y.py = true then y else x) xs ∈ _
    have := maxDd_mem xs (if PySem.W.dataLt x.py y.py = true then y else x)
    rcases List.mem_cons.mp this with h | h
    · rw [h]; split <;> simp
    · exact List.mem_cons_of_mem _ (List.mem_cons_of_mem _ h)
def gMax1 : GN := fun ds M => match ds with
  | [d] => (sqOf d M).bind fun l => match l with
    | x :: xs => if okAl (x :: xs) = true then some (maxDd x xs) else none
    | [] => none
  | _ => none
theorem o_max1 {K : PySem.W.Frag} : OpN K (rMaxDt K) gMax1 := by
  intro W M ds d vs Q sr r hg k
  unfold gMax1 at hg
  split at hg
  · obtain ⟨l, hx, hg⟩ := Option.bind_eq_some_iff.mp hg
    split at hg
    · rename_i x xs
      split at hg
      · rename_i ok
        cases hg
        unfold okAl at ok
        rw [Bool.and_eq_true, Bool.and_eq_true, Bool.and_eq_true] at ok
        obtain ⟨⟨o1, o2⟩, o3, o4⟩ := ok
        obtain ⟨v, rfl, r1⟩ := rl1 r
        obtain ⟨p, us, rfl, h1, r2⟩ := sq_sq sr r1 hx
        have hdp := dp_Dps 59 (x :: xs) us o2 r2
        obtain ⟨q1, q2⟩ := dps_can 59 (x :: xs) o2
        rw [D.pys] at hdp q1 q2
        refine ⟨p, us, x.py, D.pys xs, rfl, h1, hdp, q1, ⟨fun a ha b hb => ?_, fun a ha => ?_⟩, by omega, fun i v hv hi => ?_⟩
        · obtain ⟨a0, ha0, rfl⟩ := pys_mem (xs := x :: xs) (by rw [D.pys]; exact ha)
          obtain ⟨b0, hb0, rfl⟩ := pys_mem (xs := x :: xs) (by rw [D.pys]; exact hb)
          exact List.all_eq_true.mp (List.all_eq_true.mp o3 a0 ha0) b0 hb0
        · obtain ⟨a0, ha0, rfl⟩ := pys_mem (xs := x :: xs) (by rw [D.pys]; exact ha)
          have h4 := List.all_eq_true.mp o4 a0 ha0
          have h5 := nls_at o1 ha0
          cases a0 <;> simp [isNn, D.py, D.nl] at h4 h5 ⊢
        · obtain ⟨z, hz, hzp⟩ := pys_at (xs := x :: xs) (i := i) (by rw [D.pys]; exact hi)
          have hm := maxDd_mem xs x
          have e : z = maxDd x xs := py_inj _ _ (nls_at o1 (List.mem_of_getElem? hz)) (nls_at o1 hm) (by rw [hzp, maxDd_py])
          obtain ⟨v', hv', rz⟩ := r2.get hz
          have : v' = v := Option.some.inj (hv'.symm.trans hv)
          subst this
          rw [← e] at k
          exact k W v' (.refl W) sr rz
      · cases hg
    · cases hg
  · cases hg
/-! any, all of bools -/
def blsOf : List D → Option (List Bool)
  | [] => some []
  | .bl b :: r => (blsOf r).map (b :: ·)
  | _ => none
theorem blsOf_ok {K : PySem.W.Frag} {W : Wo} : ∀ {xs : List D} {bs : List Bool} {vs : List V}, blsOf xs = some bs → RpL K W xs vs → vs = bs.map V.bl
  | [], bs, vs, e, r => by
    cases (show some [] = some bs from e)
    cases (show _ = _ from r); rfl
  | .bl b :: xs, bs, vs, e, r => by
    obtain ⟨ms, h1, rfl⟩ := Option.map_eq_some_iff.mp (show (blsOf xs).map (b :: ·) = some bs from e)
    obtain ⟨v, us, rfl, r1, r2⟩ := r
    cases (show _ = _ from r1)
    rw [blsOf_ok h1 r2]; rfl
  | .non :: _, _, _, e, _ => nomatch (show (none : Option (List Bool)) = some _ from e)
  | .int _ :: _, _, _, e, _ => nomatch (show (none : Option (List Bool)) = some _ from e)
  | .str _ :: _, _, _, e, _ => nomatch (show (none : Option (List Bool)) = some _ from e)
  | .tup _ :: _, _, _, e, _ => nomatch (show (none : Option (List Bool)) = some _ from e)
  | .lst _ :: _, _, _, e, _ => nomatch (show (none : Option (List Bool)) = some _ from e)
  | .kst _ :: _, _, _, e, _ => nomatch (show (none : Option (List Bool)) = some _ from e)
  | .ref _ :: _, _, _, e, _ => nomatch (show (none : Option (List Bool)) = some _ from e)
def gBls (f : List Bool → Bool) : GN := fun ds M => match ds with
  | [d] => (lsOf d M).bind fun xs => (blsOf xs).map fun bs => .bl (f bs)
  | _ => none
theorem o_bls {K : PySem.W.Frag} {f : List Bool → Bool} : OpN K (fun vs H Q => ∃ (a : Addr) (bs : List Bool), vs = [V.ref a] ∧ SqL K H a (bs.map V.bl) ∧ Q (.bl (f bs)) H) (gBls f) := by
  intro W M ds d vs Q sr r hg k
  unfold gBls at hg
  split at hg
  · obtain ⟨xs, hx, hg⟩ := Option.bind_eq_some_iff.mp hg
    obtain ⟨ns, hn, hg⟩ := Option.map_eq_some_iff.mp hg
    subst hg
    obtain ⟨v, rfl, r1⟩ := rl1 r
    obtain ⟨p, us, rfl, h1, r2⟩ := ls_sq sr r1 hx
    refine ⟨p, ns, rfl, ?_, k W _ (.refl W) sr rfl⟩
    rw [← blsOf_ok hn r2]
    exact h1
  · cases hg
def gAny : GN := gBls fun bs => bs.any id
def gAll : GN := gBls fun bs => bs.all id
theorem o_any {K : PySem.W.Frag} : OpN K (rAny K) gAny := o_bls
theorem o_all {K : PySem.W.Frag} : OpN K (rAll K) gAll := o_bls
end PF
namespace PF
open PySem PySem.Spec PyProof.Rows L2
/-! x in a list, a tuple of data (at most 60 deep) -/
def rInX (K : PySem.W.Frag) (neg : Bool) : R2 := fun x y H Q => ∃ (d e : PyData) (ds : List PyData), Dp K H x d ∧ Dp K H y e ∧ (e = .list ds ∨ e = .tuple ds) ∧ d.canLay0 = true ∧ PyData.canLayAll0 ds = true ∧ d.depth ≤ 60 ∧
  Q (.bl (if neg = true then !(ds.any fun z => PyData.eqv z d) else ds.any fun z => PyData.eqv z d)) H
theorem op_inX {X : Cx} (hu : X.A.units + 64 < cLine) : OpR X (compareOp .In) (rInX X.K false) := by
  intro pins s σ H x y v u Q I rx ry h
  obtain ⟨d, e, ds, hd, he, hk, c1, c2, c3, q⟩ := h
  obtain ⟨as, r1⟩ := Dp.reads I d x v hd rx
  obtain ⟨bs, r2⟩ := Dp.reads I e y u he ry
  have room : X.A.units + 1 + min (PyData.depthAll ds) d.depth < cLine := by
    have := Nat.min_le_right (PyData.depthAll ds) d.depth
    omega
  rcases hk with rfl | rfl
  · exact SeqAt.in_list_reads r2 r1 c2 c1 room ⟨.bl _, H, I, rfl, q⟩
  · exact SeqAt.in_tuple_reads r2 r1 c2 c1 room ⟨.bl _, H, I, rfl, q⟩
theorem op_notInX {X : Cx} (hu : X.A.units + 64 < cLine) : OpR X (compareOp .NotIn) (rInX X.K true) := by
  intro pins s σ H x y v u Q I rx ry h
  obtain ⟨d, e, ds, hd, he, hk, c1, c2, c3, q⟩ := h
  obtain ⟨as, r1⟩ := Dp.reads I d x v hd rx
  obtain ⟨bs, r2⟩ := Dp.reads I e y u he ry
  have room : X.A.units + 1 + min (PyData.depthAll ds) d.depth < cLine := by
    have := Nat.min_le_right (PyData.depthAll ds) d.depth
    omega
  rcases hk with rfl | rfl
  · exact SeqAt.notIn_list_reads r2 r1 c2 c1 room ⟨.bl _, H, I, rfl, q⟩
  · exact SeqAt.notIn_tuple_reads r2 r1 c2 c1 room ⟨.bl _, H, I, rfl, q⟩
def seqItems : D → Option (List D)
  | .lst xs => some xs
  | .kst xs => some xs
  | .tup xs => some xs
  | _ => none
def gInX : G2B := fun x y M => (x.val M).bind fun a => (y.val M).bind fun b => if (a.dp 60 && b.dp 60) = true then (seqItems b).map fun ys => ys.any fun z => PyData.eqv z.py a.py else none
def gNotInX : G2B := fun x y M => (gInX x y M).map (! ·)
theorem pys_any (p : PyData → Bool) : ∀ ys : List D, (D.pys ys).any p = ys.any fun z => p z.py
  | [] => by rw [D.pys]; rfl
  | y :: ys => by rw [D.pys, List.any_cons, List.any_cons, pys_any p ys]
section
variable {K : PySem.W.Frag} {W : Wo} {M : Mem}
theorem inX_ok {x y : D} {v u : V} {t : Bool} (sr : SR K W M) (rx : Rp K W x v) (ry : Rp K W y u) (h : gInX x y M = some t) :
    ∃ (d e : PyData) (ds : List PyData), Dp K W.H v d ∧ Dp K W.H u e ∧ (e = .list ds ∨ e = .tuple ds) ∧ d.canLay0 = true ∧ PyData.canLayAll0 ds = true ∧ d.depth ≤ 60 ∧ (ds.any fun z => PyData.eqv z d) = t := by
  obtain ⟨a, ha, h⟩ := Option.bind_eq_some_iff.mp h
  obtain ⟨b, hb, h⟩ := Option.bind_eq_some_iff.mp h
  split at h
  · rename_i ok
    rw [Bool.and_eq_true] at ok
    obtain ⟨ys, hy, h⟩ := Option.map_eq_some_iff.mp h
    obtain ⟨l1, l2⟩ := dp_can 60 a ok.1
    have d2 := val_Rp sr ry hb ok.2
    have shape : ∀ zs : List D, D.dps 59 zs = true → PyData.canLayAll0 (D.pys zs) = true := fun zs hz => (dps_can 59 zs hz).1
    have ok2 := ok.2
    refine ⟨a.py, b.py, D.pys ys, val_Rp sr rx ha ok.1, d2, ?_, l1, ?_, l2, by rw [pys_any]; exact h⟩
    · cases b <;> cases hy
      · exact .inr (by rw [D.py])
      · exact .inl (by rw [D.py])
      · exact .inl (by rw [D.py])
    · cases b <;> cases hy <;> (rw [D.dp, Bool.and_eq_true] at ok2; exact shape _ ok2.2)
  · cases h
theorem o_inX : Op2 K (rInX K false) (gB gInX) := by
  intro W M x y d v u Q sr rx ry hg k
  obtain ⟨t, ht, rfl⟩ := Option.map_eq_some_iff.mp hg
  obtain ⟨a, e, ds, h1, h2, h3, h4, h5, h6, h7⟩ := inX_ok sr rx ry ht
  exact ⟨a, e, ds, h1, h2, h3, h4, h5, h6, by
    rw [if_neg Bool.false_ne_true, h7]
    exact k W _ (.refl W) sr rfl⟩
theorem o_notInX : Op2 K (rInX K true) (gB gNotInX) := by
  intro W M x y d v u Q sr rx ry hg k
  obtain ⟨t, ht, rfl⟩ := Option.map_eq_some_iff.mp hg
  obtain ⟨t', ht', rfl⟩ := Option.map_eq_some_iff.mp ht
  obtain ⟨a, e, ds, h1, h2, h3, h4, h5, h6, h7⟩ := inX_ok sr rx ry ht'
  exact ⟨a, e, ds, h1, h2, h3, h4, h5, h6, by
    rw [if_pos rfl, h7]
    exact k W _ (.refl W) sr rfl⟩
end
end PF
namespace PF
open PySem PySem.Spec PyProof.Rows L2
/-! sorted, of ints fewer than 64 -/
def sortI (ns : List Int) : List Int := ns.mergeSort fun a b => decide (a ≤ b)
theorem sort_uniq : ∀ {a b : List Int}, a.Perm b → a.Pairwise (· ≤ ·) → b.Pairwise (· ≤ ·) → a = b
  | [], b, h, _, _ => (List.Perm.nil_eq h)
  | x :: a, [], h, _, _ => by have := h.length_eq; simp at this
  | x :: a, y :: b, h, ha, hb => by
    have hx : x ∈ y :: b := h.subset (by simp)
    have hy : y ∈ x :: a := h.symm.subset (by simp)
    have e : x = y := by
      rcases List.mem_cons.mp hx with e | hx
      · exact e
      · rcases List.mem_cons.mp hy with e | hy
        · exact e.symm
        · have h1 := List.rel_of_pairwise_cons ha hy
          have h2 := List.rel_of_pairwise_cons hb hx
          omega
    subst e
    rw [sort_uniq (List.Perm.cons_inv h) ha.of_cons hb.of_cons]
theorem sortI_perm (ns : List Int) : (sortI ns).Perm ns := List.mergeSort_perm _ _
theorem sortI_le (ns : List Int) : (sortI ns).Pairwise (· ≤ ·) := by
  have := List.pairwise_mergeSort (le := fun a b : Int => decide (a ≤ b)) (fun a b c h1 h2 => by simp at *; omega) (fun a b => by simp; omega) ns
  exact this.imp fun h => of_decide_eq_true h
def gSorted : GNN := fun ds M => match ds with
  | [d] => (lsOf d M).bind fun xs => (intsOf xs).bind fun ns => if ns.length < 64 then some ((sortI ns).map D.int) else none
  | _ => none
theorem rpl_ints {K : PySem.W.Frag} {W : Wo} : ∀ ns : List Int, RpL K W (ns.map D.int) (ns.map V.int)
  | [] => rfl
  | n :: ns => ⟨.int n, _, rfl, rfl, rpl_ints ns⟩
theorem o_sorted {K : PySem.W.Frag} : OpNN K (rSorted K) gSorted := by
  intro W M ds xs vs Q sr r hg k
  unfold gSorted at hg
  split at hg
  · obtain ⟨l, hl, hg⟩ := Option.bind_eq_some_iff.mp hg
    obtain ⟨ns, hn, hg⟩ := Option.bind_eq_some_iff.mp hg
    split at hg
    · rename_i h64
      cases hg
      obtain ⟨v, rfl, r1⟩ := rl1 r
      obtain ⟨p, us, rfl, h1, r2⟩ := ls_sq sr r1 hl
      have e := intsOf_ok hn r2
      subst e
      refine ⟨p, ns, rfl, h1, h64, fun ns' q hp hs hq => ?_⟩
      have e := sort_uniq (hp.trans (sortI_perm ns).symm) hs (sortI_le ns)
      subst e
      exact k q _ hq (rpl_ints _) (by rw [List.length_map, (sortI_perm ns).length_eq]; show _ ≤ 16777216; omega)
    · cases hg
  · cases hg
end PF
namespace PF
open PySem PySem.Spec PyProof.Rows L2
/-! sum of a list or a tuple of whole numbers -/
theorem sumT_raw {prog : Program} {w : World} {A : Around} {E : Value → Shared → Prop} {s : Shared} {t : Addr} {vs : List Value} {ns : List Int} {Q : Value → Shared → Prop} (hh : A.handled = none) (ht : s.heap.IsTuple t vs.toArray) (hi : IntsAre vs ns)
    (h : ∀ h' tk t', (∀ b o, s.heap.get? b = some o → h'.get? b = some o) → Q (.int ns.sum t') { s with heap := h', toks := tk }) : wpAny (model prog w) A (call (.builtin "sum") [.ref t]) Q E s := by
  obtain ⟨xs, hx⟩ := hi.allInts.items
  have hn : numsOf (intItems xs).toList = ns := by rw [← hx]; exact hi.numsOf
  rw [nums_intItems] at hn
  rw [hx] at ht
  refine PySem.W.ktm_sumG hh ht fun h' tk t' hk => ?_
  have := h h' tk t' hk
  rw [preSum_eq, List.take_of_length_le (by simp), hn]
  exact this
def rSumA (K : PySem.W.Frag) : List V → Hp → VK → Prop := fun vs H Q => ∃ (a : Addr) (ns : List Int), vs = [V.ref a] ∧ (SqL K H a (ns.map V.int) ∨ SqT K H a (ns.map V.int)) ∧ Q (.int ns.sum) H
theorem cr_sumA {X : Cx} (hc : X.calm = true) : CallR X (.builtin "sum") (rSumA X.K) := by
  intro pins s σ H vs us Q I r h
  obtain ⟨a, ns, rfl, hs, q⟩ := h
  rcases hs with hs | hs
  · obtain ⟨its, rv, hl, _⟩ := I.list hs
    rw [Vals.ref1 r]
    exact sum_raw (I.ok.hd hc) hl.isList rv.ints fun h' tk t' hk => ⟨.int _, H, I.kept hk, ⟨_, rfl⟩, q⟩
  · obtain ⟨its, rv, hl, _⟩ := I.tuple hs
    rw [Vals.ref1 r]
    exact sumT_raw (I.ok.hd hc) hl rv.ints fun h' tk t' hk => ⟨.int _, H, I.kept hk, ⟨_, rfl⟩, q⟩
def gSumA : GN := fun ds M => match ds with
  | [d] => (sqOf d M).bind fun xs => (intsOf xs).map fun ns => .int ns.sum
  | _ => none
theorem o_sumA {K : PySem.W.Frag} : OpN K (rSumA K) gSumA := by
  intro W M ds d vs Q sr r hg k
  unfold gSumA at hg
  split at hg
  · obtain ⟨xs, hx, hg⟩ := Option.bind_eq_some_iff.mp hg
    obtain ⟨ns, hn, hg⟩ := Option.map_eq_some_iff.mp hg
    subst hg
    obtain ⟨v, rfl, r1⟩ := rl1 r
    obtain ⟨p, us, rfl, h1, r2⟩ := sq_sq sr r1 hx
    refine ⟨p, ns, rfl, ?_, k W _ (.refl W) sr rfl⟩
    rw [← intsOf_ok hn r2]
    exact h1
  · cases hg
end PF
namespace PF
open PySem PySem.Spec PyProof.Rows L2
/-! two for in one comprehension; the inner one walks a range -/
def JFr (J : It) (xs : List D) : Prop := xs.length ≤ LINE ∧ ∀ (H : Hp) (i : Nat), (∀ d, xs[i]? = some d → J.go i H ∧ ∀ x H', J.yld i H x H' → H' = H ∧ ∀ K W, Rp K W d x) ∧ (xs.length ≤ i → J.stop i H)
def liftR (K : PySem.W.Frag) (f : FI) : TI := fun σ H R => ∃ W ρ M, W.H = H ∧ SR K W M ∧ Sl K W ρ σ ∧ ∃ xs k M', f ρ M = some ((xs, k), M') ∧
  ∀ W' J, Ext W W' → SR K W' M' → JFr J xs → R J W'.H
abbrev PFR (X : Cx) (tg e : Expr) (f : FI) : Prop := PI X tg e (liftR X.K f)
theorem jfr_rg {lo : Int} {n : Nat} (hn : n ≤ LINE) : JFr (Itr lo n) (rgD lo n) := by
  have hl : (rgD lo n).length = n := by unfold rgD; simp
  refine ⟨by rw [hl]; exact hn, fun H i => ?_⟩
  refine ⟨fun d hd => ?_, fun h => by rw [hl] at h; exact h⟩
  have hi : i < n := by rw [← hl]; exact (List.getElem?_eq_some_iff.mp hd).1
  have hd' : d = D.int (lo + i) := by
    unfold rgD at hd
    rw [List.getElem?_map, List.getElem?_range hi] at hd
    cases hd; rfl
  subst hd'
  exact ⟨hi, fun x H' hx => ⟨hx.1, fun K W => hx.2⟩⟩
section
variable {X : Cx} {tg a : Expr}
theorem pfr_rg1 {f : FA} {p pos : Pos} (hg : Gl X "range") (hm : X.mg "range" = none) (ha : PFA X [a] f) (hs : starEach [a] X.env = [(false, eval a X.env)] := by rfl) : PFR X tg (.Call (.Name "range" p) [a] [] pos) (fiRg1 f) := pi_weak (pi_range1 hg hm ha hs) fun σ H R => by
  rintro ⟨W, ρ, M, rfl, sr, sl, xs, kk, M', hf, k⟩
  obtain ⟨⟨x, M1⟩, hx, hf⟩ := Option.bind_eq_some_iff.mp hf
  dsimp only at hf
  split at hf
  · split at hf
    · rename_i hr
      cases hf
      replace hr := okR_ok hr
      refine ⟨W, ρ, M, rfl, sr, sl, _, _, hx, fun W1 v e1 s1 r1 => ?_⟩
      obtain ⟨v1, r, rfl, q1, q2⟩ := r1
      cases (show _ = _ from q1); cases (show _ = _ from q2)
      exact ⟨_, rfl, hr.2.1.1, hr.2.1.2, k W1 _ e1 s1 (jfr_rg (by show _ ≤ 16777216; omega))⟩
    · cases hf
  · cases hf
theorem pfr_rg2 {b : Expr} {f : FA} {p pos : Pos} (hg : Gl X "range") (hm : X.mg "range" = none) (ha : PFA X [a, b] f) (hs : starEach [a, b] X.env = [(false, eval a X.env), (false, eval b X.env)] := by rfl) (hs2 : starEach [b] X.env = [(false, eval b X.env)] := by rfl) :
    PFR X tg (.Call (.Name "range" p) [a, b] [] pos) (fiRg2 f) := pi_weak (pi_range2 hg hm ha hs hs2) fun σ H R => by
  rintro ⟨W, ρ, M, rfl, sr, sl, xs, kk, M', hf, k⟩
  obtain ⟨⟨x, M1⟩, hx, hf⟩ := Option.bind_eq_some_iff.mp hf
  dsimp only at hf
  split at hf
  · split at hf
    · rename_i hr
      cases hf
      replace hr := okR_ok hr
      refine ⟨W, ρ, M, rfl, sr, sl, _, _, hx, fun W1 v e1 s1 r1 => ?_⟩
      obtain ⟨v1, r, rfl, q1, v2, r', rfl, q2, q3⟩ := r1
      cases (show _ = _ from q1); cases (show _ = _ from q2); cases (show _ = _ from q3)
      exact ⟨_, _, rfl, ⟨hr.1.1, hr.1.2, hr.2.1.1, hr.2.1.2⟩, k W1 _ e1 s1 (jfr_rg (by show _ ≤ 16777216; omega))⟩
    · cases hf
  · cases hf
end
def lc2Loop (c : Mem → Bool) (t : FG) (ft : FT) (fi1 : FI) (vs1 : List Nat) (t1 : FG) (ft1 : FT) (fe : FE) (ρ : Rho) : List D → List D → Mem → Option (List D × Mem)
  | [], acc, M => if c M = true then some (acc, M) else none
  | d :: ds, acc, M => if c M = true then (t d ρ).bind fun ρ' => (ft ρ' M).bind fun b =>
      if b.1 = true then (fi1 ρ' b.2).bind fun a => (lcLoop (chk a.1.2 a.1.1) t1 ft1 fe (wipeR ρ' vs1) a.1.1 acc a.2).bind fun y => lc2Loop c t ft fi1 vs1 t1 ft1 fe ρ ds y.1 y.2
      else lc2Loop c t ft fi1 vs1 t1 ft1 fe ρ ds acc b.2
    else none
/-- [elt for t in fi if ft for t1 in fi1 if ft1] -/
def fLC2 (vs vs1 : List Nat) (fi : FI) (t : FG) (ft : FT) (fi1 : FI) (t1 : FG) (ft1 : FT) (fe : FE) : FA := fun ρ M => (fi ρ M).bind fun a => (lc2Loop (chk a.1.2 a.1.1) t ft fi1 vs1 t1 ft1 fe (wipeR ρ vs) a.1.1 [] a.2).bind fun y => if y.1.length ≤ LINE then some y else none
theorem lcLoop_len {c : Mem → Bool} {t : FG} {ft : FT} {fe : FE} {ρ : Rho} : ∀ (ds acc : List D) (M : Mem) (out : List D) (M' : Mem), lcLoop c t ft fe ρ ds acc M = some (out, M') → acc.length ≤ out.length
  | [], acc, M, out, M', h => by
    unfold lcLoop at h
    split at h
    · cases h; exact Nat.le_refl _
    · cases h
  | d :: ds, acc, M, out, M', h => by
    unfold lcLoop at h
    split at h
    · obtain ⟨ρ', _, h⟩ := Option.bind_eq_some_iff.mp h
      obtain ⟨b, _, h⟩ := Option.bind_eq_some_iff.mp h
      split at h
      · obtain ⟨y, _, h⟩ := Option.bind_eq_some_iff.mp h
        have := lcLoop_len ds _ _ _ _ h
        simp at this; omega
      · exact lcLoop_len ds _ _ _ _ h
    · cases h
theorem lc2Loop_len {c : Mem → Bool} {t : FG} {ft : FT} {fi1 : FI} {vs1 : List Nat} {t1 : FG} {ft1 : FT} {fe : FE} {ρ : Rho} : ∀ (ds acc : List D) (M : Mem) (out : List D) (M' : Mem), lc2Loop c t ft fi1 vs1 t1 ft1 fe ρ ds acc M = some (out, M') → acc.length ≤ out.length
  | [], acc, M, out, M', h => by
    unfold lc2Loop at h
    split at h
    · cases h; exact Nat.le_refl _
    · cases h
  | d :: ds, acc, M, out, M', h => by
    unfold lc2Loop at h
    split at h
    · obtain ⟨ρ', _, h⟩ := Option.bind_eq_some_iff.mp h
      obtain ⟨b, _, h⟩ := Option.bind_eq_some_iff.mp h
      split at h
      · obtain ⟨a, _, h⟩ := Option.bind_eq_some_iff.mp h
        obtain ⟨y, hy, h⟩ := Option.bind_eq_some_iff.mp h
        exact Nat.le_trans (lcLoop_len _ _ _ _ _ hy) (lc2Loop_len ds _ _ _ _ h)
      · exact lc2Loop_len ds _ _ _ _ h
    · cases h
theorem Sl.minus {K : PySem.W.Frag} {W : Wo} {ρ : Rho} {σ : L2.St} {p : Addr} (hb : W.bad p) (hn : p ∉ W.as) (h : Sl K W ρ σ) : Sl K (W.minus p) ρ σ := by
  refine ⟨h.len, fun i d hd => ?_⟩
  obtain ⟨v, hv, r⟩ := h.at_ i d hd
  exact ⟨v, hv, Rp.minus hb hn d v r⟩
theorem lc2_lift {K : PySem.W.Frag} {fi fi1 : FI} {t t1 : FG} {ft ft1 : FT} {fe : FE} {vs vs1 : List Nat} : ∀ σ H Q, liftN K (fLC2 vs vs1 fi t ft fi1 t1 ft1 fe) σ H Q → tLc2 (liftI K fi) (liftG K vs t) (liftT K ft) (liftR K fi1) (liftG K vs1 t1) (liftT K ft1) (liftE K fe) vs vs1 σ H Q := by
  rintro σ H Q ⟨W, ρ, M, rfl, sr, sl, out, M', hf, k⟩
  obtain ⟨⟨⟨xs, kk⟩, M1⟩, hi, hf⟩ := Option.bind_eq_some_iff.mp hf
  obtain ⟨⟨o1, o2⟩, hf, hz⟩ := Option.bind_eq_some_iff.mp hf
  dsimp only at hz hf
  by_cases hout : o1.length ≤ LINE
  case neg => rw [if_neg hout] at hz; cases hz
  rw [if_pos hout] at hz
  cases hz
  refine ⟨W, ρ, M, rfl, sr, sl, xs, kk, M1, hi, fun W1 J e1 s1 jo D hD => ?_⟩
  refine ⟨fun i m H' => ∃ W2 Mt acc ws, H' = upd W2.H D (.lst ws) ∧ W2.H D = none ∧ Ext W1 W2 ∧ SR K W2 Mt ∧ RpL K W2 acc ws ∧ i ≤ xs.length ∧ m = xs.length - i ∧
    lc2Loop (chk kk xs) t ft fi1 vs1 t1 ft1 fe (wipeR ρ vs) (xs.drop i) acc Mt = some (out, M'), ⟨xs.length, W1, M1, [], [], rfl, hD, .refl W1, s1, rfl, Nat.zero_le _, rfl, hf⟩, ?_⟩
  rintro i m H' ⟨W2, Mt, acc, ws, rfl, hD2, e2, s2, racc, hil, rfl, hw⟩
  have eP : Ext W2 (W2.plus D (.lst ws)) := Ext.plus hD2
  have sP : SR K (W2.plus D (.lst ws)) Mt := s2.plus hD2
  by_cases hlt : i < xs.length
  · right
    have hd : xs.drop i = xs[i] :: xs.drop (i + 1) := List.drop_eq_getElem_cons hlt
    rw [hd] at hw
    unfold lc2Loop at hw
    split at hw
    · rename_i hck
      obtain ⟨ρ', ht, hw⟩ := Option.bind_eq_some_iff.mp hw
      obtain ⟨⟨b, M3⟩, hb, hw⟩ := Option.bind_eq_some_iff.mp hw
      obtain ⟨hgo, hy⟩ := (jo.2 _ Mt (e2.trans eP) sP hck i).1 xs[i] (by simp [hlt])
      refine ⟨hgo, fun H' => ∃ W4 Mt acc ws, H' = upd W4.H D (.lst ws) ∧ W4.H D = none ∧ Ext W1 W4 ∧ SR K W4 Mt ∧ RpL K W4 acc ws ∧
        lc2Loop (chk kk xs) t ft fi1 vs1 t1 ft1 fe (wipeR ρ vs) (xs.drop (i + 1)) acc Mt = some (out, M'), ?_, fun x H' hx => ?_⟩
      · rintro H' ⟨W4, Mt', acc', ws', h1, h2, h3, h4, h5, h7⟩
        exact ⟨xs.length - (i + 1), by omega, W4, Mt', acc', ws', h1, h2, h3, h4, h5, hlt, rfl, h7⟩
      · obtain ⟨rfl, rx⟩ := hy x H' hx
        have slW : Sl K (W2.plus D (.lst ws)) (wipeR ρ vs) (L2.wipe σ vs) := (sl.ext (e1.trans (e2.trans eP)) sr.sub).wipe vs
        refine ⟨_, wipeR ρ vs, Mt, xs[i], rfl, sP, slW, rx, ρ', ht, fun W3 σ3 e3 s3 l3 w3 => ⟨by rw [w3, wipe_idem], ?_⟩⟩
        refine ⟨W3, ρ', Mt, rfl, s3, l3, b, M3, hb, fun W4 e4 s4 => ?_⟩
        cases b with
        | false =>
          rw [if_neg Bool.false_ne_true] at hw ⊢
          obtain ⟨e5, b5, n5, h5⟩ := Ext.unplus s2 hD2 (e3.trans e4)
          refine ⟨W4.minus D, M3, acc, ws, ?_, minus_self, e2.trans e5, s4.minus b5 n5, (racc.ext e5 s2.sub), hw⟩
          funext a
          by_cases z : a = D
          · subst z; rw [upd_same]; exact h5
          · rw [upd_ne z]; exact (minus_H z).symm
        | true =>
          rw [if_pos rfl] at hw ⊢
          obtain ⟨⟨⟨xs1, k1⟩, M5⟩, hi1, hw⟩ := Option.bind_eq_some_iff.mp hw
          obtain ⟨⟨acc2, M6⟩, hin, hw⟩ := Option.bind_eq_some_iff.mp hw
          dsimp only at hin hw
          have hlim : acc2.length ≤ LINE := Nat.le_trans (lc2Loop_len _ _ _ _ _ hw) hout
          refine ⟨W4, ρ', M3, rfl, s4, l3.ext e4 s3.sub, xs1, k1, M5, hi1, fun W5 J1 e5 s5 jf => ?_⟩
          obtain ⟨e6, b6, n6, h6⟩ := Ext.unplus s2 hD2 ((e3.trans e4).trans e5)
          have l5 : Sl K (W5.minus D) ρ' σ3 := Sl.minus b6 n6 (l3.ext (e4.trans e5) s3.sub)
          have s5m : SR K (W5.minus D) M5 := s5.minus b6 n6
          have hW5 : W5.H = upd (W5.minus D).H D (.lst ws) := by
            funext a
            by_cases z : a = D
            · subst z; rw [upd_same]; exact h6
            · rw [upd_ne z]; exact (minus_H z).symm
          refine ⟨fun j k H' => ∃ W6 Mt acc ws, H' = upd W6.H D (.lst ws) ∧ W6.H D = none ∧ Ext (W5.minus D) W6 ∧ SR K W6 Mt ∧ RpL K W6 acc ws ∧ j ≤ xs1.length ∧ k = xs1.length - j ∧
            lcLoop (chk k1 xs1) t1 ft1 fe (wipeR ρ' vs1) (xs1.drop j) acc Mt = some (acc2, M6), ⟨xs1.length, W5.minus D, M5, acc, ws, hW5, minus_self, .refl _, s5m, racc.ext e6 s2.sub, Nat.zero_le _, rfl, hin⟩, ?_⟩
          rintro j k' H' ⟨W6, Mt6, acc6, ws6, rfl, hD6, e7, s6, racc6, hjl, rfl, hw6⟩
          have eP6 : Ext W6 (W6.plus D (.lst ws6)) := Ext.plus hD6
          have sP6 : SR K (W6.plus D (.lst ws6)) Mt6 := s6.plus hD6
          by_cases hlt1 : j < xs1.length
          · right
            have hd1 : xs1.drop j = xs1[j] :: xs1.drop (j + 1) := List.drop_eq_getElem_cons hlt1
            rw [hd1] at hw6
            unfold lcLoop at hw6
            split at hw6
            · obtain ⟨ρ2, ht1, hw6⟩ := Option.bind_eq_some_iff.mp hw6
              obtain ⟨⟨b1, M7⟩, hb1, hw6⟩ := Option.bind_eq_some_iff.mp hw6
              obtain ⟨hgo1, hy1⟩ := (jf.2 (W6.plus D (.lst ws6)).H j).1 xs1[j] (by simp [hlt1])
              refine ⟨hgo1, fun H' => ∃ W8 Mt acc ws, H' = upd W8.H D (.lst ws) ∧ W8.H D = none ∧ Ext (W5.minus D) W8 ∧ SR K W8 Mt ∧ RpL K W8 acc ws ∧
                lcLoop (chk k1 xs1) t1 ft1 fe (wipeR ρ' vs1) (xs1.drop (j + 1)) acc Mt = some (acc2, M6), ?_, fun x1 H' hx1 => ?_⟩
              · rintro H' ⟨W8, Mt', acc', ws', h1, h2, h3, h4, h5, h7⟩
                exact ⟨xs1.length - (j + 1), by omega, W8, Mt', acc', ws', h1, h2, h3, h4, h5, hlt1, rfl, h7⟩
              · obtain ⟨rfl, rx1⟩ := hy1 x1 H' hx1
                have slW1 : Sl K (W6.plus D (.lst ws6)) (wipeR ρ' vs1) (L2.wipe σ3 vs1) := (l5.ext (e7.trans eP6) s5m.sub).wipe vs1
                refine ⟨_, wipeR ρ' vs1, Mt6, xs1[j], rfl, sP6, slW1, rx1 K _, ρ2, ht1, fun W7 σ7 e8 s7 l7 w7 => ⟨by rw [w7, wipe_idem], ?_⟩⟩
                refine ⟨W7, ρ2, Mt6, rfl, s7, l7, b1, M7, hb1, fun W8 e9 s8 => ?_⟩
                cases b1 with
                | false =>
                  rw [if_neg Bool.false_ne_true] at hw6 ⊢
                  obtain ⟨e10, b10, n10, h10⟩ := Ext.unplus s6 hD6 (e8.trans e9)
                  refine ⟨W8.minus D, M7, acc6, ws6, ?_, minus_self, e7.trans e10, s8.minus b10 n10, (racc6.ext e10 s6.sub), hw6⟩
                  funext a
                  by_cases z : a = D
                  · subst z; rw [upd_same]; exact h10
                  · rw [upd_ne z]; exact (minus_H z).symm
                | true =>
                  rw [if_pos rfl] at hw6 ⊢
                  obtain ⟨⟨y, M9⟩, hye, hw6⟩ := Option.bind_eq_some_iff.mp hw6
                  refine ⟨W8, ρ2, M7, rfl, s8, l7.ext e9 s7.sub, y, M9, hye, fun W9 v e11 s9 r9 => ?_⟩
                  obtain ⟨e12, b12, n12, h12⟩ := Ext.unplus s6 hD6 ((e8.trans e9).trans e11)
                  have hz : ws6.length < LINE := by
                    have q := lcLoop_len _ _ _ _ _ hw6
                    rw [List.length_append, List.length_singleton] at q
                    have := racc6.len
                    omega
                  refine ⟨ws6, h12, by rw [line_eq]; exact hz, W9.minus D, M9, acc6 ++ [y], ws6 ++ [v], ?_, minus_self, e7.trans e12, s9.minus b12 n12, (racc6.ext e12 s6.sub).append (.one (r9.minus b12 n12)), hw6⟩
                  funext a
                  by_cases z : a = D
                  · subst z; rw [upd_same, upd_same]
                  · rw [upd_ne z, upd_ne z]; exact (minus_H z).symm
            · cases hw6
          · left
            have e : j = xs1.length := by omega
            subst e
            rw [List.drop_length] at hw6
            unfold lcLoop at hw6
            split at hw6
            · cases hw6
              exact ⟨(jf.2 _ xs1.length).2 (Nat.le_refl _), W6, M6, acc2, ws6, rfl, hD6, e2.trans (e6.trans e7), s6, racc6, hw⟩
            · cases hw6
    · cases hw
  · left
    have e : i = xs.length := by omega
    subst e
    rw [List.drop_length] at hw
    unfold lc2Loop at hw
    split at hw
    · rename_i hck
      cases hw
      refine ⟨(jo.2 _ _ (e2.trans eP) sP hck xs.length).2 (Nat.le_refl _), ?_⟩
      exact k W2 D ws (e1.trans e2) s2 hD2 racc (by have := racc.len; omega)
    · cases hw
section
variable {X : Cx} {elt tg iter tg1 iter1 : Expr} {ifs ifs1 : List Expr} {scope : Scope} {own : List (Str × Nat)} {vs1 : List Nat} {pos : Pos} {fi fi1 : FI} {t t1 : FG} {ft ft1 : FT} {fe : FE}
theorem pfn_lc2 (hc : X.calm = true) (hN : X.N.Nodup) (hi : PFI X tg iter fi) (ok : BlkOk X.N X.env.scope scope own) (hv : ∀ i ∈ vs1, i ∈ own.map (·.2))
    (hg : ∀ (s : Shared) (H : Hp) (C : Addr) (cl : List (Str × Addr)) (fp : List Addr), PFG (X.blk s H scope (compEnvC scope cl C X.env) fp) (own.map (·.2)) tg t) (ht : ∀ (s : Shared) (H : Hp) (C : Addr) (cl : List (Str × Addr)) (fp : List Addr), PFTs (X.blk s H scope (compEnvC scope cl C X.env) fp) ifs ft)
    (hi1 : ∀ (s : Shared) (H : Hp) (C : Addr) (cl : List (Str × Addr)) (fp : List Addr), PFR (X.blk s H scope (compEnvC scope cl C X.env) fp) tg1 iter1 fi1)
    (hg1 : ∀ (s : Shared) (H : Hp) (C : Addr) (cl : List (Str × Addr)) (fp : List Addr), PFG (X.blk s H scope (compEnvC scope cl C X.env) fp) vs1 tg1 t1) (ht1 : ∀ (s : Shared) (H : Hp) (C : Addr) (cl : List (Str × Addr)) (fp : List Addr), PFTs (X.blk s H scope (compEnvC scope cl C X.env) fp) ifs1 ft1)
    (he : ∀ (s : Shared) (H : Hp) (C : Addr) (cl : List (Str × Addr)) (fp : List Addr), PFE (X.blk s H scope (compEnvC scope cl C X.env) fp) elt fe) (hs : ∀ x, foldedSetIterable iter X.env x = pure x := by intro _; rfl) (hs1 : ∀ env x, foldedSetIterable iter1 env x = pure x := by intro _ _; rfl) :
    PFN X (.ListComp elt [⟨tg, iter, ifs, 0⟩, ⟨tg1, iter1, ifs1, 0⟩] scope pos) (fLC2 (own.map (·.2)) vs1 fi t ft fi1 t1 ft1 fe) := pe_weak (pe_lc2 hc hN hi ok hv hg ht hi1 hg1 ht1 he hs hs1) lc2_lift
theorem pfs_setLc2F {i : Nat} {y : Str} {py spos : Pos} (hc : X.calm = true) (hN : X.N.Nodup) (hy : X.N[i]? = some y) (hyl : X.env.scope.names.lookup y = some .local)
    (hsw : swapsWith (.ListComp elt [⟨tg, iter, ifs, 0⟩, ⟨tg1, iter1, ifs1, 0⟩] scope pos) (some (.Name y py)) spos.line X.env = pure true) (hi : PFI X tg iter fi) (ok : BlkOk X.N X.env.scope scope own) (hv : ∀ i ∈ vs1, i ∈ own.map (·.2))
    (hg : ∀ (s : Shared) (H : Hp) (C : Addr) (cl : List (Str × Addr)) (fp : List Addr), PFG (X.blk s H scope (compEnvC scope cl C X.env) fp) (own.map (·.2)) tg t) (ht : ∀ (s : Shared) (H : Hp) (C : Addr) (cl : List (Str × Addr)) (fp : List Addr), PFTs (X.blk s H scope (compEnvC scope cl C X.env) fp) ifs ft)
    (hi1 : ∀ (s : Shared) (H : Hp) (C : Addr) (cl : List (Str × Addr)) (fp : List Addr), PFR (X.blk s H scope (compEnvC scope cl C X.env) fp) tg1 iter1 fi1)
    (hg1 : ∀ (s : Shared) (H : Hp) (C : Addr) (cl : List (Str × Addr)) (fp : List Addr), PFG (X.blk s H scope (compEnvC scope cl C X.env) fp) vs1 tg1 t1) (ht1 : ∀ (s : Shared) (H : Hp) (C : Addr) (cl : List (Str × Addr)) (fp : List Addr), PFTs (X.blk s H scope (compEnvC scope cl C X.env) fp) ifs1 ft1)
    (he : ∀ (s : Shared) (H : Hp) (C : Addr) (cl : List (Str × Addr)) (fp : List Addr), PFE (X.blk s H scope (compEnvC scope cl C X.env) fp) elt fe) (hs : ∀ x, foldedSetIterable iter X.env x = pure x := by intro _; rfl) (hs1 : ∀ env x, foldedSetIterable iter1 env x = pure x := by intro _ _; rfl) :
    PFS X (.Assign [.Name y py] (.ListComp elt [⟨tg, iter, ifs, 0⟩, ⟨tg1, iter1, ifs1, 0⟩] scope pos) spos) (sSet i (fFz (fLC2 (own.map (·.2)) vs1 fi t ft fi1 t1 ft1 fe))) := ps_weak (ps_setLc2 hc hN hy hyl hsw hi ok hv hg ht hi1 hg1 ht1 he hs hs1) fun E σ H h => lc2_lift _ _ _ (set_fz E σ H h)
theorem pfs_setLc2M {i : Nat} {y : Str} {py spos : Pos} (hc : X.calm = true) (hN : X.N.Nodup) (hy : X.N[i]? = some y) (hyl : X.env.scope.names.lookup y = some .local)
    (hsw : swapsWith (.ListComp elt [⟨tg, iter, ifs, 0⟩, ⟨tg1, iter1, ifs1, 0⟩] scope pos) (some (.Name y py)) spos.line X.env = pure true) (hi : PFI X tg iter fi) (ok : BlkOk X.N X.env.scope scope own) (hv : ∀ i ∈ vs1, i ∈ own.map (·.2))
    (hg : ∀ (s : Shared) (H : Hp) (C : Addr) (cl : List (Str × Addr)) (fp : List Addr), PFG (X.blk s H scope (compEnvC scope cl C X.env) fp) (own.map (·.2)) tg t) (ht : ∀ (s : Shared) (H : Hp) (C : Addr) (cl : List (Str × Addr)) (fp : List Addr), PFTs (X.blk s H scope (compEnvC scope cl C X.env) fp) ifs ft)
    (hi1 : ∀ (s : Shared) (H : Hp) (C : Addr) (cl : List (Str × Addr)) (fp : List Addr), PFR (X.blk s H scope (compEnvC scope cl C X.env) fp) tg1 iter1 fi1)
    (hg1 : ∀ (s : Shared) (H : Hp) (C : Addr) (cl : List (Str × Addr)) (fp : List Addr), PFG (X.blk s H scope (compEnvC scope cl C X.env) fp) vs1 tg1 t1) (ht1 : ∀ (s : Shared) (H : Hp) (C : Addr) (cl : List (Str × Addr)) (fp : List Addr), PFTs (X.blk s H scope (compEnvC scope cl C X.env) fp) ifs1 ft1)
    (he : ∀ (s : Shared) (H : Hp) (C : Addr) (cl : List (Str × Addr)) (fp : List Addr), PFE (X.blk s H scope (compEnvC scope cl C X.env) fp) elt fe) (hs : ∀ x, foldedSetIterable iter X.env x = pure x := by intro _; rfl) (hs1 : ∀ env x, foldedSetIterable iter1 env x = pure x := by intro _ _; rfl) :
    PFS X (.Assign [.Name y py] (.ListComp elt [⟨tg, iter, ifs, 0⟩, ⟨tg1, iter1, ifs1, 0⟩] scope pos) spos) (sSet i (fMut (fLC2 (own.map (·.2)) vs1 fi t ft fi1 t1 ft1 fe))) := ps_weak (ps_setLc2 hc hN hy hyl hsw hi ok hv hg ht hi1 hg1 ht1 he hs hs1) fun E σ H h => lc2_lift _ _ _ (set_mut E σ H h)
end
end PF
namespace PF
open PySem PySem.Spec PyProof.Rows L2
/-! a call that changes one list and hands back a new changeable one -/
def callSM (i : Nat) (c : FnC) (ds : List D) (M : Mem) : Option (D × Mem) := match ds[i]? with
  | some (.ref n) => match M[n]? with
    | some mo => if mo.nr && !anyRef (ds.set i .non) then (argsP M (ds.set i .non)).bind fun es => (c (es.set i (.ref 0)) [mo]).bind fun r => match r with
        | (.ref 1, [.lst xs, .lst ys]) => if D.nrs xs && D.nrs ys then some (.ref M.length, M.set n (.lst xs) ++ [.lst ys]) else none
        | _ => none
      else none
    | none => none
  | _ => none
def fCallSM (i : Nat) (c : FnC) (fa : FA) : FE := fun ρ M => (fa ρ M).bind fun a => callSM i c a.1 a.2
section
variable {K : PySem.W.Frag} {W : Wo} {M : Mem}
theorem callSM_ok {i : Nat} {c : FnC} {n : Nat} {ds : List D} {vs : List V} {d : D} {M' : Mem} {Q : VK} {E : XK} (sr : SR K W M) (r : RpL K W ds vs) (hn : vs.length = n) (e : callSM i c ds M = some (d, M'))
    (k : ∀ W' v, Ext W W' → SR K W' M' → Rp K W' d v → Q v W'.H) : spOf K c n vs W.H Q E := by
  unfold callSM at e
  split at e
  · rename_i m hm
    split at e
    · rename_i mo hmo
      split at e
      · rename_i hc0
        rw [Bool.and_eq_true, Bool.not_eq_true'] at hc0
        obtain ⟨hnr, hri⟩ := hc0
        obtain ⟨es, he, e⟩ := Option.bind_eq_some_iff.mp e
        obtain ⟨⟨d1, M1⟩, hc, e⟩ := Option.bind_eq_some_iff.mp e
        obtain ⟨a, ha, mok⟩ := sr.addr hmo
        obtain ⟨vi, hvi, ri⟩ := r.get hm
        obtain ⟨a', ha', ev⟩ := ri
        obtain rfl : a = a' := Option.some.inj (ha.symm.trans ha')
        have haW : a ∈ W.as := List.mem_of_getElem? ha
        have nl : ∀ b, ¬ Lent W (ds.set i .non) b := fun b ⟨j, h1, h2⟩ => noRef hri j h1
        have sL : SR K (W.lend [a] (Lent W (ds.set i .non))) [mo] := by
          refine ⟨rfl, by simp [Wo.lend], fun b h => ?_, fun b h => sr.bt b h.1, fun j b mo' h1 h2 => ?_⟩
          · rw [show b = a by simpa [Wo.lend] using h]
            exact ⟨sr.sub a haW, nl a⟩
          · cases j with
            | zero =>
              have eb : a = b := by simpa [Wo.lend] using h1
              have em : mo = mo' := by simpa using h2
              subst eb em
              exact MoOk.nr (W := W) (W' := W.lend [a] (Lent W (ds.set i .non))) rfl (fun _ z => z.1) hnr mok
            | succ j => simp at h2
        have r' : RpL K W (ds.set i .non) (vs.set i .non) := r.set i rfl
        have rE := args_ok (as := [a]) sr he r' (free := Lent W (ds.set i .non)) fun j b h1 h2 => ⟨j, h1, h2⟩
        have rE2 : RpL K (W.lend [a] (Lent W (ds.set i .non))) (es.set i (.ref 0)) vs := by
          have q := rE.set (d := .ref 0) (v := .ref a) i ⟨a, rfl, rfl⟩
          rw [List.set_set] at q
          have ev' : vs.set i (.ref a) = vs := by
            rw [← ev]
            obtain ⟨h1, h2⟩ := List.getElem?_eq_some_iff.mp hvi
            rw [← h2]; exact List.set_getElem_self h1
          rw [ev'] at q
          exact q
        refine ⟨hn, W.lend [a] (Lent W (ds.set i .non)), [mo], _, rfl, sL, rE2, d1, M1, hc, fun W1 v e1 s1 r1 => ?_⟩
        have keepAll : ∀ b o, b ≠ a → W.H b = some o → W1.H b = some o := fun b o hb h => e1.keep b o (by simpa [Wo.lend] using hb) h
        split at e
        · rename_i xs ys hpair
          cases hpair
          split at e
          · rename_i hcond
            rw [Bool.and_eq_true] at hcond
            obtain ⟨hxs, hys⟩ := hcond
            cases e
            obtain ⟨p, hp, ev1⟩ := r1
            obtain ⟨new, ea, fr⟩ := e1.as
            have ea1 : W1.as = [a, p] := by
              have h1 : W1.as.length = 2 := s1.len
              have h2 : W1.as = a :: new := by rw [ea]; rfl
              rw [h2] at h1 hp
              match new, h1, hp with
              | [q], _, hp => simp at hp; rw [h2, hp]
            have enew : new = [p] := by
              have h2 : W1.as = a :: new := by rw [ea]; rfl
              rw [ea1] at h2
              simpa using h2.symm
            have hpn : W.H p = none := fr p (by rw [enew]; simp)
            have pnW : p ∉ W.as := fun z => by
              obtain ⟨o, q⟩ := sr.bt p (sr.sub p z)
              rw [hpn] at q; cases q
            obtain ⟨us, q1, q2⟩ := s1.obj 0 a (.lst xs) (by rw [ea1]; rfl) rfl
            obtain ⟨us2, q3, q4⟩ := s1.obj 1 p (.lst ys) (by rw [ea1]; rfl) rfl
            have noB : ∀ b, (W.bad b ∨ W1.bad b) → W1.bad b := fun b z => z.elim (fun z => e1.bad b ⟨z, nl b⟩) fun z => z
            have ex : Ext W ⟨W.as ++ [p], fun b => W.bad b ∨ W1.bad b, W1.H⟩ := by
              refine ⟨⟨[p], rfl, fun b h => by rw [List.mem_singleton.mp h]; exact hpn⟩, fun b h => .inl h, fun b h => h.elim .inl fun z => (e1.new b z).imp (fun q => q.1) fun q => q, fun b o hb h => keepAll b o (fun z => hb (by rw [z]; exact haW)) h, fun b o h => ?_⟩
              by_cases z : b = a
              · subst z; exact ⟨_, q1.1⟩
              · exact ⟨o, keepAll b o z h⟩
            have toL : ∀ (zs : List D) (ws : List V), D.nrs zs = true → RpL K W1 zs ws → RpL K ⟨W.as ++ [p], fun b => W.bad b ∨ W1.bad b, W1.H⟩ zs ws := fun zs ws hz q => RpL.nr (W := W1) (W' := ⟨W.as ++ [p], fun b => W.bad b ∨ W1.bad b, W1.H⟩) rfl noB _ _ hz q
            have hlen : W.as.length = M.length := sr.len
            refine k ⟨W.as ++ [p], fun b => W.bad b ∨ W1.bad b, W1.H⟩ v ex ⟨by simp [hlen], ?_, fun b h => ?_, fun b h => h.elim (fun z => let ⟨o, q⟩ := sr.bt b z; ex.live b o q) (s1.bt b), fun j b mo' h1 h2 => ?_⟩ ⟨p, by show (W.as ++ [p])[M.length]? = some p; rw [← hlen]; simp, ev1⟩
            · rw [List.nodup_append]
              exact ⟨sr.nd, by simp, fun x hx y hy => by rw [List.mem_singleton.mp hy]; rintro rfl; exact pnW hx⟩
            · rcases List.mem_append.mp h with h | h
              · exact .inl (sr.sub b h)
              · rw [List.mem_singleton.mp h]
                exact .inr (s1.sub p (by rw [ea1]; simp))
            · have h1' : (W.as ++ [p])[j]? = some b := h1
              by_cases hj : j < M.length
              · rw [List.getElem?_append_left (by omega)] at h1'
                rw [List.getElem?_append_left (by rw [List.length_set]; exact hj)] at h2
                by_cases z : j = m
                · subst z
                  obtain rfl : a = b := Option.some.inj (ha.symm.trans h1')
                  rw [List.getElem?_set_self hj] at h2
                  cases h2
                  exact ⟨us, q1, toL _ _ hxs q2⟩
                · rw [List.getElem?_set_ne (Ne.symm z)] at h2
                  have nb : b ≠ a := fun q => z (by
                    subst q
                    obtain ⟨q1, q2⟩ := List.getElem?_eq_some_iff.mp h1'
                    obtain ⟨q3, q4⟩ := List.getElem?_eq_some_iff.mp ha
                    exact (List.getElem_inj sr.nd).mp (q2.trans q4.symm))
                  have mk := sr.obj j b mo' h1' h2
                  obtain ⟨o, q⟩ := mk.there
                  exact mk.ext ex sr.sub (by rw [q]; exact keepAll b o nb q)
              · have hjl : j < (W.as ++ [p]).length := (List.getElem?_eq_some_iff.mp h1').1
                simp at hjl
                have ej : j = M.length := by omega
                subst ej
                have eb : b = p := by
                  rw [← hlen] at h1'
                  simp at h1'
                  exact h1'.symm
                subst eb
                rw [List.getElem?_append_right (by simp)] at h2
                simp at h2
                subst h2
                exact ⟨us2, q3, toL _ _ hys q4⟩
          · cases e
        · cases e
      · cases e
    · cases e
  · cases e
end
section
variable {X : Cx} {k n : Nat} {f : Addr} {fd : FuncData} {ps : List Str} {c : FnC} {x : Str} {p pos : Pos} {e : Expr} {es : List Expr} {fa : FA}
theorem pf_callSM (i : Nat) (F : FnOk X.prog X.w X.K X.mg X.base CX0 k f fd ps (spOf X.K c n)) (hr : Room k X.A) (hg : Gl X x) (hm : X.mg x = some (.ref f)) (hk : PySem.W.keepIn X.K (.ref f) = true) (hb : Binds X.K fd ps []) (ha : PFA X (e :: es) fa) (hn : n = es.length + 1 := by rfl)
    (hlen : ∀ ρ M r, fa ρ M = some r → r.1.length = es.length + 1) (hdb : (x == ("__debug__" : Str)) = false := by decide) (he : starEach (e :: es) X.env = (false, eval e X.env) :: starEach es X.env := by rfl) (hpl : (backTo pos (starEach es X.env)).any (·.1) = false := by rfl) :
    PFE X (.Call (.Name x p) (e :: es) [] pos) (fCallSM i c fa) := pe_weak (pe_call F hr hg hm hk hb .nil pass0 ha hdb he hpl) fun σ H Q => by
  rintro ⟨W, ρ, M, rfl, sr, sl, d, M', hf, k⟩
  obtain ⟨⟨ds, M1⟩, hx, hf⟩ := Option.bind_eq_some_iff.mp hf
  refine ⟨W, ρ, M, rfl, sr, sl, ds, M1, hx, fun W1 vs e1 s1 r1 => ?_⟩
  show spOf X.K c n (vs ++ []) W1.H Q E0
  rw [List.append_nil]
  exact callSM_ok s1 r1 (by rw [← r1.len, hn]; exact hlen _ _ _ hx) hf fun W2 v e2 s2 r2 => k W2 v (e1.trans e2) s2 r2
end
section
variable {X : Cx} {k n : Nat} {c : FnC} {x : Str} {p pos : Pos} {e : Expr} {es : List Expr} {fa : FA}
theorem pf_callCSM (i : Nat) (C : Cal X.prog X.w X.K X.mg X.base k x c (es.length + 1)) (hr : Room k X.A) (hg : Gl X x) (ha : PFA X (e :: es) fa)
    (hlen : ∀ ρ M r, fa ρ M = some r → r.1.length = es.length + 1) (hdb : (x == ("__debug__" : Str)) = false := by decide) (he : starEach (e :: es) X.env = (false, eval e X.env) :: starEach es X.env := by rfl) (hpl : (backTo pos (starEach es X.env)).any (·.1) = false := by rfl) :
    PFE X (.Call (.Name x p) (e :: es) [] pos) (fCallSM i c fa) :=
  let ⟨_, _, _, g, hk, b, F⟩ := C.ex
  pf_callSM i F hr hg g hk b ha rfl hlen hdb he hpl
end
end PF
namespace PF
open PySem PySem.Spec PyProof.Rows L2
/-! list(range(..)) -/
section
variable {X : Cx} {a b : Expr}
def tRgA1 (ta : TA) : L2.St → Hp → (Int → Int → Hp → Prop) → Prop := fun σ H Q => ta σ H fun xs H1 => ∃ n, xs = [.int n] ∧ Q 0 n H1
def tRgA2 (ta : TA) : L2.St → Hp → (Int → Int → Hp → Prop) → Prop := fun σ H Q => ta σ H fun xs H1 => ∃ i j, xs = [.int i, .int j] ∧ Q i j H1
theorem prg_A1 {ta : TA} {p pos : Pos} (hg : Gl X "range") (hm : X.mg "range" = none) (ha : PA X [a] ta) (hs : starEach [a] X.env = [(false, eval a X.env)] := by rfl) : PRg X (.Call (.Name "range" p) [a] [] pos) (tRgA1 ta) := by
  intro pins s σ H Q I h
  refine Call_ (ld_blt I hg hm boot_range (PyProof.Rows.callWith_type1 (thn (ha.run pos pins s σ H _ I h) fun us s1 ⟨vs, H1, I1, r1, q1⟩ => ?_) hs rfl))
  obtain ⟨n, e, q⟩ := q1
  subst e
  cases r1 with
  | cons r rr =>
    cases rr
    obtain ⟨t, rfl⟩ := r
    exact call_range_1 ⟨_, 0, n, _, _, _, H1, rfl, IsRange.new _ _ _ _ _ _ _, I1.kept fun b u e => Heap.get?_push_of_some _ e, q⟩
theorem prg_A2 {ta : TA} {p pos : Pos} (hg : Gl X "range") (hm : X.mg "range" = none) (ha : PA X [a, b] ta) (hs : starEach [a, b] X.env = [(false, eval a X.env), (false, eval b X.env)] := by rfl) (hs2 : starEach [b] X.env = [(false, eval b X.env)] := by rfl) :
    PRg X (.Call (.Name "range" p) [a, b] [] pos) (tRgA2 ta) := by
  intro pins s σ H Q I h
  refine Call_ (ld_blt I hg hm boot_range (PyProof.Rows.callWith_type1 (thn (ha.run pos pins s σ H _ I h) fun us s1 ⟨vs, H1, I1, r1, q1⟩ => ?_) (by rw [hs, hs2]) (by rw [hs2]; rfl)))
  obtain ⟨i, j, e, q⟩ := q1
  subst e
  cases r1 with
  | cons r rr =>
    cases rr with
    | cons r' rr =>
      cases rr
      obtain ⟨t, rfl⟩ := r
      obtain ⟨t', rfl⟩ := r'
      exact call_range_2 ⟨_, i, j, _, _, _, H1, rfl, IsRange.new _ _ _ _ _ _ _, I1.kept fun b u e => Heap.get?_push_of_some _ e, q⟩
/-- list(range(..)) -/
def fLstRg1 (f : FA) : FA := fun ρ M => (f ρ M).bind fun a => match a.1 with | [.int j] => if okR 0 j then some (rgD 0 j.toNat, a.2) else none | _ => none
def fLstRg2 (f : FA) : FA := fun ρ M => (f ρ M).bind fun a => match a.1 with | [.int i, .int j] => if okR i j then some (rgD i (j - i).toNat, a.2) else none | _ => none
theorem rpl_rg (K : PySem.W.Frag) (W : Wo) (lo : Int) : ∀ (l : List Nat), RpL K W (l.map fun (i : Nat) => D.int (lo + i)) (l.map fun (i : Nat) => V.int (lo + i))
  | [] => rfl
  | i :: l => ⟨_, _, rfl, rfl, rpl_rg K W lo l⟩
theorem rgok_of {i j : Int} (h : okR i j = true) : RgOk i j := by
  have := okR_ok h
  exact ⟨by omega, by omega, by omega, by omega, by omega⟩
theorem pfn_listRg1 {f : FA} {p p2 pos pos2 : Pos} (hc : X.calm = true) (hg : Gl X "list") (hm : X.mg "list" = none) (hg2 : Gl X "range") (hm2 : X.mg "range" = none) (ha : PFA X [a] f)
    (hs : starEach [a] X.env = [(false, eval a X.env)] := by rfl) (na : starEach [Expr.Call (.Name "range" p2) [a] [] pos2] X.env = (false, eval (Expr.Call (.Name "range" p2) [a] [] pos2) X.env) :: starEach [] X.env := by rfl) :
    PFN X (.Call (.Name "list" p) [.Call (.Name "range" p2) [a] [] pos2] [] pos) (fLstRg1 f) := pe_weak (pe_listRg hc hg hm (prg_A1 hg2 hm2 ha hs) na) fun σ H Q => by
  rintro ⟨W, ρ, M, rfl, sr, sl, xs, M', hf, k⟩
  obtain ⟨⟨x, M1⟩, hx, hf⟩ := Option.bind_eq_some_iff.mp hf
  dsimp only at hf
  split at hf
  · split at hf
    · rename_i hr
      cases hf
      have hr' := okR_ok hr
      refine ⟨W, ρ, M, rfl, sr, sl, _, _, hx, fun W1 v e1 s1 r1 => ?_⟩
      obtain ⟨v1, r, rfl, q1, q2⟩ := r1
      cases (show _ = _ from q1); cases (show _ = _ from q2)
      refine ⟨_, rfl, rgok_of hr, fun q hq => ?_⟩
      unfold rgV
      rw [Int.sub_zero]
      exact k W1 q _ e1 s1 hq (rpl_rg _ _ _ _) (by rw [List.length_map, List.length_range]; show _ ≤ 16777216; omega)
    · cases hf
  · cases hf
theorem pfn_listRg2 {f : FA} {p p2 pos pos2 : Pos} (hc : X.calm = true) (hg : Gl X "list") (hm : X.mg "list" = none) (hg2 : Gl X "range") (hm2 : X.mg "range" = none) (ha : PFA X [a, b] f)
    (hs : starEach [a, b] X.env = [(false, eval a X.env), (false, eval b X.env)] := by rfl) (hs2 : starEach [b] X.env = [(false, eval b X.env)] := by rfl) (na : starEach [Expr.Call (.Name "range" p2) [a, b] [] pos2] X.env = (false, eval (Expr.Call (.Name "range" p2) [a, b] [] pos2) X.env) :: starEach [] X.env := by rfl) :
    PFN X (.Call (.Name "list" p) [.Call (.Name "range" p2) [a, b] [] pos2] [] pos) (fLstRg2 f) := pe_weak (pe_listRg hc hg hm (prg_A2 hg2 hm2 ha hs hs2) na) fun σ H Q => by
  rintro ⟨W, ρ, M, rfl, sr, sl, xs, M', hf, k⟩
  obtain ⟨⟨x, M1⟩, hx, hf⟩ := Option.bind_eq_some_iff.mp hf
  dsimp only at hf
  split at hf
  · split at hf
    · rename_i hr
      cases hf
      have hr' := okR_ok hr
      refine ⟨W, ρ, M, rfl, sr, sl, _, _, hx, fun W1 v e1 s1 r1 => ?_⟩
      obtain ⟨v1, r, rfl, q1, v2, r', rfl, q2, q3⟩ := r1
      cases (show _ = _ from q1); cases (show _ = _ from q2); cases (show _ = _ from q3)
      refine ⟨_, _, rfl, rgok_of hr, fun q hq => ?_⟩
      exact k W1 q _ e1 s1 hq (rpl_rg _ _ _ _) (by rw [rgV_length]; show _ ≤ 16777216; omega)
    · cases hf
  · cases hf
end
end PF
namespace PF
open PySem PySem.Spec PyProof.Rows L2
/-! sorted(xs) of alike data, any number of them -/
def vsort (ys : List V) (ds : List PyData) : List V := ((ys.zip ds).mergeSort (PySem.W.dataLe false Prod.snd)).map Prod.fst
def rSortedDt (K : PySem.W.Frag) : List V → Hp → VK → Prop := fun vs H Q => ∃ (a : Addr) (ys : List V) (ds : List PyData), vs = [V.ref a] ∧ SqL K H a ys ∧ ds.length = ys.length ∧ DpAll K H ys ds ∧ PySem.W.AllAlike ds ∧ PySem.W.Sortable ds ∧ PyData.depthAll ds ≤ 60 ∧
  ∀ p, H p = none → Q (.ref p) (upd H p (.lst (vsort ys ds)))
theorem zip_each : ∀ {ys : List V} {its : List Value} {ds : List PyData}, Vals ys its → ds.length = ys.length → PySem.W.EachIs (fun (v : Value) (b : V × PyData) => RelV b.1 v) its (ys.zip ds)
  | [], _, [], r, _ => by cases r; exact .nil
  | [], _, _ :: _, _, h => by simp at h
  | _ :: _, _, [], _, h => by simp at h
  | y :: ys, _, d :: ds, r, h => by
    cases r with
    | cons r1 r2 => exact .cons r1 (zip_each r2 (by simpa using h))
theorem zip_snd : ∀ (ys : List V) (ds : List PyData), ds.length = ys.length → (ys.zip ds).map Prod.snd = ds
  | [], [], _ => rfl
  | [], _ :: _, h => by simp at h
  | _ :: _, [], h => by simp at h
  | y :: ys, d :: ds, h => by
    show d :: (ys.zip ds).map Prod.snd = _
    rw [zip_snd ys ds (by simpa using h)]
theorem depth_le : ∀ {ds : List PyData} {d : PyData}, d ∈ ds → d.depth ≤ PyData.depthAll ds
  | x :: ds, d, h => by
    rw [PyData.depthAll]
    rcases List.mem_cons.mp h with rfl | h
    · exact Nat.le_max_left _ _
    · exact Nat.le_trans (depth_le h) (Nat.le_max_right _ _)
theorem each_vals : ∀ {out : List Value} {bs : List (V × PyData)}, PySem.W.EachIs (fun (v : Value) (b : V × PyData) => RelV b.1 v) out bs → Vals (bs.map Prod.fst) out
  | _, _, .nil => .nil
  | _, _, .cons h t => .cons h (each_vals t)
theorem cr_sortedDt {X : Cx} (hu : X.A.units + 64 < cLine) : CallR X (.builtin "sorted") (rSortedDt X.K) := by
  intro pins s σ H vs us Q I r h
  obtain ⟨a, ys, ds, rfl, hs, hlen, hd, hal, hsb, hdp, q⟩ := h
  obtain ⟨its, rv, hl, hz⟩ := I.list hs
  rw [Vals.ref1 r]
  obtain ⟨as, hr⟩ := Dp.readsAll I ds ys its hd rv
  have e1 := zip_snd ys ds hlen
  have hzl : (ys.zip ds).length = ys.length := by rw [List.length_zip, hlen, Nat.min_self]
  have ez := zip_each rv hlen
  have er : PySem.W.EachIs (fun v (b : V × PyData) => ∃ as, Reads s.heap v (Prod.snd b) as) its (ys.zip ds) := PySem.W.readsAll_each Prod.snd (by rw [e1]; exact hr)
  refine PySem.W.sorted_data (enc := Prod.snd) hl.isList ez er (by rw [e1]; exact hal) (by rw [e1]; exact hsb) (by rw [hzl]; exact hz) (fun b hb => ?_) fun out ho hout => ?_
  · have hm : b.2 ∈ ds := by rw [← e1]; exact List.mem_map.mpr ⟨b, hb, rfl⟩
    have := depth_le hm
    omega
  · obtain ⟨n, hn⟩ := sortedAll_at s.heap its out.toArray
    refine ⟨.ref (s.heap.objs.size + 1), upd H (s.heap.objs.size + 1) (.lst (vsort ys ds)), I.laid (t' := s.toks) (fun b o e => sortedAll_old e) (Nat.le_succ _) ⟨?_, out, n, each_vals hout, hn⟩, rfl, q _ (I.hok.fresh (Nat.le_succ _))⟩
    unfold vsort
    rw [List.length_map, (List.mergeSort_perm _ _).length_eq, hzl]
    exact hz
def leD (a b : D) : Bool := PySem.W.dataLe false D.py a b
def sortD (xs : List D) : List D := xs.mergeSort leD
def srtb (xs : List D) : Bool := xs.all (fun d => match d with | .tup (_ :: _) => true | _ => false) || xs.all (fun d => match d with | .int _ => true | .str _ => true | .bl _ => true | _ => false)
def gSortD : GNN := fun ds M => match ds with
  | [d] => (lsOf d M).bind fun xs => if (okAl xs && srtb xs) = true then some (sortD xs) else none
  | _ => none
theorem pys_map : ∀ xs : List D, D.pys xs = xs.map D.py
  | [] => by rw [D.pys]; rfl
  | x :: xs => by rw [D.pys, pys_map xs]; rfl
theorem rpl_zip {K : PySem.W.Frag} {W : Wo} : ∀ {xs : List D} {vs : List V}, RpL K W xs vs → ∃ zs : List (D × V), xs = zs.map Prod.fst ∧ vs = zs.map Prod.snd ∧ ∀ z, z ∈ zs → Rp K W z.1 z.2
  | [], vs, h => ⟨[], rfl, (show vs = [] from h), fun z hz => nomatch hz⟩
  | x :: xs, vs, h => by
    obtain ⟨v, r, rfl, h1, h2⟩ := h
    obtain ⟨zs, e1, e2, e3⟩ := rpl_zip h2
    refine ⟨(x, v) :: zs, by rw [e1]; rfl, by rw [e2]; rfl, fun z hz => ?_⟩
    rcases List.mem_cons.mp hz with rfl | hz
    · exact h1
    · exact e3 z hz
theorem rpl_of {K : PySem.W.Frag} {W : Wo} : ∀ (zs : List (D × V)), (∀ z, z ∈ zs → Rp K W z.1 z.2) → RpL K W (zs.map Prod.fst) (zs.map Prod.snd)
  | [], _ => rfl
  | z :: zs, h => ⟨z.2, _, rfl, h z (by simp), rpl_of zs fun y hy => h y (List.mem_cons_of_mem _ hy)⟩
theorem zip_maps : ∀ zs : List (D × V), (zs.map Prod.snd).zip ((zs.map Prod.fst).map D.py) = zs.map fun z => (z.2, z.1.py)
  | [] => rfl
  | z :: zs => by
    show (z.2, z.1.py) :: (zs.map Prod.snd).zip ((zs.map Prod.fst).map D.py) = _
    rw [zip_maps zs]; rfl
theorem sort_rep {K : PySem.W.Frag} {W : Wo} {xs : List D} {vs : List V} (h : RpL K W xs vs) : RpL K W (sortD xs) (vsort vs (D.pys xs)) := by
  obtain ⟨zs, rfl, rfl, h3⟩ := rpl_zip h
  have a1 : sortD (zs.map Prod.fst) = (zs.mergeSort fun x y => leD x.1 y.1).map Prod.fst := (List.map_mergeSort (f := Prod.fst) (s := leD) (fun a _ b _ => rfl)).symm
  have a2 : vsort (zs.map Prod.snd) (D.pys (zs.map Prod.fst)) = (zs.mergeSort fun x y => leD x.1 y.1).map Prod.snd := by
    unfold vsort
    rw [pys_map, zip_maps]
    rw [← List.map_mergeSort (r := fun x y : D × V => leD x.1 y.1) (f := fun z : D × V => (z.2, z.1.py)) (s := PySem.W.dataLe false Prod.snd) (fun a _ b _ => rfl), List.map_map]
    rfl
  rw [a1, a2]
  exact rpl_of _ fun z hz => h3 z ((List.mergeSort_perm _ _).mem_iff.mp hz)
theorem srtb_ok {xs : List D} (h : srtb xs = true) : PySem.W.Sortable (D.pys xs) := by
  unfold srtb at h
  rw [Bool.or_eq_true] at h
  rcases h with h | h
  · refine .inl fun d hd => ?_
    obtain ⟨z, hz, rfl⟩ := pys_mem hd
    have := List.all_eq_true.mp h z hz
    match z, this with
    | .tup (x :: r), _ => exact ⟨x.py, D.pys r, by rw [D.py, D.pys]⟩
  · refine .inr fun d hd => ?_
    obtain ⟨z, hz, rfl⟩ := pys_mem hd
    have := List.all_eq_true.mp h z hz
    match z, this with
    | .int i, _ => exact ⟨by rw [D.py]; simp, fun xs => by rw [D.py]; simp⟩
    | .str i, _ => exact ⟨by rw [D.py]; simp, fun xs => by rw [D.py]; simp⟩
    | .bl i, _ => exact ⟨by rw [D.py]; simp, fun xs => by rw [D.py]; simp⟩
theorem okAl_ok {xs : List D} (h : okAl xs = true) : D.dps 59 xs = true ∧ PySem.W.AllAlike (D.pys xs) := by
  unfold okAl at h
  rw [Bool.and_eq_true, Bool.and_eq_true, Bool.and_eq_true] at h
  obtain ⟨⟨o1, o2⟩, o3, o4⟩ := h
  refine ⟨o2, fun a ha b hb => ?_⟩
  obtain ⟨a0, ha0, rfl⟩ := pys_mem ha
  obtain ⟨b0, hb0, rfl⟩ := pys_mem hb
  exact List.all_eq_true.mp (List.all_eq_true.mp o3 a0 ha0) b0 hb0
theorem o_sortD {K : PySem.W.Frag} : OpNN K (rSortedDt K) gSortD := by
  intro W M ds xs vs Q sr r hg k
  unfold gSortD at hg
  split at hg
  · obtain ⟨l, hl, hg⟩ := Option.bind_eq_some_iff.mp hg
    split at hg
    · rename_i ok
      cases hg
      rw [Bool.and_eq_true] at ok
      obtain ⟨o1, o2⟩ := okAl_ok ok.1
      obtain ⟨v, rfl, r1⟩ := rl1 r
      have hlen := ls_len sr r1 hl
      obtain ⟨p, us, rfl, h1, r2⟩ := ls_sq sr r1 hl
      have hll : (D.pys l).length = us.length := by rw [pys_map, List.length_map, r2.len]
      refine ⟨p, us, D.pys l, rfl, h1, hll, dp_Dps 59 l us o1 r2, o2, srtb_ok ok.2, by have := (dps_can 59 l o1).2; omega, fun q hq => ?_⟩
      have r3 := sort_rep r2
      refine k q _ hq r3 ?_
      rw [← r3.len]
      unfold sortD
      rw [(List.mergeSort_perm _ _).length_eq]
      exact hlen
    · cases hg
  · cases hg
/-! x < y of alike data -/
def rLtDt (K : PySem.W.Frag) (g : PyData → PyData → Bool) : R2 := fun x y H Q => ∃ d e, Dp K H x d ∧ Dp K H y e ∧ PySem.W.alike d e = true ∧ d ≠ .none ∧ d.depth ≤ 60 ∧ Q (.bl (g d e)) H
theorem op_ltDt {X : Cx} (hu : X.A.units + 64 < cLine) : OpR X (compareOp .Lt) (rLtDt X.K PySem.W.dataLt) := by
  intro pins s σ H x y v u Q I rx ry h
  obtain ⟨d, e, hd, he, ha, hn, hp, q⟩ := h
  obtain ⟨as, r1⟩ := Dp.reads I d x v hd rx
  obtain ⟨bs, r2⟩ := Dp.reads I e y u he ry
  exact PySem.W.lt_data r1 r2 ha hn (by have := Nat.min_le_left d.depth e.depth; omega) ⟨.bl _, H, I, rfl, q⟩
theorem op_gtDt {X : Cx} (hu : X.A.units + 64 < cLine) : OpR X (compareOp .Gt) (rLtDt X.K fun a b => PySem.W.dataLt b a) := by
  intro pins s σ H x y v u Q I rx ry h
  obtain ⟨d, e, hd, he, ha, hn, hp, q⟩ := h
  obtain ⟨as, r1⟩ := Dp.reads I d x v hd rx
  obtain ⟨bs, r2⟩ := Dp.reads I e y u he ry
  exact PySem.W.gt_data r1 r2 ha hn (by have := Nat.min_le_left d.depth e.depth; omega) ⟨.bl _, H, I, rfl, q⟩
def gCmpD (g : PyData → PyData → Bool) : G2B := fun x y M => match x.val M, y.val M with
  | some a, some b => if ((a.dp 60 && b.dp 60) && (PySem.W.alike a.py b.py && !isNn a)) = true then some (g a.py b.py) else none
  | _, _ => none
theorem o_cmpD {K : PySem.W.Frag} {g : PyData → PyData → Bool} : Op2 K (rLtDt K g) (gB (gCmpD g)) := by
  intro W M x y d v u Q sr rx ry hg k
  obtain ⟨t, ht, rfl⟩ := Option.map_eq_some_iff.mp hg
  unfold gCmpD at ht
  split at ht
  · rename_i a b ha hb
    split at ht
    · rename_i ok
      cases ht
      rw [Bool.and_eq_true, Bool.and_eq_true, Bool.and_eq_true] at ok
      obtain ⟨⟨o1, o2⟩, o3, o4⟩ := ok
      refine ⟨a.py, b.py, val_Rp sr rx ha o1, val_Rp sr ry hb o2, o3, ?_, (dp_can 60 a o1).2, k W _ (.refl W) sr rfl⟩
      cases a <;> simp [isNn, D.py, D.dp] at o4 o1 ⊢
    · cases ht
  · cases ht
/-! xs.index(y), xs changeable or not -/
def gIndexL : GM := fun x ds M => match ds with
  | [.int y] => (lsOf x M).bind fun xs => (intsOf xs).bind fun ns => (findI (fun z => decide (z = y)) ns).map fun (j : Nat) => (.int (j : Int), M)
  | _ => none
theorem o_indexL {K : PySem.W.Frag} : OpM K (rIndex K) gIndexL := by
  intro W M M' x d ds v vs Q sr rx r hg k
  unfold gIndexL at hg
  split at hg
  · rename_i y
    obtain ⟨xs, hx, hg⟩ := Option.bind_eq_some_iff.mp hg
    obtain ⟨ns, hn, hg⟩ := Option.bind_eq_some_iff.mp hg
    obtain ⟨j, hj, hg⟩ := Option.map_eq_some_iff.mp hg
    cases hg
    obtain ⟨u, rfl, r1⟩ := rl1 r
    cases (show _ = _ from r1)
    obtain ⟨z, h1, h2, h3⟩ := findI_ok hj
    obtain ⟨a, us, rfl, h4, r2⟩ := ls_sq sr rx hx
    have eus := intsOf_ok hn r2
    subst eus
    refine ⟨a, _, .int y, j, .int z, rfl, rfl, h4, rfl, ?_, ?_, ?_, fun m z' hm hz => ?_, k W _ (.refl W) sr rfl⟩
    · rw [List.all_map]
      exact List.all_eq_true.mpr fun _ _ => rfl
    · rw [List.getElem?_map, h1]; rfl
    · have : z = y := of_decide_eq_true h2
      subst this
      simp [eqV]
    · rw [List.getElem?_map] at hz
      obtain ⟨i, hi, rfl⟩ := Option.map_eq_some_iff.mp hz
      have := h3 m i hm hi
      have hne : i ≠ y := of_decide_eq_false this
      simp [eqV, hne]
  · cases hg
end PF
namespace PF
open PySem PySem.Spec PyProof.Rows L2
/-! set(list of ints), its table told -/
section
variable {P : Program} {w : World} {A : Around} {E : Value → Shared → Prop} {s : Shared}
/-- an empty set, as it is made -/
abbrev oE (w : World) : Obj := { cls := .type "set", dict := none, data := .set #[] 0 (.fresh 0 0 (!w.params.followText "set-order")) }
abbrev hE (w : World) (h : Heap) : Heap := h.push (oE w)
theorem hE_size (w : World) (h : Heap) : (hE w h).objs.size = h.objs.size + 1 := Heap.size_push ..
theorem call_set_lstI {l : Addr} {items : Array Value} (ns : List Int) {Q : Value → Shared → Prop} (hd : A.handled = none) (il : s.heap.IsList l items) (ii : IntsAre items.toList ns) (room : ns.length + 1 < scanBound)
    (q : ∀ (g : Heap) (tk c : Nat), SetR w g s.heap.objs.size (fun j => decide (j ∈ ns)) c → c ≤ ns.length → (∀ b o, s.heap.get? b = some o → g.get? b = some o) → Q (.ref s.heap.objs.size) { s with heap := g, toks := tk }) : wpAny (model P w) A (call (.type "set") [.ref l]) Q E s := by
  have isz : items.size = ns.length := by
    have z := ii.length
    simpa using z
  have ⟨cl, rest, mro⟩ := F.called_set.mro
  have made := F.called_set.made; have sub := F.called_set.sub
  refine wpAny_call (codeAny_of_tree (show wpAny _ _ (callAny (.type "set") _) _ _ _ from wpAny_pure ⟨Code.quiet_builtin _ (by decide +kernel), codeAny_builtin F.entry_type_call ?_⟩))
  rw [Around.under_plain (weight_type_call_type "set" [.ref l] []) rfl]
  have n1 := F.called_set.notType; have n2 := F.called_set.canCreate; have n3 := F.typeCall_set_1 (.ref l)
  repeat (any_goals (first | assumption | wp_step))
  refine codeAny_mono (code_set_led1 (.ref l) (E := E) (Q₁ := fun obj s₁ => obj = .ref s.heap.objs.size ∧ s₁ = { s with heap := hE w s.heap }) ⟨rfl, rfl⟩) fun r s₁ hr => ?_
  rcases r with e | fl
  · exact hr
  cases fl with
  | ret obj =>
    obtain ⟨rfl, rfl⟩ := hr
    have got : (hE w s.heap).get? s.heap.objs.size = some (oE w) := Heap.get?_push_size _ rfl
    have tis : Shared.TypeIs { s with heap := hE w s.heap } (.ref s.heap.objs.size) "set" := ⟨_, got, rfl⟩
    have i1 := F.called_set.init.lookup; have i2 := F.called_set.init.bind (.ref s.heap.objs.size)
    repeat (any_goals (first | assumption | wp_step))
    refine codeAny_mono (codeAny_call_builtin (R := wants (fun r s₂ => r = .none ∧ ∃ g tk c, s₂ = { s with heap := g, toks := tk } ∧ SetR w g s.heap.objs.size (fun j => decide (j ∈ ns)) c ∧ c ≤ ns.length ∧ ∀ b o, s.heap.get? b = some o → g.get? b = some o) E) F.called_set.init.plain F.entry_set_init (check_set_init_1 tis ?_)) fun r₂ s₂ hr₂ => ?_
    · obtain ⟨⟨k1, k2, k3, k4⟩, ho, hc, nl, hdt⟩ := il
      simp only at hc hdt
      subst hc hdt
      have ho2 : (hE w s.heap).get? l = some { cls := .type "list", dict := k2, data := .seq items nl, slots := k4 } := Heap.get?_push_of_some _ ho
      have s1 := F.sub_list_set; have s2 := F.sub_list_frozenset
      have s3 : (Value.type "list" == Value.type "dict") = false := by decide
      have il2 : (hE w s.heap).IsList l items := ⟨_, ho2, rfl, nl, rfl⟩
      unfold Builtin.«set.__init__» noKeywords Builtin.Frozenset.updateFrom
      generalize hit : pyIter = it
      wp_walk
      subst hit
      refine wpAny_pyIter_list il2 (wpAny_bind (wpAny_runValue ?_))
      have lt : l < s.heap.objs.size := Heap.lt_size ho
      have sz := hE_size w s.heap
      have hd3 : A.in1.in1.in1.handled = none := by simp [hd]
      have lI : l ≠ (hE w s.heap).objs.size := by rw [sz]; exact Nat.ne_of_lt (Nat.lt_succ_of_lt lt)
      have sI : s.heap.objs.size ∉ [(hE w s.heap).objs.size, l] := by
        rw [sz]
        simp only [List.mem_cons, List.not_mem_nil, or_false, not_or]
        exact ⟨Nat.ne_of_lt (Nat.lt_succ_self _), Nat.ne_of_gt lt⟩
      refine set_update_ints ((Walks.list hd3 _ l lI items).toS) s.heap.objs.size sI ns isz room (fun i v hv => ?_) (items.size - 0) 0 _ (by omega) (Nat.zero_le _) ⟨⟨_, Heap.get?_push_size _ rfl, rfl, rfl⟩, (il2.push _)⟩ ⟨0, Nat.le_refl 0, setR_new_at (Heap.get?_push_of_some _ got)⟩ fun s' c' hm hc' hS' => ?_
      · have lti : i < ns.length := by rw [← isz]; exact (Array.getElem?_eq_some_iff.mp hv).1
        obtain ⟨t, e⟩ := IntsAre.int_at ii i v (by rw [Array.getElem?_toList]; exact hv)
        exact ⟨ns[i], t, List.getElem?_eq_getElem lti, by rw [e, List.getD_eq_getElem?_getD, List.getElem?_eq_getElem lti] <;> rfl⟩
      · obtain ⟨g, g2, d', tk', os'⟩ := s'
        have eg : g2 = s.gens := hm.gens
        have ed : d' = s.drawn := hm.drawn
        have eo : os' = s.os := hm.os
        subst eg ed eo
        rw [isz] at hc'
        refine wpAny_pure (wpAny_pure ⟨rfl, g, tk', c', rfl, hS', hc', fun b o e => ?_⟩)
        have b0 : b < s.heap.objs.size := Heap.lt_size e
        refine hm.heap b o ?_ (Heap.get?_push_of_some _ (Heap.get?_push_of_some _ e))
        rw [sz]
        simp only [List.mem_cons, List.not_mem_nil, or_false, not_or]
        exact ⟨Nat.ne_of_lt b0, Nat.ne_of_lt (Nat.lt_succ_of_lt b0)⟩
    · rcases r₂ with e | fl₂
      · exact hr₂
      cases fl₂ with
      | ret r =>
        obtain ⟨rfl, g, tk, c', rfl, a1, a2, a3⟩ := hr₂
        repeat (any_goals (first | assumption | wp_step))
        exact q _ _ _ a1 a2 a3
      | _ => exact hr₂.elim
  | _ => exact hr.elim
end
/-! unlike ints, ascending -/
def dedS : List Int → List Int
  | [] => []
  | x :: xs => match dedS xs with
    | [] => [x]
    | y :: ys => if x = y then y :: ys else x :: y :: ys
theorem dedS_mem : ∀ (xs : List Int) (k : Int), k ∈ dedS xs ↔ k ∈ xs
  | [], k => by simp [dedS]
  | x :: xs, k => by
    have ih := dedS_mem xs k
    rw [List.mem_cons, ← ih, dedS]
    cases h : dedS xs with
    | nil => simp
    | cons y ys =>
      by_cases e : x = y
      · subst e; simp
      · simp [e]
theorem dedS_lt : ∀ {xs : List Int}, xs.Pairwise (· ≤ ·) → (dedS xs).Pairwise (· < ·)
  | [], _ => by simp [dedS]
  | x :: xs, h => by
    have ih := dedS_lt h.of_cons
    have m := dedS_mem xs
    rw [dedS]
    cases q : dedS xs with
    | nil => simp
    | cons y ys =>
      rw [q] at ih
      by_cases e : x = y
      · simp only [e, if_true]; exact ih
      · simp only [e, if_false]
        have hy : x < y := by
          have := List.rel_of_pairwise_cons h ((m y).mp (by rw [q]; simp))
          omega
        refine List.pairwise_cons.mpr ⟨fun z hz => ?_, ih⟩
        rcases List.mem_cons.mp hz with rfl | hz
        · exact hy
        · have := List.rel_of_pairwise_cons ih hz; omega
def sortU (ns : List Int) : List Int := dedS (sortI ns)
theorem sortU_lt (ns : List Int) : (sortU ns).Pairwise (· < ·) := dedS_lt (sortI_le ns)
theorem sortU_mem (ns : List Int) (k : Int) : k ∈ sortU ns ↔ k ∈ ns := (dedS_mem _ k).trans (sortI_perm ns).mem_iff
theorem lt_uniq : ∀ {a b : List Int}, a.Pairwise (· < ·) → b.Pairwise (· < ·) → (∀ k, k ∈ a ↔ k ∈ b) → a = b
  | [], [], _, _, _ => rfl
  | [], y :: b, _, _, h => absurd ((h y).mpr (by simp)) (by simp)
  | x :: a, [], _, _, h => absurd ((h x).mp (by simp)) (by simp)
  | x :: a, y :: b, ha, hb, h => by
    have e : x = y := by
      rcases List.mem_cons.mp ((h x).mp (by simp)) with e | hx
      · exact e
      · rcases List.mem_cons.mp ((h y).mpr (by simp)) with e | hy
        · exact e.symm
        · have h1 := List.rel_of_pairwise_cons ha hy
          have h2 := List.rel_of_pairwise_cons hb hx
          omega
    subst e
    rw [lt_uniq ha.of_cons hb.of_cons fun k => ?_]
    have hk := h k
    rw [List.mem_cons, List.mem_cons] at hk
    constructor
    · intro z
      have := List.rel_of_pairwise_cons ha z
      rcases hk.mp (.inr z) with e | e
      · omega
      · exact e
    · intro z
      have := List.rel_of_pairwise_cons hb z
      rcases hk.mpr (.inr z) with e | e
      · omega
      · exact e
theorem sortU_len (ns : List Int) : (sortU ns).length ≤ ns.length := by
  have : ∀ xs : List Int, (dedS xs).length ≤ xs.length := by
    intro xs
    induction xs with
    | nil => simp [dedS]
    | cons x xs ih =>
      rw [dedS]
      cases h : dedS xs with
      | nil => simp
      | cons y ys =>
        rw [h] at ih
        by_cases e : x = y <;> simp [e] at ih ⊢ <;> omega
  exact Nat.le_trans (this _) (Nat.le_of_eq (sortI_perm ns).length_eq)
theorem nodup_lt {a : List Int} (h : a.Pairwise (· < ·)) : a.Nodup := h.imp fun z => by omega
theorem nodup_len {a b : List Int} (ha : a.Nodup) (hb : b.Nodup) (h : ∀ k, k ∈ a ↔ k ∈ b) : a.length = b.length := (List.perm_ext_iff_of_nodup ha hb |>.mpr h).length_eq
/-- set of a list or a tuple of ints -/
def rSetI (K : PySem.W.Frag) (w : World) : List V → Hp → VK → Prop := fun xs H Q => ∃ (l : Addr) (ns : List Int), xs = [V.ref l] ∧ (SqL K H l (ns.map V.int) ∨ SqT K H l (ns.map V.int)) ∧ ns.length ≤ 4000 ∧
  ∀ a, H a = none → Q (.ref a) (upd H a (SetO w a (fun j => decide (j ∈ ns)) (sortU ns).length))
theorem cr_setI {X : Cx} (hc : X.calm = true) : CallR X (.type "set") (rSetI X.K X.w) := by
  intro pins s σ H xs us Q I r h
  obtain ⟨l, ns, rfl, hl, hn, q⟩ := h
  rw [Vals.ref1 r]
  have fin : ∀ (g : Heap) (tk c : Nat), SetR X.w g s.heap.objs.size (fun j => decide (j ∈ ns)) c → c ≤ ns.length → (∀ b o, s.heap.get? b = some o → g.get? b = some o) → _ := fun g tk c a1 a2 a3 => by
    have ec : c = (sortU ns).length := by
      obtain ⟨o, es, ep, t, _, _, _, _, nd, hm, _, _, hsz, _⟩ := a1
      have : (es.toList.map keyOf).length = (sortU ns).length := nodup_len nd (nodup_lt (sortU_lt ns)) fun k => by
        rw [← hm k, decide_eq_true_eq, sortU_mem]
      rw [← this, List.length_map, Array.length_toList]
      exact hsz.symm
    subst ec
    exact (⟨.ref s.heap.objs.size, upd H s.heap.objs.size (SetO X.w s.heap.objs.size (fun j => decide (j ∈ ns)) _), I.laid (t' := tk) a3 (Nat.le_refl _) (setO_new a1), rfl, q _ (I.hok.fresh (Nat.le_refl _))⟩ : ∃ v H', Inv X pins σ H' { s with heap := g, toks := tk } ∧ RelV v (.ref s.heap.objs.size) ∧ Q v H')
  rcases hl with hl | hl
  · obtain ⟨its, rv, pl, hz⟩ := I.list hl
    exact call_set_lstI ns (I.ok.hd hc) pl.isList (by simpa using ints_of_vals rv) (by unfold scanBound; omega) fin
  · obtain ⟨its, rv, pl, hz⟩ := I.tuple hl
    exact call_set_tupI ns (I.ok.hd hc) pl (by simpa using ints_of_vals rv) (by unfold scanBound; omega) fin
/-- len of a set of ints -/
def rLenS (w : World) : List V → Hp → VK → Prop := fun vs H Q => ∃ (a : Addr) (S : Int → Bool) (n : Nat), vs = [V.ref a] ∧ H a = some (SetO w a S n) ∧ Q (.int n) H
theorem cr_lenS {X : Cx} : CallR X (.builtin "len") (rLenS X.w) := by
  intro pins s σ H vs us Q I r h
  obtain ⟨a, S, n, rfl, ha, q⟩ := h
  obtain ⟨o, es, ep, t, ho, hex, hd, _, _, _, hb, hf, hsz, _⟩ := setO_get I ha
  rw [Vals.ref1 r]
  unfold scanBound at hb
  exact call_len_set ho hex hd hf (by omega) ⟨.int n, H, I.tok _, ⟨_, by rw [hsz]⟩, q⟩
def gSortU : GNN := fun ds M => match ds with
  | [d] => (sqOf d M).bind fun xs => (intsOf xs).bind fun ns => if ns.length < 64 then some ((sortU ns).map D.int) else none
  | _ => none
def gLenU : GN := fun ds M => match ds with
  | [d] => (sqOf d M).bind fun xs => (intsOf xs).bind fun ns => if ns.length ≤ 4000 then some (.int (sortU ns).length) else none
  | _ => none
theorem gSortU_ok {ds xs : List D} {M : Mem} (h : gSortU ds M = some xs) : ∃ d l ns, ds = [d] ∧ sqOf d M = some l ∧ intsOf l = some ns ∧ ns.length < 64 ∧ xs = (sortU ns).map D.int := by
  unfold gSortU at h
  split at h
  · obtain ⟨l, hl, h⟩ := Option.bind_eq_some_iff.mp h
    obtain ⟨ns, hn, h⟩ := Option.bind_eq_some_iff.mp h
    split at h
    · rename_i h64
      cases h
      exact ⟨_, l, ns, rfl, hl, hn, h64, rfl⟩
    · cases h
  · cases h
theorem gLenU_ok {ds : List D} {x : D} {M : Mem} (h : gLenU ds M = some x) : ∃ d l ns, ds = [d] ∧ sqOf d M = some l ∧ intsOf l = some ns ∧ ns.length ≤ 4000 ∧ x = .int (sortU ns).length := by
  unfold gLenU at h
  split at h
  · obtain ⟨l, hl, h⟩ := Option.bind_eq_some_iff.mp h
    obtain ⟨ns, hn, h⟩ := Option.bind_eq_some_iff.mp h
    split at h
    · rename_i h64
      cases h
      exact ⟨_, l, ns, rfl, hl, hn, h64, rfl⟩
    · cases h
  · cases h
section
variable {X : Cx} {e : Expr} {fa : FA} {p1 p2 pos1 pos : Pos}
theorem sqI {K : PySem.W.Frag} {W : Wo} {M : Mem} {d : D} {v : V} {xs : List D} {ns : List Int} (sr : SR K W M) (r : Rp K W d v) (hl : sqOf d M = some xs) (hn : intsOf xs = some ns) : ∃ l, v = V.ref l ∧ (SqL K W.H l (ns.map V.int) ∨ SqT K W.H l (ns.map V.int)) := by
  obtain ⟨l, us, rfl, h1, r2⟩ := sq_sq sr r hl
  have ee := intsOf_ok hn r2
  subst ee
  exact ⟨l, rfl, h1⟩
/-- sorted(set(xs)), of ints -/
theorem pfn_sortU (hgs : Gl X "sorted") (hms : X.mg "sorted" = none) (hg : Gl X "set") (hm : X.mg "set" = none) (ha : PFA X [e] fa) (hc : X.calm = true := by rfl)
    (he : starEach [e] X.env = (false, eval e X.env) :: starEach [] X.env := by rfl) (he2 : starEach [.Call (.Name "set" p2) [e] [] pos1] X.env = (false, eval (.Call (.Name "set" p2) [e] [] pos1) X.env) :: starEach [] X.env := by rfl)
    : PFN X (.Call (.Name "sorted" p1) [.Call (.Name "set" p2) [e] [] pos1] [] pos) (fBN gSortU fa) :=
  pe_weak (pe_callB (cr_sortedSet hc) hgs hms PyProof.Rows.boot_sorted (pa_cons (pe_callTy (cr_setI hc) hg hm PyProof.Rows.boot_set ha (by decide) (by decide) he (by rfl)) pa_nil he2) (by decide) (by decide) he2 (by rfl)) fun σ H Q => by
  rintro ⟨W, ρ, M, rfl, sr, sl, d, M', hf, k⟩
  obtain ⟨⟨ds, M1⟩, hx, hf⟩ := Option.bind_eq_some_iff.mp hf
  obtain ⟨d', hg, hf⟩ := Option.bind_eq_some_iff.mp hf
  cases hf
  refine ⟨W, ρ, M, rfl, sr, sl, ds, _, hx, fun W1 vs e1 s1 r1 => ?_⟩
  obtain ⟨d0, l, ns, rfl, hl, hn, h64, rfl⟩ := gSortU_ok hg
  obtain ⟨v, rfl, r2⟩ := rl1 r1
  obtain ⟨p, rfl, h1⟩ := sqI s1 r2 hl hn
  refine ⟨p, ns, rfl, h1, by omega, fun a ha => ?_⟩
  refine ⟨a, _, _, rfl, upd_same, Nat.lt_of_le_of_lt (sortU_len ns) h64, fun ns' q hlt hmem hlen hq => ?_⟩
  have ee : ns' = sortU ns := lt_uniq hlt (sortU_lt ns) fun k => by rw [hmem k, decide_eq_true_eq, sortU_mem]
  subst ee
  exact k (W1.put a _) q _ (e1.trans (Ext.put ha)) (s1.put ha) hq (rpl_ints _) (by rw [List.length_map]; have := sortU_len ns; show _ ≤ 16777216; omega)
/-- len(set(xs)), of ints -/
theorem pf_lenU (hgs : Gl X "len") (hms : X.mg "len" = none) (hg : Gl X "set") (hm : X.mg "set" = none) (ha : PFA X [e] fa) (hc : X.calm = true := by rfl)
    (he : starEach [e] X.env = (false, eval e X.env) :: starEach [] X.env := by rfl) (he2 : starEach [.Call (.Name "set" p2) [e] [] pos1] X.env = (false, eval (.Call (.Name "set" p2) [e] [] pos1) X.env) :: starEach [] X.env := by rfl)
    : PFE X (.Call (.Name "len" p1) [.Call (.Name "set" p2) [e] [] pos1] [] pos) (fB gLenU fa) :=
  pe_weak (pe_callB cr_lenS hgs hms boot_len (pa_cons (pe_callTy (cr_setI hc) hg hm PyProof.Rows.boot_set ha (by decide) (by decide) he (by rfl)) pa_nil he2) (by decide) (by decide) he2 (by rfl)) fun σ H Q => by
  rintro ⟨W, ρ, M, rfl, sr, sl, d, M', hf, k⟩
  obtain ⟨⟨ds, M1⟩, hx, hf⟩ := Option.bind_eq_some_iff.mp hf
  obtain ⟨d', hg, hf⟩ := Option.bind_eq_some_iff.mp hf
  cases hf
  refine ⟨W, ρ, M, rfl, sr, sl, ds, _, hx, fun W1 vs e1 s1 r1 => ?_⟩
  obtain ⟨d0, l, ns, rfl, hl, hn, h64, rfl⟩ := gLenU_ok hg
  obtain ⟨v, rfl, r2⟩ := rl1 r1
  obtain ⟨p, rfl, h1⟩ := sqI s1 r2 hl hn
  refine ⟨p, ns, rfl, h1, by omega, fun a ha => ?_⟩
  exact ⟨a, _, _, rfl, upd_same, k (W1.put a _) _ (e1.trans (Ext.put ha)) (s1.put ha) rfl⟩
end
end PF
namespace PF
open PySem PySem.Spec PyProof.Rows L2
/-! xs += ys, of lists -/
def gIExt : G2M := fun x y M => (mlOf x M).bind fun l => (ltOf y M).bind fun ys => if l.2.length + ys.length ≤ LINE then some (x, M.set l.1 (.lst (l.2 ++ ys))) else none
theorem o_iext {K : PySem.W.Frag} : Op2M K rExt2 gIExt := by
  intro W M M' x y d v u Q sr rx ry hg k
  obtain ⟨⟨n, xs⟩, hl, hg⟩ := Option.bind_eq_some_iff.mp hg
  obtain ⟨ys, hy, hg⟩ := Option.bind_eq_some_iff.mp hg
  split at hg
  · rename_i hz
    cases hg
    have rx0 := rx
    obtain ⟨a, ws, rfl, ha, hH, rw_, hlen⟩ := ml_ok sr rx hl
    obtain ⟨b, us, rfl, hB, ru⟩ := lt_sq sr ry hy
    have e := Ext.wr (W := W) (o := .lst (ws ++ us)) (List.mem_of_getElem? ha)
    exact ⟨a, b, ws, us, rfl, rfl, hH, hB, by rw [line_eq, ← rw_.len, ← ru.len]; exact hz, k _ _ e (sr.wr ha (rw_.append ru) (by rw [List.length_append, ← rw_.len, ← ru.len]; exact hz)) (rx0.ext e sr.sub)⟩
  · cases hg
end PF
namespace PF
open PySem PySem.Spec PyProof.Rows L2
/-! a tuple of targets for a list -/
def tTL (n : Nat) (t : FGs) : FG := fun d ρ => match d with | .lst xs => if xs.length = n then t xs ρ else none | _ => none
theorem pfg_lst {X : Cx} {vs : List Nat} {es : List Expr} {k : Nat} {t : FGs} {n : Nat} {pos : Pos} (hc : X.calm = true) (h : PFGs X vs es t) (hn : (assignEach es X.env).length = n := by rfl) (hst : (assignEach es X.env).findIdx? (·.1) = none := by rfl) : PFG X vs (.Tuple es k pos) (tTL n t) := pg_weak (pg_lst hc h hn hst) fun v σ H E => by
  rintro ⟨W, ρ, M, d, rfl, sr, sl, r, ρ', ht, k⟩
  unfold tTL at ht
  split at ht
  · split at ht
    · rename_i hl
      obtain ⟨a, vs, rfl, h1, q1⟩ := ls_sq sr r rfl
      exact ⟨a, vs, rfl, h1, by rw [← q1.len]; exact hl, W, ρ, M, _, rfl, sr, sl, q1, ρ', ht, k⟩
    · cases ht
  · cases ht
/-! tuple(range(..)) -/
def fTupRg1 (f : FA) : FE := fun ρ M => (f ρ M).bind fun a => match a.1 with | [.int j] => if okR 0 j then some (.tup (rgD 0 j.toNat), a.2) else none | _ => none
section
variable {X : Cx} {a : Expr}
theorem pf_tupRg1 {f : FA} {p p2 pos pos2 : Pos} (hc : X.calm = true) (hg : Gl X "tuple") (hm : X.mg "tuple" = none) (hg2 : Gl X "range") (hm2 : X.mg "range" = none) (ha : PFA X [a] f)
    (hs : starEach [a] X.env = [(false, eval a X.env)] := by rfl) (na : starEach [Expr.Call (.Name "range" p2) [a] [] pos2] X.env = (false, eval (Expr.Call (.Name "range" p2) [a] [] pos2) X.env) :: starEach [] X.env := by rfl) :
    PFE X (.Call (.Name "tuple" p) [.Call (.Name "range" p2) [a] [] pos2] [] pos) (fTupRg1 f) := pe_weak (pe_tupRg hc hg hm (prg_A1 hg2 hm2 ha hs) na) fun σ H Q => by
  rintro ⟨W, ρ, M, rfl, sr, sl, xs, M', hf, k⟩
  obtain ⟨⟨x, M1⟩, hx, hf⟩ := Option.bind_eq_some_iff.mp hf
  dsimp only at hf
  split at hf
  · split at hf
    · rename_i j hr
      cases hf
      refine ⟨W, ρ, M, rfl, sr, sl, _, _, hx, fun W1 v e1 s1 r1 => ?_⟩
      obtain ⟨v1, r, rfl, q1, q2⟩ := r1
      cases (show _ = _ from q1); cases (show _ = _ from q2)
      refine ⟨_, rfl, rgok_of hr, fun q hq => ?_⟩
      have e2 : rgV 0 j = (List.range j.toNat).map fun (i : Nat) => V.int (0 + i) := by
        unfold rgV; simp
      rw [e2]
      have hr2 := okR_ok hr
      exact k _ _ (e1.trans (Ext.put hq)) (s1.put hq) (.newTup s1 hq (rpl_rg X.K W1 0 (List.range j.toNat)) (by rw [List.length_map, List.length_range]; show _ ≤ 16777216; omega))
    · cases hf
  · cases hf
end
end PF
namespace PF
open PySem PySem.Spec PyProof.Rows L2
/-! a block of statements whose own new lists nobody changes behind it: they are frozen at its end -/
def frE (m : Nat) (M1 : Mem) : D → Option D
  | .ref j => if j < m then some (.ref j) else match M1[j]? with
    | some (.lst xs) => if D.nrs xs = true then some (.lst xs) else none
    | none => none
  | d => if d.nr = true then some d else none
def frL (m : Nat) (M1 : Mem) : List D → Option (List D)
  | [] => some []
  | d :: ds => (frE m M1 d).bind fun e => (frL m M1 ds).bind fun es => some (e :: es)
def frMs (m : Nat) (M1 : Mem) : Mem → Option Mem
  | [] => some []
  | .lst xs :: ms => (frL m M1 xs).bind fun ys => (frMs m M1 ms).bind fun ns => some (.lst ys :: ns)
def frS (m : Nat) (M1 : Mem) (ρ : Rho) : Rho := ρ.map fun o => o.bind fun d => frE m M1 d
def sBlk (f : FS) : FS := fun ρ M => (f ρ M).bind fun o => (frMs M.length o.2 (o.2.take M.length)).bind fun M' => match o.1 with
  | .nx ρ1 => some (.nx (frS M.length o.2 ρ1), M')
  | .bk ρ1 => some (.bk (frS M.length o.2 ρ1), M')
  | .ct ρ1 => some (.ct (frS M.length o.2 ρ1), M')
  | .ret d => (frE M.length o.2 d).bind fun e => some (.ret e, M')
def cutW (W : Wo) (m : Nat) : Wo := ⟨W.as.take m, fun a => W.bad a ∧ a ∉ W.as.drop m, W.H⟩
section
variable {K : PySem.W.Frag} {W W1 : Wo} {M M1 : Mem}
theorem frE_ok {m : Nat} {d e : D} {v : V} (s : SR K W1 M1) (r : Rp K W1 d v) (h : frE m M1 d = some e) : Rp K (cutW W1 m) e v := by
  have other : (if d.nr = true then some d else none) = some e → Rp K (cutW W1 m) e v := fun h => by
    split at h
    · rename_i hn
      cases h
      exact Rp.nr (W := W1) (W' := cutW W1 m) rfl (fun _ z => z.1) _ _ hn r
    · cases h
  cases d with
  | ref j =>
    have h : (if j < m then some (D.ref j) else match M1[j]? with
      | some (.lst xs) => if D.nrs xs = true then some (D.lst xs) else none
      | none => none) = some e := h
    obtain ⟨a, h1, rfl⟩ := r
    by_cases hj : j < m
    · rw [if_pos hj] at h
      cases h
      exact ⟨a, by show (W1.as.take m)[j]? = _; rw [List.getElem?_take_of_lt hj]; exact h1, rfl⟩
    · rw [if_neg hj] at h
      split at h
      · rename_i xs hx
        split at h
        · rename_i hn
          cases h
          obtain ⟨vs, q1, q2⟩ := s.obj j a _ h1 hx
          have hd : a ∈ W1.as.drop m := by
            have : (W1.as.drop m)[j - m]? = some a := by rw [List.getElem?_drop, show m + (j - m) = j by omega]; exact h1
            exact List.mem_of_getElem? this
          exact ⟨a, vs, rfl, ⟨⟨q1.1, fun z => z.2 hd⟩, q1.2⟩, RpL.nr (W := W1) (W' := cutW W1 m) rfl (fun _ z => z.1) _ _ hn q2⟩
        · cases h
      · cases h
  | non => exact other h
  | bl _ => exact other h
  | int _ => exact other h
  | str _ => exact other h
  | tup _ => exact other h
  | lst _ => exact other h
  | kst _ => exact other h
theorem frL_ok {m : Nat} (s : SR K W1 M1) : ∀ {ds es : List D} {vs : List V}, RpL K W1 ds vs → frL m M1 ds = some es → RpL K (cutW W1 m) es vs
  | [], _, _, r, h => by cases h; exact r
  | d :: ds, es, vs, r, h => by
    obtain ⟨v, w, rfl, r1, r2⟩ := r
    obtain ⟨e, h1, h⟩ := Option.bind_eq_some_iff.mp h
    obtain ⟨es', h2, h⟩ := Option.bind_eq_some_iff.mp h
    cases h
    exact ⟨v, w, rfl, frE_ok s r1 h1, frL_ok s r2 h2⟩
theorem frMs_at {m : Nat} : ∀ {ms ns : Mem}, frMs m M1 ms = some ns → ms.length = ns.length ∧ ∀ (n : Nat) (mo : MO), ns[n]? = some mo → ∃ xs ys, ms[n]? = some (.lst xs) ∧ mo = .lst ys ∧ frL m M1 xs = some ys
  | [], ns, h => by cases h; exact ⟨rfl, fun n mo h => by simp at h⟩
  | .lst xs :: ms, ns, h => by
    obtain ⟨ys, h1, h⟩ := Option.bind_eq_some_iff.mp h
    obtain ⟨ns', h2, h⟩ := Option.bind_eq_some_iff.mp h
    cases h
    obtain ⟨l, a⟩ := frMs_at h2
    refine ⟨by simp [l], fun n mo hn => ?_⟩
    cases n with
    | zero =>
      simp at hn
      exact ⟨xs, ys, rfl, hn.symm, h1⟩
    | succ n => exact a n mo (by simpa using hn)
theorem cut_ok {M' : Mem} (sr : SR K W M) (ex : Ext W W1) (s : SR K W1 M1) (h : frMs M.length M1 (M1.take M.length) = some M') : Ext W (cutW W1 M.length) ∧ SR K (cutW W1 M.length) M' := by
  obtain ⟨new, ea, fr⟩ := ex.as
  have hl := sr.len
  have ht : W1.as.take M.length = W.as := by rw [ea, ← hl, List.take_left]
  have hd : W1.as.drop M.length = new := by rw [ea, ← hl, List.drop_left]
  obtain ⟨l, at_⟩ := frMs_at h
  have hlen : (cutW W1 M.length).as.length = M'.length := by
    show (W1.as.take M.length).length = _
    rw [← l, ht, List.length_take, ← s.len, ea, List.length_append]
    omega
  refine ⟨⟨⟨[], by show W1.as.take M.length = _; rw [ht, List.append_nil], fun _ z => by simp at z⟩, fun a z => ⟨ex.bad a z, fun q => ?_⟩, fun a z => ex.new a z.1, ex.keep, ex.live⟩, ⟨hlen, ?_, fun a z => ?_, fun a z => s.bt a z.1, fun n a mo h1 h2 => ?_⟩⟩
  · rw [hd] at q
    obtain ⟨o, ho⟩ := sr.bt a z
    rw [fr a q] at ho; cases ho
  · show (W1.as.take M.length).Nodup
    rw [ht]; exact sr.nd
  · have z1 : a ∈ W.as := by rw [← ht]; exact z
    refine ⟨s.sub a (by rw [ea]; exact List.mem_append_left _ z1), fun q => ?_⟩
    rw [hd] at q
    obtain ⟨o, ho⟩ := sr.bt a (sr.sub a z1)
    rw [fr a q] at ho; cases ho
  · obtain ⟨xs, ys, g1, rfl, g2⟩ := at_ n mo h2
    have hn : n < M.length := by
      have := (List.getElem?_eq_some_iff.mp g1).1
      rw [List.length_take] at this; omega
    have h1' : W1.as[n]? = some a := by
      have : (W1.as.take M.length)[n]? = some a := h1
      rw [List.getElem?_take_of_lt hn] at this; exact this
    have g1' : M1[n]? = some (.lst xs) := by rw [List.getElem?_take_of_lt hn] at g1; exact g1
    obtain ⟨vs, q1, q2⟩ := s.obj n a _ h1' g1'
    exact ⟨vs, q1, frL_ok s q2 g2⟩
theorem frS_ok {m : Nat} {ρ : Rho} {σ : L2.St} (s : SR K W1 M1) (h : Sl K W1 ρ σ) : Sl K (cutW W1 m) (frS m M1 ρ) σ := by
  refine ⟨by unfold frS; rw [List.length_map]; exact h.len, fun i d hi => ?_⟩
  unfold frS at hi
  rw [List.getElem?_map] at hi
  cases q : ρ[i]? with
  | none => rw [q] at hi; cases hi
  | some o =>
    rw [q] at hi
    cases o with
    | none => cases hi
    | some d0 =>
      have hi2 : frE m M1 d0 = some d := by simpa using hi
      obtain ⟨v, h1, h2⟩ := h.at_ i d0 q
      exact ⟨v, h1, frE_ok s h2 hi2⟩
end
theorem pfss_blk {X : Cx} {ss : List Stmt} {f : FS} (h : PFSs X ss f) : PFSs X ss (sBlk f) := pss_weak h fun E σ H => by
  rw [liftS_iff, liftS_iff]
  rintro ⟨W, ρ, M, rfl, sr, sl, o', M', hf, k⟩
  obtain ⟨⟨o, M1⟩, hg, hf⟩ := Option.bind_eq_some_iff.mp hf
  obtain ⟨M2, hm, hf⟩ := Option.bind_eq_some_iff.mp hf
  refine ⟨W, ρ, M, rfl, sr, sl, o, M1, hg, ?_⟩
  cases o with
  | nx ρ1 =>
    cases hf
    intro W1 σ1 e1 s1 l1
    obtain ⟨c1, c2⟩ := cut_ok sr e1 s1 hm
    exact k (cutW W1 M.length) σ1 c1 c2 (frS_ok s1 l1)
  | bk ρ1 =>
    cases hf
    intro W1 σ1 e1 s1 l1
    obtain ⟨c1, c2⟩ := cut_ok sr e1 s1 hm
    exact k (cutW W1 M.length) σ1 c1 c2 (frS_ok s1 l1)
  | ct ρ1 =>
    cases hf
    intro W1 σ1 e1 s1 l1
    obtain ⟨c1, c2⟩ := cut_ok sr e1 s1 hm
    exact k (cutW W1 M.length) σ1 c1 c2 (frS_ok s1 l1)
  | ret d =>
    obtain ⟨e, he, hf⟩ := Option.bind_eq_some_iff.mp hf
    cases hf
    intro W1 v e1 s1 r1
    obtain ⟨c1, c2⟩ := cut_ok sr e1 s1 hm
    exact k (cutW W1 M.length) v c1 c2 (frE_ok s1 r1 he)
end PF
namespace PF
open PySem PySem.Spec PyProof.Rows L2
/-! t * 0 of a tuple -/
theorem mul_zero (l : Addr) (items : Array Value) (n : Nat) (dd : Option Addr) (sl : Array (Option Value)) (u : Tok) (he : items.isEmpty = false) :
    Meets (Builtin.«tuple.__mul__» ⟨[.ref l, .int 0 u], []⟩) (fun _ R s => s.heap.get? l = some { cls := .type "tuple", dict := dd, data := .seq items n, slots := sl } ∧
      R (.ok (.ret (Value.ref s.heap.objs.size))) { s with heap := s.heap.push { cls := Value.type "tuple", data := Data.seq #[] }, toks := s.toks }) :=
  .of_wp fun prog w A R s h => by
    obtain ⟨hp, g, d, tk, os⟩ := s
    obtain ⟨hl, h⟩ := h
    have f1 := AutoSeq1.idx_int
    have c1 : (items.isEmpty || (0 : Int) == 1) = false := by rw [he]; rfl
    have c2 : (decide ((0 : Int) ≤ 0) || items.isEmpty) = true := by simp
    wp_walk using wpAny_loadPart' hl
    repeat (first
      | (refine wpAny_ite_false (decide_eq_false (by decide)) ?_; wp_walk using wpAny_loadPart' hl)
      | (refine wpAny_ite_false (decide_eq_false (by rw [c1]; exact Bool.false_ne_true)) ?_; wp_walk using wpAny_loadPart' hl)
      | (refine wpAny_ite_true (decide_eq_true (by rw [c2])) ?_; wp_walk using wpAny_loadPart' hl))
    exact ⟨_, rfl, h⟩
def rRep0 (K : PySem.W.Frag) : R2 := fun x y H Q => ∃ l xs, x = .ref l ∧ y = .int 0 ∧ SqT K H l xs ∧ xs ≠ [] ∧ ∀ p, H p = none → Q (.ref p) (upd H p (.tup []))
theorem op_rep0 {X : Cx} : OpR X (binaryOp .Mult) (rRep0 X.K) := by
  intro pins s σ H x y v u Q I rx ry h
  obtain ⟨l, xs, rfl, rfl, hT, hne, q⟩ := h
  cases rx
  obtain ⟨t, rfl⟩ := ry
  obtain ⟨its, r, ⟨⟨cls, dd, data, sl⟩, ho, hc, n, hd⟩, hs⟩ := I.tuple hT
  simp only at hc hd
  subst hc hd
  have hle : its.length = xs.length := r.length.symm
  have hi : its.toArray.isEmpty = false := by
    cases its with
    | nil => exact absurd (List.eq_nil_of_length_eq_zero hle.symm) hne
    | cons a b => rfl
  refine wpAny_binaryOp_repeat_ref (T := "tuple") (U := "int") (by decide) ⟨_, ho, rfl⟩ (fun s' => typeIs_int s' 0 t) noFill_tuple_mul F.fills_int_mul F.slot_int_rmul repeat_tuple F.slot_int_index.lookup
    (call_meets F.slot_int_rmul (typeIs_int s 0 t) F.entry_int_rmul (F.args_int_rmul_2 _ _) (int_rmul_tuple 0 t l its.toArray n dd sl)
      ⟨ho, rfl, ⟨_, ho, rfl⟩, call_meets F.slot_tuple_mul ⟨_, ho, rfl⟩ F.entry_tuple_mul (F.args_tuple_mul_2 _ _) (mul_zero l its.toArray n dd sl t hi) ⟨ho, ?_⟩⟩)
  refine ⟨.ref s.heap.objs.size, _, I.laid (t' := s.toks) (o := .tup []) (fun b ob q => Heap.get?_push_of_some _ q) (Nat.le_refl _) ?_, rfl, q _ (I.hok.fresh (Nat.le_refl _))⟩
  exact ⟨Nat.zero_le _, _, (r.rep 0), IsTup.new _ _⟩
def rRepZ (K : PySem.W.Frag) : R2 := fun x y H Q => rRepA K x y H Q ∨ rRep0 K x y H Q
theorem op_repZ {X : Cx} : OpR X (binaryOp .Mult) (rRepZ X.K) := op_repTA.or op_rep0
def gRepZ : G2 := fun x y M => match x, y with
  | .tup xs, .int j => if j = 0 then (if xs.isEmpty = true then none else some (.tup [])) else gRepT x y M
  | _, _ => none
theorem o_repZ {K : PySem.W.Frag} : Op2 K (rRepZ K) gRepZ := by
  intro W M x y d v u Q sr rx ry hg k
  unfold gRepZ at hg
  split at hg
  · rename_i xs j
    split at hg
    · rename_i hj
      subst hj
      split at hg
      · cases hg
      · rename_i he
        cases hg
        cases (show _ = _ from ry)
        obtain ⟨p, vs, rfl, h1, r1⟩ := tp_sq rx
        have hl := r1.len
        have hne : vs ≠ [] := by
          rintro rfl
          have : xs = [] := List.eq_nil_of_length_eq_zero hl
          subst this
          exact he rfl
        refine .inr ⟨p, vs, rfl, rfl, h1, hne, fun t nt => ?_⟩
        exact k _ _ (Ext.put nt) (sr.put nt) (.newTup sr nt (r1.rep 0) (Nat.zero_le _))
    · exact .inl (o_repT W M _ _ d v u Q sr rx ry hg k)
  · cases hg
end PF
namespace PF
open PySem PySem.Spec PyProof.Rows L2
/-! sorted(xs), xs a tuple -/
section
variable {prog : Program} {w : World} {A : Around} {E : Value → Shared → Prop} {s : Shared} {β : Type} {bs : List β} {enc : β → PyData} {R : Value → β → Prop}
theorem collectT {l : Addr} {vs : List Value} {Q : List Value → Shared → Prop} (hl : s.heap.IsTuple l vs.toArray) (hsz : vs.length ≤ sizeLine) (h : Q vs { s with heap := (s.heap.push (seqObj "list" #[] 0)).update s.heap.objs.size (Obj.mapSeq (· ++ vs.toArray)) }) : wpAny (model prog w) A (collect (.ref l)) Q E s := by
  obtain ⟨o, ho, hc, n, hd⟩ := hl; unfold collect; refine wpAny_bind (wpAny_runValue (codeAny_builtin entry_proto_collect' ?_))
  show wpAny _ _ (do again (.builtin "list.__iadd__" ⟨[← newList [], .ref l], []⟩)) _ _ s; refine wpAny_bind (wpAny_newList (wpAny_pure ⟨Code.quiet_builtin _ (by decide +kernel), codeAny_builtin entry_list_iadd' ?_⟩))
  show wpAny _ _ (Builtin.List.listExtendWith (.ref s.heap.objs.size) (.ref l) (.ref s.heap.objs.size)) _ _ { s with heap := s.heap.push (seqObj "list" #[] 0) }; unfold Builtin.List.listExtendWith
  have hp : (s.heap.push (seqObj "list" #[] 0)).get? l = some o := Heap.get?_push_of_some _ ho
  refine wpAny_bind (wpAny_typeOf (T := "tuple") ⟨o, hp, hc⟩ ?_); rw [if_pos (by rw [show (Value.type "tuple" == Value.type "tuple") = true by rfl]; simp)]; refine wpAny_bind (listItems_at hp hd ?_)
  refine wpAny_bind (listItems_at (xs := #[]) (n := 0) (Heap.get?_push_size _ rfl) rfl ?_); rw [if_neg (by simp)]
  refine wpAny_bind (listUpdate_at (xs := #[]) (n := 0) (Heap.get?_push_size _ rfl) rfl ?_ (Nat.zero_le _) (by show (#[] ++ vs.toArray).size ≤ sizeLine + 1; simp only [Array.size_append, List.size_toArray, List.length_nil]; omega)); refine wpAny_pure ?_
  show wpAny (model prog w) A (do (match (← load s.heap.objs.size).data with | .seq xs _ => pure xs.toList | _ => unsupported "internal:collect")) Q E { s with heap := (s.heap.push (seqObj "list" #[] 0)).update s.heap.objs.size (Obj.mapSeq (· ++ vs.toArray)) }
  refine wpAny_bind (wpAny_load (get?_update_seq (Heap.get?_push_size _ rfl) _) ?_); show wpAny _ _ (pure ((#[] : Array Value) ++ vs.toArray).toList) Q E _
  rw [show ((#[] : Array Value) ++ vs.toArray).toList = vs by simp]; exact wpAny_pure h
theorem sorted_ofTup {l : Addr} {vs : List Value} {Q : Value → Shared → Prop} (ht : s.heap.IsTuple l vs.toArray) (e : PySem.W.EachIs R vs bs) (er : PySem.W.EachIs (fun v b => ∃ as, Reads s.heap v (enc b) as) vs bs) (hal : PySem.W.AllAlike (bs.map enc)) (hk : PySem.W.Sortable (bs.map enc)) (hL : bs.length ≤ sizeLine)
    (hu : ∀ b, b ∈ bs → A.units + 2 + (enc b).depth < cLine)
    (h : ∀ out, out.length = bs.length → PySem.W.EachIs R out (bs.mergeSort (PySem.W.dataLe false enc)) → Q (.ref (s.heap.objs.size + 1)) { s with heap := sortedAll s.heap vs (List.toArray out) }) :
    wpAny (model prog w) A (call (.builtin "sorted") [.ref l]) Q E s := by
  have hl2 : vs.length ≤ sizeLine := by rw [e.length]; exact hL
  have er' : PySem.W.EachIs (fun v b => ∃ as, Reads (PySem.W.sortingHeap (PySem.W.copyHeap s.heap vs) (s.heap.objs.size + 1) vs) v (enc b) as) vs bs := er.mono fun _ _ ⟨as, r⟩ => ⟨as, PyProof.Rows.Reads.keeps (fun _ _ => PySem.W.sorting_copy_old) r⟩
  have hz : ((s.heap.push (seqObj "list" #[] 0)).update s.heap.objs.size (Obj.mapSeq (· ++ vs.toArray))).objs.size = s.heap.objs.size + 1 := (Heap.size_update _ _ _).trans (size_push' _ _)
  refine PySem.Calls.call_function_entry kind_sorted plain_sorted entry_sorted (args_sorted1 _) ?_; unfold Builtin.«sorted»
  refine wpAny_bind (m := checkCount "sorted" 1 1 _) (wpAny_pure ?_); refine wpAny_bind (collectT ht hl2 ?_)
  refine wpAny_bind (wpAny_newList ?_ hl2); show wpAny _ _ _ _ _ { s with heap := PySem.W.copyHeap s.heap vs }
  rw [hz]; refine wpAny_bind (wpAny_holding (wpAny_call_entry slot_list_sort ⟨_, PySem.W.copyHeap_at s.heap vs, rfl⟩ entry_list_sort (PySem.W.list_sort_vals (s := { s with heap := PySem.W.copyHeap s.heap vs }) (κ := PySem.W.dataKind (PySem.W.sortingHeap (PySem.W.copyHeap s.heap vs) (s.heap.objs.size + 1) vs) (bs.map enc)) (PySem.W.copyHeap_at s.heap vs)
    (PySem.W.SortsAt.data (s := { s with heap := PySem.W.sortingHeap (PySem.W.copyHeap s.heap vs) (s.heap.objs.size + 1) vs }) (PySem.W.each_map (R := fun v d => ∃ as, Reads (PySem.W.sortingHeap (PySem.W.copyHeap s.heap vs) (s.heap.objs.size + 1) vs) v d as) enc er') hal hk (PySem.W.bound_map (A := A.in1.in1) hu)) hl2 ⟨_, rfl, ?_⟩) (args_list_sort _)))
  exact wpAny_pure ⟨_, rfl, h _ (by rw [PySem.W.sortVals_length false rfl]; exact e.length) (PySem.W.sortVals_data false e er' hal)⟩
end
def rSortedT (K : PySem.W.Frag) : List V → Hp → VK → Prop := fun vs H Q => ∃ (a : Addr) (ys : List V) (ds : List PyData), vs = [V.ref a] ∧ SqT K H a ys ∧ ds.length = ys.length ∧ DpAll K H ys ds ∧ PySem.W.AllAlike ds ∧ PySem.W.Sortable ds ∧ PyData.depthAll ds ≤ 60 ∧
  ∀ p, H p = none → Q (.ref p) (upd H p (.lst (vsort ys ds)))
theorem cr_sortedT {X : Cx} (hu : X.A.units + 64 < cLine) : CallR X (.builtin "sorted") (rSortedT X.K) := by
  intro pins s σ H vs us Q I r h
  obtain ⟨a, ys, ds, rfl, hs, hlen, hd, hal, hsb, hdp, q⟩ := h
  obtain ⟨its, rv, hl, hz⟩ := I.tuple hs
  rw [Vals.ref1 r]
  obtain ⟨as, hr⟩ := Dp.readsAll I ds ys its hd rv
  have e1 := zip_snd ys ds hlen
  have hzl : (ys.zip ds).length = ys.length := by rw [List.length_zip, hlen, Nat.min_self]
  have ez := zip_each rv hlen
  have er : PySem.W.EachIs (fun v (b : V × PyData) => ∃ as, Reads s.heap v (Prod.snd b) as) its (ys.zip ds) := PySem.W.readsAll_each Prod.snd (by rw [e1]; exact hr)
  refine sorted_ofTup (enc := Prod.snd) (show s.heap.IsTuple a its.toArray from hl) ez er (by rw [e1]; exact hal) (by rw [e1]; exact hsb) (by rw [hzl]; exact hz) (fun b hb => ?_) fun out ho hout => ?_
  · have hm : b.2 ∈ ds := by rw [← e1]; exact List.mem_map.mpr ⟨b, hb, rfl⟩
    have := depth_le hm
    omega
  · obtain ⟨n, hn⟩ := sortedAll_at s.heap its out.toArray
    refine ⟨.ref (s.heap.objs.size + 1), upd H (s.heap.objs.size + 1) (.lst (vsort ys ds)), I.laid (t' := s.toks) (fun b o q => sortedAll_old q) (Nat.le_succ _) ⟨?_, out, n, each_vals hout, hn⟩, rfl, q _ (I.hok.fresh (Nat.le_succ _))⟩
    have : (vsort ys ds).length = ys.length := by unfold vsort; rw [List.length_map, (List.mergeSort_perm _ _).length_eq, hzl]
    rw [this]; exact hz
theorem cr_sortedA {X : Cx} (hu : X.A.units + 64 < cLine) : CallR X (.builtin "sorted") (fun vs H Q => rSortedDt X.K vs H Q ∨ rSortedT X.K vs H Q) := by
  intro pins s σ H vs us Q I r h
  rcases h with h | h
  · exact cr_sortedDt hu pins s σ H vs us Q I r h
  · exact cr_sortedT hu pins s σ H vs us Q I r h
def gSortA : GNN := fun ds M => match ds with
  | [d] => (sqOf d M).bind fun xs => if (okAl xs && srtb xs) = true then some (sortD xs) else none
  | _ => none
theorem o_sortA {K : PySem.W.Frag} : OpNN K (fun vs H Q => rSortedDt K vs H Q ∨ rSortedT K vs H Q) gSortA := by
  intro W M ds xs vs Q sr r hg k
  unfold gSortA at hg
  split at hg
  · rename_i d
    have old : gSortD [d] M = some xs → rSortedDt K vs W.H Q ∨ rSortedT K vs W.H Q := fun hg => .inl (o_sortD W M [d] xs vs Q sr r hg k)
    cases d with
    | tup l =>
      have hg' : (if (okAl l && srtb l) = true then some (sortD l) else none) = some xs := hg
      split at hg'
      · rename_i ok
        cases hg'
        rw [Bool.and_eq_true] at ok
        obtain ⟨o1, o2⟩ := okAl_ok ok.1
        obtain ⟨v, rfl, r1⟩ := rl1 r
        have hz := sq_len sr r1 (xs := l) rfl
        obtain ⟨p, us, rfl, h1, r2⟩ := tp_sq r1
        have hlen : (D.pys l).length = us.length := by rw [pys_map, List.length_map]; exact r2.len
        refine .inr ⟨p, us, D.pys l, rfl, h1, hlen, dp_Dps 59 l us o1 r2, o2, srtb_ok ok.2, by have := (dps_can 59 l o1).2; omega, fun q hq => ?_⟩
        have r3 := sort_rep r2
        refine k q _ hq r3 ?_
        rw [← r3.len, show (sortD l).length = l.length from (List.mergeSort_perm _ _).length_eq]
        exact hz
      · cases hg'
    | _ => exact old hg
  · cases hg
/-! a tuple of targets, for a tuple or a list -/
def tTA (n : Nat) (t : FGs) : FG := fun d ρ => match d with
  | .lst xs => if xs.length = n then t xs ρ else none
  | d => tT n t d ρ
theorem pfg_any {X : Cx} {vs : List Nat} {es : List Expr} {k : Nat} {t : FGs} {n : Nat} {pos : Pos} (hc : X.calm = true) (h : PFGs X vs es t) (hn : (assignEach es X.env).length = n := by rfl) (hst : (assignEach es X.env).findIdx? (·.1) = none := by rfl) : PFG X vs (.Tuple es k pos) (tTA n t) := by
  refine ⟨fun pins s σ H v u Q I r hw => ?_⟩
  obtain ⟨W, ρ, M, d, hW, sr, sl, rp, ρ', ht, kk⟩ := hw
  have tup : tT n t d ρ = some ρ' → wpAny (model X.prog X.w) X.A (assign (.Tuple es k pos) X.env u) (fun _ s' => ∃ σ' H', Inv X pins σ' H' s' ∧ Q σ' H') X.xe s := fun ht => (pfg_tup hc h hn hst).run pins s σ H v u Q I r ⟨W, ρ, M, d, hW, sr, sl, rp, ρ', ht, kk⟩
  cases d with
  | lst xs => exact (pfg_lst hc h hn hst).run pins s σ H v u Q I r ⟨W, ρ, M, .lst xs, hW, sr, sl, rp, ρ', ht, kk⟩
  | _ => exact tup ht
/-! x -= y, x *= y of ints -/
def gISub : G2M := fun x y M => match x, y with
  | .int i, .int j => some (.int (i - j), M)
  | _, _ => none
theorem o_isub {K : PySem.W.Frag} : Op2M K (rI0 fun i j => .int (i - j)) gISub := by
  intro W M M' x y d v u Q sr rx ry hg k
  unfold gISub at hg
  split at hg
  · cases hg
    cases rx; cases ry
    exact ⟨_, _, rfl, rfl, k W _ (.refl W) sr rfl⟩
  · cases hg
def gIMul : G2M := fun x y M => match x, y with
  | .int i, .int j => if okMul i j = true then some (.int (i * j), M) else none
  | _, _ => none
theorem iop_imulA {X : Cx} : OpR X (inplaceOp .Mult) (rI IntMulOk fun i j => .int (i * j)) := opI fun _ _ _ _ _ _ _ hc q => imul_int q hc
theorem o_imul {K : PySem.W.Frag} : Op2M K (rI IntMulOk fun i j => .int (i * j)) gIMul := by
  intro W M M' x y d v u Q sr rx ry hg k
  unfold gIMul at hg
  split at hg
  · split at hg
    · rename_i h
      cases hg
      cases rx; cases ry
      exact ⟨_, _, rfl, rfl, okMul_ok h, k W _ (.refl W) sr rfl⟩
    · cases hg
  · cases hg
/-! xs * n of lists, as a new list -/
def gRep : D → D → Mem → Option (List D) := fun x y M => match y with
  | .int j => match ltOf x M with
    | some xs => if (decide (-(9223372036854775808) ≤ j) && (decide (j < 9223372036854775808) && decide (xs.length * j.toNat ≤ LINE))) = true then some (List.replicate j.toNat xs).flatten else none
    | none => none
  | _ => none
theorem pfn_rep {X : Cx} {a b : Expr} {fa fb : FE} {pos : Pos} (ha : PFE X a fa) (hb : PFE X b fb) : PFN X (.BinOp a .Mult b pos) (f2N gRep fa fb) := pe_weak (pe_op op_rep ha hb) fun σ H Q => by
  rintro ⟨W, ρ, M, rfl, sr, sl, d, M', hf, k⟩
  obtain ⟨⟨x, M1⟩, hx, hf⟩ := Option.bind_eq_some_iff.mp hf
  obtain ⟨⟨y, M2⟩, hy, hf⟩ := Option.bind_eq_some_iff.mp hf
  obtain ⟨z, hz, hf⟩ := Option.bind_eq_some_iff.mp hf
  cases hf
  refine ⟨W, ρ, M, rfl, sr, sl, x, M1, hx, fun W1 v e1 s1 r1 => ⟨W1, ρ, M1, rfl, s1, sl.ext e1 sr.sub, y, _, hy, fun W2 u e2 s2 r2 => ?_⟩⟩
  cases y with
  | int j =>
    change (match ltOf x _ with | some xs => if (decide (-(9223372036854775808) ≤ j) && (decide (j < 9223372036854775808) && decide (xs.length * j.toNat ≤ LINE))) = true then some (List.replicate j.toNat xs).flatten else none | none => none) = _ at hz
    split at hz
    · rename_i xs hp
      split at hz
      · rename_i h
        cases hz
        simp only [Bool.and_eq_true, decide_eq_true_eq] at h
        obtain ⟨p1, vs, rfl, h1, t1⟩ := lt_sq s2 (r1.ext e2 s1.sub) hp
        cases (show u = V.int j from r2)
        exact ⟨p1, j, vs, rfl, rfl, h1, h.1, h.2.1, by rw [line_eq, ← t1.len]; exact h.2.2, fun t nt => k W2 t _ (e1.trans e2) s2 nt (t1.rep _) (by rw [← (t1.rep _).len, PyProof.Rows.lm_len_rep_flat, Nat.mul_comm]; exact h.2.2)⟩
      · cases hz
    · cases hz
  | _ => cases hz
end PF
namespace PF
open PySem PySem.Spec PyProof.Rows L2
/-! a, b = xs, of a list that may be changeable -/
def sAsgL (f : FE) (n : Nat) (t : FGs) : FS := fun ρ M => (f ρ M).bind fun a => (lsOf a.1 a.2).bind fun xs => if xs.length = n then (t xs ρ).bind fun ρ' => some (.nx ρ', a.2) else none
theorem pfs_asgL {X : Cx} {e : Expr} {fe : FE} {es : List Expr} {kk : Nat} {tpos pos : Pos} {t : FGs} {vs : List Nat} {n : Nat} (hc : X.calm = true) (he : PFE X e fe) (h : PFGs X vs es t) (hn : (assignEach es X.env).length = n := by rfl) (hst : (assignEach es X.env).findIdx? (·.1) = none := by rfl)
    (hs : swapsWithSole [.Tuple es kk tpos] e pos.line X.env = pure false := by rfl) (hw : swappedStores [.Tuple es kk tpos] e X.env = pure none := by rfl) (h1 : (assignEach [.Tuple es kk tpos] X.env).map (·.2) = [assign (.Tuple es kk tpos) X.env] := by rfl) :
    PFS X (.Assign [.Tuple es kk tpos] e pos) (sAsgL fe n t) := ps_weak (ps_asg he (pg_lst hc h hn hst) hs hw h1) fun E σ H => by
  rw [liftS_iff]
  rintro ⟨W, ρ, M, rfl, sr, sl, o, M', hf, k⟩
  obtain ⟨⟨x, M1⟩, hx, hf⟩ := Option.bind_eq_some_iff.mp hf
  obtain ⟨xs, hxs, hf⟩ := Option.bind_eq_some_iff.mp hf
  split at hf
  · rename_i hl
    obtain ⟨ρ', ht, hf⟩ := Option.bind_eq_some_iff.mp hf
    cases hf
    refine ⟨W, ρ, M, rfl, sr, sl, x, _, hx, fun W1 v e1 s1 r1 => ?_⟩
    obtain ⟨a, us, rfl, q1, q2⟩ := ls_sq s1 r1 hxs
    exact ⟨a, us, rfl, q1, by rw [← q2.len]; exact hl, W1, ρ, _, xs, rfl, s1, sl.ext e1 sr.sub, q2, ρ', ht, fun W2 σ2 e2 s2 l2 _ => k W2 σ2 (e1.trans e2) s2 l2⟩
  · cases hf
end PF
namespace PF
open PySem PySem.Spec PyProof.Rows L2
/-! x <= y, x >= y of alike data -/
theorem op_leDt {X : Cx} (hu : X.A.units + 64 < cLine) : OpR X (compareOp .LtE) (rLtDt X.K fun a b => !PySem.W.dataLt b a) := by
  intro pins s σ H x y v u Q I rx ry h
  obtain ⟨d, e, hd, he, ha, hn, hp, q⟩ := h
  obtain ⟨as, r1⟩ := Dp.reads I d x v hd rx
  obtain ⟨bs, r2⟩ := Dp.reads I e y u he ry
  exact PySem.W.le_data r1 r2 ha hn (by have := Nat.min_le_left d.depth e.depth; omega) ⟨.bl _, H, I, rfl, q⟩
theorem op_geDt {X : Cx} (hu : X.A.units + 64 < cLine) : OpR X (compareOp .GtE) (rLtDt X.K fun a b => !PySem.W.dataLt a b) := by
  intro pins s σ H x y v u Q I rx ry h
  obtain ⟨d, e, hd, he, ha, hn, hp, q⟩ := h
  obtain ⟨as, r1⟩ := Dp.reads I d x v hd rx
  obtain ⟨bs, r2⟩ := Dp.reads I e y u he ry
  exact PySem.W.ge_data r1 r2 ha hn (by have := Nat.min_le_left d.depth e.depth; omega) ⟨.bl _, H, I, rfl, q⟩
/-! o[i] op= e, o a list -/
def rLGet (K : PySem.W.Frag) : V → V → Hp → VK → Prop := fun o i H Q => ∃ p xs k z, o = .ref p ∧ i = .int k ∧ SqL K H p xs ∧ L2.atI xs k = some z ∧ Q z H
theorem get_listG {X : Cx} : PGet X (rLGet X.K) := by
  intro pins s σ H o i ov iv Q I ro ri h
  obtain ⟨p, xs, k, z, rfl, rfl, hq, he, q⟩ := h
  cases ro
  obtain ⟨t, rfl⟩ := ri
  obtain ⟨its, r, pl, hz⟩ := I.list hq
  obtain ⟨j, h1, h2, h3, h4, h5⟩ := atI_get he
  obtain ⟨w, ew, rw'⟩ := r.get h2
  have hl := r.length
  have hn := line63
  have fin : EP X pins σ Q w s := ⟨z, H, I, rw', q⟩
  by_cases h0 : 0 ≤ k
  · have hj : k.toNat = j := by
      rw [seqIndex_of h0 h5] at h1
      exact Option.some.inj h1
    exact wpAny_getItem_list pl.isList h0 (by omega) (by rw [hj]; simpa using ew) fin
  · have hj : (k + (its.toArray.size : Int)).toNat = j := by
      rw [seqIndex_neg (by omega) h4] at h1
      rw [List.size_toArray, ← hl]
      exact Option.some.inj h1
    exact wpAny_getItem_list_neg pl.isList (by omega) (by rw [List.size_toArray] <;> omega) (by omega) (by rw [hj]; simpa using ew) fin
def sAugIx (g : G2M) (fo fi fe : FE) : FS := fun ρ M => (fo ρ M).bind fun o => (fi ρ o.2).bind fun i => match i.1 with
  | .int k => (lsOf o.1 i.2).bind fun l => (L2.atI l k).bind fun x => (fe ρ i.2).bind fun y => (g x y.1 y.2).bind fun z => (mlOf o.1 z.2).bind fun l2 => (ixN l2.2.length k).bind fun j => some (.nx ρ, z.2.set l2.1 (.lst (l2.2.set j z.1)))
  | _ => none
theorem pfs_augIx {X : Cx} {e o i : Expr} {fe fo fi : FE} {op : Operator} {r : R2} {g : G2M} {tpos pos : Pos} (he : PFE X e fe) (ho : PFE X o fo) (hi : PFE X i fi) (hp : OpR X (inplaceOp op) r) (og : Op2M X.K r g)
    (ha : ∀ ov iv new, augStore i ov iv new = (do holding [new, ov, iv] (setItem ov iv new); release [new, ov, iv] []; pure .next) := by intros; rfl) : PFS X (.AugAssign (.Subscript o i tpos) op e pos) (sAugIx g fo fi fe) :=
  ps_weak (ps_augS (tip := r) ho hi get_listG he hp set_list ha) fun E σ H => by
    rw [liftS_iff]
    rintro ⟨W, ρ, M, rfl, sr, sl, o', M', hf, k⟩
    obtain ⟨⟨x, M1⟩, hx, hf⟩ := Option.bind_eq_some_iff.mp hf
    obtain ⟨⟨y, M2⟩, hy, hf⟩ := Option.bind_eq_some_iff.mp hf
    dsimp only at hf
    split at hf
    · obtain ⟨xs, hl, hf⟩ := Option.bind_eq_some_iff.mp hf
      obtain ⟨a, hat, hf⟩ := Option.bind_eq_some_iff.mp hf
      obtain ⟨⟨v, M3⟩, hv, hf⟩ := Option.bind_eq_some_iff.mp hf
      obtain ⟨⟨z, M4⟩, hz, hf⟩ := Option.bind_eq_some_iff.mp hf
      obtain ⟨⟨n, ys⟩, hl2, hf⟩ := Option.bind_eq_some_iff.mp hf
      obtain ⟨j, hj, hf⟩ := Option.bind_eq_some_iff.mp hf
      cases hf
      refine ⟨W, ρ, M, rfl, sr, sl, x, M1, hx, fun W1 ov e1 s1 r1 => ⟨W1, ρ, M1, rfl, s1, sl.ext e1 sr.sub, _, M2, hy, fun W2 iv e2 s2 r2 => ?_⟩⟩
      cases (show _ = _ from r2)
      obtain ⟨p, vs, rfl, hsq, rvs⟩ := ls_sq s2 (r1.ext e2 s1.sub) hl
      obtain ⟨w, hw, rw_⟩ := rvs.atI hat
      refine ⟨p, vs, _, w, rfl, rfl, hsq, hw, W2, ρ, M2, rfl, s2, sl.ext (e1.trans e2) sr.sub, v, M3, hv, fun W3 vv e3 s3 r3 => ?_⟩
      refine og W3 M3 M4 a v z w vv _ s3 (rw_.ext e3 s2.sub) r3 hz fun W4 zv e4 s4 r4 => ?_
      obtain ⟨p', ws, ep, ha', hH, rw2, hlen⟩ := ml_ok s4 (r1.ext (e2.trans (e3.trans e4)) s1.sub) hl2
      cases ep
      have e5 := Ext.wr (W := W4) (o := .lst (ws.set j zv)) (List.mem_of_getElem? ha')
      have e15 := ((e1.trans e2).trans (e3.trans e4)).trans e5
      exact ⟨p, ws, _, j, rfl, rfl, hH, by rw [← rw2.len]; exact hj, k _ σ e15 (s4.wr ha' (rw2.set j r4) (by rw [List.length_set]; exact hlen)) (sl.ext e15 sr.sub)⟩
    · cases hf
/-! max, min of three -/
def gMax3 : List D → Mem → Option D := fun xs _ => match xs with | [.int i, .int j, .int k] => some (.int (max (max i j) k)) | _ => none
def gMin3 : List D → Mem → Option D := fun xs _ => match xs with | [.int i, .int j, .int k] => some (.int (min (min i j) k)) | _ => none
theorem rl3 {K : PySem.W.Frag} {W : Wo} {d e f : D} {vs : List V} (h : RpL K W [d, e, f] vs) : ∃ v u w, vs = [v, u, w] ∧ Rp K W d v ∧ Rp K W e u ∧ Rp K W f w := by
  obtain ⟨v, r, rfl, h1, h2⟩ := h
  obtain ⟨u, w, rfl, h3, h4⟩ := rl2 h2
  exact ⟨v, u, w, rfl, h1, h3, h4⟩
theorem o_max3 {K : PySem.W.Frag} : OpN K (rNuC3 nuMax3) gMax3 := by
  intro W M ds d vs Q sr r hg k
  unfold gMax3 at hg
  split at hg
  · rename_i i j l
    cases hg
    obtain ⟨v, u, w, rfl, r1, r2, r3⟩ := rl3 r
    cases (show _ = _ from r1); cases (show _ = _ from r2); cases (show _ = _ from r3)
    refine ⟨.int i, .int j, .int l, .int (max (max i j) l), rfl, ?_, k W _ (.refl W) sr rfl⟩
    show ((some (decide (i < j))).map fun c => if c = true then V.int j else V.int i).bind (fun m => nuMax2 m (.int l)) = _
    by_cases h1 : i < j
    · simp only [h1, decide_true, Option.map_some, if_true, Option.bind_some]
      show (some (decide (j < l))).map _ = _
      by_cases h2 : j < l
      · simp only [h2, decide_true, Option.map_some, if_true]; congr 2; omega
      · simp only [h2, decide_false, Option.map_some, Bool.false_eq_true, if_false]; congr 2; omega
    · simp only [h1, decide_false, Option.map_some, Bool.false_eq_true, if_false, Option.bind_some]
      show (some (decide (i < l))).map _ = _
      by_cases h2 : i < l
      · simp only [h2, decide_true, Option.map_some, if_true]; congr 2; omega
      · simp only [h2, decide_false, Option.map_some, Bool.false_eq_true, if_false]; congr 2; omega
  · cases hg
theorem o_min3 {K : PySem.W.Frag} : OpN K (rNuC3 nuMin3) gMin3 := by
  intro W M ds d vs Q sr r hg k
  unfold gMin3 at hg
  split at hg
  · rename_i i j l
    cases hg
    obtain ⟨v, u, w, rfl, r1, r2, r3⟩ := rl3 r
    cases (show _ = _ from r1); cases (show _ = _ from r2); cases (show _ = _ from r3)
    refine ⟨.int i, .int j, .int l, .int (min (min i j) l), rfl, ?_, k W _ (.refl W) sr rfl⟩
    show ((some (decide (j < i))).map fun c => if c = true then V.int j else V.int i).bind (fun m => nuMin2 m (.int l)) = _
    by_cases h1 : j < i
    · simp only [h1, decide_true, Option.map_some, if_true, Option.bind_some]
      show (some (decide (l < j))).map _ = _
      by_cases h2 : l < j
      · simp only [h2, decide_true, Option.map_some, if_true]; congr 2; omega
      · simp only [h2, decide_false, Option.map_some, Bool.false_eq_true, if_false]; congr 2; omega
    · simp only [h1, decide_false, Option.map_some, Bool.false_eq_true, if_false, Option.bind_some]
      show (some (decide (l < i))).map _ = _
      by_cases h2 : l < i
      · simp only [h2, decide_true, Option.map_some, if_true]; congr 2; omega
      · simp only [h2, decide_false, Option.map_some, Bool.false_eq_true, if_false]; congr 2; omega
  · cases hg
/-! insert, remove -/
abbrev rInsert : V → List V → Hp → VK → Prop := fun x vs H Q => ∃ (l : Addr) (xs : List V) (i : Int) (y : V), x = .ref l ∧ vs = [.int i, y] ∧ H l = some (.lst xs) ∧ xs.length < sizeLine ∧ 0 ≤ i ∧ i < 2 ^ 63 ∧
    Q .non (upd H l (.lst (xs.take i.toNat ++ [y] ++ xs.drop i.toNat)))
theorem mt_insertA {X : Cx} : MtR X "list.insert" rInsert := mt_insert
def gInsert : GM := fun x ds M => match ds with
  | [.int i, d] => (mlOf x M).bind fun l => if decide (l.2.length < LINE) && (decide (0 ≤ i) && decide (i < 1000000000)) then some (.non, M.set l.1 (.lst (l.2.take i.toNat ++ [d] ++ l.2.drop i.toNat))) else none
  | _ => none
theorem o_insert {K : PySem.W.Frag} : OpM K rInsert gInsert := by
  intro W M M' x d ds v vs Q sr rx r hg k
  unfold gInsert at hg
  split at hg
  · rename_i i e
    obtain ⟨⟨n, xs⟩, hl, hg⟩ := Option.bind_eq_some_iff.mp hg
    dsimp only at hg
    split at hg
    · rename_i hc
      simp only [Bool.and_eq_true, decide_eq_true_eq] at hc
      cases hg
      obtain ⟨u1, u2, rfl, r1, r2⟩ := rl2 r
      cases (show _ = _ from r1)
      obtain ⟨a, ws, rfl, ha, hH, rw_, hlen⟩ := ml_ok sr rx hl
      have hn : (xs.take i.toNat ++ [e] ++ xs.drop i.toNat).length = xs.length + 1 := by
        rw [List.length_append, List.length_append, List.length_take, List.length_drop, List.length_singleton]; omega
      refine ⟨a, ws, i, u2, rfl, rfl, hH, by rw [line_eq, ← rw_.len]; exact hc.1, hc.2.1, by omega, ?_⟩
      have rr := ((rw_.take i.toNat).append (.one r2)).append (rw_.drop i.toNat)
      exact k _ _ (Ext.wr (List.mem_of_getElem? ha)) (sr.wr ha rr (by rw [← rr.len, hn]; have := hc.1; show _ ≤ 16777216; have : LINE = 16777216 := rfl; omega)) rfl
    · cases hg
  · cases hg
def gRemove : GM := fun x ds M => match ds with
  | [.int y] => (mlOf x M).bind fun l => (intsOf l.2).bind fun ns => (findI (fun z => decide (z = y)) ns).map fun (j : Nat) => (.non, M.set l.1 (.lst (l.2.eraseIdx j)))
  | _ => none
end PF
namespace HT
open PySem PySem.Spec PyProof.Rows
section
variable {prog : Program} {w : World} {A : Around} {E : Value → Shared → Prop} {s : Shared}
theorem sliceApplied_rev {sl : Addr} {vs : Value} {n : Nat} {Q : Int × Int × Nat → Shared → Prop} (hs : s.heap.IsSliceOf sl .none .none vs) (ps : IsPart vs (some (-1)))
    (h : Q ((n : Int) - 1, -1, n) s) : wpAny (model prog w) A (Builtin.Slice.sliceApplied (.ref sl) (pure (n : Int))) Q E s := by
  obtain ⟨os, hos, hcs, hds⟩ := id hs
  unfold Builtin.Slice.sliceApplied Builtin.Slice.sliceFields
  refine wpAny_bind (wpAny_bind (wpAny_field hos hds (x := .none) rfl (wpAny_bind (wpAny_field hos hds (x := .none) rfl (wpAny_bind (wpAny_field hos hds (x := vs) rfl (wpAny_pure ?_)))))))
  refine wpAny_bind (slicePart_ ps ?_)
  show wpAny _ _ (if ((-1 : Int) == 0) = true then _ else _) _ _ s
  rw [if_neg (by decide)]
  refine wpAny_bind (slicePart_ .none (wpAny_bind (slicePart_ .none (wpAny_bind (wpAny_pure ?_)))))
  show wpAny _ _ (pure ((n : Int) - 1, (-1 : Int), Builtin.Slice.slicePlaces ((n : Int) - 1) (-1) (-1))) _ _ s
  have e : Builtin.Slice.slicePlaces ((n : Int) - 1) (-1) (-1) = n := by
    unfold Builtin.Slice.slicePlaces
    rw [if_neg (by decide)]
    rw [show (-(-1) : Int) = 1 by decide, Int.ediv_one]
    split <;> omega
  rw [e]
  exact wpAny_pure h
theorem pick_rev (xs : Array Value) : ((List.range xs.size).filterMap fun (m : Nat) => xs[(((xs.size : Int) - 1) + (m : Int) * (-1)).toNat]?).toArray = xs.toList.reverse.toArray := by
  congr 1
  apply List.ext_getElem?
  intro i
  have fc : ∀ (l : List Nat) (f : Nat → Option Value) (g : Nat → Value), (∀ m ∈ l, f m = some (g m)) → l.filterMap f = l.map g := by
    intro l f g
    induction l with
    | nil => intro _; rfl
    | cons m l ih => intro h; rw [List.filterMap_cons, h m (by simp), List.map_cons, ih fun k hk => h k (List.mem_cons_of_mem _ hk)]
  have e : (List.range xs.size).filterMap (fun (m : Nat) => xs[(((xs.size : Int) - 1) + (m : Int) * (-1)).toNat]?) = (List.range xs.size).map fun m => xs.toList.reverse.getD m .none := by
    refine fc _ _ _ fun m hm => ?_
    have hm' := List.mem_range.mp hm
    have : (((xs.size : Int) - 1) + (m : Int) * (-1)).toNat = xs.size - 1 - m := by omega
    rw [this]
    rw [List.getD_eq_getElem?_getD, List.getElem?_reverse (by simpa using hm')]
    have h2 : xs.size - 1 - m < xs.size := by omega
    simp [h2]
  rw [e, List.getElem?_map]
  by_cases hi : i < xs.size
  · rw [List.getElem?_range hi, List.getElem?_eq_getElem (by simpa using hi)]
    simp [List.getD_eq_getElem?_getD, hi]
  · rw [List.getElem?_eq_none (by simpa using hi), List.getElem?_eq_none (by simpa using hi)]; rfl
theorem getItem_tuple_rev {t sl : Addr} {items : Array Value} {vs : Value} {Q : Value → Shared → Prop} (ht : IsTup s.heap t items) (hs : s.heap.IsSliceOf sl .none .none vs) (ps : IsPart vs (some (-1)))
    (h : Q (.ref s.heap.objs.size) { s with heap := s.heap.push { cls := .type "tuple", data := .seq items.toList.reverse.toArray } })
    (hsz : items.size ≤ sizeLine) : wpAny (model prog w) A (getItem (.ref t) (.ref sl)) Q E s := by
  have htake : sizeOk (.seq items.toList.reverse.toArray) := by
    show items.toList.reverse.toArray.size ≤ sizeLine
    rw [List.size_toArray, List.length_reverse, Array.length_toList]
    exact hsz
  obtain ⟨os, hos, hcs, hds⟩ := id hs
  have hTs : s.TypeIs (.ref sl) "slice" := ⟨os, hos, hcs⟩
  unfold getItem
  try with_reducible refine wpAny_holding ?_
  first | refine wpAny_bind (wpAny_pure ?_) | skip
  refine wpAny_bind (wpAny_sequenceKey ht.typeIs (by decide) ?_)
  refine wpAny_bind (wpAny_callSpecial?_slot (name := Str.ofString "__getitem__") ht.typeIs PyProof.Rows.slot_tuple_getitem
    (wpAny_call_entry PyProof.Rows.slot_tuple_getitem ht.typeIs entry_tuple_getitem ?_ (args_tuple_getitem _ _)))
  show wpAny _ _ (Builtin.Tuple.tupleItemsOf (.ref t) >>= _) _ _ s
  refine wpAny_bind (tupleItemsOf_ ht ?_)
  refine wpAny_bind (wpAny_typeOf hTs ?_)
  rw [if_pos (by decide)]
  refine wpAny_bind (sliceApplied_rev hs ps ?_)
  have hno : ¬ ((((items.size : Int) - 1) == 0 && (-1 : Int) == 1 && items.size == items.size) = true) := by
    rw [show ((-1 : Int) == 1) = false from rfl, Bool.and_false, Bool.false_and]; exact Bool.false_ne_true
  show wpAny _ _ (if (((items.size : Int) - 1) == 0 && (-1 : Int) == 1 && items.size == items.size) = true then _ else _) _ _ s
  rw [if_neg hno, pick_rev]
  first
    | exact wpAny_bind (m := Builtin.Tuple.tupleExact _) (wpAny_newObj_type (wpAny_pure ⟨_, rfl, wpAny_pure h⟩) htake)
    | exact wpAny_bind (m := Builtin.Tuple.tupleExact _) (wpAny_newObj_type (wpAny_bind (wpAny_pure (wpAny_pure ⟨_, rfl, wpAny_pure h⟩))) htake)
    | exact wpAny_bind (wpAny_bind (m := Builtin.Tuple.tupleExact _) (wpAny_newObj_type (wpAny_pure (wpAny_pure ⟨_, rfl, wpAny_pure h⟩)) htake))
    | exact wpAny_bind (wpAny_bind (m := Builtin.Tuple.tupleExact _) (wpAny_newObj_type (wpAny_pure ⟨_, rfl, wpAny_pure h⟩) htake))
end
end HT
namespace PF
open PySem PySem.Spec PyProof.Rows L2
/-! xs[::-1] of a list or a tuple -/
def tRevA (K : PySem.W.Frag) (te : TE) : TE := fun σ H Q => te σ H fun x H1 => ∃ a, x = .ref a ∧ ((∃ xs, SqL K H1 a xs ∧ ∀ p, H1 p = none → Q (.ref p) (upd H1 p (.lst xs.reverse))) ∨ ∃ xs, SqT K H1 a xs ∧ ∀ p, H1 p = none → Q (.ref p) (upd H1 p (.tup xs.reverse)))
theorem pe_revA {X : Cx} {e : Expr} {te : TE} {k : Nat} {p1 p2 p3 pos : Pos} (he : PE X e te) : PE X (.Subscript e (.Slice none none (some (.UnaryOp .USub (.Constant (.int 1) k p1) p2)) p3) pos) (tRevA X.K te) := by
  refine ⟨fun pins s σ H Q I h => ?_⟩
  refine Subscript_ (thn (he.run pins s σ H _ I h) fun v s1 ⟨x, H1, I1, r1, q1⟩ => ?_)
  obtain ⟨a, ex, q⟩ := q1
  subst ex
  cases r1
  have hst : PO X (some (.UnaryOp .USub (.Constant (.int 1) k p1) p2)) (tPart (tUn (rU fun i => .int (-i)) (tC (.int 1)))) := po_some (pe_un un_neg pe_int)
  refine wpAny_Slice (thn (po_none.run pins s1 σ H1 (fun o H2 => o = none ∧ H2 = H1) I1 ⟨rfl, rfl⟩) fun vl s2 ⟨l, H2, I2, pl, el, e2⟩ => ?_)
  subst el e2
  refine thn (po_none.run pins s2 σ H2 (fun o H3 => o = none ∧ H3 = H2) I2 ⟨rfl, rfl⟩) fun vu s3 ⟨u, H3, I3, pu, eu, e3⟩ => ?_
  subst eu e3
  refine thn (hst.run pins s3 σ H3 (fun o H4 => o = some (-1) ∧ H4 = H3) I3 ⟨1, rfl, -1, rfl, rfl, rfl⟩) fun vs s4 ⟨o, H4, I4, ps, eo, e4⟩ => ?_
  subst eo e4
  have I5 : Inv X pins σ H4 { s4 with heap := s4.heap.push { cls := .type "slice", data := .fields #[vl, vu, vs] } } := I4.kept (t' := s4.toks) fun b ob q => Heap.get?_push_of_some _ q
  rcases q with ⟨xs, hx, q⟩ | ⟨xs, hx, q⟩
  · obtain ⟨its, r, ht, hz⟩ := I5.list hx
    have hlen := r.length
    show wpAny (model X.prog X.w) X.A (subscriptTail e (.Slice none none (some (.UnaryOp .USub (.Constant (.int 1) k p1) p2)) p3) (.ref a) (.ref s4.heap.objs.size)) (EP X pins σ Q) X.xe { s4 with heap := s4.heap.push { cls := .type "slice", data := .fields #[vl, vu, vs] } }
    refine tail_any (ops := [.ref a, .ref s4.heap.objs.size]) ht.isList.typeIs (PySem.slot_list_getitem.lookup) ?_ (by with_unfolding_all rfl)
    refine wpAny_getItem_list_slice ht.isList (Heap.IsSliceOf.new _ vl vu vs) pl pu ps (by decide) ?_ (by rw [List.size_toArray]; omega)
    rw [PySem.W.krv_pick]
    refine ⟨.ref _, _, I5.laid (t' := s4.toks) (o := .lst xs.reverse) (fun b ob q => Heap.get?_push_of_some _ q) (Nat.le_refl _) ?_, rfl, q _ (I5.hok.fresh (Nat.le_refl _))⟩
    exact ⟨by rw [List.length_reverse]; exact hz, _, 0, r.reverse, Heap.get?_push_size _ rfl⟩
  · obtain ⟨its, r, ht, hz⟩ := I5.tuple hx
    have hlen := r.length
    have evl : vl = .none := by cases pl; rfl
    have evu : vu = .none := by cases pu; rfl
    subst evl evu
    show wpAny (model X.prog X.w) X.A (subscriptTail e (.Slice none none (some (.UnaryOp .USub (.Constant (.int 1) k p1) p2)) p3) (.ref a) (.ref s4.heap.objs.size)) (EP X pins σ Q) X.xe { s4 with heap := s4.heap.push { cls := .type "slice", data := .fields #[.none, .none, vs] } }
    refine tail_any (ops := [.ref a, .ref s4.heap.objs.size]) ht.typeIs (PyProof.Rows.slot_tuple_getitem.lookup) ?_ (by with_unfolding_all rfl)
    refine HT.getItem_tuple_rev ht (Heap.IsSliceOf.new _ .none .none vs) ps ?_ (by rw [List.size_toArray]; omega)
    refine ⟨.ref _, _, I5.laid (t' := s4.toks) (o := .tup xs.reverse) (fun b ob q => Heap.get?_push_of_some _ q) (Nat.le_refl _) ?_, rfl, q _ (I5.hok.fresh (Nat.le_refl _))⟩
    exact ⟨by rw [List.length_reverse]; exact hz, _, r.reverse, IsTup.new _ _⟩
def fRevA (fa : FE) : FE := fun ρ M => (fa ρ M).bind fun a => match a.1 with
  | .tup xs => some (.tup xs.reverse, a.2)
  | d => (lsOf d a.2).bind fun xs => some (.lst xs.reverse, a.2)
theorem pf_revA {X : Cx} {a : Expr} {fa : FE} {k : Nat} {p1 p2 p3 pos : Pos} (ha : PFE X a fa) : PFE X (.Subscript a (.Slice none none (some (.UnaryOp .USub (.Constant (.int 1) k p1) p2)) p3) pos) (fRevA fa) := pe_weak (pe_revA ha) fun σ H Q => by
  rintro ⟨W, ρ, M, rfl, sr, sl, d, M', hf, k⟩
  obtain ⟨⟨x, M1⟩, hx, hf⟩ := Option.bind_eq_some_iff.mp hf
  refine ⟨W, ρ, M, rfl, sr, sl, x, M1, hx, fun W1 v e1 s1 r1 => ?_⟩
  have lists : (lsOf x M1).bind (fun xs => some (D.lst xs.reverse, M1)) = some (d, M') → ∃ a, v = .ref a ∧ ((∃ xs, SqL X.K W1.H a xs ∧ ∀ p, W1.H p = none → Q (.ref p) (upd W1.H p (.lst xs.reverse))) ∨ ∃ xs, SqT X.K W1.H a xs ∧ ∀ p, W1.H p = none → Q (.ref p) (upd W1.H p (.tup xs.reverse))) := fun hf => by
    obtain ⟨xs, hl, hf⟩ := Option.bind_eq_some_iff.mp hf
    cases hf
    have hz := ls_len s1 r1 hl
    obtain ⟨p, vs, rfl, h1, q1⟩ := ls_sq s1 r1 hl
    exact ⟨p, rfl, .inl ⟨vs, h1, fun t nt => k _ _ (e1.trans (Ext.put nt)) (s1.put nt) (.newLst s1 nt q1.reverse (by rw [List.length_reverse, ← q1.len]; exact hz))⟩⟩
  cases x with
  | tup xs =>
    cases hf
    have hz := sq_len (M := M1) (xs := xs) s1 r1 rfl
    obtain ⟨p, vs, rfl, h1, q1⟩ := tp_sq r1
    exact ⟨p, rfl, .inr ⟨vs, h1, fun t nt => k _ _ (e1.trans (Ext.put nt)) (s1.put nt) (.newTup s1 nt q1.reverse (by rw [List.length_reverse, ← q1.len]; exact hz))⟩⟩
  | _ => exact lists hf
end PF
namespace PF
open PySem PySem.Spec PyProof.Rows L2
/-! two for in one comprehension, the inner one over anything -/
structure ExtN (W W' : Wo) : Prop where
  as : ∃ new, W'.as = W.as ++ new
  new : ∀ a, W'.bad a → W.bad a ∨ W.H a = none
  keep : ∀ a o, a ∉ W.as → ¬ W.bad a → W.H a = some o → W'.H a = some o
section
variable {K : PySem.W.Frag} {W W' : Wo}
theorem ExtN.frz {a : Addr} {u : HO} (e : ExtN W W') (hs : ∀ a ∈ W.as, W.bad a) (h : W.H a = some u ∧ ¬ W.bad a) : W'.H a = some u ∧ ¬ W'.bad a := by
  obtain ⟨h, nb⟩ := h
  have na : a ∉ W.as := fun z => nb (hs a z)
  refine ⟨e.keep a _ na nb h, fun z => ?_⟩
  rcases e.new a z with z | z
  · exact nb z
  · rw [h] at z; cases z
mutual
theorem Rp.extN (e : ExtN W W') (hs : ∀ a ∈ W.as, W.bad a) : ∀ (d : D) (v : V), Rp K W d v → Rp K W' d v
  | .non, _, h => h
  | .bl _, _, h => h
  | .int _, _, h => h
  | .str _, _, h => h
  | .tup ds, v, h => by
    obtain ⟨a, vs, e1, f, r⟩ := h
    exact ⟨a, vs, e1, ⟨f.1.imp (fun q => e.frz hs q) fun q => q, f.2⟩, RpL.extN e hs ds vs r⟩
  | .lst ds, v, h => by
    obtain ⟨a, vs, e1, f, r⟩ := h
    exact ⟨a, vs, e1, ⟨e.frz hs f.1, f.2⟩, RpL.extN e hs ds vs r⟩
  | .kst ds, v, h => by
    obtain ⟨a, vs, e1, f, r⟩ := h
    refine ⟨a, vs, e1, ⟨f.1.imp (fun q => ?_) fun q => q, f.2⟩, RpL.extN e hs ds vs r⟩
    obtain ⟨⟨o, q⟩, nb⟩ := q
    obtain ⟨q', nb'⟩ := e.frz hs ⟨q, nb⟩
    exact ⟨⟨o, q'⟩, nb'⟩
  | .ref n, v, h => by
    obtain ⟨a, h1, h2⟩ := h
    obtain ⟨new, h3⟩ := e.as
    refine ⟨a, ?_, h2⟩
    rw [h3]
    exact (List.getElem?_append_left (List.getElem?_eq_some_iff.mp h1).1).trans h1
theorem RpL.extN (e : ExtN W W') (hs : ∀ a ∈ W.as, W.bad a) : ∀ (ds : List D) (vs : List V), RpL K W ds vs → RpL K W' ds vs
  | [], _, h => h
  | d :: ds, vs, h => by
    obtain ⟨v, r, e1, h1, h2⟩ := h
    exact ⟨v, r, e1, Rp.extN e hs d v h1, RpL.extN e hs ds r h2⟩
end
end
theorem extN_plus {W5 W6 : Wo} {D : Addr} {o : HO} (hb : W5.bad D) (e : Ext (W5.minus D) W6) : ExtN W5 (W6.plus D o) := by
  refine ⟨?_, fun a h => ?_, fun a u na nb h => ?_⟩
  · obtain ⟨new, h, _⟩ := e.as
    exact ⟨new, h⟩
  · by_cases z : a = D
    · subst z; exact .inl hb
    · have h' : W6.bad a := by
        rcases h with h | h
        · exact h
        · exact absurd h z
      rcases e.new a h' with q | q
      · exact .inl q.1
      · exact .inr ((minus_H z).symm.trans q)
  · have z : a ≠ D := fun z => nb (by rw [z]; exact hb)
    exact (upd_ne z).trans (e.keep a u na ((minus_H z).trans h))
def JOkN (K : PySem.W.Frag) (W : Wo) (J : It) (xs : List D) (k : Option Nat) : Prop := xs.length ≤ LINE ∧ ∀ W' M', ExtN W W' → SR K W' M' → chk k xs M' = true → ∀ i,
  (∀ d, xs[i]? = some d → J.go i W'.H ∧ ∀ x H', J.yld i W'.H x H' → H' = W'.H ∧ Rp K W' d x) ∧ (xs.length ≤ i → J.stop i W'.H)
def liftIN (K : PySem.W.Frag) (f : FI) : TI := fun σ H R => ∃ W ρ M, W.H = H ∧ SR K W M ∧ Sl K W ρ σ ∧ ∃ xs k M', f ρ M = some ((xs, k), M') ∧
  ∀ W' J, Ext W W' → SR K W' M' → JOkN K W' J xs k → R J W'.H
abbrev PFIN (X : Cx) (tg e : Expr) (f : FI) : Prop := PI X tg e (liftIN X.K f)
section
variable {X : Cx} {tg a : Expr} {fa : FE}
theorem jokN_of {K : PySem.W.Frag} {W : Wo} {J : It} {xs : List D} {kk : Option Nat} (hz : xs.length ≤ LINE) (h : ∀ W' M', ExtN W W' → SR K W' M' → chk kk xs M' = true → ∃ vs, RpL K W' xs vs ∧ (∀ i x, vs[i]? = some x → J.go i W'.H ∧ ∀ y H', J.yld i W'.H y H' → H' = W'.H ∧ y = x) ∧ ∀ i, vs.length ≤ i → J.stop i W'.H) : JOkN K W J xs kk := by
  refine ⟨hz, fun W' M' e s c i => ?_⟩
  obtain ⟨vs, r, h1, h2⟩ := h W' M' e s c
  refine ⟨fun d hd => ?_, fun hl => h2 i (by rw [← r.len]; exact hl)⟩
  obtain ⟨v, hv, rv⟩ := r.get hd
  obtain ⟨g, y⟩ := h1 i v hv
  exact ⟨g, fun x H' hx => ⟨(y x H' hx).1, by rw [(y x H' hx).2]; exact rv⟩⟩
theorem jokN_sq {K : PySem.W.Frag} {W : Wo} {M : Mem} {d : D} {v : V} {xs : List D} (sr : SR K W M) (h : Rp K W d v) (hn : ∀ n, d ≠ .ref n) (e : sqOf d M = some xs) :
    ∃ p, v = .ref p ∧ (((∃ vs, SqL K W.H p vs) ∧ JOkN K W (Itl K p) xs none) ∨ ((∃ vs, SqT K W.H p vs) ∧ JOkN K W (Itt K p) xs none)) := by
  obtain ⟨p, vs, rfl, h1, r⟩ := sq_sq sr h e
  refine ⟨p, rfl, ?_⟩
  cases d with
  | tup ds =>
    have hz := sq_len sr h e
    cases e
    obtain ⟨p', vs', e', q, r'⟩ := tp_sq h
    cases e'
    refine .inr ⟨⟨_, q⟩, jokN_of hz fun W' M' ex s _ => ?_⟩
    obtain ⟨p2, vs2, e2, q2, r2⟩ := tp_sq (h.extN ex sr.sub)
    cases e2
    exact ⟨vs2, r2, walk_t q2⟩
  | ref n => exact absurd rfl (hn n)
  | lst ds =>
    have e' : lsOf (.lst ds) M = some xs := e
    obtain ⟨p', vs', e2, q, r'⟩ := ls_sq sr h e'
    cases e2
    refine .inl ⟨⟨_, q⟩, jokN_of (sq_len sr h e) fun W' M' ex s _ => ?_⟩
    obtain ⟨p2, vs2, e2, q2, r2⟩ := ls_sq s (h.extN ex sr.sub) (show lsOf (.lst ds) M' = some xs from e')
    cases e2
    exact ⟨vs2, r2, walk_l q2⟩
  | kst ds =>
    have e' : lsOf (.kst ds) M = some xs := e
    obtain ⟨p', vs', e2, q, r'⟩ := ls_sq sr h e'
    cases e2
    refine .inl ⟨⟨_, q⟩, jokN_of (sq_len sr h e) fun W' M' ex s _ => ?_⟩
    obtain ⟨p2, vs2, e2, q2, r2⟩ := ls_sq s (h.extN ex sr.sub) (show lsOf (.kst ds) M' = some xs from e')
    cases e2
    exact ⟨vs2, r2, walk_l q2⟩
  | _ => cases e
theorem pfiN_sq (ha : PFE X a fa) : PFIN X tg a (fiSq fa) := pi_weak (pi_seq ha) fun σ H R => by
  rintro ⟨W, ρ, M, rfl, sr, sl, xs, kk, M', hf, k⟩
  obtain ⟨⟨x, M1⟩, hx, hf⟩ := Option.bind_eq_some_iff.mp hf
  refine ⟨W, ρ, M, rfl, sr, sl, x, M1, hx, fun W1 v e1 s1 r1 => ?_⟩
  have other : (∀ n, x ≠ .ref n) → (sqOf x M1).bind (fun xs => some ((xs, (none : Option Nat)), M1)) = some ((xs, kk), M') → ∃ p, v = .ref p ∧ (((∃ xs, SqL X.K W1.H p xs) ∧ R (Itl X.K p) W1.H) ∨ ((∃ xs, SqT X.K W1.H p xs) ∧ R (Itt X.K p) W1.H)) := fun hn e => by
    obtain ⟨ys, hy, e⟩ := Option.bind_eq_some_iff.mp e
    cases e
    obtain ⟨p, rfl, q⟩ := jokN_sq s1 r1 hn hy
    exact ⟨p, rfl, q.imp (fun z => ⟨z.1, k W1 _ e1 s1 z.2⟩) fun z => ⟨z.1, k W1 _ e1 s1 z.2⟩⟩
  cases x with
  | ref n =>
    obtain ⟨ys, hy, hf⟩ := Option.bind_eq_some_iff.mp hf
    cases hf
    obtain ⟨p, vs, rfl, q, r⟩ := ls_sq s1 r1 hy
    refine ⟨p, rfl, .inl ⟨⟨_, q⟩, k W1 _ e1 s1 (jokN_of (ls_len s1 r1 hy) fun W' M' ex s c => ?_)⟩⟩
    unfold chk at c
    dsimp only at c
    split at c
    · rename_i zs hz
      have ez := D.eqs_of_beqs _ _ c
      subst ez
      obtain ⟨p2, vs2, e2, q2, r2⟩ := ls_sq s (r1.extN ex s1.sub) (show lsOf (.ref n) M' = some zs by simp only [lsOf, hz])
      cases e2
      exact ⟨vs2, r2, walk_l q2⟩
    · cases c
  | tup _ => exact other (fun n z => nomatch z) hf
  | lst _ => exact other (fun n z => nomatch z) hf
  | kst _ => exact other (fun n z => nomatch z) hf
  | non => exact other (fun n z => nomatch z) hf
  | bl _ => exact other (fun n z => nomatch z) hf
  | int _ => exact other (fun n z => nomatch z) hf
  | str _ => exact other (fun n z => nomatch z) hf
theorem jokN_rg {K : PySem.W.Frag} {W : Wo} {lo : Int} {n : Nat} (hn : n ≤ LINE) : JOkN K W (Itr lo n) (rgD lo n) none := by
  have hl : (rgD lo n).length = n := by unfold rgD; simp
  refine ⟨by rw [hl]; exact hn, fun W' M' e s c i => ?_⟩
  refine ⟨fun d hd => ?_, fun h => by rw [hl] at h; exact h⟩
  have hi : i < n := by rw [← hl]; exact (List.getElem?_eq_some_iff.mp hd).1
  have hd' : d = D.int (lo + i) := by
    unfold rgD at hd
    rw [List.getElem?_map, List.getElem?_range hi] at hd
    cases hd; rfl
  subst hd'
  exact ⟨hi, fun x H' hx => ⟨hx.1, hx.2⟩⟩
theorem pfiN_rg1 {f : FA} {p pos : Pos} (hg : Gl X "range") (hm : X.mg "range" = none) (ha : PFA X [a] f) (hs : starEach [a] X.env = [(false, eval a X.env)] := by rfl) : PFIN X tg (.Call (.Name "range" p) [a] [] pos) (fiRg1 f) := pi_weak (pi_range1 hg hm ha hs) fun σ H R => by
  rintro ⟨W, ρ, M, rfl, sr, sl, xs, kk, M', hf, k⟩
  obtain ⟨⟨x, M1⟩, hx, hf⟩ := Option.bind_eq_some_iff.mp hf
  dsimp only at hf
  split at hf
  · split at hf
    · rename_i hr
      cases hf
      replace hr := okR_ok hr
      refine ⟨W, ρ, M, rfl, sr, sl, _, _, hx, fun W1 v e1 s1 r1 => ?_⟩
      obtain ⟨v1, r, rfl, q1, q2⟩ := r1
      cases (show _ = _ from q1); cases (show _ = _ from q2)
      exact ⟨_, rfl, hr.2.1.1, hr.2.1.2, k W1 _ e1 s1 (jokN_rg (by show _ ≤ 16777216; omega))⟩
    · cases hf
  · cases hf
theorem pfiN_rg2 {b : Expr} {f : FA} {p pos : Pos} (hg : Gl X "range") (hm : X.mg "range" = none) (ha : PFA X [a, b] f) (hs : starEach [a, b] X.env = [(false, eval a X.env), (false, eval b X.env)] := by rfl) (hs2 : starEach [b] X.env = [(false, eval b X.env)] := by rfl) :
    PFIN X tg (.Call (.Name "range" p) [a, b] [] pos) (fiRg2 f) := pi_weak (pi_range2 hg hm ha hs hs2) fun σ H R => by
  rintro ⟨W, ρ, M, rfl, sr, sl, xs, kk, M', hf, k⟩
  obtain ⟨⟨x, M1⟩, hx, hf⟩ := Option.bind_eq_some_iff.mp hf
  dsimp only at hf
  split at hf
  · split at hf
    · rename_i hr
      cases hf
      replace hr := okR_ok hr
      refine ⟨W, ρ, M, rfl, sr, sl, _, _, hx, fun W1 v e1 s1 r1 => ?_⟩
      obtain ⟨v1, r, rfl, q1, v2, r', rfl, q2, q3⟩ := r1
      cases (show _ = _ from q1); cases (show _ = _ from q2); cases (show _ = _ from q3)
      exact ⟨_, _, rfl, ⟨hr.1.1, hr.1.2, hr.2.1.1, hr.2.1.2⟩, k W1 _ e1 s1 (jokN_rg (by show _ ≤ 16777216; omega))⟩
    · cases hf
  · cases hf
end
theorem lc2N_lift {K : PySem.W.Frag} {fi fi1 : FI} {t t1 : FG} {ft ft1 : FT} {fe : FE} {vs vs1 : List Nat} : ∀ σ H Q, liftN K (fLC2 vs vs1 fi t ft fi1 t1 ft1 fe) σ H Q → tLc2 (liftI K fi) (liftG K vs t) (liftT K ft) (liftIN K fi1) (liftG K vs1 t1) (liftT K ft1) (liftE K fe) vs vs1 σ H Q := by
  rintro σ H Q ⟨W, ρ, M, rfl, sr, sl, out, M', hf, k⟩
  obtain ⟨⟨⟨xs, kk⟩, M1⟩, hi, hf⟩ := Option.bind_eq_some_iff.mp hf
  obtain ⟨⟨o1, o2⟩, hf, hz⟩ := Option.bind_eq_some_iff.mp hf
  dsimp only at hz hf
  by_cases hout : o1.length ≤ LINE
  case neg => rw [if_neg hout] at hz; cases hz
  rw [if_pos hout] at hz
  cases hz
  refine ⟨W, ρ, M, rfl, sr, sl, xs, kk, M1, hi, fun W1 J e1 s1 jo D hD => ?_⟩
  refine ⟨fun i m H' => ∃ W2 Mt acc ws, H' = upd W2.H D (.lst ws) ∧ W2.H D = none ∧ Ext W1 W2 ∧ SR K W2 Mt ∧ RpL K W2 acc ws ∧ i ≤ xs.length ∧ m = xs.length - i ∧
    lc2Loop (chk kk xs) t ft fi1 vs1 t1 ft1 fe (wipeR ρ vs) (xs.drop i) acc Mt = some (out, M'), ⟨xs.length, W1, M1, [], [], rfl, hD, .refl W1, s1, rfl, Nat.zero_le _, rfl, hf⟩, ?_⟩
  rintro i m H' ⟨W2, Mt, acc, ws, rfl, hD2, e2, s2, racc, hil, rfl, hw⟩
  have eP : Ext W2 (W2.plus D (.lst ws)) := Ext.plus hD2
  have sP : SR K (W2.plus D (.lst ws)) Mt := s2.plus hD2
  by_cases hlt : i < xs.length
  · right
    have hd : xs.drop i = xs[i] :: xs.drop (i + 1) := List.drop_eq_getElem_cons hlt
    rw [hd] at hw
    unfold lc2Loop at hw
    split at hw
    · rename_i hck
      obtain ⟨ρ', ht, hw⟩ := Option.bind_eq_some_iff.mp hw
      obtain ⟨⟨b, M3⟩, hb, hw⟩ := Option.bind_eq_some_iff.mp hw
      obtain ⟨hgo, hy⟩ := (jo.2 _ Mt (e2.trans eP) sP hck i).1 xs[i] (by simp [hlt])
      refine ⟨hgo, fun H' => ∃ W4 Mt acc ws, H' = upd W4.H D (.lst ws) ∧ W4.H D = none ∧ Ext W1 W4 ∧ SR K W4 Mt ∧ RpL K W4 acc ws ∧
        lc2Loop (chk kk xs) t ft fi1 vs1 t1 ft1 fe (wipeR ρ vs) (xs.drop (i + 1)) acc Mt = some (out, M'), ?_, fun x H' hx => ?_⟩
      · rintro H' ⟨W4, Mt', acc', ws', h1, h2, h3, h4, h5, h7⟩
        exact ⟨xs.length - (i + 1), by omega, W4, Mt', acc', ws', h1, h2, h3, h4, h5, hlt, rfl, h7⟩
      · obtain ⟨rfl, rx⟩ := hy x H' hx
        have slW : Sl K (W2.plus D (.lst ws)) (wipeR ρ vs) (L2.wipe σ vs) := (sl.ext (e1.trans (e2.trans eP)) sr.sub).wipe vs
        refine ⟨_, wipeR ρ vs, Mt, xs[i], rfl, sP, slW, rx, ρ', ht, fun W3 σ3 e3 s3 l3 w3 => ⟨by rw [w3, wipe_idem], ?_⟩⟩
        refine ⟨W3, ρ', Mt, rfl, s3, l3, b, M3, hb, fun W4 e4 s4 => ?_⟩
        cases b with
        | false =>
          rw [if_neg Bool.false_ne_true] at hw ⊢
          obtain ⟨e5, b5, n5, h5⟩ := Ext.unplus s2 hD2 (e3.trans e4)
          refine ⟨W4.minus D, M3, acc, ws, ?_, minus_self, e2.trans e5, s4.minus b5 n5, (racc.ext e5 s2.sub), hw⟩
          funext a
          by_cases z : a = D
          · subst z; rw [upd_same]; exact h5
          · rw [upd_ne z]; exact (minus_H z).symm
        | true =>
          rw [if_pos rfl] at hw ⊢
          obtain ⟨⟨⟨xs1, k1⟩, M5⟩, hi1, hw⟩ := Option.bind_eq_some_iff.mp hw
          obtain ⟨⟨acc2, M6⟩, hin, hw⟩ := Option.bind_eq_some_iff.mp hw
          dsimp only at hin hw
          have hlim : acc2.length ≤ LINE := Nat.le_trans (lc2Loop_len _ _ _ _ _ hw) hout
          refine ⟨W4, ρ', M3, rfl, s4, l3.ext e4 s3.sub, xs1, k1, M5, hi1, fun W5 J1 e5 s5 jf => ?_⟩
          obtain ⟨e6, b6, n6, h6⟩ := Ext.unplus s2 hD2 ((e3.trans e4).trans e5)
          have l5 : Sl K (W5.minus D) ρ' σ3 := Sl.minus b6 n6 (l3.ext (e4.trans e5) s3.sub)
          have s5m : SR K (W5.minus D) M5 := s5.minus b6 n6
          have hW5 : W5.H = upd (W5.minus D).H D (.lst ws) := by
            funext a
            by_cases z : a = D
            · subst z; rw [upd_same]; exact h6
            · rw [upd_ne z]; exact (minus_H z).symm
          refine ⟨fun j k H' => ∃ W6 Mt acc ws, H' = upd W6.H D (.lst ws) ∧ W6.H D = none ∧ Ext (W5.minus D) W6 ∧ SR K W6 Mt ∧ RpL K W6 acc ws ∧ j ≤ xs1.length ∧ k = xs1.length - j ∧
            lcLoop (chk k1 xs1) t1 ft1 fe (wipeR ρ' vs1) (xs1.drop j) acc Mt = some (acc2, M6), ⟨xs1.length, W5.minus D, M5, acc, ws, hW5, minus_self, .refl _, s5m, racc.ext e6 s2.sub, Nat.zero_le _, rfl, hin⟩, ?_⟩
          rintro j k' H' ⟨W6, Mt6, acc6, ws6, rfl, hD6, e7, s6, racc6, hjl, rfl, hw6⟩
          have eP6 : Ext W6 (W6.plus D (.lst ws6)) := Ext.plus hD6
          have sP6 : SR K (W6.plus D (.lst ws6)) Mt6 := s6.plus hD6
          by_cases hlt1 : j < xs1.length
          · right
            have hd1 : xs1.drop j = xs1[j] :: xs1.drop (j + 1) := List.drop_eq_getElem_cons hlt1
            rw [hd1] at hw6
            unfold lcLoop at hw6
            split at hw6
            · rename_i hck1
              obtain ⟨ρ2, ht1, hw6⟩ := Option.bind_eq_some_iff.mp hw6
              obtain ⟨⟨b1, M7⟩, hb1, hw6⟩ := Option.bind_eq_some_iff.mp hw6
              obtain ⟨hgo1, hy1⟩ := (jf.2 (W6.plus D (.lst ws6)) Mt6 (extN_plus b6 e7) sP6 hck1 j).1 xs1[j] (by simp [hlt1])
              refine ⟨hgo1, fun H' => ∃ W8 Mt acc ws, H' = upd W8.H D (.lst ws) ∧ W8.H D = none ∧ Ext (W5.minus D) W8 ∧ SR K W8 Mt ∧ RpL K W8 acc ws ∧
                lcLoop (chk k1 xs1) t1 ft1 fe (wipeR ρ' vs1) (xs1.drop (j + 1)) acc Mt = some (acc2, M6), ?_, fun x1 H' hx1 => ?_⟩
              · rintro H' ⟨W8, Mt', acc', ws', h1, h2, h3, h4, h5, h7⟩
                exact ⟨xs1.length - (j + 1), by omega, W8, Mt', acc', ws', h1, h2, h3, h4, h5, hlt1, rfl, h7⟩
              · obtain ⟨rfl, rx1⟩ := hy1 x1 H' hx1
                have slW1 : Sl K (W6.plus D (.lst ws6)) (wipeR ρ' vs1) (L2.wipe σ3 vs1) := (l5.ext (e7.trans eP6) s5m.sub).wipe vs1
                refine ⟨_, wipeR ρ' vs1, Mt6, xs1[j], rfl, sP6, slW1, rx1, ρ2, ht1, fun W7 σ7 e8 s7 l7 w7 => ⟨by rw [w7, wipe_idem], ?_⟩⟩
                refine ⟨W7, ρ2, Mt6, rfl, s7, l7, b1, M7, hb1, fun W8 e9 s8 => ?_⟩
                cases b1 with
                | false =>
                  rw [if_neg Bool.false_ne_true] at hw6 ⊢
                  obtain ⟨e10, b10, n10, h10⟩ := Ext.unplus s6 hD6 (e8.trans e9)
                  refine ⟨W8.minus D, M7, acc6, ws6, ?_, minus_self, e7.trans e10, s8.minus b10 n10, (racc6.ext e10 s6.sub), hw6⟩
                  funext a
                  by_cases z : a = D
                  · subst z; rw [upd_same]; exact h10
                  · rw [upd_ne z]; exact (minus_H z).symm
                | true =>
                  rw [if_pos rfl] at hw6 ⊢
                  obtain ⟨⟨y, M9⟩, hye, hw6⟩ := Option.bind_eq_some_iff.mp hw6
                  refine ⟨W8, ρ2, M7, rfl, s8, l7.ext e9 s7.sub, y, M9, hye, fun W9 v e11 s9 r9 => ?_⟩
                  obtain ⟨e12, b12, n12, h12⟩ := Ext.unplus s6 hD6 ((e8.trans e9).trans e11)
                  have hz : ws6.length < LINE := by
                    have q := lcLoop_len _ _ _ _ _ hw6
                    rw [List.length_append, List.length_singleton] at q
                    have := racc6.len
                    omega
                  refine ⟨ws6, h12, by rw [line_eq]; exact hz, W9.minus D, M9, acc6 ++ [y], ws6 ++ [v], ?_, minus_self, e7.trans e12, s9.minus b12 n12, (racc6.ext e12 s6.sub).append (.one (r9.minus b12 n12)), hw6⟩
                  funext a
                  by_cases z : a = D
                  · subst z; rw [upd_same, upd_same]
                  · rw [upd_ne z, upd_ne z]; exact (minus_H z).symm
            · cases hw6
          · left
            have e : j = xs1.length := by omega
            subst e
            rw [List.drop_length] at hw6
            unfold lcLoop at hw6
            split at hw6
            · rename_i hck1
              cases hw6
              exact ⟨(jf.2 (W6.plus D (.lst ws6)) M6 (extN_plus b6 e7) sP6 hck1 xs1.length).2 (Nat.le_refl _), W6, M6, acc2, ws6, rfl, hD6, e2.trans (e6.trans e7), s6, racc6, hw⟩
            · cases hw6
    · cases hw
  · left
    have e : i = xs.length := by omega
    subst e
    rw [List.drop_length] at hw
    unfold lc2Loop at hw
    split at hw
    · rename_i hck
      cases hw
      refine ⟨(jo.2 _ _ (e2.trans eP) sP hck xs.length).2 (Nat.le_refl _), ?_⟩
      exact k W2 D ws (e1.trans e2) s2 hD2 racc (by have := racc.len; omega)
    · cases hw
section
variable {X : Cx} {elt tg iter tg1 iter1 : Expr} {ifs ifs1 : List Expr} {scope : Scope} {own : List (Str × Nat)} {vs1 : List Nat} {pos : Pos} {fi fi1 : FI} {t t1 : FG} {ft ft1 : FT} {fe : FE}
theorem pfn_lc2N (hc : X.calm = true) (hN : X.N.Nodup) (hi : PFI X tg iter fi) (ok : BlkOk X.N X.env.scope scope own) (hv : ∀ i ∈ vs1, i ∈ own.map (·.2))
    (hg : ∀ (s : Shared) (H : Hp) (C : Addr) (cl : List (Str × Addr)) (fp : List Addr), PFG (X.blk s H scope (compEnvC scope cl C X.env) fp) (own.map (·.2)) tg t) (ht : ∀ (s : Shared) (H : Hp) (C : Addr) (cl : List (Str × Addr)) (fp : List Addr), PFTs (X.blk s H scope (compEnvC scope cl C X.env) fp) ifs ft)
    (hi1 : ∀ (s : Shared) (H : Hp) (C : Addr) (cl : List (Str × Addr)) (fp : List Addr), PFIN (X.blk s H scope (compEnvC scope cl C X.env) fp) tg1 iter1 fi1)
    (hg1 : ∀ (s : Shared) (H : Hp) (C : Addr) (cl : List (Str × Addr)) (fp : List Addr), PFG (X.blk s H scope (compEnvC scope cl C X.env) fp) vs1 tg1 t1) (ht1 : ∀ (s : Shared) (H : Hp) (C : Addr) (cl : List (Str × Addr)) (fp : List Addr), PFTs (X.blk s H scope (compEnvC scope cl C X.env) fp) ifs1 ft1)
    (he : ∀ (s : Shared) (H : Hp) (C : Addr) (cl : List (Str × Addr)) (fp : List Addr), PFE (X.blk s H scope (compEnvC scope cl C X.env) fp) elt fe) (hs : ∀ x, foldedSetIterable iter X.env x = pure x := by intro _; rfl) (hs1 : ∀ env x, foldedSetIterable iter1 env x = pure x := by intro _ _; rfl) :
    PFN X (.ListComp elt [⟨tg, iter, ifs, 0⟩, ⟨tg1, iter1, ifs1, 0⟩] scope pos) (fLC2 (own.map (·.2)) vs1 fi t ft fi1 t1 ft1 fe) := pe_weak (pe_lc2 hc hN hi ok hv hg ht hi1 hg1 ht1 he hs hs1) lc2N_lift
theorem pfs_setLc2NF {i : Nat} {y : Str} {py spos : Pos} (hc : X.calm = true) (hN : X.N.Nodup) (hy : X.N[i]? = some y) (hyl : X.env.scope.names.lookup y = some .local)
    (hsw : swapsWith (.ListComp elt [⟨tg, iter, ifs, 0⟩, ⟨tg1, iter1, ifs1, 0⟩] scope pos) (some (.Name y py)) spos.line X.env = pure true) (hi : PFI X tg iter fi) (ok : BlkOk X.N X.env.scope scope own) (hv : ∀ i ∈ vs1, i ∈ own.map (·.2))
    (hg : ∀ (s : Shared) (H : Hp) (C : Addr) (cl : List (Str × Addr)) (fp : List Addr), PFG (X.blk s H scope (compEnvC scope cl C X.env) fp) (own.map (·.2)) tg t) (ht : ∀ (s : Shared) (H : Hp) (C : Addr) (cl : List (Str × Addr)) (fp : List Addr), PFTs (X.blk s H scope (compEnvC scope cl C X.env) fp) ifs ft)
    (hi1 : ∀ (s : Shared) (H : Hp) (C : Addr) (cl : List (Str × Addr)) (fp : List Addr), PFIN (X.blk s H scope (compEnvC scope cl C X.env) fp) tg1 iter1 fi1)
    (hg1 : ∀ (s : Shared) (H : Hp) (C : Addr) (cl : List (Str × Addr)) (fp : List Addr), PFG (X.blk s H scope (compEnvC scope cl C X.env) fp) vs1 tg1 t1) (ht1 : ∀ (s : Shared) (H : Hp) (C : Addr) (cl : List (Str × Addr)) (fp : List Addr), PFTs (X.blk s H scope (compEnvC scope cl C X.env) fp) ifs1 ft1)
    (he : ∀ (s : Shared) (H : Hp) (C : Addr) (cl : List (Str × Addr)) (fp : List Addr), PFE (X.blk s H scope (compEnvC scope cl C X.env) fp) elt fe) (hs : ∀ x, foldedSetIterable iter X.env x = pure x := by intro _; rfl) (hs1 : ∀ env x, foldedSetIterable iter1 env x = pure x := by intro _ _; rfl) :
    PFS X (.Assign [.Name y py] (.ListComp elt [⟨tg, iter, ifs, 0⟩, ⟨tg1, iter1, ifs1, 0⟩] scope pos) spos) (sSet i (fFz (fLC2 (own.map (·.2)) vs1 fi t ft fi1 t1 ft1 fe))) := ps_weak (ps_setLc2 hc hN hy hyl hsw hi ok hv hg ht hi1 hg1 ht1 he hs hs1) fun E σ H h => lc2N_lift _ _ _ (set_fz E σ H h)
theorem pfs_setLc2NM {i : Nat} {y : Str} {py spos : Pos} (hc : X.calm = true) (hN : X.N.Nodup) (hy : X.N[i]? = some y) (hyl : X.env.scope.names.lookup y = some .local)
    (hsw : swapsWith (.ListComp elt [⟨tg, iter, ifs, 0⟩, ⟨tg1, iter1, ifs1, 0⟩] scope pos) (some (.Name y py)) spos.line X.env = pure true) (hi : PFI X tg iter fi) (ok : BlkOk X.N X.env.scope scope own) (hv : ∀ i ∈ vs1, i ∈ own.map (·.2))
    (hg : ∀ (s : Shared) (H : Hp) (C : Addr) (cl : List (Str × Addr)) (fp : List Addr), PFG (X.blk s H scope (compEnvC scope cl C X.env) fp) (own.map (·.2)) tg t) (ht : ∀ (s : Shared) (H : Hp) (C : Addr) (cl : List (Str × Addr)) (fp : List Addr), PFTs (X.blk s H scope (compEnvC scope cl C X.env) fp) ifs ft)
    (hi1 : ∀ (s : Shared) (H : Hp) (C : Addr) (cl : List (Str × Addr)) (fp : List Addr), PFIN (X.blk s H scope (compEnvC scope cl C X.env) fp) tg1 iter1 fi1)
    (hg1 : ∀ (s : Shared) (H : Hp) (C : Addr) (cl : List (Str × Addr)) (fp : List Addr), PFG (X.blk s H scope (compEnvC scope cl C X.env) fp) vs1 tg1 t1) (ht1 : ∀ (s : Shared) (H : Hp) (C : Addr) (cl : List (Str × Addr)) (fp : List Addr), PFTs (X.blk s H scope (compEnvC scope cl C X.env) fp) ifs1 ft1)
    (he : ∀ (s : Shared) (H : Hp) (C : Addr) (cl : List (Str × Addr)) (fp : List Addr), PFE (X.blk s H scope (compEnvC scope cl C X.env) fp) elt fe) (hs : ∀ x, foldedSetIterable iter X.env x = pure x := by intro _; rfl) (hs1 : ∀ env x, foldedSetIterable iter1 env x = pure x := by intro _ _; rfl) :
    PFS X (.Assign [.Name y py] (.ListComp elt [⟨tg, iter, ifs, 0⟩, ⟨tg1, iter1, ifs1, 0⟩] scope pos) spos) (sSet i (fMut (fLC2 (own.map (·.2)) vs1 fi t ft fi1 t1 ft1 fe))) := ps_weak (ps_setLc2 hc hN hy hyl hsw hi ok hv hg ht hi1 hg1 ht1 he hs hs1) fun E σ H h => lc2N_lift _ _ _ (set_mut E σ H h)
end
end PF
namespace PySem.W
open PySem PySem.Spec PyProof.Rows
section
variable {prog : Program} {w : World} {A : Around} {E : Value → Shared → Prop} {s : Shared}
theorem call_min_twoH {a b : Value} {Q : Value → Shared → Prop}
    (h : wpAny (model prog w) A.in1 (pyIter (.ref s.heap.objs.size)) (fun it s₂ => ∃ I fp wr G n P St H bt, it = .ref I ∧ WalksS prog w A.in1 I fp wr G n P St ∧ St 0 s₂ ∧ (∀ b ∈ fp, b < s₂.heap.objs.size) ∧ 0 < n ∧
      (∀ b o, H.get? b = some o → b ∉ wr) ∧ (∀ b o, H.get? b = some o → s₂.heap.get? b = some o) ∧ CmpIn prog w A.in1 .Lt H P bt ∧ ∀ v s', P (argBest bt (n - 1)) v → Moved wr G s₂ s' → Q v s') E { s with heap := s.heap.push { cls := .type "tuple", data := .seq #[a, b] } }) :
    wpAny (model prog w) A (call (.builtin "min") [a, b]) Q E s := by
  have hname : (toString "min" ++ toString ".loop" : String) = "min.loop" := by decide
  refine call_function_tree F.kind_min F.plain_min F.entry_min (F.args_min2 _ _) ?_
  show wpAny _ A.in1 (Builtin.Builtins.bindParams "min" ["key", "default"] 0 ⟨[], []⟩ >>= _) _ _ s
  refine wpAny_bind (wpAny_of_eq (show Builtin.Builtins.bindParams "min" ["key", "default"] 0 ⟨[], []⟩ = pure [none, none] from rfl) ?_)
  show wpAny _ A.in1 (newTuple [a, b] >>= _) _ _ s
  refine wpAny_bind (wpAny_newObj_type ?_)
  refine wpAny_bind (wpAny_mono h (fun it s₂ h₂ => ?_) fun _ _ e => e)
  obtain ⟨I, fp, wr, G, n, P, St, H, bt, rfl, W, hst, hfp, hn, hw, hkeep, hcmp, hQ⟩ := h₂
  refine wpAny_bind (wpAny_newObj_type ?_)
  have hSf : s₂.heap.objs.size ∉ fp := fun hm => Nat.lt_irrefl _ (hfp _ hm)
  rw [hname]
  refine wpAny_pure ⟨plainId_quiet F.plain_min_loop _, codeAny_min_loop_firstH W H hw bt hcmp s₂.heap.objs.size hSf (fresh_in hkeep) _ hn (fun b o e => Heap.get?_push_of_some _ (hkeep b o e)) (W.frame 0 s₂ _ s₂.toks hst (Nat.le_refl _) fun b _ o e => Heap.get?_push_of_some _ e) (Heap.get?_push_size _ rfl) fun v s' hP hm => ?_⟩
  exact hQ v s' hP (Moved.drop_new (tk := s₂.toks) hm (Nat.le_refl _))
theorem call_max_twoH {a b : Value} {Q : Value → Shared → Prop}
    (h : wpAny (model prog w) A.in1 (pyIter (.ref s.heap.objs.size)) (fun it s₂ => ∃ I fp wr G n P St H bt, it = .ref I ∧ WalksS prog w A.in1 I fp wr G n P St ∧ St 0 s₂ ∧ (∀ b ∈ fp, b < s₂.heap.objs.size) ∧ 0 < n ∧
      (∀ b o, H.get? b = some o → b ∉ wr) ∧ (∀ b o, H.get? b = some o → s₂.heap.get? b = some o) ∧ CmpIn prog w A.in1 .Gt H P bt ∧ ∀ v s', P (argBest bt (n - 1)) v → Moved wr G s₂ s' → Q v s') E { s with heap := s.heap.push { cls := .type "tuple", data := .seq #[a, b] } }) :
    wpAny (model prog w) A (call (.builtin "max") [a, b]) Q E s := by
  have hname : (toString "max" ++ toString ".loop" : String) = "max.loop" := by decide
  refine call_function_tree F.kind_max F.plain_max F.entry_max (F.args_max2 _ _) ?_
  show wpAny _ A.in1 (Builtin.Builtins.bindParams "max" ["key", "default"] 0 ⟨[], []⟩ >>= _) _ _ s
  refine wpAny_bind (wpAny_of_eq (show Builtin.Builtins.bindParams "max" ["key", "default"] 0 ⟨[], []⟩ = pure [none, none] from rfl) ?_)
  show wpAny _ A.in1 (newTuple [a, b] >>= _) _ _ s
  refine wpAny_bind (wpAny_newObj_type ?_)
  refine wpAny_bind (wpAny_mono h (fun it s₂ h₂ => ?_) fun _ _ e => e)
  obtain ⟨I, fp, wr, G, n, P, St, H, bt, rfl, W, hst, hfp, hn, hw, hkeep, hcmp, hQ⟩ := h₂
  refine wpAny_bind (wpAny_newObj_type ?_)
  have hSf : s₂.heap.objs.size ∉ fp := fun hm => Nat.lt_irrefl _ (hfp _ hm)
  rw [hname]
  refine wpAny_pure ⟨plainId_quiet F.plain_max_loop _, codeAny_max_loop_firstH W H hw bt hcmp s₂.heap.objs.size hSf (fresh_in hkeep) _ hn (fun b o e => Heap.get?_push_of_some _ (hkeep b o e)) (W.frame 0 s₂ _ s₂.toks hst (Nat.le_refl _) fun b _ o e => Heap.get?_push_of_some _ e) (Heap.get?_push_size _ rfl) fun v s' hP hm => ?_⟩
  exact hQ v s' hP (Moved.drop_new (tk := s₂.toks) hm (Nat.le_refl _))
theorem two_reads {h h' : Heap} {a b : Value} {x y : PyData} {as bs : List Addr} (k : ∀ c o, h.get? c = some o → h'.get? c = some o) (ra : Reads h a x as) (rb : Reads h b y bs) : ReadsAll h' [a, b] [x, y] (as ++ (bs ++ [])) :=
  .cons (reads_keeps k ra) (.cons (reads_keeps k rb) .nil)
theorem min_two_data {a b : Value} {x y : PyData} {as bs : List Addr} {Q : Value → Shared → Prop} (hh : A.handled = none) (ra : Reads s.heap a x as) (rb : Reads s.heap b y bs) (ha : AlikeAll [x, y]) (hu : A.units + 1 + PyData.depthAll [x, y] < cLine)
    (h : ∀ v h' tk, v = (if dataLt y x = true then b else a) → (∀ b o, s.heap.get? b = some o → h'.get? b = some o) → Q v { s with heap := h', toks := tk }) :
    wpAny (model prog w) A (call (.builtin "min") [a, b]) Q E s := by
  have kp : ∀ c o, s.heap.get? c = some o → (s.heap.push { cls := .type "tuple", data := .seq #[a, b] }).get? c = some o := fun c o e => Heap.get?_push_of_some _ e
  have hr : ReadsAll (s.heap.push { cls := .type "tuple", data := .seq #[a, b] }) (#[a, b] : Array Value).toList [x, y] _ := two_reads kp ra rb
  refine call_min_twoH (iter_tupleW (s := { s with heap := s.heap.push { cls := .type "tuple", data := .seq #[a, b] } }) (vs := #[a, b]) (A := A.in1) hh ⟨_, Heap.get?_push_size _ rfl, rfl, _, rfl⟩ fun s₂ e W st hfp hw hk => ?_)
  refine ⟨_, _, _, _, _, _, _, s.heap.push { cls := .type "tuple", data := .seq #[a, b] }, _, rfl, W, st, hfp, (show 0 < 2 by decide), hw, hk, cmpIn_lt (A := A.in1) (s := { s with heap := s.heap.push { cls := .type "tuple", data := .seq #[a, b] } }) hr ha (by show A.units + 1 + _ < _; exact hu), fun v s' hP m => ?_⟩
  obtain ⟨h', tk, rfl, hk'⟩ := moved_old e rfl m
  refine h v h' tk ?_ fun c o q => hk' c o (kp c o q)
  have hP' : (#[a, b] : Array Value)[if dataLt y x = true then 1 else 0]? = some v := hP
  by_cases hc : dataLt y x = true
  · rw [if_pos hc] at hP' ⊢; exact (Option.some.inj hP').symm
  · rw [if_neg hc] at hP' ⊢; exact (Option.some.inj hP').symm
theorem max_two_data {a b : Value} {x y : PyData} {as bs : List Addr} {Q : Value → Shared → Prop} (hh : A.handled = none) (ra : Reads s.heap a x as) (rb : Reads s.heap b y bs) (ha : AlikeAll [x, y]) (hu : A.units + 1 + PyData.depthAll [x, y] < cLine)
    (h : ∀ v h' tk, v = (if dataLt x y = true then b else a) → (∀ b o, s.heap.get? b = some o → h'.get? b = some o) → Q v { s with heap := h', toks := tk }) :
    wpAny (model prog w) A (call (.builtin "max") [a, b]) Q E s := by
  have kp : ∀ c o, s.heap.get? c = some o → (s.heap.push { cls := .type "tuple", data := .seq #[a, b] }).get? c = some o := fun c o e => Heap.get?_push_of_some _ e
  have hr : ReadsAll (s.heap.push { cls := .type "tuple", data := .seq #[a, b] }) (#[a, b] : Array Value).toList [x, y] _ := two_reads kp ra rb
  refine call_max_twoH (iter_tupleW (s := { s with heap := s.heap.push { cls := .type "tuple", data := .seq #[a, b] } }) (vs := #[a, b]) (A := A.in1) hh ⟨_, Heap.get?_push_size _ rfl, rfl, _, rfl⟩ fun s₂ e W st hfp hw hk => ?_)
  refine ⟨_, _, _, _, _, _, _, s.heap.push { cls := .type "tuple", data := .seq #[a, b] }, _, rfl, W, st, hfp, (show 0 < 2 by decide), hw, hk, cmpIn_gt (A := A.in1) (s := { s with heap := s.heap.push { cls := .type "tuple", data := .seq #[a, b] } }) hr ha (by show A.units + 1 + _ < _; exact hu), fun v s' hP m => ?_⟩
  obtain ⟨h', tk, rfl, hk'⟩ := moved_old e rfl m
  refine h v h' tk ?_ fun c o q => hk' c o (kp c o q)
  have hP' : (#[a, b] : Array Value)[if dataLt x y = true then 1 else 0]? = some v := hP
  by_cases hc : dataLt x y = true
  · rw [if_pos hc] at hP' ⊢; exact (Option.some.inj hP').symm
  · rw [if_neg hc] at hP' ⊢; exact (Option.some.inj hP').symm
end
end PySem.W
namespace PF
open PySem PySem.Spec PyProof.Rows L2
/-! min, max of two data -/
def rMM2 (K : PySem.W.Frag) (lt : PyData → PyData → Bool) : List V → Hp → VK → Prop := fun vs H Q => ∃ (v u : V) (d e : PyData), vs = [v, u] ∧ Dp K H v d ∧ Dp K H u e ∧ PySem.W.AlikeAll [d, e] ∧ PyData.depthAll [d, e] ≤ 60 ∧ Q (if lt d e = true then u else v) H
theorem cr_min2Dt {X : Cx} (hc : X.calm = true) (hu : X.A.units + 64 < cLine) : CallR X (.builtin "min") (rMM2 X.K fun d e => PySem.W.dataLt e d) := by
  intro pins s σ H vs us Q I r h
  obtain ⟨v, u, d, e, rfl, hd, he, hal, hdp, q⟩ := h
  obtain ⟨u1, u2, rfl, r1, r2⟩ := r.two
  obtain ⟨as, ra⟩ := Dp.reads I d v u1 hd r1
  obtain ⟨bs, rb⟩ := Dp.reads I e u u2 he r2
  refine PySem.W.min_two_data (I.ok.hd hc) ra rb hal (by omega) fun w h' tk hw hk => ?_
  subst hw
  refine ⟨_, H, I.kept hk, ?_, q⟩
  by_cases c : PySem.W.dataLt e d = true
  · rw [if_pos c, if_pos c]; exact r2
  · rw [if_neg c, if_neg c]; exact r1
theorem cr_max2Dt {X : Cx} (hc : X.calm = true) (hu : X.A.units + 64 < cLine) : CallR X (.builtin "max") (rMM2 X.K fun d e => PySem.W.dataLt d e) := by
  intro pins s σ H vs us Q I r h
  obtain ⟨v, u, d, e, rfl, hd, he, hal, hdp, q⟩ := h
  obtain ⟨u1, u2, rfl, r1, r2⟩ := r.two
  obtain ⟨as, ra⟩ := Dp.reads I d v u1 hd r1
  obtain ⟨bs, rb⟩ := Dp.reads I e u u2 he r2
  refine PySem.W.max_two_data (I.ok.hd hc) ra rb hal (by omega) fun w h' tk hw hk => ?_
  subst hw
  refine ⟨_, H, I.kept hk, ?_, q⟩
  by_cases c : PySem.W.dataLt d e = true
  · rw [if_pos c, if_pos c]; exact r2
  · rw [if_neg c, if_neg c]; exact r1
def gMM2 (lt : PyData → PyData → Bool) : GN := fun ds M => match ds with
  | [x, y] => if okAl [x, y] = true then some (if lt x.py y.py = true then y else x) else none
  | _ => none
def gMin2D : GN := gMM2 fun d e => PySem.W.dataLt e d
def gMax2D : GN := gMM2 fun d e => PySem.W.dataLt d e
theorem o_mm2 {K : PySem.W.Frag} {lt : PyData → PyData → Bool} : OpN K (rMM2 K lt) (gMM2 lt) := by
  intro W M ds d vs Q sr r hg k
  unfold gMM2 at hg
  split at hg
  · rename_i x y
    split at hg
    · rename_i ok
      cases hg
      unfold okAl at ok
      rw [Bool.and_eq_true, Bool.and_eq_true, Bool.and_eq_true] at ok
      obtain ⟨⟨o1, o2⟩, o3, o4⟩ := ok
      obtain ⟨v, u, rfl, r1, r2⟩ := rl2 r
      have hdp := dp_Dps 59 [x, y] [v, u] o2 r
      obtain ⟨q1, q2⟩ := dps_can 59 [x, y] o2
      rw [D.pys, D.pys, D.pys] at hdp q1 q2
      cases hdp with
      | cons h1 h2 =>
        cases h2 with
        | cons h2 _ =>
          refine ⟨v, u, x.py, y.py, rfl, h1, h2, ⟨fun a ha b hb => ?_, fun a ha => ?_⟩, by omega, ?_⟩
          · obtain ⟨a0, ha0, rfl⟩ := pys_mem (xs := [x, y]) (by rw [D.pys, D.pys, D.pys]; exact ha)
            obtain ⟨b0, hb0, rfl⟩ := pys_mem (xs := [x, y]) (by rw [D.pys, D.pys, D.pys]; exact hb)
            exact List.all_eq_true.mp (List.all_eq_true.mp o3 a0 ha0) b0 hb0
          · obtain ⟨a0, ha0, rfl⟩ := pys_mem (xs := [x, y]) (by rw [D.pys, D.pys, D.pys]; exact ha)
            have h4 := List.all_eq_true.mp o4 a0 ha0
            have h5 := nls_at o1 ha0
            cases a0 <;> simp [isNn, D.py, D.nl] at h4 h5 ⊢
          · by_cases c : lt x.py y.py = true
            · rw [if_pos c] at k ⊢; exact k W _ (.refl W) sr r2
            · rw [if_neg c] at k ⊢; exact k W _ (.refl W) sr r1
    · cases hg
  · cases hg
end PF
namespace PF
open PySem PySem.Spec PyProof.Rows L2
/-! ### what the pieces compute, for simp -/
def rg1 (a : List D) (M : Mem) : Option ((List D × Option Nat) × Mem) := match a with | [.int j] => if okR 0 j then some ((rgD 0 j.toNat, none), M) else none | _ => none
def rg2 (a : List D) (M : Mem) : Option ((List D × Option Nat) × Mem) := match a with | [.int i, .int j] => if okR i j then some ((rgD i (j - i).toNat, none), M) else none | _ => none
theorem ev_rgh1 {j : Int} (M : Mem) (h : okR 0 j = true) : rg1 [.int j] M = some ((rgD 0 j.toNat, none), M) := by unfold rg1; dsimp only; rw [if_pos h]
theorem ev_rgh2 {i j : Int} (M : Mem) (h : okR i j = true) : rg2 [.int i, .int j] M = some ((rgD i (j - i).toNat, none), M) := by unfold rg2; dsimp only; rw [if_pos h]
section
variable (ρ : Rho) (M : Mem)
@[simp] theorem ev_var (i) : fVar i ρ M = match ρ[i]? with | some (some d) => some (d, M) | _ => none := rfl
@[simp] theorem ev_c (d) : fC d ρ M = some (d, M) := rfl
@[simp] theorem ev_f1 (g a) : f1 g a ρ M = (a ρ M).bind fun a => (g a.1 a.2).bind fun d => some (d, a.2) := rfl
@[simp] theorem ev_f2 (g a b) : f2 g a b ρ M = (a ρ M).bind fun a => (b ρ a.2).bind fun b => (g a.1 b.1 b.2).bind fun d => some (d, b.2) := rfl
@[simp] theorem ev_f2T (g a b) : f2T g a b ρ M = (a ρ M).bind fun a => (b ρ a.2).bind fun b => (g a.1 b.1 b.2).bind fun d => some (d, b.2) := rfl
@[simp] theorem ev_gB (g x y) : gB g x y M = (g x y M).map .bl := rfl
@[simp] theorem ev_tru (a) : fTru a ρ M = (a ρ M).bind fun a => (gTru a.1 a.2).bind fun k => some (k, a.2) := rfl
@[simp] theorem ev_not (a) : fNot a ρ M = (a ρ M).bind fun a => some (!a.1, a.2) := rfl
@[simp] theorem ev_and (a b) : fAnd a b ρ M = (a ρ M).bind fun a => if a.1 = true then b ρ a.2 else some (false, a.2) := rfl
@[simp] theorem ev_or (a b) : fOr a b ρ M = (a ρ M).bind fun a => if a.1 = true then some (true, a.2) else b ρ a.2 := rfl
@[simp] theorem ev_andV (a b) : fAndV a b ρ M = (a ρ M).bind fun a => (gTru a.1 a.2).bind fun k => if k = true then b ρ a.2 else some a := rfl
@[simp] theorem ev_orV (a b) : fOrV a b ρ M = (a ρ M).bind fun a => (gTru a.1 a.2).bind fun k => if k = true then some a else b ρ a.2 := rfl
@[simp] theorem ev_notV (a) : fNotV a ρ M = (a ρ M).bind fun a => (gTru a.1 a.2).bind fun k => some (.bl (!k), a.2) := rfl
@[simp] theorem ev_ifE (c a b) : fIfE c a b ρ M = (c ρ M).bind fun c => if c.1 = true then a ρ c.2 else b ρ c.2 := rfl
theorem ev_chain (g g' : G2B) (fa fb fc : FE) : fChain g g' fa fb fc ρ M = (fa ρ M).bind fun a => (fb ρ a.2).bind fun b => (g a.1 b.1 b.2).bind fun k => if k = true then (fc ρ b.2).bind fun c => (g' b.1 c.1 c.2).bind fun j => some (.bl j, c.2) else some (.bl false, b.2) := rfl
theorem ev_chainT (g g' : G2B) (fa fb fc : FE) : fChainT g g' fa fb fc ρ M = (fa ρ M).bind fun a => (fb ρ a.2).bind fun b => (g a.1 b.1 b.2).bind fun k => if k = true then (fc ρ b.2).bind fun c => (g' b.1 c.1 c.2).bind fun j => some (j, c.2) else some (false, b.2) := rfl
@[simp] theorem ev_nil : fNil ρ M = some ([], M) := rfl
@[simp] theorem ev_cons (a r) : fCons a r ρ M = (a ρ M).bind fun a => (r ρ a.2).bind fun r => some (a.1 :: r.1, r.2) := rfl
@[simp] theorem ev_tup (f) : fTup f ρ M = (f ρ M).bind fun a => if a.1.length ≤ LINE then some (.tup a.1, a.2) else none := rfl
@[simp] theorem ev_lstD (f) : fLstD f ρ M = (f ρ M).bind fun a => if a.1.length ≤ LINE then some a else none := rfl
@[simp] theorem ev_fz (f) : fFz f ρ M = (f ρ M).bind fun a => some (.lst a.1, a.2) := rfl
@[simp] theorem ev_mut (f) : fMut f ρ M = (f ρ M).bind fun a => some (.ref a.2.length, a.2 ++ [.lst a.1]) := rfl
@[simp] theorem ev_rev (f) : fRevN f ρ M = (f ρ M).bind fun a => (lsOf a.1 a.2).bind fun xs => some (xs.reverse, a.2) := rfl
@[simp] theorem ev_b (g f) : fB g f ρ M = (f ρ M).bind fun a => (g a.1 a.2).bind fun d => some (d, a.2) := rfl
@[simp] theorem ev_bN (g f) : fBN g f ρ M = (f ρ M).bind fun a => (g a.1 a.2).bind fun d => some (d, a.2) := rfl
@[simp] theorem ev_isi (T f) : fIsi T f ρ M = (f ρ M).bind fun a => some (.bl (isi (tyOf a.1) T), a.2) := rfl
@[simp] theorem ev_call (c f) : fCall c f ρ M = (f ρ M).bind fun a => callP c a.1 a.2 := rfl
@[simp] theorem ev_callS (i c f) : fCallS i c f ρ M = (f ρ M).bind fun a => callS i c a.1 a.2 := rfl
@[simp] theorem ev_callSM (i c f) : fCallSM i c f ρ M = (f ρ M).bind fun a => callSM i c a.1 a.2 := rfl
@[simp] theorem ev_m (T g o f) : fM T g o f ρ M = (o ρ M).bind fun o => if tyOk T o.1 o.2 = true then (f ρ o.2).bind fun a => g o.1 a.1 a.2 else none := rfl
@[simp] theorem ev_next : sNext ρ M = some (.nx ρ, M) := rfl
@[simp] theorem ev_seq (f g) : sSeq f g ρ M = (f ρ M).bind fun o => match o.1 with | .nx ρ' => g ρ' o.2 | _ => some o := rfl
@[simp] theorem ev_brk : sBreak ρ M = some (.bk ρ, M) := rfl
@[simp] theorem ev_cont : sCont ρ M = some (.ct ρ, M) := rfl
@[simp] theorem ev_drop (f) : sDrop f ρ M = (f ρ M).bind fun a => some (.nx ρ, a.2) := rfl
@[simp] theorem ev_ret (f) : sRet f ρ M = (f ρ M).bind fun a => some (.ret a.1, a.2) := rfl
@[simp] theorem ev_retN : sRetN ρ M = some (.ret .non, M) := rfl
@[simp] theorem ev_if (c f g) : sIf c f g ρ M = (c ρ M).bind fun a => if a.1 = true then f ρ a.2 else g ρ a.2 := rfl
@[simp] theorem ev_set (i f) : sSet i f ρ M = (f ρ M).bind fun a => some (.nx (ρ.set i (some a.1)), a.2) := rfl
@[simp] theorem ev_asg (f t) : sAsg f t ρ M = (f ρ M).bind fun a => (t a.1 ρ).bind fun ρ' => some (.nx ρ', a.2) := rfl
@[simp] theorem ev_par (i j f) : sPar i j f ρ M = (f ρ M).bind fun a => match a.1 with | [x, y] => some (.nx ((ρ.set i (some x)).set j (some y)), a.2) | _ => none := rfl
@[simp] theorem ev_par3 (i j l f) : sPar3 i j l f ρ M = (f ρ M).bind fun a => match a.1 with | [x, y, z] => some (.nx (((ρ.set i (some x)).set j (some y)).set l (some z)), a.2) | _ => none := rfl
@[simp] theorem ev_aug (i g f) : sAug i g f ρ M = match ρ[i]? with | some (some x) => (f ρ M).bind fun a => (g x a.1 a.2).bind fun z => some (.nx (ρ.set i (some z.1)), z.2) | _ => none := rfl
@[simp] theorem ev_while (c f) : sWhile c f ρ M = sWhileN c f (fuel ρ M) ρ M := rfl
@[simp] theorem ev_for (i t f) : sFor i t f ρ M = (i ρ M).bind fun a => sLoop (chk a.1.2 a.1.1) (sStep t f) a.1.1 ρ a.2 := rfl
@[simp] theorem ev_step (t f d) : sStep t f d ρ M = (t d ρ).bind fun ρ' => f ρ' M := rfl
@[simp] theorem ev_tN (i d) : tN i d ρ = some (ρ.set i (some d)) := rfl
@[simp] theorem ev_tT (n t xs) : tT n t (.tup xs) ρ = if xs.length = n then t xs ρ else none := rfl
@[simp] theorem ev_tsN : tsN [] ρ = some ρ := rfl
@[simp] theorem ev_tsC (t u d r) : tsC t u (d :: r) ρ = (t d ρ).bind fun ρ' => u r ρ' := rfl
@[simp] theorem ev_rg1 (f) : fiRg1 f ρ M = (f ρ M).bind fun a => rg1 a.1 a.2 := rfl
@[simp] theorem ev_rg2 (f) : fiRg2 f ρ M = (f ρ M).bind fun a => rg2 a.1 a.2 := rfl
@[simp] theorem ev_lc (vs i t c e) : fLC vs i t c e ρ M = (i ρ M).bind fun a => lcLoop (chk a.1.2 a.1.1) t c e (wipeR ρ vs) a.1.1 [] a.2 := rfl
@[simp] theorem ev_lc2 (vs vs1 i t c i1 t1 c1 e) : fLC2 vs vs1 i t c i1 t1 c1 e ρ M = (i ρ M).bind fun a => (lc2Loop (chk a.1.2 a.1.1) t c i1 vs1 t1 c1 e (wipeR ρ vs) a.1.1 [] a.2).bind fun y => if y.1.length ≤ LINE then some y else none := rfl
@[simp] theorem ev_yes : fYes ρ M = some (true, M) := rfl
@[simp] theorem ev_setIx (v o i) : sSetIx v o i ρ M = (v ρ M).bind fun v => (o ρ v.2).bind fun o => (i ρ o.2).bind fun i => match i.1 with
  | .int k => (mlOf o.1 i.2).bind fun l => (ixN l.2.length k).bind fun j => some (.nx ρ, i.2.set l.1 (.lst (l.2.set j v.1)))
  | _ => none := rfl
@[simp] theorem ev_slice (a l h) : fSlice a l h ρ M = (a ρ M).bind fun a => (l ρ a.2).bind fun l => (h ρ l.2).bind fun h => (gSlice a.1 l.1 h.1 h.2).bind fun d => some (d, h.2) := rfl
@[simp] theorem ev_sliceN (a l h) : fSliceN a l h ρ M = (a ρ M).bind fun a => (l ρ a.2).bind fun l => (h ρ l.2).bind fun h => (lsOf a.1 h.2).bind fun d => some (cutD d l.1 h.1, h.2) := rfl
@[simp] theorem ev_noPart : fNoPart ρ M = some (none, M) := rfl
@[simp] theorem ev_part (a) : fPart a ρ M = (a ρ M).bind fun a => match a.1 with | .int i => some (some i, a.2) | _ => none := rfl
end
section
variable (M : Mem) (i j : Int)
@[simp] theorem ev_add : gAdd (.int i) (.int j) M = some (.int (i + j)) := rfl
@[simp] theorem ev_sub : gSub (.int i) (.int j) M = some (.int (i - j)) := rfl
@[simp] theorem ev_mul : gMul (.int i) (.int j) M = if okMul i j = true then some (.int (i * j)) else none := rfl
@[simp] theorem ev_fdiv : gFdiv (.int i) (.int j) M = if okDiv j = true then some (.int (i.fdiv j)) else none := rfl
@[simp] theorem ev_mod : gMod (.int i) (.int j) M = if decide (j ≠ 0) = true then some (.int (i.fmod j)) else none := rfl
@[simp] theorem ev_pow : gPow (.int i) (.int j) M = if okPow i j = true then some (.int (i ^ j.toNat)) else none := rfl
@[simp] theorem ev_neg : gNeg (.int i) M = some (.int (-i)) := rfl
@[simp] theorem ev_cmp (c) : gCmp c (.int i) (.int j) M = some (c i j) := rfl
@[simp] theorem ev_eq : gEq (.int i) (.int j) M = some (decide (i = j)) := by
  unfold gEq; simp [D.val, D.dp, D.py, PyData.eqv]; by_cases h : i = j <;> simp [h]
@[simp] theorem ev_ne : gNe (.int i) (.int j) M = some (!decide (i = j)) := by
  unfold gNe; rw [ev_eq]; rfl
@[simp] theorem ev_eqb (a b : Bool) : gEq (.bl a) (.bl b) M = some (decide (a = b)) := by cases a <;> cases b <;> rfl
@[simp] theorem ev_neb (a b : Bool) : gNe (.bl a) (.bl b) M = some (!decide (a = b)) := by cases a <;> cases b <;> rfl
@[simp] theorem ev_int : gInt [.int i] M = some (.int i) := rfl
@[simp] theorem ev_intb (b) : gInt [.bl b] M = some (.int (if b = true then 1 else 0)) := by cases b <;> rfl
@[simp] theorem ev_abs : gAbs [.int i] M = some (.int (i.natAbs : Int)) := by
  show some (D.int (if i < 0 then -i else i)) = _
  rw [show (if i < 0 then -i else i) = (i.natAbs : Int) by omega]
@[simp] theorem ev_gcd : gGcd [.int i, .int j] M = some (.int ((Nat.gcd i.natAbs j.natAbs : Nat) : Int)) := rfl
@[simp] theorem ev_max2 : gMax2 [.int i, .int j] M = some (.int (if j > i then j else i)) := rfl
@[simp] theorem ev_min2 : gMin2 [.int i, .int j] M = some (.int (if j < i then j else i)) := rfl
@[simp] theorem ev_trub (b) : gTru (.bl b) M = some b := rfl
@[simp] theorem ev_trui : gTru (.int i) M = some (i != 0) := rfl
@[simp] theorem ev_isb (a b : Bool) : gIs (.bl a) (.bl b) M = some (decide (a = b)) := rfl
@[simp] theorem ev_isn (d) : gIs d .non M = some (isNn d) := rfl
@[simp] theorem ev_isNot (d e) : gIsNot d e M = (gIs d e M).map (! ·) := rfl
@[simp] theorem ev_lent (xs : List D) : gLen [.tup xs] M = some (.int xs.length) := rfl
@[simp] theorem ev_lenl (xs : List D) : gLen [.lst xs] M = some (.int xs.length) := rfl
@[simp] theorem ev_lenk (xs : List D) : gLen [.kst xs] M = some (.int xs.length) := rfl
@[simp] theorem ev_lenr (n : Nat) : gLen [.ref n] M = (lsOf (.ref n) M).map fun xs => .int xs.length := rfl
@[simp] theorem ev_lsr (n : Nat) : lsOf (.ref n) M = match M[n]? with | some (.lst xs) => some xs | _ => none := rfl
@[simp] theorem ev_lsl (xs : List D) : lsOf (.lst xs) M = some xs := rfl
@[simp] theorem ev_lsk (xs : List D) : lsOf (.kst xs) M = some xs := rfl
@[simp] theorem ev_sqr (n : Nat) : sqOf (.ref n) M = lsOf (.ref n) M := rfl
@[simp] theorem ev_sql (xs : List D) : sqOf (.lst xs) M = some xs := rfl
@[simp] theorem ev_sqk (xs : List D) : sqOf (.kst xs) M = some xs := rfl
@[simp] theorem ev_sqt (xs : List D) : sqOf (.tup xs) M = some xs := rfl
@[simp] theorem ev_ixt (xs : List D) : gIx (.tup xs) (.int i) M = atI xs i := rfl
@[simp] theorem ev_ixl (xs : List D) : gIx (.lst xs) (.int i) M = atI xs i := rfl
@[simp] theorem ev_ixk (xs : List D) : gIx (.kst xs) (.int i) M = atI xs i := rfl
@[simp] theorem ev_ixr (n : Nat) : gIx (.ref n) (.int i) M = (lsOf (.ref n) M).bind fun xs => atI xs i := rfl
@[simp] theorem ev_tyOk (d : D) : tyOk "list" d M = (lsOf d M).isSome := rfl
@[simp] theorem ev_ml (n : Nat) : mlOf (.ref n) M = match M[n]? with | some (.lst xs) => some (n, xs) | _ => none := rfl
@[simp] theorem ev_append (x d : D) : gAppend x [d] M = (mlOf x M).bind fun l => if l.2.length < LINE then some (.non, M.set l.1 (.lst (l.2 ++ [d]))) else none := rfl
@[simp] theorem ev_pop (x : D) : gPop x [] M = (mlOf x M).bind fun l => (l.2[l.2.length - 1]?).bind fun d => some (d, M.set l.1 (.lst l.2.dropLast)) := rfl
@[simp] theorem ev_reverse (x : D) : gReverse x [] M = (mlOf x M).bind fun l => some (.non, M.set l.1 (.lst l.2.reverse)) := rfl
@[simp] theorem ev_chk0 (xs) : chk none xs M = true := rfl
@[simp] theorem ev_list (d : D) : gList [d] M = sqOf d M := rfl
@[simp] theorem ev_tuple (d : D) : gTuple [d] M = (sqOf d M).map .tup := rfl
theorem atI_eq {α} (xs : List α) : L2.atI xs i = (L2.ixN xs.length i).bind fun n => xs[n]? := rfl
end
theorem at_nat {α} {xs : List α} {n : Nat} {d : α} (h : xs[n]? = some d) : L2.atI xs (n : Int) = some d := by
  have hl := (List.getElem?_eq_some_iff.mp h).1
  rw [atI_eq]
  unfold L2.ixN
  rw [if_pos (by omega), if_pos (by omega)]
  exact h
@[simp] theorem atI_0 {α} (x : α) (xs) : L2.atI (x :: xs) 0 = some x := at_nat (n := 0) rfl
@[simp] theorem atI_1 {α} (x y : α) (xs) : L2.atI (x :: y :: xs) 1 = some y := at_nat (n := 1) rfl
@[simp] theorem atI_2 {α} (x y z : α) (xs) : L2.atI (x :: y :: z :: xs) 2 = some z := at_nat (n := 2) rfl
theorem atI_int {α} {xs : List α} {i : Int} {n : Nat} {d : α} (hi : i = n) (h : xs[n]? = some d) : L2.atI xs i = some d := by subst hi; exact at_nat h
/-- a list of iL -/
def iL (xs : List Int) : List D := xs.map .int
@[simp] theorem iL_len (xs : List Int) : (iL xs).length = xs.length := by simp [iL]
@[simp] theorem iL_nil : iL [] = [] := rfl
theorem iL_cons (x xs) : iL (x :: xs) = .int x :: iL xs := rfl
theorem iL_app (xs ys) : iL xs ++ iL ys = iL (xs ++ ys) := by simp [iL]
theorem iL_at {xs : List Int} {n : Nat} : (iL xs)[n]? = (xs[n]?).map .int := by simp [iL]
theorem nrs_iL : ∀ xs : List Int, D.nrs (iL xs) = true
  | [] => rfl
  | x :: xs => by
    show (D.nr (.int x) && D.nrs (iL xs)) = true
    rw [nrs_iL xs]; rfl
theorem nls_iL : ∀ xs : List Int, D.nls (iL xs) = true
  | [] => rfl
  | x :: xs => by
    show (D.nl (.int x) && D.nls (iL xs)) = true
    rw [nls_iL xs]; rfl
theorem beqs_iL : ∀ xs : List Int, D.beqs (iL xs) (iL xs) = true
  | [] => rfl
  | x :: xs => by
    show (D.beq (.int x) (.int x) && D.beqs (iL xs) (iL xs)) = true
    rw [beqs_iL xs]; simp [D.beq]
theorem line_le {n : Nat} (h : n ≤ 16777216) : n ≤ LINE := h
@[simp] theorem line_1 : (1 ≤ LINE) = True := by simp [LINE]
@[simp] theorem line_2 : (2 ≤ LINE) = True := by simp [LINE]
@[simp] theorem line_3 : (3 ≤ LINE) = True := by simp [LINE]
@[simp] theorem line_4 : (4 ≤ LINE) = True := by simp [LINE]
@[simp] theorem line_5 : (5 ≤ LINE) = True := by simp [LINE]
@[simp] theorem line_6 : (6 ≤ LINE) = True := by simp [LINE]
@[simp] theorem line_7 : (7 ≤ LINE) = True := by simp [LINE]
@[simp] theorem line_8 : (8 ≤ LINE) = True := by simp [LINE]
@[simp] theorem line_9 : (9 ≤ LINE) = True := by simp [LINE]
@[simp] theorem line_10 : (10 ≤ LINE) = True := by simp [LINE]
section
variable (M : Mem) (xs : List D)
@[simp] theorem ap_int (i) : argP M (.int i) = some (.int i) := rfl
@[simp] theorem ap_bl (i) : argP M (.bl i) = some (.bl i) := rfl
@[simp] theorem ap_non : argP M .non = some .non := rfl
@[simp] theorem ap_tup : argP M (.tup xs) = if D.nrs xs = true then some (.tup xs) else none := rfl
@[simp] theorem ap_lst : argP M (.lst xs) = if D.nrs xs = true then some (.lst xs) else none := rfl
@[simp] theorem ap_kst : argP M (.kst xs) = if D.nrs xs = true then some (.kst xs) else none := rfl
@[simp] theorem ir_int (i) : D.isRef (.int i) = false := rfl
@[simp] theorem ir_bl (i) : D.isRef (.bl i) = false := rfl
@[simp] theorem ir_non : D.isRef .non = false := rfl
@[simp] theorem ir_tup : D.isRef (.tup xs) = false := rfl
@[simp] theorem ir_lst : D.isRef (.lst xs) = false := rfl
@[simp] theorem ir_kst : D.isRef (.kst xs) = false := rfl
@[simp] theorem ir_ref (n) : D.isRef (.ref n) = true := rfl
end
@[simp] theorem ev_sum (d : D) (M : Mem) : gSum [d] M = (lsOf d M).bind fun xs => (intsOf xs).map fun ns => .int ns.sum := rfl
@[simp] theorem ev_sumA (d : D) (M : Mem) : gSumA [d] M = (sqOf d M).bind fun xs => (intsOf xs).map fun ns => .int ns.sum := rfl
@[simp] theorem ev_iadd (i j : Int) (M : Mem) : gIAdd (.int i) (.int j) M = some (.int (i + j), M) := rfl
@[simp] theorem ev_iaddA (i j : Int) (M : Mem) : gIAddA (.int i) (.int j) M = some (.int (i + j), M) := rfl
theorem ev_iaddT (a b : List D) (M : Mem) (h : a.length + b.length ≤ 10000) : gIAddA (.tup a) (.tup b) M = some (.tup (a ++ b), M) := by
  show (if a.length + b.length ≤ LINE then some (D.tup (a ++ b), M) else none) = _
  rw [if_pos (by show _ ≤ 16777216; omega)]
@[simp] theorem intsOf_iL : ∀ ns : List Int, intsOf (iL ns) = some ns
  | [] => rfl
  | n :: ns => by
    show (intsOf (iL ns)).map (n :: ·) = _
    rw [intsOf_iL ns]; rfl
/-! ### loops -/
theorem loop_inv {c : Mem → Bool} {step : D → FS} {xs : List D} (I : Nat → Rho → Mem → Prop) (hc : ∀ k ρ M, I k ρ M → c M = true)
    (hs : ∀ k d ρ M, xs[k]? = some d → I k ρ M → ∃ ρ' M', step d ρ M = some (.nx ρ', M') ∧ I (k + 1) ρ' M') {ρ : Rho} {M : Mem} (h0 : I 0 ρ M) : ∃ ρ' M', sLoop c step xs ρ M = some (.nx ρ', M') ∧ I xs.length ρ' M' := by
  have main : ∀ (ys : List D) (k : Nat) (ρ : Rho) (M : Mem), xs.drop k = ys → k ≤ xs.length → I k ρ M → ∃ ρ' M', sLoop c step ys ρ M = some (.nx ρ', M') ∧ I xs.length ρ' M' := by
    intro ys
    induction ys with
    | nil =>
      intro k ρ M e hk h
      have : k = xs.length := by
        have := congrArg List.length e
        simp at this; omega
      subst this
      exact ⟨ρ, M, by rw [sLoop, if_pos (hc _ _ _ h)], h⟩
    | cons d ys ih =>
      intro k ρ M e hk h
      have hd : xs[k]? = some d := by
        have h0 : (xs.drop k)[0]? = some d := by rw [e]; rfl
        rw [List.getElem?_drop] at h0
        simpa using h0
      obtain ⟨ρ', M', e1, h1⟩ := hs k d ρ M hd h
      have e2 : xs.drop (k + 1) = ys := by rw [← List.drop_drop, e]; rfl
      obtain ⟨ρ2, M2, e3, h3⟩ := ih (k + 1) ρ' M' e2 (by have := (List.getElem?_eq_some_iff.mp hd).1; omega) h1
      exact ⟨ρ2, M2, by rw [sLoop, if_pos (hc _ _ _ h), e1]; exact e3, h3⟩
  exact main xs 0 ρ M rfl (Nat.zero_le _) h0
theorem while_inv {fc : FT} {fb : FS} (I : Rho → Mem → Prop) (P : Rho → Mem → Prop) (μ : Rho → Mem → Nat)
    (hs : ∀ ρ M, I ρ M → (fc ρ M = some (false, M) ∧ P ρ M) ∨ (fc ρ M = some (true, M) ∧ ∃ ρ' M', fb ρ M = some (.nx ρ', M') ∧ I ρ' M' ∧ μ ρ' M' < μ ρ M)) : ∀ (n : Nat) (ρ : Rho) (M : Mem), I ρ M → μ ρ M < n → ∃ ρ' M', sWhileN fc fb n ρ M = some (.nx ρ', M') ∧ P ρ' M'
  | 0, _, _, _, h => absurd h (Nat.not_lt_zero _)
  | n + 1, ρ, M, hI, h => by
    rcases hs ρ M hI with ⟨e, hp⟩ | ⟨e, ρ', M', e1, h1, h2⟩
    · exact ⟨ρ, M, by rw [sWhileN, e]; rfl, hp⟩
    · obtain ⟨ρ2, M2, e3, h3⟩ := while_inv I P μ hs n ρ' M' h1 (by omega)
      exact ⟨ρ2, M2, by rw [sWhileN, e]; show ((fb ρ M).bind _) = _; rw [e1]; exact e3, h3⟩
theorem fuel_big (ρ : Rho) (M : Mem) : 1000000 ≤ fuel ρ M := by
  unfold fuel
  have : ∀ (l : Rho) (n : Nat), n ≤ l.foldl (fun n d => n + match d with | some (.int i) => i.natAbs | _ => 0) n := by
    intro l
    induction l with
    | nil => intro n; exact Nat.le_refl n
    | cons d l ih => intro n; exact Nat.le_trans (Nat.le_add_right _ _) (ih _)
  exact this ρ 1000000
theorem fuel_at {ρ : Rho} {M : Mem} {n : Nat} {i : Int} (h : ρ[n]? = some (some (.int i))) : 1000000 + i.natAbs ≤ fuel ρ M := by
  unfold fuel
  have mono : ∀ (l : Rho) (n : Nat), n ≤ l.foldl (fun n d => n + match d with | some (.int i) => i.natAbs | _ => 0) n := by
    intro l
    induction l with
    | nil => intro n; exact Nat.le_refl n
    | cons d l ih => intro n; exact Nat.le_trans (Nat.le_add_right _ _) (ih _)
  have : ∀ (l : Rho) (n m : Nat), l[n]? = some (some (.int i)) → m + i.natAbs ≤ l.foldl (fun n d => n + match d with | some (.int i) => i.natAbs | _ => 0) m := by
    intro l
    induction l with
    | nil => intro n m h; simp at h
    | cons d l ih =>
      intro n m h
      cases n with
      | zero => simp at h; subst h; exact mono l _
      | succ n => exact Nat.le_trans (Nat.add_le_add_right (Nat.le_add_right _ _) _) (ih n _ (by simpa using h))
  exact this ρ n _ h
theorem rgD_at {lo : Int} {n k : Nat} {d : D} (h : (rgD lo n)[k]? = some d) : k < n ∧ d = .int (lo + k) := by
  unfold rgD at h
  rw [List.getElem?_map] at h
  by_cases hk : k < n
  · rw [List.getElem?_range hk] at h
    simp at h
    exact ⟨hk, h.symm⟩
  · rw [List.getElem?_eq_none (by simp; omega)] at h
    simp at h
@[simp] theorem rgD_len (lo : Int) (n : Nat) : (rgD lo n).length = n := by simp [rgD]
/-! ### sides -/
theorem okMul_l {i j : Int} (h : i.natAbs < 18446744073709551616) : okMul i j = true := by simp [okMul, h]
theorem okMul_r {i j : Int} (h : j.natAbs < 18446744073709551616) : okMul i j = true := by simp [okMul, h]
theorem log2_lt_of {n k : Nat} (h : n < 2 ^ k) (hk : 0 < k) : n.log2 < k := by
  by_cases h0 : n = 0
  · subst h0; simpa using hk
  · exact (Nat.log2_lt h0).mpr h
theorem okMul_big {i j : Int} (hi : i.natAbs < 2 ^ 400000) (hj : j.natAbs < 2 ^ 400000) : okMul i j = true := by
  have h1 := log2_lt_of hi (by decide)
  have h2 := log2_lt_of hj (by decide)
  simp [okMul]; right; right; omega
theorem okDiv_of {j : Int} (h0 : j ≠ 0) (h : j.natAbs < 2 ^ 9000) : okDiv j = true := by
  have h1 := log2_lt_of h (by decide)
  simp [okDiv, h0, h1]
theorem okR_of {i j : Int} (h1 : -1000000 ≤ i) (h2 : j ≤ 10000000) (h3 : i ≤ 10000000) (h4 : -1000000 ≤ j) : okR i j = true := by
  unfold okR
  rw [Bool.and_eq_true, Bool.and_eq_true]
  exact ⟨Nat.ble_eq_true_of_le (by omega), Nat.ble_eq_true_of_le (by omega), Nat.ble_eq_true_of_le (by omega)⟩
end PF
namespace TL
open PySem PySem.Spec PyProof.Rows L2 PF
/-! ### typed things as data -/
structure Ec (A : Type) where
  e : A → D
  nr : ∀ a, (e a).nr = true
variable {A B C A' B' C' E1 E2 E3 : Type}
theorem nrs_map {f : A → D} (h : ∀ a, (f a).nr = true) : ∀ xs : List A, D.nrs (xs.map f) = true
  | [] => rfl
  | x :: xs => by
    show ((f x).nr && D.nrs (xs.map f)) = true
    rw [h x, nrs_map h xs]; rfl
def eI : Ec Int := ⟨.int, fun _ => rfl⟩
def eB : Ec Bool := ⟨.bl, fun _ => rfl⟩
def eS : Ec Str := ⟨.str, fun _ => rfl⟩
def eN : Ec Unit := ⟨fun _ => .non, fun _ => rfl⟩
def eO (c : Ec A) : Ec (Option A) := ⟨fun o => match o with | none => .non | some a => c.e a, fun o => match o with | none => rfl | some a => c.nr a⟩
theorem nr_tup {xs : List D} (h : D.nrs xs = true) : (D.tup xs).nr = true := by rw [D.nr]; exact h
theorem nr_lst {xs : List D} (h : D.nrs xs = true) : (D.lst xs).nr = true := by rw [D.nr]; exact h
theorem nr_kst {xs : List D} (h : D.nrs xs = true) : (D.kst xs).nr = true := by rw [D.nr]; exact h
theorem nrs_c {x : D} {xs : List D} (h : x.nr = true) (h' : D.nrs xs = true) : D.nrs (x :: xs) = true := by rw [D.nrs, h, h']; rfl
theorem nrs_n : D.nrs [] = true := rfl
def e0 : Ec Unit := ⟨fun _ => .tup [], fun _ => nr_tup nrs_n⟩
def e1 (a : Ec A) : Ec A := ⟨fun x => .tup [a.e x], fun x => nr_tup (nrs_c (a.nr _) nrs_n)⟩
def e2 {A1 A2 : Type} (a1 : Ec A1) (a2 : Ec A2) : Ec (A1 × A2) := ⟨fun p => .tup [a1.e p.1, a2.e p.2], fun p => nr_tup (nrs_c (a1.nr _) (nrs_c (a2.nr _) nrs_n))⟩
def e3 {A1 A2 A3 : Type} (a1 : Ec A1) (a2 : Ec A2) (a3 : Ec A3) : Ec (A1 × A2 × A3) := ⟨fun p => .tup [a1.e p.1, a2.e p.2.1, a3.e p.2.2], fun p => nr_tup (nrs_c (a1.nr _) (nrs_c (a2.nr _) (nrs_c (a3.nr _) nrs_n)))⟩
def e4 {A1 A2 A3 A4 : Type} (a1 : Ec A1) (a2 : Ec A2) (a3 : Ec A3) (a4 : Ec A4) : Ec (A1 × A2 × A3 × A4) := ⟨fun p => .tup [a1.e p.1, a2.e p.2.1, a3.e p.2.2.1, a4.e p.2.2.2], fun p => nr_tup (nrs_c (a1.nr _) (nrs_c (a2.nr _) (nrs_c (a3.nr _) (nrs_c (a4.nr _) nrs_n))))⟩
def e5 {A1 A2 A3 A4 A5 : Type} (a1 : Ec A1) (a2 : Ec A2) (a3 : Ec A3) (a4 : Ec A4) (a5 : Ec A5) : Ec (A1 × A2 × A3 × A4 × A5) := ⟨fun p => .tup [a1.e p.1, a2.e p.2.1, a3.e p.2.2.1, a4.e p.2.2.2.1, a5.e p.2.2.2.2], fun p => nr_tup (nrs_c (a1.nr _) (nrs_c (a2.nr _) (nrs_c (a3.nr _) (nrs_c (a4.nr _) (nrs_c (a5.nr _) nrs_n)))))⟩
def e6 {A1 A2 A3 A4 A5 A6 : Type} (a1 : Ec A1) (a2 : Ec A2) (a3 : Ec A3) (a4 : Ec A4) (a5 : Ec A5) (a6 : Ec A6) : Ec (A1 × A2 × A3 × A4 × A5 × A6) := ⟨fun p => .tup [a1.e p.1, a2.e p.2.1, a3.e p.2.2.1, a4.e p.2.2.2.1, a5.e p.2.2.2.2.1, a6.e p.2.2.2.2.2], fun p => nr_tup (nrs_c (a1.nr _) (nrs_c (a2.nr _) (nrs_c (a3.nr _) (nrs_c (a4.nr _) (nrs_c (a5.nr _) (nrs_c (a6.nr _) nrs_n))))))⟩
def e7 {A1 A2 A3 A4 A5 A6 A7 : Type} (a1 : Ec A1) (a2 : Ec A2) (a3 : Ec A3) (a4 : Ec A4) (a5 : Ec A5) (a6 : Ec A6) (a7 : Ec A7) : Ec (A1 × A2 × A3 × A4 × A5 × A6 × A7) := ⟨fun p => .tup [a1.e p.1, a2.e p.2.1, a3.e p.2.2.1, a4.e p.2.2.2.1, a5.e p.2.2.2.2.1, a6.e p.2.2.2.2.2.1, a7.e p.2.2.2.2.2.2], fun p => nr_tup (nrs_c (a1.nr _) (nrs_c (a2.nr _) (nrs_c (a3.nr _) (nrs_c (a4.nr _) (nrs_c (a5.nr _) (nrs_c (a6.nr _) (nrs_c (a7.nr _) nrs_n)))))))⟩
def eV (c : Ec A) : Ec (List A) := ⟨fun xs => .tup (xs.map c.e), fun xs => nr_tup (nrs_map c.nr xs)⟩
def eL (c : Ec A) : Ec (List A) := ⟨fun xs => .lst (xs.map c.e), fun xs => nr_lst (nrs_map c.nr xs)⟩
def eK (c : Ec A) : Ec (List A) := ⟨fun xs => .kst (xs.map c.e), fun xs => nr_kst (nrs_map c.nr xs)⟩
/-- a changeable list of the state -/
def cl (c : Ec A) (xs : List A) : MO := .lst (xs.map c.e)
theorem ir_of {d : D} (h : d.nr = true) : d.isRef = false := by cases d <;> first | rfl | (rw [D.nr] at h; cases h)
theorem Ec.ir (c : Ec A) (a : A) : (c.e a).isRef = false := ir_of (c.nr a)
theorem argP_nr {d : D} (h : d.nr = true) (M : Mem) : argP M d = some d := by
  cases d with
  | ref n => cases h
  | non => rfl
  | bl _ => rfl
  | int _ => rfl
  | str _ => rfl
  | tup _ => exact if_pos h
  | lst _ => exact if_pos h
  | kst _ => exact if_pos h
/-! ### equality, order, no lists within -/
class Eqv (k : outParam Nat) (c : Ec A) [DecidableEq A] : Prop where
  dp : ∀ n, k ≤ n → ∀ a, (c.e a).dp n = true
  eq : ∀ a b, PyData.eqv (c.e a).py (c.e b).py = decide (a = b)
theorem dps_map {n : Nat} {f : A → D} (h : ∀ a, (f a).dp n = true) : ∀ xs : List A, D.dps n (xs.map f) = true
  | [] => rfl
  | x :: xs => by
    show ((f x).dp n && D.dps n (xs.map f)) = true
    rw [h x, dps_map h xs]; rfl
theorem dp_tup {n : Nat} {xs : List D} (h0 : 0 < n) (h : D.dps (n - 1) xs = true) : (D.tup xs).dp n = true := by rw [D.dp, h]; simp [h0]
theorem dp_lst {n : Nat} {xs : List D} (h0 : 0 < n) (h : D.dps (n - 1) xs = true) : (D.lst xs).dp n = true := by rw [D.dp, h]; simp [h0]
theorem dps_c {n : Nat} {x : D} {xs : List D} (h : x.dp n = true) (h' : D.dps n xs = true) : D.dps n (x :: xs) = true := by rw [D.dps, h, h']; rfl
theorem dps_n {n : Nat} : D.dps n [] = true := rfl
theorem pysm (xs : List D) : D.pys xs = xs.map D.py := by
  induction xs with
  | nil => rw [D.pys]; rfl
  | cons x xs ih => rw [D.pys, ih]; rfl
theorem eqvc (x y : PyData) (xs ys : List PyData) : PyData.eqvAll (x :: xs) (y :: ys) = (PyData.eqv x y && PyData.eqvAll xs ys) := by rw [PyData.eqvAll]
theorem eqvn : PyData.eqvAll [] [] = true := by rw [PyData.eqvAll]
theorem eqvcn (x : PyData) (xs : List PyData) : PyData.eqvAll (x :: xs) [] = false := by rw [PyData.eqvAll] <;> simp
theorem eqvnc (x : PyData) (xs : List PyData) : PyData.eqvAll [] (x :: xs) = false := by rw [PyData.eqvAll] <;> simp
theorem eqv_map [DecidableEq A] {f : A → D} (h : ∀ a b, PyData.eqv (f a).py (f b).py = decide (a = b)) : ∀ xs ys : List A, PyData.eqvAll (D.pys (xs.map f)) (D.pys (ys.map f)) = decide (xs = ys)
  | [], [] => by rw [List.map_nil, D.pys, eqvn]; rfl
  | [], y :: ys => by rw [List.map_nil, List.map_cons, D.pys, D.pys, eqvnc]; rfl
  | x :: xs, [] => by rw [List.map_nil, List.map_cons, D.pys, D.pys, eqvcn]; rfl
  | x :: xs, y :: ys => by
    rw [List.map_cons, List.map_cons, D.pys, D.pys, eqvc, h x y, eqv_map h xs ys]
    by_cases e1 : x = y <;> by_cases e2 : xs = ys <;> simp [e1, e2]
theorem eqv_tt (xs ys : List D) : PyData.eqv (D.tup xs).py (D.tup ys).py = PyData.eqvAll (D.pys xs) (D.pys ys) := by rw [D.py, D.py, PyData.eqv]
theorem eqv_ll (xs ys : List D) : PyData.eqv (D.lst xs).py (D.lst ys).py = PyData.eqvAll (D.pys xs) (D.pys ys) := by rw [D.py, D.py, PyData.eqv]
instance q_I : Eqv 0 eI := ⟨fun n _ a => rfl, fun a b => by show PyData.eqv (.int a) (.int b) = _; simp [PyData.eqv]; by_cases h : a = b <;> simp [h]⟩
instance q_B : Eqv 0 eB := ⟨fun n _ a => rfl, fun a b => by cases a <;> cases b <;> rfl⟩
instance q_N : Eqv 0 eN := ⟨fun n _ a => rfl, fun a b => by cases a; cases b; simp [eN, D.py, PyData.eqv]⟩
class NotN (c : Ec A) : Prop where
  nn : ∀ a, isNn (c.e a) = false
instance n_I : NotN eI := ⟨fun _ => rfl⟩
instance n_B : NotN eB := ⟨fun _ => rfl⟩
instance n_S : NotN eS := ⟨fun _ => rfl⟩
instance n_0 : NotN e0 := ⟨fun _ => rfl⟩
instance n_1 {a : Ec A} : NotN (e1 a) := ⟨fun _ => rfl⟩
section
variable {A1 A2 A3 A4 A5 A6 A7 : Type} {a1 : Ec A1} {a2 : Ec A2} {a3 : Ec A3} {a4 : Ec A4} {a5 : Ec A5} {a6 : Ec A6} {a7 : Ec A7}
instance n_2 : NotN (e2 a1 a2) := ⟨fun _ => rfl⟩
instance n_3 : NotN (e3 a1 a2 a3) := ⟨fun _ => rfl⟩
instance n_4 : NotN (e4 a1 a2 a3 a4) := ⟨fun _ => rfl⟩
instance n_5 : NotN (e5 a1 a2 a3 a4 a5) := ⟨fun _ => rfl⟩
instance n_6 : NotN (e6 a1 a2 a3 a4 a5 a6) := ⟨fun _ => rfl⟩
instance n_7 : NotN (e7 a1 a2 a3 a4 a5 a6 a7) := ⟨fun _ => rfl⟩
end
instance n_V {c : Ec A} : NotN (eV c) := ⟨fun _ => rfl⟩
instance n_L {c : Ec A} : NotN (eL c) := ⟨fun _ => rfl⟩
theorem eqv_nn {d : D} (h : isNn d = false) (hd : d.dp 60 = true) : PyData.eqv PyData.none d.py = false ∧ PyData.eqv d.py PyData.none = false := by
  cases d with
  | non => cases h
  | ref _ => rw [D.dp] at hd; cases hd
  | _ => constructor <;> simp [D.py, PyData.eqv]
instance q_O {k : Nat} {c : Ec A} [DecidableEq A] [q : Eqv k c] [n : NotN c] : Eqv (k + 0) (eO c) where
  dp := fun m hm o => match o with | none => rfl | some a => q.dp m hm a
  eq := fun a b => by
    have hz : ∀ d : D, isNn d = false → d.isRef = false → PyData.eqv PyData.none d.py = false ∧ PyData.eqv d.py PyData.none = false := fun d h hr => by
      cases d with
      | non => cases h
      | ref _ => cases hr
      | _ => constructor <;> simp [D.py, PyData.eqv]
    cases a with
    | none =>
      cases b with
      | none => simp [eO, D.py, PyData.eqv]
      | some b => show PyData.eqv PyData.none (c.e b).py = _; rw [(hz _ (n.nn b) (c.ir b)).1]; rfl
    | some a =>
      cases b with
      | none => show PyData.eqv (c.e a).py PyData.none = _; rw [(hz _ (n.nn a) (c.ir a)).2]; rfl
      | some b => show PyData.eqv (c.e a).py (c.e b).py = _; rw [q.eq]; by_cases h : a = b <;> simp [h]
instance q_V {k : Nat} {c : Ec A} [DecidableEq A] [q : Eqv k c] : Eqv (k + 1) (eV c) where
  dp := fun m hm xs => dp_tup (by omega) (dps_map (q.dp (m - 1) (by omega)) xs)
  eq := fun a b => by
    show PyData.eqv (D.tup _).py (D.tup _).py = _
    rw [eqv_tt, eqv_map q.eq]
instance q_L {k : Nat} {c : Ec A} [DecidableEq A] [q : Eqv k c] : Eqv (k + 1) (eL c) where
  dp := fun m hm xs => dp_lst (by omega) (dps_map (q.dp (m - 1) (by omega)) xs)
  eq := fun a b => by
    show PyData.eqv (D.lst _).py (D.lst _).py = _
    rw [eqv_ll, eqv_map q.eq]
instance q_0 : Eqv 1 e0 := ⟨fun n h a => dp_tup (by omega) dps_n, fun a b => by cases a; cases b; show PyData.eqv (D.tup _).py (D.tup _).py = _; rw [eqv_tt, D.pys, eqvn]; rfl⟩
instance q_1 {k : Nat} {c : Ec A} [DecidableEq A] [q : Eqv k c] : Eqv (k + 1) (e1 c) where
  dp := fun m hm a => dp_tup (by omega) (dps_c (q.dp _ (by omega) a) dps_n)
  eq := fun a b => by
    show PyData.eqv (D.tup _).py (D.tup _).py = _
    simp only [eqv_tt, D.pys, eqvc, eqvn, q.eq, Bool.and_true]
section
variable {A1 A2 A3 A4 A5 A6 A7 : Type} {a1 : Ec A1} {a2 : Ec A2} {a3 : Ec A3} {a4 : Ec A4} {a5 : Ec A5} {a6 : Ec A6} {a7 : Ec A7} {k1 k2 k3 k4 k5 k6 k7 : Nat} [DecidableEq A1] [DecidableEq A2] [DecidableEq A3] [DecidableEq A4] [DecidableEq A5] [DecidableEq A6] [DecidableEq A7]
  [q1 : Eqv k1 a1] [q2 : Eqv k2 a2] [q3 : Eqv k3 a3] [q4 : Eqv k4 a4] [q5 : Eqv k5 a5] [q6 : Eqv k6 a6] [q7 : Eqv k7 a7]
instance q_2 : Eqv (max k1 k2 + 1) (e2 a1 a2) where
  dp := fun m hm a => dp_tup (by omega) (dps_c (q1.dp _ (by omega) _) (dps_c (q2.dp _ (by omega) _) dps_n))
  eq := fun a b => by
    obtain ⟨x1, x2⟩ := a; obtain ⟨y1, y2⟩ := b
    show PyData.eqv (D.tup _).py (D.tup _).py = _
    simp only [eqv_tt, D.pys, eqvc, eqvn, q1.eq, q2.eq, Bool.and_true, Prod.mk.injEq, Bool.decide_and]
instance q_3 : Eqv (max (max k1 k2) k3 + 1) (e3 a1 a2 a3) where
  dp := fun m hm a => dp_tup (by omega) (dps_c (q1.dp _ (by omega) _) (dps_c (q2.dp _ (by omega) _) (dps_c (q3.dp _ (by omega) _) dps_n)))
  eq := fun a b => by
    obtain ⟨x1, x2, x3⟩ := a; obtain ⟨y1, y2, y3⟩ := b
    show PyData.eqv (D.tup _).py (D.tup _).py = _
    simp only [eqv_tt, D.pys, eqvc, eqvn, q1.eq, q2.eq, q3.eq, Bool.and_true, Prod.mk.injEq, Bool.decide_and]
instance q_4 : Eqv (max (max (max k1 k2) k3) k4 + 1) (e4 a1 a2 a3 a4) where
  dp := fun m hm a => dp_tup (by omega) (dps_c (q1.dp _ (by omega) _) (dps_c (q2.dp _ (by omega) _) (dps_c (q3.dp _ (by omega) _) (dps_c (q4.dp _ (by omega) _) dps_n))))
  eq := fun a b => by
    obtain ⟨x1, x2, x3, x4⟩ := a; obtain ⟨y1, y2, y3, y4⟩ := b
    show PyData.eqv (D.tup _).py (D.tup _).py = _
    simp only [eqv_tt, D.pys, eqvc, eqvn, q1.eq, q2.eq, q3.eq, q4.eq, Bool.and_true, Prod.mk.injEq, Bool.decide_and]
instance q_5 : Eqv (max (max (max (max k1 k2) k3) k4) k5 + 1) (e5 a1 a2 a3 a4 a5) where
  dp := fun m hm a => dp_tup (by omega) (dps_c (q1.dp _ (by omega) _) (dps_c (q2.dp _ (by omega) _) (dps_c (q3.dp _ (by omega) _) (dps_c (q4.dp _ (by omega) _) (dps_c (q5.dp _ (by omega) _) dps_n)))))
  eq := fun a b => by
    obtain ⟨x1, x2, x3, x4, x5⟩ := a; obtain ⟨y1, y2, y3, y4, y5⟩ := b
    show PyData.eqv (D.tup _).py (D.tup _).py = _
    simp only [eqv_tt, D.pys, eqvc, eqvn, q1.eq, q2.eq, q3.eq, q4.eq, q5.eq, Bool.and_true, Prod.mk.injEq, Bool.decide_and]
instance q_6 : Eqv (max (max (max (max (max k1 k2) k3) k4) k5) k6 + 1) (e6 a1 a2 a3 a4 a5 a6) where
  dp := fun m hm a => dp_tup (by omega) (dps_c (q1.dp _ (by omega) _) (dps_c (q2.dp _ (by omega) _) (dps_c (q3.dp _ (by omega) _) (dps_c (q4.dp _ (by omega) _) (dps_c (q5.dp _ (by omega) _) (dps_c (q6.dp _ (by omega) _) dps_n))))))
  eq := fun a b => by
    obtain ⟨x1, x2, x3, x4, x5, x6⟩ := a; obtain ⟨y1, y2, y3, y4, y5, y6⟩ := b
    show PyData.eqv (D.tup _).py (D.tup _).py = _
    simp only [eqv_tt, D.pys, eqvc, eqvn, q1.eq, q2.eq, q3.eq, q4.eq, q5.eq, q6.eq, Bool.and_true, Prod.mk.injEq, Bool.decide_and]
end
end TL
namespace TL
open PySem PySem.Spec PyProof.Rows L2 PF
variable {A B C A' B' C' : Type}
/-! ### order -/
class Ord (c : Ec A) (lt : outParam (A → A → Bool)) : Prop where
  al : ∀ a b, PySem.W.alike (c.e a).py (c.e b).py = true
  dl : ∀ a b, PySem.W.dataLt (c.e a).py (c.e b).py = lt a b
  nn : ∀ a, isNn (c.e a) = false
  nl : ∀ a, (c.e a).nl = true
instance o_I : Ord eI (fun a b => decide (a < b)) := ⟨fun _ _ => by simp [eI, D.py, PySem.W.alike], fun a b => PySem.W.dataLt_int a b, fun _ => rfl, fun _ => rfl⟩
def ltB (a b : Bool) : Bool := !a && b
instance o_B : Ord eB ltB := ⟨fun _ _ => by simp [eB, D.py, PySem.W.alike], fun a b => by show PySem.W.dataLt (.bool a) (.bool b) = _; rw [PySem.W.dataLt_bool]; cases a <;> cases b <;> rfl, fun _ => rfl, fun _ => rfl⟩
/-- tuples, place by place -/
def ltTok (xs ys : List D) : Bool := PyProof.Rows.lexLt itemOrd (PySem.W.keyToksAll (D.pys xs)) (PySem.W.keyToksAll (D.pys ys))
theorem dl_tt (xs ys : List D) : PySem.W.dataLt (D.tup xs).py (D.tup ys).py = ltTok xs ys := by rw [D.py, D.py, PySem.W.dataLt_tuple]; rfl
theorem dl_ll (xs ys : List D) : PySem.W.dataLt (D.lst xs).py (D.lst ys).py = ltTok xs ys := by rw [D.py, D.py, PySem.W.dataLt_list]; rfl
theorem al_tt (xs ys : List D) : PySem.W.alike (D.tup xs).py (D.tup ys).py = PySem.W.alikeAll (D.pys xs) (D.pys ys) := by rw [D.py, D.py, PySem.W.alike]
theorem al_ll (xs ys : List D) : PySem.W.alike (D.lst xs).py (D.lst ys).py = PySem.W.alikeAll (D.pys xs) (D.pys ys) := by rw [D.py, D.py, PySem.W.alike]
theorem al_c {x y : D} {xs ys : List D} (h : PySem.W.alike x.py y.py = true) (h' : PySem.W.alikeAll (D.pys xs) (D.pys ys) = true) : PySem.W.alikeAll (D.pys (x :: xs)) (D.pys (y :: ys)) = true := by rw [D.pys, D.pys, PySem.W.alikeAll, h, h']; rfl
theorem al_n (ys : List D) : PySem.W.alikeAll (D.pys []) (D.pys ys) = true := by rw [D.pys]; unfold PySem.W.alikeAll; rfl
theorem ltTok_c {x y : D} {xs ys : List D} (h : PySem.W.alike x.py y.py = true) : ltTok (x :: xs) (y :: ys) = if PyData.eqv x.py y.py = true then ltTok xs ys else PySem.W.dataLt x.py y.py := by
  unfold ltTok
  rw [D.pys, D.pys, PySem.W.dataLt_cons h]
theorem ltTok_n : ltTok [] [] = false := by unfold ltTok; exact PyProof.Rows.lex_irrefl _
theorem nl_tup {xs : List D} (h : D.nls xs = true) : (D.tup xs).nl = true := by rw [D.nl]; exact h
theorem nls_c {x : D} {xs : List D} (h : x.nl = true) (h' : D.nls xs = true) : D.nls (x :: xs) = true := by rw [D.nls, h, h']; rfl
theorem nls_map {f : A → D} (h : ∀ a, (f a).nl = true) : ∀ xs : List A, D.nls (xs.map f) = true
  | [] => rfl
  | x :: xs => by
    show ((f x).nl && D.nls (xs.map f)) = true
    rw [h x, nls_map h xs]; rfl
section
variable {A1 A2 A3 A4 A5 : Type} {a1 : Ec A1} {a2 : Ec A2} {a3 : Ec A3} {a4 : Ec A4} {a5 : Ec A5} {k1 k2 k3 k4 k5 : Nat} [DecidableEq A1] [DecidableEq A2] [DecidableEq A3] [DecidableEq A4] [DecidableEq A5]
  {l1 : A1 → A1 → Bool} {l2 : A2 → A2 → Bool} {l3 : A3 → A3 → Bool} {l4 : A4 → A4 → Bool} {l5 : A5 → A5 → Bool}
  [q1 : Eqv k1 a1] [q2 : Eqv k2 a2] [q3 : Eqv k3 a3] [q4 : Eqv k4 a4] [q5 : Eqv k5 a5] [o1 : Ord a1 l1] [o2 : Ord a2 l2] [o3 : Ord a3 l3] [o4 : Ord a4 l4] [o5 : Ord a5 l5]
def lx (l1 : A1 → A1 → Bool) (l2 : A2 → A2 → Bool) (p q : A1 × A2) : Bool := if p.1 = q.1 then l2 p.2 q.2 else l1 p.1 q.1
theorem irr (d : D) : PySem.W.dataLt d.py d.py = false := PyProof.Rows.lex_irrefl _
theorem ltTok_1 {x y : D} (h : PySem.W.alike x.py y.py = true) (he : PyData.eqv x.py y.py = true → PySem.W.dataLt x.py y.py = false) : ltTok [x] [y] = PySem.W.dataLt x.py y.py := by
  rw [ltTok_c h, ltTok_n]
  split
  · rename_i e; exact (he e).symm
  · rfl
theorem lt_irr [DecidableEq A1] [Eqv k1 a1] [Ord a1 l1] (x y : A1) (h : PyData.eqv (a1.e x).py (a1.e y).py = true) : PySem.W.dataLt (a1.e x).py (a1.e y).py = false := by
  rw [Eqv.eq] at h
  have := of_decide_eq_true h
  subst this
  exact irr _
instance o_1 : Ord (e1 a1) l1 := ⟨fun _ _ => by show PySem.W.alike (D.tup _).py (D.tup _).py = _; rw [al_tt]; exact al_c (o1.al _ _) (al_n _), fun x y => by
  show PySem.W.dataLt (D.tup _).py (D.tup _).py = _; rw [dl_tt, ltTok_1 (o1.al _ _) (lt_irr x y), o1.dl], fun _ => rfl, fun _ => nl_tup (nls_c (o1.nl _) rfl)⟩
instance o_2 : Ord (e2 a1 a2) (lx l1 l2) := ⟨fun _ _ => by show PySem.W.alike (D.tup _).py (D.tup _).py = _; rw [al_tt]; exact al_c (o1.al _ _) (al_c (o2.al _ _) (al_n _)), fun x y => by
  show PySem.W.dataLt (D.tup _).py (D.tup _).py = _
  rw [dl_tt, ltTok_c (o1.al _ _), ltTok_1 (o2.al _ _) (lt_irr x.2 y.2), o1.dl, o2.dl, q1.eq]
  unfold lx
  by_cases h : x.1 = y.1 <;> simp [h], fun _ => rfl, fun _ => nl_tup (nls_c (o1.nl _) (nls_c (o2.nl _) rfl))⟩
instance o_3 : Ord (e3 a1 a2 a3) (lx l1 (lx l2 l3)) := ⟨fun _ _ => by show PySem.W.alike (D.tup _).py (D.tup _).py = _; rw [al_tt]; exact al_c (o1.al _ _) (al_c (o2.al _ _) (al_c (o3.al _ _) (al_n _))), fun x y => by
  show PySem.W.dataLt (D.tup _).py (D.tup _).py = _
  rw [dl_tt, ltTok_c (o1.al _ _), ltTok_c (o2.al _ _), ltTok_1 (o3.al _ _) (lt_irr x.2.2 y.2.2), o1.dl, o2.dl, o3.dl, q1.eq, q2.eq]
  unfold lx
  by_cases h : x.1 = y.1 <;> by_cases h2 : x.2.1 = y.2.1 <;> simp [h, h2], fun _ => rfl, fun _ => nl_tup (nls_c (o1.nl _) (nls_c (o2.nl _) (nls_c (o3.nl _) rfl)))⟩
instance o_4 : Ord (e4 a1 a2 a3 a4) (lx l1 (lx l2 (lx l3 l4))) := ⟨fun _ _ => by show PySem.W.alike (D.tup _).py (D.tup _).py = _; rw [al_tt]; exact al_c (o1.al _ _) (al_c (o2.al _ _) (al_c (o3.al _ _) (al_c (o4.al _ _) (al_n _)))), fun x y => by
  show PySem.W.dataLt (D.tup _).py (D.tup _).py = _
  rw [dl_tt, ltTok_c (o1.al _ _), ltTok_c (o2.al _ _), ltTok_c (o3.al _ _), ltTok_1 (o4.al _ _) (lt_irr x.2.2.2 y.2.2.2), o1.dl, o2.dl, o3.dl, o4.dl, q1.eq, q2.eq, q3.eq]
  unfold lx
  by_cases h : x.1 = y.1 <;> by_cases h2 : x.2.1 = y.2.1 <;> by_cases h3 : x.2.2.1 = y.2.2.1 <;> simp [h, h2, h3], fun _ => rfl, fun _ => nl_tup (nls_c (o1.nl _) (nls_c (o2.nl _) (nls_c (o3.nl _) (nls_c (o4.nl _) rfl))))⟩
instance o_5 : Ord (e5 a1 a2 a3 a4 a5) (lx l1 (lx l2 (lx l3 (lx l4 l5)))) := ⟨fun _ _ => by show PySem.W.alike (D.tup _).py (D.tup _).py = _; rw [al_tt]; exact al_c (o1.al _ _) (al_c (o2.al _ _) (al_c (o3.al _ _) (al_c (o4.al _ _) (al_c (o5.al _ _) (al_n _))))), fun x y => by
  show PySem.W.dataLt (D.tup _).py (D.tup _).py = _
  rw [dl_tt, ltTok_c (o1.al _ _), ltTok_c (o2.al _ _), ltTok_c (o3.al _ _), ltTok_c (o4.al _ _), ltTok_1 (o5.al _ _) (lt_irr x.2.2.2.2 y.2.2.2.2), o1.dl, o2.dl, o3.dl, o4.dl, o5.dl, q1.eq, q2.eq, q3.eq, q4.eq]
  unfold lx
  by_cases h : x.1 = y.1 <;> by_cases h2 : x.2.1 = y.2.1 <;> by_cases h3 : x.2.2.1 = y.2.2.1 <;> by_cases h4 : x.2.2.2.1 = y.2.2.2.1 <;> simp [h, h2, h3, h4], fun _ => rfl, fun _ => nl_tup (nls_c (o1.nl _) (nls_c (o2.nl _) (nls_c (o3.nl _) (nls_c (o4.nl _) (nls_c (o5.nl _) rfl)))))⟩
/-- rows, place by place -/
def ltV (l : A1 → A1 → Bool) : List A1 → List A1 → Bool
  | _, [] => false
  | [], _ :: _ => true
  | x :: xs, y :: ys => if x = y then ltV l xs ys else l x y
theorem al_map [o1 : Ord a1 l1] : ∀ xs ys : List A1, PySem.W.alikeAll (D.pys (xs.map a1.e)) (D.pys (ys.map a1.e)) = true
  | [], ys => al_n _
  | x :: xs, [] => by rw [List.map_nil, List.map_cons, D.pys, D.pys]; unfold PySem.W.alikeAll; rfl
  | x :: xs, y :: ys => al_c (o1.al x y) (al_map xs ys)
theorem ltTok_map [q1 : Eqv k1 a1] [o1 : Ord a1 l1] : ∀ xs ys : List A1, ltTok (xs.map a1.e) (ys.map a1.e) = ltV l1 xs ys
  | [], [] => ltTok_n
  | [], y :: ys => by
    unfold ltTok
    rw [List.map_nil, List.map_cons, D.pys, D.pys, PySem.W.toks_all_cons]
    show PyProof.Rows.lexLt itemOrd (PySem.W.keyToksAll []) _ = true
    simp [PySem.W.keyToksAll, PyProof.Rows.lexLt, itemOrd, PySem.W.keyToks, itemLt]
  | x :: xs, [] => by
    unfold ltTok
    rw [List.map_nil, List.map_cons, D.pys, D.pys, PySem.W.toks_all_cons]
    show PyProof.Rows.lexLt itemOrd _ (PySem.W.keyToksAll []) = false
    simp [PySem.W.keyToksAll, PyProof.Rows.lexLt, itemOrd, PySem.W.keyToks, itemLt]
  | x :: xs, y :: ys => by
    rw [List.map_cons, List.map_cons, ltTok_c (o1.al x y), ltTok_map xs ys, q1.eq, o1.dl, ltV]
    by_cases h : x = y <;> simp [h]
instance o_V : Ord (eV a1) (ltV l1) := ⟨fun _ _ => by show PySem.W.alike (D.tup _).py (D.tup _).py = _; rw [al_tt]; exact al_map (l1 := l1) _ _, fun x y => by
  show PySem.W.dataLt (D.tup _).py (D.tup _).py = _
  rw [dl_tt, ltTok_map (l1 := l1)], fun _ => rfl, fun _ => nl_tup (nls_map o1.nl _)⟩
end
/-! ### nothing that is a list within -/
class NoL (c : Ec A) : Prop where
  nl : ∀ a, (c.e a).nl = true
instance nl_I : NoL eI := ⟨fun _ => rfl⟩
instance nl_B : NoL eB := ⟨fun _ => rfl⟩
instance nl_S : NoL eS := ⟨fun _ => rfl⟩
instance nl_N : NoL eN := ⟨fun _ => rfl⟩
instance nl_O {c : Ec A} [n : NoL c] : NoL (eO c) := ⟨fun o => match o with | none => rfl | some a => n.nl a⟩
instance nl_V {c : Ec A} [n : NoL c] : NoL (eV c) := ⟨fun xs => nl_tup (nls_map n.nl xs)⟩
instance nl_0 : NoL e0 := ⟨fun _ => nl_tup rfl⟩
section
variable {A1 A2 A3 A4 A5 A6 A7 : Type} {a1 : Ec A1} {a2 : Ec A2} {a3 : Ec A3} {a4 : Ec A4} {a5 : Ec A5} {a6 : Ec A6} {a7 : Ec A7} [n1 : NoL a1] [n2 : NoL a2] [n3 : NoL a3] [n4 : NoL a4] [n5 : NoL a5] [n6 : NoL a6] [n7 : NoL a7]
instance nl_1 : NoL (e1 a1) := ⟨fun _ => nl_tup (nls_c (n1.nl _) rfl)⟩
instance nl_2 : NoL (e2 a1 a2) := ⟨fun _ => nl_tup (nls_c (n1.nl _) (nls_c (n2.nl _) rfl))⟩
instance nl_3 : NoL (e3 a1 a2 a3) := ⟨fun _ => nl_tup (nls_c (n1.nl _) (nls_c (n2.nl _) (nls_c (n3.nl _) rfl)))⟩
instance nl_4 : NoL (e4 a1 a2 a3 a4) := ⟨fun _ => nl_tup (nls_c (n1.nl _) (nls_c (n2.nl _) (nls_c (n3.nl _) (nls_c (n4.nl _) rfl))))⟩
instance nl_5 : NoL (e5 a1 a2 a3 a4 a5) := ⟨fun _ => nl_tup (nls_c (n1.nl _) (nls_c (n2.nl _) (nls_c (n3.nl _) (nls_c (n4.nl _) (nls_c (n5.nl _) rfl)))))⟩
instance nl_6 : NoL (e6 a1 a2 a3 a4 a5 a6) := ⟨fun _ => nl_tup (nls_c (n1.nl _) (nls_c (n2.nl _) (nls_c (n3.nl _) (nls_c (n4.nl _) (nls_c (n5.nl _) (nls_c (n6.nl _) rfl))))))⟩
instance nl_7 : NoL (e7 a1 a2 a3 a4 a5 a6 a7) := ⟨fun _ => nl_tup (nls_c (n1.nl _) (nls_c (n2.nl _) (nls_c (n3.nl _) (nls_c (n4.nl _) (nls_c (n5.nl _) (nls_c (n6.nl _) (nls_c (n7.nl _) rfl)))))))⟩
end
end TL
namespace TL
open PySem PySem.Spec PyProof.Rows L2 PF
variable {A B C A' B' C' E : Type}
/-! ### slots and cells -/
def gs : Rho → Nat → Option D
  | [], _ => none
  | x :: _, 0 => x
  | _ :: xs, n + 1 => gs xs n
theorem gs_at : ∀ {ρ : Rho} {i : Nat} {d : D}, gs ρ i = some d → ρ[i]? = some (some d)
  | [], _, _, h => by cases h
  | x :: _, 0, d, h => by rw [show x = some d from h]; rfl
  | _ :: xs, n + 1, d, h => by simpa using gs_at (ρ := xs) (i := n) h
def gm : Mem → Nat → Option MO
  | [], _ => none
  | x :: _, 0 => some x
  | _ :: xs, n + 1 => gm xs n
theorem gm_at : ∀ {M : Mem} {n : Nat} {mo : MO}, gm M n = some mo → M[n]? = some mo
  | [], _, _, h => by cases h
  | x :: _, 0, mo, h => h
  | _ :: xs, n + 1, mo, h => by simpa using gm_at (M := xs) (n := n) h
/-! ### what typed code computes -/
def tlet (a : A) (f : A → Option B) : Option B := f a
theorem tlet_eq (a : A) (f : A → Option B) : tlet a f = f a := rfl
def tmul (a b : Int) : Option Int := if okMul a b = true then some (a * b) else none
def tdiv (a b : Int) : Option Int := if okDiv b = true then some (a.fdiv b) else none
def tmod (a b : Int) : Option Int := if b ≠ 0 then some (a.fmod b) else none
def tpow (a b : Int) : Option Int := if okPow a b = true then some (a ^ b.toNat) else none
def tat (xs : List A) (i : Int) : Option A := L2.atI xs i
def upto (lo : Int) (n : Nat) : List Int := (List.range n).map fun (k : Nat) => lo + k
def trg (lo hi : Int) : Option (List Int) := if okR lo hi = true then some (upto lo (hi - lo).toNat) else none
def tapp (xs : List A) (x : A) : Option (List A) := if xs.length < LINE then some (xs ++ [x]) else none
def tcat (xs ys : List A) : Option (List A) := if xs.length + ys.length ≤ LINE then some (xs ++ ys) else none
def tmin (lt : A → A → Bool) : List A → Option A
  | [] => none
  | x :: xs => some (xs.foldl (fun a y => if lt y a = true then y else a) x)
def tmax (lt : A → A → Bool) : List A → Option A
  | [] => none
  | x :: xs => some (xs.foldl (fun a y => if lt a y = true then y else a) x)
def tsort (lt : A → A → Bool) (xs : List A) : List A := xs.mergeSort fun a b => !lt b a
def tsortU (xs : List Int) : Option (List Int) := if xs.length < 64 then some (sortU xs) else none
def tlenU (xs : List Int) : Option Int := if xs.length ≤ 4000 then some (sortU xs).length else none
def cut (xs : List A) (lo hi : Option Int) : List A := (xs.drop (HT.sIx xs.length 0 lo)).take (HT.sIx xs.length xs.length hi - HT.sIx xs.length 0 lo)
def tset (xs : List A) (i : Int) (x : A) : Option (List A) := (L2.ixN xs.length i).map fun j => xs.set j x
def tpop (xs : List A) : Option (A × List A) := (xs[xs.length - 1]?).map fun a => (a, xs.dropLast)
def trepL (xs : List A) (j : Int) : Option (List A) := if decide (-(9223372036854775808) ≤ j) && (decide (j < 9223372036854775808) && decide (xs.length * j.toNat ≤ LINE)) then some (List.replicate j.toNat xs).flatten else none
def trepV (xs : List A) (j : Int) : Option (List A) := if j = 1 then some xs else if (!xs.isEmpty && decide (2 ≤ j)) && (decide (j ≤ 1000) && decide (xs.length ≤ 1000)) then some (List.replicate j.toNat xs).flatten else none
def trepZ (xs : List A) (j : Int) : Option (List A) := if j = 0 then (if xs.isEmpty = true then none else some []) else trepV xs j
def tall : List (Option A) → Option (List A)
  | [] => some []
  | x :: xs => x.bind fun a => (tall xs).bind fun as => some (a :: as)
def tmap (f : A → Option B) : List A → Option (List B)
  | [] => some []
  | x :: xs => (f x).bind fun y => (tmap f xs).bind fun ys => some (y :: ys)
def tfilt (p : A → Option Bool) : List A → Option (List A)
  | [] => some []
  | x :: xs => (p x).bind fun b => (tfilt p xs).bind fun ys => some (if b = true then x :: ys else ys)
def tmapS (f : A → B → Option (C × B)) : List A → B → Option (List C × B)
  | [], s => some ([], s)
  | x :: xs, s => (f x s).bind fun y => (tmapS f xs y.2).bind fun r => some (y.1 :: r.1, r.2)
/-- leave, or go on -/
inductive Ex (E B : Type) where
  | ex (e : E)
  | go (b : B)
def Ex.cas (x : Ex E B) (f : E → C) (g : B → C) : C := match x with | .ex e => f e | .go b => g b
@[simp] theorem cas_ex (e : E) (f : E → C) (g : B → C) : (Ex.ex e : Ex E B).cas f g = f e := rfl
@[simp] theorem cas_go (b : B) (f : E → C) (g : B → C) : (Ex.go b : Ex E B).cas f g = g b := rfl
def tfold (f : A → B → Option B) : List A → B → Option B
  | [], b => some b
  | a :: as, b => (f a b).bind fun b' => tfold f as b'
/-- a body that may leave -/
def tforr (f : A → B → Option (Ex E B)) : List A → B → Option (Ex E B)
  | [], b => some (.go b)
  | a :: as, b => (f a b).bind fun r => r.cas (fun e => some (.ex e)) fun b' => tforr f as b'
/-- a body that may break -/
def tforb (f : A → B → Option (Ex B B)) : List A → B → Option B
  | [], b => some b
  | a :: as, b => (f a b).bind fun r => r.cas (fun e => some e) fun b' => tforb f as b'
/-- .. and both: leaves with ex (ex e), breaks with ex (go b) -/
def tforx (f : A → B → Option (Ex (Ex E B) B)) : List A → B → Option (Ex E B)
  | [], b => some (.go b)
  | a :: as, b => (f a b).bind fun r => r.cas (fun e => some e) fun b' => tforx f as b'
def twh (c : B → Option Bool) (f : B → Option B) : Nat → B → Option B
  | 0, _ => none
  | n + 1, b => (c b).bind fun k => if k = true then (f b).bind fun b' => twh c f n b' else some b
def twhx (c : B → Option Bool) (f : B → Option (Ex (Ex E B) B)) : Nat → B → Option (Ex E B)
  | 0, _ => none
  | n + 1, b => (c b).bind fun k => if k = true then (f b).bind fun r => r.cas (fun e => some e) fun b' => twhx c f n b' else some (.go b)
def twhr (c : B → Option Bool) (f : B → Option (Ex E B)) : Nat → B → Option (Ex E B)
  | 0, _ => none
  | n + 1, b => (c b).bind fun k => if k = true then (f b).bind fun r => r.cas (fun e => some (.ex e)) fun b' => twhr c f n b' else some (.go b)
def twhb (c : B → Option Bool) (f : B → Option (Ex B B)) : Nat → B → Option B
  | 0, _ => none
  | n + 1, b => (c b).bind fun k => if k = true then (f b).bind fun r => r.cas (fun e => some e) fun b' => twhb c f n b' else some b
abbrev FUEL : Nat := 1000000
/-! ### reading the typed side -/
theorem bnd {x : Option A} {f : A → Option B} {r : B} (h : x.bind f = some r) : ∃ a, x = some a ∧ f a = some r := Option.bind_eq_some_iff.mp h
theorem lbnd {a : A} {f : A → Option B} {r : B} (h : tlet a f = some r) : ∃ x, a = x ∧ f x = some r := ⟨a, rfl, h⟩
/-! ### expressions -/
section
variable {ρ : Rho} {M M1 M2 M3 : Mem} {fa fb fc : FE} {d x y z : D} {i : Nat}
theorem x_var (h : gs ρ i = some d) : fVar i ρ M = some (d, M) := by rw [ev_var, gs_at h]
theorem x_int (i : Int) : fC (.int i) ρ M = some (eI.e i, M) := rfl
theorem x_bl (i : Bool) : fC (.bl i) ρ M = some (eB.e i, M) := rfl
theorem x_str (i : Str) : fC (.str i) ρ M = some (eS.e i, M) := rfl
theorem x_non : fC .non ρ M = some (eN.e (), M) := rfl
theorem x_f1 {g : G1} (ha : fa ρ M = some (x, M1)) (hg : g x M1 = some d) : f1 g fa ρ M = some (d, M1) := by rw [ev_f1, ha, Option.bind_some, hg]; rfl
theorem x_f2 {g : G2} (ha : fa ρ M = some (x, M1)) (hb : fb ρ M1 = some (y, M2)) (hg : g x y M2 = some d) : f2 g fa fb ρ M = some (d, M2) := by
  rw [ev_f2, ha, Option.bind_some]; simp only []; rw [hb, Option.bind_some]; simp only []; rw [hg]; rfl
theorem x_f2T {g : G2B} {b : Bool} (ha : fa ρ M = some (x, M1)) (hb : fb ρ M1 = some (y, M2)) (hg : g x y M2 = some b) : f2T g fa fb ρ M = some (b, M2) := by
  rw [ev_f2T, ha, Option.bind_some]; simp only []; rw [hb, Option.bind_some]; simp only []; rw [hg]; rfl
theorem g_B {g : G2B} {b : Bool} (h : g x y M = some b) : gB g x y M = some (eB.e b) := by rw [ev_gB, h]; rfl
theorem x_co {c : Ec A} {c' : Ec A'} {a : A} {a' : A'} (h : fa ρ M = some (c.e a, M1)) (E : c'.e a' = c.e a) : fa ρ M = some (c'.e a', M1) := by rw [E]; exact h
theorem x_cast {c : Ec A} {o : Option A} {a : A} (h : fa ρ M = some ((eO c).e o, M1)) (E : o = some a) : fa ρ M = some (c.e a, M1) := by rw [h, E]; rfl
theorem x_eq {c : Ec A} {a b : A} (h : fa ρ M = some (c.e a, M1)) (E : a = b) : fa ρ M = some (c.e b, M1) := by rw [h, E]
theorem x_chain {g g' : G2B} {b b' : Bool} (ha : fa ρ M = some (x, M1)) (hb : fb ρ M1 = some (y, M2)) (hg : g x y M2 = some b) (hc : fc ρ M2 = some (z, M2)) (hg' : g' y z M2 = some b') : fChain g g' fa fb fc ρ M = some (eB.e (b && b'), M2) := by
  rw [ev_chain, ha, Option.bind_some]; simp only []; rw [hb, Option.bind_some]; simp only []; rw [hg, Option.bind_some]
  cases b
  · rfl
  · rw [if_pos rfl, hc, Option.bind_some]; simp only []; rw [hg']; rfl
theorem x_chainT {g g' : G2B} {b b' : Bool} (ha : fa ρ M = some (x, M1)) (hb : fb ρ M1 = some (y, M2)) (hg : g x y M2 = some b) (hc : fc ρ M2 = some (z, M2)) (hg' : g' y z M2 = some b') : fChainT g g' fa fb fc ρ M = some (b && b', M2) := by
  rw [ev_chainT, ha, Option.bind_some]; simp only []; rw [hb, Option.bind_some]; simp only []; rw [hg, Option.bind_some]
  cases b
  · rfl
  · rw [if_pos rfl, hc, Option.bind_some]; simp only []; rw [hg']; rfl
theorem x_chainM {g g' : G2B} {b b' : Bool} (ha : fa ρ M = some (x, M1)) (hb : fb ρ M1 = some (y, M2)) (hg : g x y M2 = some b) (h : b = true → ∃ z, fc ρ M2 = some (z, M2) ∧ g' y z M2 = some b') (h0 : b = false → b' = false) : fChain g g' fa fb fc ρ M = some (eB.e b', M2) := by
  rw [ev_chain, ha, Option.bind_some]; simp only []; rw [hb, Option.bind_some]; simp only []; rw [hg, Option.bind_some]
  cases b
  · rw [h0 rfl]; rfl
  · obtain ⟨z, hc, hg'⟩ := h rfl
    rw [if_pos rfl, hc, Option.bind_some]; simp only []; rw [hg']; rfl
theorem x_chainTM {g g' : G2B} {b b' : Bool} (ha : fa ρ M = some (x, M1)) (hb : fb ρ M1 = some (y, M2)) (hg : g x y M2 = some b) (h : b = true → ∃ z, fc ρ M2 = some (z, M2) ∧ g' y z M2 = some b') (h0 : b = false → b' = false) : fChainT g g' fa fb fc ρ M = some (b', M2) := by
  rw [ev_chainT, ha, Option.bind_some]; simp only []; rw [hb, Option.bind_some]; simp only []; rw [hg, Option.bind_some]
  cases b
  · rw [h0 rfl]; rfl
  · obtain ⟨z, hc, hg'⟩ := h rfl
    rw [if_pos rfl, hc, Option.bind_some]; simp only []; rw [hg']; rfl
end
section
variable {M : Mem} (a b : Int)
theorem g_add : gAdd (eI.e a) (eI.e b) M = some (eI.e (a + b)) := rfl
theorem g_sub : gSub (eI.e a) (eI.e b) M = some (eI.e (a - b)) := rfl
theorem g_neg : gNeg (eI.e a) M = some (eI.e (-a)) := rfl
variable {a b}
theorem g_mul {c : Int} (h : tmul a b = some c) : gMul (eI.e a) (eI.e b) M = some (eI.e c) := by
  show (if okMul a b = true then some (D.int (a * b)) else none) = _
  unfold tmul at h
  split at h
  · rename_i q; rw [if_pos q]; cases h; rfl
  · cases h
theorem g_mulR (h : b.natAbs < 18446744073709551616) : gMul (eI.e a) (eI.e b) M = some (eI.e (a * b)) := if_pos (okMul_r h)
theorem g_mulL (h : a.natAbs < 18446744073709551616) : gMul (eI.e a) (eI.e b) M = some (eI.e (a * b)) := if_pos (okMul_l h)
theorem g_div {c : Int} (h : tdiv a b = some c) : gFdiv (eI.e a) (eI.e b) M = some (eI.e c) := by
  show (if okDiv b = true then some (D.int (a.fdiv b)) else none) = _
  unfold tdiv at h
  split at h
  · rename_i q; rw [if_pos q]; cases h; rfl
  · cases h
theorem two64_9000 : (18446744073709551616 : Nat) < 2 ^ 9000 := Nat.lt_of_lt_of_le (by decide : (18446744073709551616 : Nat) < 2 ^ 65) (Nat.pow_le_pow_right (by decide) (by decide))
theorem okDiv_lit (h0 : b ≠ 0) (h : b.natAbs < 18446744073709551616) : okDiv b = true := okDiv_of h0 (Nat.lt_trans h two64_9000)
theorem g_divL (h0 : b ≠ 0) (h : b.natAbs < 18446744073709551616) : gFdiv (eI.e a) (eI.e b) M = some (eI.e (a.fdiv b)) := if_pos (okDiv_lit h0 h)
theorem g_mod {c : Int} (h : tmod a b = some c) : gMod (eI.e a) (eI.e b) M = some (eI.e c) := by
  show (if decide (b ≠ 0) = true then some (D.int (a.fmod b)) else none) = _
  unfold tmod at h
  split at h
  · rename_i q; rw [if_pos (decide_eq_true q)]; cases h; rfl
  · cases h
theorem g_modL (h0 : b ≠ 0) : gMod (eI.e a) (eI.e b) M = some (eI.e (a.fmod b)) := if_pos (decide_eq_true h0)
theorem g_pow {c : Int} (h : tpow a b = some c) : gPow (eI.e a) (eI.e b) M = some (eI.e c) := by
  show (if okPow a b = true then some (D.int (a ^ b.toNat)) else none) = _
  unfold tpow at h
  split at h
  · rename_i q; rw [if_pos q]; cases h; rfl
  · cases h
theorem g_powL {c : Int} (h : okPow a b = true) (hc : a ^ b.toNat = c) : gPow (eI.e a) (eI.e b) M = some (eI.e c) := by subst hc; exact if_pos h
theorem c_int (c : Int → Int → Bool) : gCmp c (eI.e a) (eI.e b) M = some (c a b) := rfl
end
section
variable {M : Mem} {c : Ec A}
theorem val_nr {d : D} (h : d.nr = true) : d.val M = some d := by
  cases d with
  | ref _ => cases h
  | _ => rfl
theorem v_ec (c : Ec A) (a : A) : (c.e a).val M = some (c.e a) := val_nr (c.nr a)
theorem v_ref {n : Nat} {xs : List A} (h : gm M n = some (cl c xs)) : (D.ref n).val M = some ((eL c).e xs) := by
  show (match M[n]? with | some (.lst xs) => some (D.lst xs) | _ => none) = _
  rw [gm_at h]; rfl
theorem c_eq {x y : D} {a b : A} {k : Nat} [DecidableEq A] (hx : x.val M = some (c.e a)) (hy : y.val M = some (c.e b)) [q : Eqv k c] (hk : Nat.ble k 60 = true := by decide) : gEq x y M = some (decide (a = b)) := by
  unfold gEq
  rw [hx, hy]
  simp only [q.dp 60 (Nat.le_of_ble_eq_true hk) a, q.dp 60 (Nat.le_of_ble_eq_true hk) b, Bool.and_self, if_true, q.eq]
theorem c_ne {x y : D} {a b : A} {k : Nat} [DecidableEq A] (hx : x.val M = some (c.e a)) (hy : y.val M = some (c.e b)) [q : Eqv k c] (hk : Nat.ble k 60 = true := by decide) : gNe x y M = some (!decide (a = b)) := by
  unfold gNe; rw [c_eq hx hy hk]; rfl
theorem any_mem [DecidableEq A] (a : A) : ∀ xs : List A, (xs.any fun z => decide (z = a)) = decide (a ∈ xs)
  | [] => rfl
  | x :: xs => by
    rw [List.any_cons, any_mem a xs]
    by_cases h : x = a
    · subst h; simp
    · have h' : ¬ a = x := fun z => h z.symm
      simp [h, h']
/-- a is one of xs -/
def tin [DecidableEq A] (a : A) (xs : List A) : Bool := xs.any fun z => decide (z = a)
theorem tin_mem [DecidableEq A] {a : A} {xs : List A} : tin a xs = true ↔ a ∈ xs := by unfold tin; rw [any_mem]; exact decide_eq_true_iff
theorem c_in {x y : D} {a : A} {xs : List A} {k : Nat} [DecidableEq A] (hx : x.val M = some (c.e a)) (hy : ∃ y', y.val M = some y' ∧ seqItems y' = some (xs.map c.e) ∧ y'.dp 60 = true) [q : Eqv k c] (hk : Nat.ble k 60 = true := by decide) : gInX x y M = some (tin a xs) := by
  obtain ⟨y', h1, h2, h3⟩ := hy
  unfold gInX
  rw [hx, h1, Option.bind_some, Option.bind_some, q.dp 60 (Nat.le_of_ble_eq_true hk) a, h3, h2]
  simp only [Bool.and_self, if_true, Option.map_some, List.any_map, Function.comp_def, q.eq]; rfl
theorem c_notIn {x y : D} {b : Bool} (h : gInX x y M = some b) : gNotInX x y M = some (!b) := by unfold gNotInX; rw [h]; rfl
theorem i_V {xs : List A} {k : Nat} [DecidableEq A] [q : Eqv k c] (hk : Nat.ble k 59 = true := by decide) : ∃ y', ((eV c).e xs).val M = some y' ∧ seqItems y' = some (xs.map c.e) ∧ y'.dp 60 = true :=
  ⟨_, v_ec _ _, rfl, (q_V (c := c)).dp 60 (by have := Nat.le_of_ble_eq_true hk; omega) xs⟩
theorem i_L {xs : List A} {k : Nat} [DecidableEq A] [q : Eqv k c] (hk : Nat.ble k 59 = true := by decide) : ∃ y', ((eL c).e xs).val M = some y' ∧ seqItems y' = some (xs.map c.e) ∧ y'.dp 60 = true :=
  ⟨_, v_ec _ _, rfl, (q_L (c := c)).dp 60 (by have := Nat.le_of_ble_eq_true hk; omega) xs⟩
theorem i_R {xs : List A} {k n : Nat} [DecidableEq A] [q : Eqv k c] (h : gm M n = some (cl c xs)) (hk : Nat.ble k 59 = true := by decide) : ∃ y', (D.ref n).val M = some y' ∧ seqItems y' = some (xs.map c.e) ∧ y'.dp 60 = true :=
  ⟨_, v_ref h, rfl, (q_L (c := c)).dp 60 (by have := Nat.le_of_ble_eq_true hk; omega) xs⟩
theorem is_O [n : NotN c] (o : Option A) : gIs ((eO c).e o) (eN.e ()) M = some o.isNone := by
  cases o with
  | none => rfl
  | some a => show some (isNn (c.e a)) = _; rw [n.nn]; rfl
theorem is_X [n : NotN c] (a : A) : gIs (c.e a) (eN.e ()) M = some false := by show some (isNn (c.e a)) = _; rw [n.nn]
theorem is_N : gIs (eN.e ()) (eN.e ()) M = some true := rfl
theorem is_B (a b : Bool) : gIs (eB.e a) (eB.e b) M = some (decide (a = b)) := rfl
theorem isNot_O [n : NotN c] (o : Option A) : gIsNot ((eO c).e o) (eN.e ()) M = some o.isSome := by unfold gIsNot; rw [is_O]; cases o <;> rfl
theorem is_not {x y : D} {b : Bool} (h : gIs x y M = some b) : gIsNot x y M = some (!b) := by unfold gIsNot; rw [h]; rfl
theorem is_R {n : Nat} : gIs (.ref n) (eN.e ()) M = some false := rfl
theorem c_lt {k : Nat} {lt : A → A → Bool} [DecidableEq A] [q : Eqv k c] [o : Ord c lt] (a b : A) (hk : Nat.ble k 60 = true := by decide) : gCmpD PySem.W.dataLt (c.e a) (c.e b) M = some (lt a b) := by
  unfold gCmpD
  rw [v_ec, v_ec]
  simp only [q.dp 60 (Nat.le_of_ble_eq_true hk) a, q.dp 60 (Nat.le_of_ble_eq_true hk) b, o.al, o.nn, Bool.and_self, Bool.not_false, Bool.and_true, if_true, o.dl]
theorem c_gt {k : Nat} {lt : A → A → Bool} [DecidableEq A] [q : Eqv k c] [o : Ord c lt] (a b : A) (hk : Nat.ble k 60 = true := by decide) : gCmpD (fun a b => PySem.W.dataLt b a) (c.e a) (c.e b) M = some (lt b a) := by
  unfold gCmpD
  rw [v_ec, v_ec]
  simp only [q.dp 60 (Nat.le_of_ble_eq_true hk) a, q.dp 60 (Nat.le_of_ble_eq_true hk) b, o.al, o.nn, Bool.and_self, Bool.not_false, Bool.and_true, if_true, o.dl]
/-! sequences -/
structure Sq (d : D) (M : Mem) (c : Ec A) (xs : List A) : Prop where
  sq : sqOf d M = some (xs.map c.e)
  ns : ∀ x, d ≠ .str x
structure Ls (d : D) (M : Mem) (c : Ec A) (xs : List A) : Prop where
  ls : lsOf d M = some (xs.map c.e)
  nt : ∀ x, d ≠ .tup x
structure Lt (d : D) (M : Mem) (c : Ec A) (xs : List A) : Prop where
  lt : ltOf d M = some (xs.map c.e)
  nt : ∀ x, d ≠ .tup x
  ns : ∀ x, d ≠ .str x
  ni : ∀ x, d ≠ .int x
theorem s_V {xs : List A} : Sq ((eV c).e xs) M c xs := ⟨rfl, fun _ h => by cases h⟩
theorem s_L {xs : List A} : Sq ((eL c).e xs) M c xs := ⟨rfl, fun _ h => by cases h⟩
theorem s_K {xs : List A} : Sq ((eK c).e xs) M c xs := ⟨rfl, fun _ h => by cases h⟩
theorem ls_ref {n : Nat} {xs : List A} (h : gm M n = some (cl c xs)) : lsOf (.ref n) M = some (xs.map c.e) := by rw [ev_lsr, gm_at h]; rfl
theorem s_R {n : Nat} {xs : List A} (h : gm M n = some (cl c xs)) : Sq (.ref n) M c xs := ⟨ls_ref h, fun _ h => by cases h⟩
theorem l_L {xs : List A} : Ls ((eL c).e xs) M c xs := ⟨rfl, fun _ h => by cases h⟩
theorem l_K {xs : List A} : Ls ((eK c).e xs) M c xs := ⟨rfl, fun _ h => by cases h⟩
theorem l_R {n : Nat} {xs : List A} (h : gm M n = some (cl c xs)) : Ls (.ref n) M c xs := ⟨ls_ref h, fun _ h => by cases h⟩
theorem t_L {xs : List A} : Lt ((eL c).e xs) M c xs := ⟨rfl, fun _ h => (by cases h), fun _ h => (by cases h), fun _ h => (by cases h)⟩
theorem t_R {n : Nat} {xs : List A} (h : gm M n = some (cl c xs)) : Lt (.ref n) M c xs := ⟨ls_ref h, fun _ h => (by cases h), fun _ h => (by cases h), fun _ h => (by cases h)⟩
/-! truth -/
theorem tr_B (b : Bool) : gTru (eB.e b) M = some b := rfl
theorem tr_I (i : Int) : gTru (eI.e i) M = some (i != 0) := rfl
theorem tr_N : gTru (eN.e ()) M = some false := rfl
theorem tr_S {d : D} {xs : List A} (s : Sq d M c xs) : gTru d M = some (!xs.isEmpty) := by
  have h : (sqOf d M).map (fun xs => !xs.isEmpty) = some (!xs.isEmpty) := by rw [s.sq]; cases xs <;> rfl
  cases d with
  | str x => exact absurd rfl (s.ns x)
  | non => cases s.sq
  | bl _ => cases s.sq
  | int _ => cases s.sq
  | tup _ => exact h
  | lst _ => exact h
  | kst _ => exact h
  | ref _ => exact h
theorem tr_T {d : D} {ds : List D} : gTru (.tup (d :: ds)) M = some true := rfl
theorem tr_O (o : Option A) (h : ∀ a, gTru (c.e a) M = some true) : gTru ((eO c).e o) M = some o.isSome := by
  cases o with
  | none => rfl
  | some a => exact h a
end
/-! displays, parts -/
section
variable {ρ : Rho} {M M1 M2 M3 : Mem} {fa fb fc : FE} {f : FA} {d x y z : D} {ds : List D}
theorem x_nil : fNil ρ M = some ([], M) := rfl
theorem x_cons (ha : fa ρ M = some (x, M1)) (hr : f ρ M1 = some (ds, M2)) : fCons fa f ρ M = some (x :: ds, M2) := by
  rw [ev_cons, ha, Option.bind_some]; simp only []; rw [hr]; rfl
theorem x_tup (h : f ρ M = some (ds, M1)) (hl : Nat.ble ds.length 10000 = true) : fTup f ρ M = some (.tup ds, M1) := by
  rw [ev_tup, h, Option.bind_some]
  exact if_pos (Nat.le_trans (Nat.le_of_ble_eq_true hl) (by decide))
section
variable {A1 A2 A3 A4 A5 A6 A7 : Type} {a1 : Ec A1} {a2 : Ec A2} {a3 : Ec A3} {a4 : Ec A4} {a5 : Ec A5} {a6 : Ec A6} {a7 : Ec A7} {u1 : A1} {u2 : A2} {u3 : A3} {u4 : A4} {u5 : A5} {u6 : A6} {u7 : A7}
theorem x_tup0 (h : f ρ M = some ([], M1)) : fTup f ρ M = some (e0.e (), M1) := x_tup h rfl
theorem x_tup1 (h : f ρ M = some ([a1.e u1], M1)) : fTup f ρ M = some ((e1 a1).e u1, M1) := x_tup h rfl
theorem x_tup2 (h : f ρ M = some ([a1.e u1, a2.e u2], M1)) : fTup f ρ M = some ((e2 a1 a2).e (u1, u2), M1) := x_tup h rfl
theorem x_tup3 (h : f ρ M = some ([a1.e u1, a2.e u2, a3.e u3], M1)) : fTup f ρ M = some ((e3 a1 a2 a3).e (u1, u2, u3), M1) := x_tup h rfl
theorem x_tup4 (h : f ρ M = some ([a1.e u1, a2.e u2, a3.e u3, a4.e u4], M1)) : fTup f ρ M = some ((e4 a1 a2 a3 a4).e (u1, u2, u3, u4), M1) := x_tup h rfl
theorem x_tup5 (h : f ρ M = some ([a1.e u1, a2.e u2, a3.e u3, a4.e u4, a5.e u5], M1)) : fTup f ρ M = some ((e5 a1 a2 a3 a4 a5).e (u1, u2, u3, u4, u5), M1) := x_tup h rfl
theorem x_tup6 (h : f ρ M = some ([a1.e u1, a2.e u2, a3.e u3, a4.e u4, a5.e u5, a6.e u6], M1)) : fTup f ρ M = some ((e6 a1 a2 a3 a4 a5 a6).e (u1, u2, u3, u4, u5, u6), M1) := x_tup h rfl
theorem x_tup7 (h : f ρ M = some ([a1.e u1, a2.e u2, a3.e u3, a4.e u4, a5.e u5, a6.e u6, a7.e u7], M1)) : fTup f ρ M = some ((e7 a1 a2 a3 a4 a5 a6 a7).e (u1, u2, u3, u4, u5, u6, u7), M1) := x_tup h rfl
end
theorem x_tupV {c : Ec A} (xs : List A) (h : f ρ M = some (ds, M1)) (e : ds = xs.map c.e) (hl : Nat.ble ds.length 10000 = true) : fTup f ρ M = some ((eV c).e xs, M1) := by subst e; exact x_tup h hl
theorem x_lst {c : Ec A} (xs : List A) (h : f ρ M = some (ds, M1)) (e : ds = xs.map c.e) (hl : Nat.ble ds.length 10000 = true) : fLstD f ρ M = some (xs.map c.e, M1) := by
  subst e
  rw [ev_lstD, h, Option.bind_some]
  exact if_pos (Nat.le_trans (Nat.le_of_ble_eq_true hl) (by decide))
theorem x_fz {c : Ec A} {xs : List A} (h : f ρ M = some (xs.map c.e, M1)) : fFz f ρ M = some ((eL c).e xs, M1) := by rw [ev_fz, h]; rfl
theorem x_mut {c : Ec A} {xs : List A} (h : f ρ M = some (xs.map c.e, M1)) : fMut f ρ M = some (.ref M1.length, M1 ++ [cl c xs]) := by rw [ev_mut, h]; rfl
theorem x_faco {c : Ec A} {c' : Ec A'} {xs : List A} {ys : List A'} (h : f ρ M = some (xs.map c.e, M1)) (E : ys.map c'.e = xs.map c.e) : f ρ M = some (ys.map c'.e, M1) := by rw [E]; exact h
theorem g_at {c : Ec A} {xs : List A} {i : Int} {a : A} (s : Sq d M c xs) (h : tat xs i = some a) : gIx d (eI.e i) M = some (c.e a) := by
  have e : (sqOf d M).bind (fun xs => L2.atI xs i) = some (c.e a) := by
    rw [s.sq, Option.bind_some, atI_eq, List.length_map]
    unfold tat at h
    rw [atI_eq] at h
    obtain ⟨j, h1, h2⟩ := Option.bind_eq_some_iff.mp h
    rw [h1, Option.bind_some, List.getElem?_map, h2]; rfl
  cases d with
  | str x => exact absurd rfl (s.ns x)
  | _ => exact e
theorem g_ix {L : List D} {i : Int} (h : L2.atI L i = some d) : gIx (.tup L) (eI.e i) M = some d := h
theorem o_none : fNoPart ρ M = some (none, M) := rfl
theorem o_part {i : Int} (h : fa ρ M = some (eI.e i, M1)) : fPart fa ρ M = some (some i, M1) := by rw [ev_part, h]; rfl
theorem x_slice {fl fh : FO} {lo hi : Option Int} (ha : fa ρ M = some (x, M1)) (hl : fl ρ M1 = some (lo, M2)) (hh : fh ρ M2 = some (hi, M3)) (hg : gSlice x lo hi M3 = some d) : fSlice fa fl fh ρ M = some (d, M3) := by
  rw [ev_slice, ha, Option.bind_some]; simp only []; rw [hl, Option.bind_some]; simp only []; rw [hh, Option.bind_some]; simp only []; rw [hg]; rfl
theorem cut_map (f : A → B) (xs : List A) (lo hi : Option Int) : cut (xs.map f) lo hi = (cut xs lo hi).map f := by unfold cut; rw [List.length_map, List.map_take, List.map_drop]
theorem cutD_map (f : A → D) (xs : List A) (lo hi : Option Int) : cutD (xs.map f) lo hi = (cut xs lo hi).map f := cut_map f xs lo hi
theorem g_slV {c : Ec A} {xs : List A} {lo hi : Option Int} : gSlice ((eV c).e xs) lo hi M = some ((eV c).e (cut xs lo hi)) := by
  show some (D.tup (cutD (xs.map c.e) lo hi)) = _
  rw [cutD_map]; rfl
theorem g_slL {c : Ec A} {xs : List A} {lo hi : Option Int} (l : Ls d M c xs) : gSlice d lo hi M = some ((eL c).e (cut xs lo hi)) := by
  have e : (lsOf d M).map (fun xs => D.lst (cutD xs lo hi)) = some ((eL c).e (cut xs lo hi)) := by rw [l.ls, Option.map_some, cutD_map]; rfl
  cases d with
  | tup x => exact absurd rfl (l.nt x)
  | _ => exact e
theorem g_slT {L L' : List D} {lo hi : Option Int} (h : cutD L lo hi = L') : gSlice (.tup L) lo hi M = some (.tup L') := by subst h; rfl
theorem x_sliceN {c : Ec A} {xs : List A} {fl fh : FO} {lo hi : Option Int} (ha : fa ρ M = some (x, M1)) (hl : fl ρ M1 = some (lo, M2)) (hh : fh ρ M2 = some (hi, M3)) (l : Ls x M3 c xs) : fSliceN fa fl fh ρ M = some ((cut xs lo hi).map c.e, M3) := by
  rw [ev_sliceN, ha, Option.bind_some]; simp only []; rw [hl, Option.bind_some]; simp only []; rw [hh, Option.bind_some]; simp only []; rw [l.ls, Option.bind_some, cutD_map]
theorem x_rev {c : Ec A} {xs : List A} (ha : fa ρ M = some (x, M1)) (l : Ls x M1 c xs) : fRevN fa ρ M = some (xs.reverse.map c.e, M1) := by
  rw [ev_rev, ha, Option.bind_some]; simp only []; rw [l.ls, Option.bind_some, List.map_reverse]
theorem tcat_ok {xs ys zs : List A} (h : tcat xs ys = some zs) : xs.length + ys.length ≤ LINE ∧ zs = xs ++ ys := by
  unfold tcat at h
  split at h
  · rename_i q; cases h; exact ⟨q, rfl⟩
  · cases h
theorem g_catV {c : Ec A} {xs ys zs : List A} (h : tcat xs ys = some zs) : gAdd ((eV c).e xs) ((eV c).e ys) M = some ((eV c).e zs) := by
  obtain ⟨hq, rfl⟩ := tcat_ok h
  show (if (xs.map c.e).length + (ys.map c.e).length ≤ LINE then some (D.tup (xs.map c.e ++ ys.map c.e)) else none) = _
  rw [if_pos (by simpa using hq), ← List.map_append]; rfl
theorem g_catL {c : Ec A} {xs ys zs : List A} (l : Lt x M c xs) (r : Lt y M c ys) (h : tcat xs ys = some zs) : gAdd x y M = some ((eL c).e zs) := by
  obtain ⟨hq, rfl⟩ := tcat_ok h
  have e : (match ltOf x M, ltOf y M with
    | some a, some b => if a.length + b.length ≤ LINE then some (D.lst (a ++ b)) else none
    | _, _ => none) = some ((eL c).e (xs ++ ys)) := by
    rw [l.lt, r.lt]
    simp only [List.length_map]
    rw [if_pos hq, ← List.map_append]; rfl
  unfold gAdd
  split
  · exact absurd rfl (l.ni _)
  · exact absurd rfl (l.ns _)
  · exact absurd rfl (l.nt _)
  · exact e
theorem g_catT {L L' : List D} (h : Nat.ble (L.length + L'.length) 10000 = true) : gAdd (.tup L) (.tup L') M = some (.tup (L ++ L')) := by
  show (if L.length + L'.length ≤ LINE then some (D.tup (L ++ L')) else none) = _
  rw [if_pos (Nat.le_trans (Nat.le_of_ble_eq_true h) (by decide))]
theorem x_catN {c : Ec A} {xs ys zs : List A} (ha : fa ρ M = some (x, M1)) (hb : fb ρ M1 = some (y, M2)) (l : Lt x M2 c xs) (r : Lt y M2 c ys) (h : tcat xs ys = some zs) : f2N gCat fa fb ρ M = some (zs.map c.e, M2) := by
  obtain ⟨hq, rfl⟩ := tcat_ok h
  unfold f2N
  rw [ha, Option.bind_some]; simp only []; rw [hb, Option.bind_some]; simp only []
  unfold gCat
  rw [l.lt, r.lt]
  simp only [List.length_map]
  rw [if_pos hq, ← List.map_append]; rfl
theorem flat_map (f : A → B) (xs : List A) : ∀ n : Nat, (List.replicate n (xs.map f)).flatten = (List.replicate n xs).flatten.map f
  | 0 => rfl
  | n + 1 => by rw [List.replicate_succ, List.replicate_succ, List.flatten_cons, List.flatten_cons, flat_map f xs n, List.map_append]
theorem trepL_ok {xs zs : List A} {j : Int} (h : trepL xs j = some zs) : (decide (-(9223372036854775808) ≤ j) && (decide (j < 9223372036854775808) && decide (xs.length * j.toNat ≤ LINE))) = true ∧ zs = (List.replicate j.toNat xs).flatten := by
  unfold trepL at h
  split at h
  · rename_i q; cases h; exact ⟨q, rfl⟩
  · cases h
theorem g_repL {c : Ec A} {xs zs : List A} {j : Int} (l : Lt x M c xs) (h : trepL xs j = some zs) : gMul x (eI.e j) M = some ((eL c).e zs) := by
  obtain ⟨hq, rfl⟩ := trepL_ok h
  have e : (match ltOf x M with
    | some xs => if decide (-(9223372036854775808) ≤ j) && (decide (j < 9223372036854775808) && decide (xs.length * j.toNat ≤ LINE)) then some (D.lst (List.replicate j.toNat xs).flatten) else none
    | none => none) = some ((eL c).e (List.replicate j.toNat xs).flatten) := by
    rw [l.lt]
    simp only [List.length_map]
    rw [if_pos hq, flat_map]; rfl
  cases x with
  | int i => exact absurd rfl (l.ni _)
  | _ => exact e
theorem trepV_map {c : A → D} {xs zs : List A} {j : Int} (h : trepV xs j = some zs) : gRepT (.tup (xs.map c)) (.int j) M = some (.tup (zs.map c)) := by
  show (if j = 1 then some (D.tup (xs.map c)) else if (!(xs.map c).isEmpty && decide (2 ≤ j)) && (decide (j ≤ 1000) && decide ((xs.map c).length ≤ 1000)) then some (.tup (List.replicate j.toNat (xs.map c)).flatten) else none) = _
  unfold trepV at h
  have e1 : (xs.map c).isEmpty = xs.isEmpty := by cases xs <;> rfl
  rw [e1, List.length_map, flat_map]
  split at h
  · rename_i q; cases h; rw [if_pos q]
  · rename_i q
    rw [if_neg q]
    split at h
    · rename_i q2; cases h; rw [if_pos q2]
    · cases h
theorem g_repV {c : Ec A} {xs zs : List A} {j : Int} (h : trepV xs j = some zs) : gRepT ((eV c).e xs) (eI.e j) M = some ((eV c).e zs) := trepV_map h
theorem g_repZ {c : Ec A} {xs zs : List A} {j : Int} (h : trepZ xs j = some zs) : gRepZ ((eV c).e xs) (eI.e j) M = some ((eV c).e zs) := by
  show (if j = 0 then (if (xs.map c.e).isEmpty = true then none else some (.tup [])) else gRepT (.tup (xs.map c.e)) (.int j) M) = _
  unfold trepZ at h
  have e1 : (xs.map c.e).isEmpty = xs.isEmpty := by cases xs <;> rfl
  rw [e1]
  split at h
  · rename_i q
    rw [if_pos q]
    split at h
    · cases h
    · rename_i q2; cases h; rw [if_neg q2]; rfl
  · rename_i q; rw [if_neg q]; exact trepV_map h
/-! built-ins -/
theorem x_b {g : GN} (ha : f ρ M = some (ds, M1)) (hg : g ds M1 = some d) : fB g f ρ M = some (d, M1) := by rw [ev_b, ha, Option.bind_some]; simp only []; rw [hg]; rfl
theorem x_bN {g : GNN} {xs : List D} (ha : f ρ M = some (ds, M1)) (hg : g ds M1 = some xs) : fBN g f ρ M = some (xs, M1) := by rw [ev_bN, ha, Option.bind_some]; simp only []; rw [hg]; rfl
end
section
variable {M : Mem} {c : Ec A} {d : D} {xs : List A}
theorem b_len (s : Sq d M c xs) : gLen [d] M = some (eI.e (xs.length : Int)) := by
  have e : (sqOf d M).map (fun xs => D.int xs.length) = some (eI.e (xs.length : Int)) := by rw [s.sq, Option.map_some, List.length_map]; rfl
  cases d with
  | str x => exact absurd rfl (s.ns x)
  | _ => exact e
theorem b_lenT {L : List D} {n : Int} (h : (L.length : Int) = n) : gLen [.tup L] M = some (eI.e n) := by subst h; rfl
theorem b_int (i : Int) : gInt [eI.e i] M = some (eI.e i) := rfl
theorem b_intb (b : Bool) : gInt [eB.e b] M = some (eI.e (if b = true then 1 else 0)) := ev_intb M b
theorem b_abs (i : Int) : gAbs [eI.e i] M = some (eI.e (i.natAbs : Int)) := ev_abs M i
theorem b_gcd (i j : Int) : gGcd [eI.e i, eI.e j] M = some (eI.e ((Nat.gcd i.natAbs j.natAbs : Nat) : Int)) := rfl
theorem b_max2 (i j : Int) : gMax2 [eI.e i, eI.e j] M = some (eI.e (max i j)) := by
  show some (D.int (if j > i then j else i)) = some (D.int (max i j))
  congr 2; omega
theorem b_min2 (i j : Int) : gMin2 [eI.e i, eI.e j] M = some (eI.e (min i j)) := by
  show some (D.int (if j < i then j else i)) = some (D.int (min i j))
  congr 2; omega
theorem intsOf_map : ∀ ns : List Int, intsOf (ns.map eI.e) = some ns
  | [] => rfl
  | n :: ns => by
    show (intsOf (ns.map eI.e)).map (n :: ·) = _
    rw [intsOf_map ns]; rfl
theorem blsOf_map : ∀ ns : List Bool, blsOf (ns.map eB.e) = some ns
  | [] => rfl
  | n :: ns => by
    show (blsOf (ns.map eB.e)).map (n :: ·) = _
    rw [blsOf_map ns]; rfl
theorem b_sum {ns : List Int} (s : Sq d M eI ns) : gSumA [d] M = some (eI.e ns.sum) := by
  show (sqOf d M).bind (fun xs => (intsOf xs).map fun ns => D.int ns.sum) = _
  rw [s.sq, Option.bind_some, intsOf_map]; rfl
theorem b_any {bs : List Bool} (l : Ls d M eB bs) : gAny [d] M = some (eB.e (bs.any id)) := by
  show (lsOf d M).bind (fun xs => (blsOf xs).map fun bs => D.bl (bs.any id)) = _
  rw [l.ls, Option.bind_some, blsOf_map]; rfl
theorem b_all {bs : List Bool} (l : Ls d M eB bs) : gAll [d] M = some (eB.e (bs.all id)) := by
  show (lsOf d M).bind (fun xs => (blsOf xs).map fun bs => D.bl (bs.all id)) = _
  rw [l.ls, Option.bind_some, blsOf_map]; rfl
theorem b_tuple (s : Sq d M c xs) : gTuple [d] M = some ((eV c).e xs) := by
  show (sqOf d M).map D.tup = _
  rw [s.sq]; rfl
theorem b_lenU {ns : List Int} {n : Int} (s : Sq d M eI ns) (h : tlenU ns = some n) : gLenU [d] M = some (eI.e n) := by
  show (sqOf d M).bind (fun xs => (intsOf xs).bind fun ns => if ns.length ≤ 4000 then some (D.int (sortU ns).length) else none) = _
  rw [s.sq, Option.bind_some, intsOf_map, Option.bind_some]
  unfold tlenU at h
  split at h
  · rename_i q; rw [if_pos q]; cases h; rfl
  · cases h
theorem n_list (s : Sq d M c xs) : gList [d] M = some (xs.map c.e) := s.sq
theorem n_sortU {ns ms : List Int} (s : Sq d M eI ns) (h : tsortU ns = some ms) : gSortU [d] M = some (ms.map eI.e) := by
  show (sqOf d M).bind (fun xs => (intsOf xs).bind fun ns => if ns.length < 64 then some ((sortU ns).map D.int) else none) = _
  rw [s.sq, Option.bind_some, intsOf_map, Option.bind_some]
  unfold tsortU at h
  split at h
  · rename_i q; rw [if_pos q]; cases h; rfl
  · cases h
variable {lt : A → A → Bool} {k : Nat}
theorem okAl_map [DecidableEq A] [q : Eqv k c] [o : Ord c lt] (hk : k ≤ 59) (xs : List A) : okAl (xs.map c.e) = true := by
  unfold okAl
  rw [nls_map o.nl xs, dps_map (q.dp 59 hk) xs]
  simp only [Bool.and_self, Bool.true_and, Bool.and_eq_true, List.all_eq_true]
  refine ⟨fun a ha b hb => ?_, fun a ha => ?_⟩
  · obtain ⟨x, _, rfl⟩ := List.mem_map.mp ha
    obtain ⟨y, _, rfl⟩ := List.mem_map.mp hb
    exact o.al x y
  · obtain ⟨x, _, rfl⟩ := List.mem_map.mp ha
    rw [o.nn]; rfl
theorem minDd_map [o : Ord c lt] : ∀ (xs : List A) (x : A), minDd (c.e x) (xs.map c.e) = c.e (xs.foldl (fun a y => if lt y a = true then y else a) x)
  | [], _ => rfl
  | y :: xs, x => by
    show minDd (if PySem.W.dataLt (c.e y).py (c.e x).py = true then c.e y else c.e x) (xs.map c.e) = _
    rw [o.dl, show (if lt y x = true then c.e y else c.e x) = c.e (if lt y x = true then y else x) by split <;> rfl, minDd_map xs]; rfl
theorem maxDd_map [o : Ord c lt] : ∀ (xs : List A) (x : A), maxDd (c.e x) (xs.map c.e) = c.e (xs.foldl (fun a y => if lt a y = true then y else a) x)
  | [], _ => rfl
  | y :: xs, x => by
    show maxDd (if PySem.W.dataLt (c.e x).py (c.e y).py = true then c.e y else c.e x) (xs.map c.e) = _
    rw [o.dl, show (if lt x y = true then c.e y else c.e x) = c.e (if lt x y = true then y else x) by split <;> rfl, maxDd_map xs]; rfl
theorem b_min {a : A} [DecidableEq A] [q : Eqv k c] [o : Ord c lt] (s : Sq d M c xs) (h : tmin lt xs = some a) (hk : Nat.ble k 59 = true := by decide) : gMin1 [d] M = some (c.e a) := by
  show (sqOf d M).bind (fun l => match l with | x :: xs => if okAl (x :: xs) = true then some (minDd x xs) else none | [] => none) = _
  rw [s.sq, Option.bind_some]
  cases xs with
  | nil => cases h
  | cons x xs =>
    cases h
    show (if okAl ((x :: xs).map c.e) = true then some (minDd (c.e x) (xs.map c.e)) else none) = _
    rw [if_pos (okAl_map (Nat.le_of_ble_eq_true hk) _), minDd_map]
theorem b_max {a : A} [DecidableEq A] [q : Eqv k c] [o : Ord c lt] (s : Sq d M c xs) (h : tmax lt xs = some a) (hk : Nat.ble k 59 = true := by decide) : gMax1 [d] M = some (c.e a) := by
  show (sqOf d M).bind (fun l => match l with | x :: xs => if okAl (x :: xs) = true then some (maxDd x xs) else none | [] => none) = _
  rw [s.sq, Option.bind_some]
  cases xs with
  | nil => cases h
  | cons x xs =>
    cases h
    show (if okAl ((x :: xs).map c.e) = true then some (maxDd (c.e x) (xs.map c.e)) else none) = _
    rw [if_pos (okAl_map (Nat.le_of_ble_eq_true hk) _), maxDd_map]
class Srt (c : Ec A) : Prop where
  s : ∀ xs : List A, srtb (xs.map c.e) = true
theorem srt_t {f : A → D} (h : ∀ a, ∃ d ds, f a = .tup (d :: ds)) (xs : List A) : srtb (xs.map f) = true := by
  unfold srtb
  rw [Bool.or_eq_true]
  refine .inl (List.all_eq_true.mpr fun x hx => ?_)
  obtain ⟨a, _, rfl⟩ := List.mem_map.mp hx
  obtain ⟨d, ds, e⟩ := h a
  rw [e]
theorem srt_i {f : A → D} (h : ∀ a, (∃ i, f a = .int i) ∨ (∃ i, f a = .bl i)) (xs : List A) : srtb (xs.map f) = true := by
  unfold srtb
  rw [Bool.or_eq_true]
  refine .inr (List.all_eq_true.mpr fun x hx => ?_)
  obtain ⟨a, _, rfl⟩ := List.mem_map.mp hx
  rcases h a with ⟨d, e⟩ | ⟨d, e⟩ <;> rw [e]
instance sr_I : Srt eI := ⟨srt_i fun a => .inl ⟨a, rfl⟩⟩
instance sr_B : Srt eB := ⟨srt_i fun a => .inr ⟨a, rfl⟩⟩
section
variable {A1 A2 A3 A4 A5 : Type} {a1 : Ec A1} {a2 : Ec A2} {a3 : Ec A3} {a4 : Ec A4} {a5 : Ec A5}
instance sr_1 : Srt (e1 a1) := ⟨srt_t fun _ => ⟨_, _, rfl⟩⟩
instance sr_2 : Srt (e2 a1 a2) := ⟨srt_t fun _ => ⟨_, _, rfl⟩⟩
instance sr_3 : Srt (e3 a1 a2 a3) := ⟨srt_t fun _ => ⟨_, _, rfl⟩⟩
instance sr_4 : Srt (e4 a1 a2 a3 a4) := ⟨srt_t fun _ => ⟨_, _, rfl⟩⟩
instance sr_5 : Srt (e5 a1 a2 a3 a4 a5) := ⟨srt_t fun _ => ⟨_, _, rfl⟩⟩
end
theorem n_sort [DecidableEq A] [q : Eqv k c] [o : Ord c lt] [t : Srt c] (l : Sq d M c xs) (hk : Nat.ble k 59 = true := by decide) : gSortA [d] M = some ((tsort lt xs).map c.e) := by
  show (sqOf d M).bind (fun xs => if (okAl xs && srtb xs) = true then some (sortD xs) else none) = _
  rw [l.sq, Option.bind_some, if_pos (by rw [okAl_map (Nat.le_of_ble_eq_true hk), t.s]; rfl)]
  congr 1
  refine (List.map_mergeSort (f := c.e) (r := fun a b => !lt b a) (s := leD) fun a _ b _ => ?_).symm
  show _ = PySem.W.dataLe false D.py (c.e a) (c.e b)
  rw [PySem.W.dataLe_eq]
  show _ = !PySem.W.dataLt (c.e b).py (c.e a).py
  rw [o.dl]
end
end TL
namespace TL
open PySem PySem.Spec PyProof.Rows L2 PF
variable {A B C S A' B' C' E : Type}
/-! ### what is walked -/
section
variable {ρ : Rho} {M M1 M2 : Mem} {fa : FE} {f : FA} {d : D} {c : Ec A} {xs : List A}
theorem i_sq (ha : fa ρ M = some (d, M1)) (s : Sq d M1 c xs) (hr : d.isRef = false) : fiSq fa ρ M = some ((xs.map c.e, none), M1) := by
  unfold fiSq
  rw [ha, Option.bind_some]
  simp only []
  have e : (sqOf d M1).bind (fun xs => some ((xs, (none : Option Nat)), M1)) = some ((xs.map c.e, none), M1) := by rw [s.sq]; rfl
  cases d with
  | ref _ => cases hr
  | _ => exact e
theorem i_ref {n : Nat} (ha : fa ρ M = some (.ref n, M1)) (h : gm M1 n = some (cl c xs)) : fiSq fa ρ M = some ((xs.map c.e, some n), M1) := by
  unfold fiSq
  rw [ha, Option.bind_some]
  simp only []
  rw [ls_ref h]; rfl
theorem trg_ok {lo hi : Int} {xs : List Int} (h : trg lo hi = some xs) : okR lo hi = true ∧ xs = upto lo (hi - lo).toNat := by
  unfold trg at h
  split at h
  · rename_i q; cases h; exact ⟨q, rfl⟩
  · cases h
theorem upto_map (lo : Int) (n : Nat) : rgD lo n = (upto lo n).map eI.e := by unfold rgD upto; rw [List.map_map]; rfl
theorem i_rg1 {j : Int} {xs : List Int} (hf : f ρ M = some ([eI.e j], M1)) (h : trg 0 j = some xs) : fiRg1 f ρ M = some ((xs.map eI.e, none), M1) := by
  obtain ⟨h1, rfl⟩ := trg_ok h
  rw [ev_rg1, hf, Option.bind_some]
  show rg1 [.int j] M1 = _
  rw [ev_rgh1 _ h1, ← upto_map, Int.sub_zero]
theorem i_rg2 {i j : Int} {xs : List Int} (hf : f ρ M = some ([eI.e i, eI.e j], M1)) (h : trg i j = some xs) : fiRg2 f ρ M = some ((xs.map eI.e, none), M1) := by
  obtain ⟨h1, rfl⟩ := trg_ok h
  rw [ev_rg2, hf, Option.bind_some]
  show rg2 [.int i, .int j] M1 = _
  rw [ev_rgh2 _ h1, ← upto_map]
theorem x_lrg1 {j : Int} {xs : List Int} (hf : f ρ M = some ([eI.e j], M1)) (h : trg 0 j = some xs) : fLstRg1 f ρ M = some (xs.map eI.e, M1) := by
  obtain ⟨h1, rfl⟩ := trg_ok h
  unfold fLstRg1
  rw [hf, Option.bind_some]
  show (if okR 0 j then some (rgD 0 j.toNat, M1) else none) = _
  rw [if_pos h1, ← upto_map, Int.sub_zero]
theorem x_lrg2 {i j : Int} {xs : List Int} (hf : f ρ M = some ([eI.e i, eI.e j], M1)) (h : trg i j = some xs) : fLstRg2 f ρ M = some (xs.map eI.e, M1) := by
  obtain ⟨h1, rfl⟩ := trg_ok h
  unfold fLstRg2
  rw [hf, Option.bind_some]
  show (if okR i j then some (rgD i (j - i).toNat, M1) else none) = _
  rw [if_pos h1, ← upto_map]
theorem x_trg1 {j : Int} {xs : List Int} (hf : f ρ M = some ([eI.e j], M1)) (h : trg 0 j = some xs) : fTupRg1 f ρ M = some ((eV eI).e xs, M1) := by
  obtain ⟨h1, rfl⟩ := trg_ok h
  unfold fTupRg1
  rw [hf, Option.bind_some]
  show (if okR 0 j then some (D.tup (rgD 0 j.toNat), M1) else none) = _
  rw [if_pos h1, upto_map, Int.sub_zero]; rfl
theorem chk_0 {M : Mem} {L : List D} : chk none L M = true := rfl
theorem chk_r {n : Nat} (h : gm M n = some (cl c xs)) : chk (some n) (xs.map c.e) M = true := by
  unfold chk
  simp only [gm_at h]
  exact D.beqs_refl _
end
/-! ### comprehensions -/
section
variable {c : Mem → Bool} {t : FG} {ft : FT} {fe : FE} {ρ : Rho} {cA : Ec A} {cB : Ec B}
theorem tfilt_some (p : A → Bool) : ∀ xs : List A, tfilt (fun x => some (p x)) xs = some (xs.filter p)
  | [] => rfl
  | x :: xs => by
    rw [tfilt, Option.bind_some, tfilt_some p xs, Option.bind_some, List.filter_cons]
theorem tmap_some (f : A → B) : ∀ xs : List A, tmap (fun x => some (f x)) xs = some (xs.map f)
  | [] => rfl
  | x :: xs => by rw [tmap, Option.bind_some, tmap_some f xs]; rfl
/-- the core: a state s that stands for the changeable lists -/
theorem lcore {p : A → Option Bool} {f : A → S → Option (B × S)} (Mm : S → Mem) (hc : ∀ s, c (Mm s) = true)
    (step : ∀ x s, ∃ ρ', t (cA.e x) ρ = some ρ' ∧ (∀ b, p x = some b → ft ρ' (Mm s) = some (b, Mm s)) ∧ ∀ y s1, f x s = some (y, s1) → fe ρ' (Mm s) = some (cB.e y, Mm s1)) :
    ∀ (xs zs : List A) (ys : List B) (s s' : S) (acc : List D), tfilt p xs = some zs → tmapS f zs s = some (ys, s') → lcLoop c t ft fe ρ (xs.map cA.e) acc (Mm s) = some (acc ++ ys.map cB.e, Mm s')
  | [], zs, ys, s, s', acc, hz, h => by
    cases hz; cases h
    rw [List.map_nil, lcLoop, if_pos (hc s), List.map_nil, List.append_nil]
  | x :: xs, zs, ys, s, s', acc, hz, h => by
    obtain ⟨b, hb, hz⟩ := bnd hz
    obtain ⟨zs', hz', hz⟩ := bnd hz
    obtain ⟨ρ', e1, e2, e3⟩ := step x s
    rw [List.map_cons, lcLoop, if_pos (hc s), e1, Option.bind_some, e2 b hb, Option.bind_some]
    simp only []
    cases b with
    | false =>
      rw [if_neg Bool.false_ne_true] at hz ⊢
      cases hz
      exact lcore Mm hc step xs zs ys s s' acc hz' h
    | true =>
      rw [if_pos rfl] at hz ⊢
      cases hz
      obtain ⟨⟨y, s1⟩, hy, h⟩ := bnd h
      obtain ⟨⟨ys', s2⟩, hys, h⟩ := bnd h
      cases h
      rw [e3 y s1 hy, Option.bind_some]
      simp only []
      rw [lcore Mm hc step xs zs' ys' s1 _ _ hz' hys, List.map_cons, List.append_assoc]; rfl
theorem tmap_S {f : A → Option B} : ∀ {xs : List A} {ys : List B}, tmap f xs = some ys → tmapS (fun x (_ : Unit) => (f x).map fun y => (y, ())) xs () = some (ys, ())
  | [], ys, h => by cases h; rfl
  | x :: xs, ys, h => by
    obtain ⟨y, hy, h⟩ := bnd h
    obtain ⟨ys', hys, h⟩ := bnd h
    cases h
    rw [tmapS, hy, Option.map_some, Option.bind_some, tmap_S hys]; rfl
theorem lclM {p : A → Option Bool} {f : A → Option B} {M : Mem} (hc : c M = true)
    (step : ∀ x, ∃ ρ', t (cA.e x) ρ = some ρ' ∧ (∀ b, p x = some b → ft ρ' M = some (b, M)) ∧ ∀ y, f x = some y → fe ρ' M = some (cB.e y, M))
    (xs zs : List A) (ys : List B) (acc : List D) (hz : tfilt p xs = some zs) (h : tmap f zs = some ys) : lcLoop c t ft fe ρ (xs.map cA.e) acc M = some (acc ++ ys.map cB.e, M) :=
  lcore (S := Unit) (fun _ => M) (fun _ => hc) (fun x _ => by
    obtain ⟨ρ', h1, h2, h3⟩ := step x
    refine ⟨ρ', h1, h2, fun y s1 hy => ?_⟩
    obtain ⟨y', hy', e⟩ := Option.map_eq_some_iff.mp hy
    cases e
    exact h3 y hy') xs zs ys () () acc hz (tmap_S h)
variable {fi : FI} {vs : List Nat} {M M1 : Mem} {kk : Option Nat} {xs zs : List A} {ys : List B}
theorem x_lcS {f : A → S → Option (B × S)} (Mm : S → Mem) {s s' : S} (hi : fi ρ M = some ((xs.map cA.e, kk), Mm s)) (hc : ∀ s, chk kk (xs.map cA.e) (Mm s) = true) (h : tmapS f xs s = some (ys, s'))
    (step : ∀ x s, ∃ ρ', t (cA.e x) (wipeR ρ vs) = some ρ' ∧ ∀ y s1, f x s = some (y, s1) → fe ρ' (Mm s) = some (cB.e y, Mm s1)) : fLC vs fi t fYes fe ρ M = some (ys.map cB.e, Mm s') := by
  rw [ev_lc, hi, Option.bind_some]
  exact (lcore (p := fun _ => some true) Mm hc (fun x s => by
    obtain ⟨ρ', h1, h2⟩ := step x s
    exact ⟨ρ', h1, fun b hb => by cases hb; rfl, h2⟩) xs xs ys s s' [] (by rw [tfilt_some, List.filter_eq_self.mpr fun _ _ => rfl]) h)
theorem x_lcSf {p : A → Bool} {f : A → S → Option (B × S)} (Mm : S → Mem) {s s' : S} (hi : fi ρ M = some ((xs.map cA.e, kk), Mm s)) (hc : ∀ s, chk kk (xs.map cA.e) (Mm s) = true) (h : tmapS f (xs.filter p) s = some (ys, s'))
    (step : ∀ x s, ∃ ρ', t (cA.e x) (wipeR ρ vs) = some ρ' ∧ ft ρ' (Mm s) = some (p x, Mm s) ∧ ∀ y s1, f x s = some (y, s1) → fe ρ' (Mm s) = some (cB.e y, Mm s1)) : fLC vs fi t ft fe ρ M = some (ys.map cB.e, Mm s') := by
  rw [ev_lc, hi, Option.bind_some]
  exact (lcore (p := fun x => some (p x)) Mm hc (fun x s => by
    obtain ⟨ρ', h1, h2, h3⟩ := step x s
    exact ⟨ρ', h1, fun b hb => by cases hb; exact h2, h3⟩) xs _ ys s s' [] (tfilt_some p xs) h)
theorem x_lcG {p : A → Option Bool} {f : A → Option B} (hi : fi ρ M = some ((xs.map cA.e, kk), M1)) (hc : chk kk (xs.map cA.e) M1 = true) (hz : tfilt p xs = some zs) (h : tmap f zs = some ys)
    (step : ∀ x, ∃ ρ', t (cA.e x) (wipeR ρ vs) = some ρ' ∧ (∀ b, p x = some b → ft ρ' M1 = some (b, M1)) ∧ ∀ y, f x = some y → fe ρ' M1 = some (cB.e y, M1)) : fLC vs fi t ft fe ρ M = some (ys.map cB.e, M1) := by
  rw [ev_lc, hi, Option.bind_some]
  exact lclM hc step xs zs ys [] hz h
/-- pure -/
theorem x_lc0 {g : A → B} (hi : fi ρ M = some ((xs.map cA.e, kk), M1)) (hc : chk kk (xs.map cA.e) M1 = true)
    (step : ∀ x, ∃ ρ', t (cA.e x) (wipeR ρ vs) = some ρ' ∧ fe ρ' M1 = some (cB.e (g x), M1)) : fLC vs fi t fYes fe ρ M = some ((xs.map g).map cB.e, M1) :=
  x_lcG (p := fun _ => some true) (f := fun x => some (g x)) hi hc (by rw [tfilt_some, List.filter_eq_self.mpr fun _ _ => rfl]) (tmap_some g xs) fun x => by
    obtain ⟨ρ', h1, h2⟩ := step x
    exact ⟨ρ', h1, fun b hb => by cases hb; rfl, fun y hy => by cases hy; exact h2⟩
theorem x_lc0f {p : A → Bool} {g : A → B} (hi : fi ρ M = some ((xs.map cA.e, kk), M1)) (hc : chk kk (xs.map cA.e) M1 = true)
    (step : ∀ x, ∃ ρ', t (cA.e x) (wipeR ρ vs) = some ρ' ∧ ft ρ' M1 = some (p x, M1) ∧ fe ρ' M1 = some (cB.e (g x), M1)) : fLC vs fi t ft fe ρ M = some (((xs.filter p).map g).map cB.e, M1) :=
  x_lcG (p := fun x => some (p x)) (f := fun x => some (g x)) hi hc (tfilt_some p xs) (tmap_some g _) fun x => by
    obtain ⟨ρ', h1, h2, h3⟩ := step x
    exact ⟨ρ', h1, fun b hb => by cases hb; exact h2, fun y hy => by cases hy; exact h3⟩
theorem x_lcM {f : A → Option B} (hi : fi ρ M = some ((xs.map cA.e, kk), M1)) (hc : chk kk (xs.map cA.e) M1 = true) (h : tmap f xs = some ys)
    (step : ∀ x, ∃ ρ', t (cA.e x) (wipeR ρ vs) = some ρ' ∧ ∀ y, f x = some y → fe ρ' M1 = some (cB.e y, M1)) : fLC vs fi t fYes fe ρ M = some (ys.map cB.e, M1) :=
  x_lcG (p := fun _ => some true) hi hc (by rw [tfilt_some, List.filter_eq_self.mpr fun _ _ => rfl]) h fun x => by
    obtain ⟨ρ', h1, h2⟩ := step x
    exact ⟨ρ', h1, fun b hb => by cases hb; rfl, h2⟩
theorem x_lcMf {p : A → Bool} {f : A → Option B} (hi : fi ρ M = some ((xs.map cA.e, kk), M1)) (hc : chk kk (xs.map cA.e) M1 = true) (h : tmap f (xs.filter p) = some ys)
    (step : ∀ x, ∃ ρ', t (cA.e x) (wipeR ρ vs) = some ρ' ∧ ft ρ' M1 = some (p x, M1) ∧ ∀ y, f x = some y → fe ρ' M1 = some (cB.e y, M1)) : fLC vs fi t ft fe ρ M = some (ys.map cB.e, M1) :=
  x_lcG (p := fun x => some (p x)) hi hc (tfilt_some p xs) h fun x => by
    obtain ⟨ρ', h1, h2, h3⟩ := step x
    exact ⟨ρ', h1, fun b hb => by cases hb; exact h2, h3⟩
theorem x_lcF {p : A → Option Bool} {g : A → B} (hi : fi ρ M = some ((xs.map cA.e, kk), M1)) (hc : chk kk (xs.map cA.e) M1 = true) (hz : tfilt p xs = some zs)
    (step : ∀ x, ∃ ρ', t (cA.e x) (wipeR ρ vs) = some ρ' ∧ (∀ b, p x = some b → ft ρ' M1 = some (b, M1)) ∧ fe ρ' M1 = some (cB.e (g x), M1)) : fLC vs fi t ft fe ρ M = some ((zs.map g).map cB.e, M1) :=
  x_lcG (f := fun x => some (g x)) hi hc hz (tmap_some g _) fun x => by
    obtain ⟨ρ', h1, h2, h3⟩ := step x
    exact ⟨ρ', h1, h2, fun y hy => by cases hy; exact h3⟩
end
/-! ### two fors -/
def tflat (yss : List (List B)) : Option (List B) := if yss.flatten.length ≤ LINE then some yss.flatten else none
section
variable {c : Mem → Bool} {t t1 : FG} {ft ft1 : FT} {fe : FE} {fi fi1 : FI} {vs vs1 : List Nat} {ρ : Rho} {cA : Ec A} {cB : Ec B} {M M1 : Mem}
theorem lcl2 {p : A → Option Bool} {F : A → Option (List B)} (hc : c M = true)
    (step : ∀ x, ∃ ρ', t (cA.e x) ρ = some ρ' ∧ (∀ b, p x = some b → ft ρ' M = some (b, M)) ∧ ∀ ys, F x = some ys → ∃ ds kk1, fi1 ρ' M = some ((ds, kk1), M) ∧ ∀ acc, lcLoop (chk kk1 ds) t1 ft1 fe (wipeR ρ' vs1) ds acc M = some (acc ++ ys.map cB.e, M)) :
    ∀ (xs zs : List A) (yss : List (List B)) (acc : List D), tfilt p xs = some zs → tmap F zs = some yss → lc2Loop c t ft fi1 vs1 t1 ft1 fe ρ (xs.map cA.e) acc M = some (acc ++ yss.flatten.map cB.e, M)
  | [], zs, ys, acc, hz, h => by
    cases hz; cases h
    rw [List.map_nil, lc2Loop, if_pos hc, List.flatten_nil, List.map_nil, List.append_nil]
  | x :: xs, zs, ys, acc, hz, h => by
    obtain ⟨b, hb, hz⟩ := bnd hz
    obtain ⟨zs', hz', hz⟩ := bnd hz
    obtain ⟨ρ', e1, e2, e3⟩ := step x
    rw [List.map_cons, lc2Loop, if_pos hc, e1, Option.bind_some, e2 b hb, Option.bind_some]
    simp only []
    cases b with
    | false =>
      rw [if_neg Bool.false_ne_true] at hz ⊢
      cases hz
      exact lcl2 hc step xs zs ys acc hz' h
    | true =>
      rw [if_pos rfl] at hz ⊢
      cases hz
      obtain ⟨y, hy, h⟩ := bnd h
      obtain ⟨ys', hys, h⟩ := bnd h
      cases h
      obtain ⟨ds, kk1, g1, g2⟩ := e3 y hy
      rw [g1, Option.bind_some]
      simp only []
      rw [g2 acc, Option.bind_some]
      simp only []
      rw [lcl2 hc step xs zs' ys' _ hz' hys, List.flatten_cons, List.map_append, List.append_assoc]
theorem x_lc2 {kk : Option Nat} {xs zs : List A} {yss : List (List B)} {ys : List B} {p : A → Option Bool} {F : A → Option (List B)} (hi : fi ρ M = some ((xs.map cA.e, kk), M1)) (hc : chk kk (xs.map cA.e) M1 = true) (hz : tfilt p xs = some zs) (h : tmap F zs = some yss) (hl : tflat yss = some ys)
    (step : ∀ x, ∃ ρ', t (cA.e x) (wipeR ρ vs) = some ρ' ∧ (∀ b, p x = some b → ft ρ' M1 = some (b, M1)) ∧ ∀ ys, F x = some ys → ∃ ds kk1, fi1 ρ' M1 = some ((ds, kk1), M1) ∧ ∀ acc, lcLoop (chk kk1 ds) t1 ft1 fe (wipeR ρ' vs1) ds acc M1 = some (acc ++ ys.map cB.e, M1)) :
    fLC2 vs vs1 fi t ft fi1 t1 ft1 fe ρ M = some (ys.map cB.e, M1) := by
  unfold tflat at hl
  split at hl
  · rename_i hq
    cases hl
    rw [ev_lc2, hi, Option.bind_some]
    simp only []
    rw [lcl2 hc step xs zs yss [] hz h, Option.bind_some]
    simp only [List.nil_append, List.length_map]
    rw [if_pos hq]
  · cases hl
/-- the inner for -/
theorem x_in {cC : Ec C} {kk1 : Option Nat} {xs zs : List C} {ys : List B} {p : C → Option Bool} {f : C → Option B} (hi : fi1 ρ M = some ((xs.map cC.e, kk1), M)) (hc : chk kk1 (xs.map cC.e) M = true) (hz : tfilt p xs = some zs) (h : tmap f zs = some ys)
    (step : ∀ x, ∃ ρ', t1 (cC.e x) (wipeR ρ vs1) = some ρ' ∧ (∀ b, p x = some b → ft1 ρ' M = some (b, M)) ∧ ∀ y, f x = some y → fe ρ' M = some (cB.e y, M)) :
    ∃ ds kk1, fi1 ρ M = some ((ds, kk1), M) ∧ ∀ acc, lcLoop (chk kk1 ds) t1 ft1 fe (wipeR ρ vs1) ds acc M = some (acc ++ ys.map cB.e, M) :=
  ⟨_, _, hi, fun acc => lclM hc step xs zs ys acc hz h⟩
end
/-! ### tests -/
section
variable {ρ : Rho} {M M1 M2 : Mem} {ta tb : FT} {fa fb : FE} {d : D} {a b : Bool}
theorem k_tru (ha : fa ρ M = some (d, M1)) (h : gTru d M1 = some a) : fTru fa ρ M = some (a, M1) := by rw [ev_tru, ha, Option.bind_some]; simp only []; rw [h]; rfl
theorem k_not (ha : ta ρ M = some (a, M1)) : fNot ta ρ M = some (!a, M1) := by rw [ev_not, ha]; rfl
theorem k_and (ha : ta ρ M = some (a, M1)) (hb : tb ρ M1 = some (b, M1)) : fAnd ta tb ρ M = some (a && b, M1) := by
  rw [ev_and, ha, Option.bind_some]; cases a
  · rfl
  · rw [if_pos rfl, hb]; rfl
theorem k_or (ha : ta ρ M = some (a, M1)) (hb : tb ρ M1 = some (b, M1)) : fOr ta tb ρ M = some (a || b, M1) := by
  rw [ev_or, ha, Option.bind_some]; cases a
  · rw [if_neg Bool.false_ne_true, hb]; rfl
  · rfl
theorem k_andM {t : Option Bool} {r : Bool} (ha : ta ρ M = some (a, M1)) (h : (if a = true then t else some false) = some r) (hb : t = some r → tb ρ M1 = some (r, M1)) : fAnd ta tb ρ M = some (r, M1) := by
  rw [ev_and, ha, Option.bind_some]; cases a
  · cases h; rfl
  · exact hb h
theorem k_orM {t : Option Bool} {r : Bool} (ha : ta ρ M = some (a, M1)) (h : (if a = true then some true else t) = some r) (hb : t = some r → tb ρ M1 = some (r, M1)) : fOr ta tb ρ M = some (r, M1) := by
  rw [ev_or, ha, Option.bind_some]; cases a
  · exact hb h
  · cases h; rfl
theorem k_yes : fYes ρ M = some (true, M) := rfl
theorem x_not (ha : fa ρ M = some (d, M1)) (h : gTru d M1 = some a) : fNotV fa ρ M = some (eB.e (!a), M1) := by rw [ev_notV, ha, Option.bind_some]; simp only []; rw [h]; rfl
/-- and, or of bools as values -/
theorem x_and (ha : fa ρ M = some (eB.e a, M1)) (hb : fb ρ M1 = some (eB.e b, M1)) : fAndV fa fb ρ M = some (eB.e (a && b), M1) := by
  rw [ev_andV, ha, Option.bind_some]; simp only []; rw [tr_B, Option.bind_some]; cases a
  · rfl
  · rw [if_pos rfl]; exact hb
theorem x_or (ha : fa ρ M = some (eB.e a, M1)) (hb : fb ρ M1 = some (eB.e b, M1)) : fOrV fa fb ρ M = some (eB.e (a || b), M1) := by
  rw [ev_orV, ha, Option.bind_some]; simp only []; rw [tr_B, Option.bind_some]; cases a
  · rw [if_neg Bool.false_ne_true]; exact hb
  · rfl
theorem x_andM {t : Option Bool} {r : Bool} (ha : fa ρ M = some (eB.e a, M1)) (h : (if a = true then t else some false) = some r) (hb : t = some r → fb ρ M1 = some (eB.e r, M1)) : fAndV fa fb ρ M = some (eB.e r, M1) := by
  rw [ev_andV, ha, Option.bind_some]; simp only []; rw [tr_B, Option.bind_some]; cases a
  · cases h; rfl
  · exact hb h
theorem x_orM {t : Option Bool} {r : Bool} (ha : fa ρ M = some (eB.e a, M1)) (h : (if a = true then some true else t) = some r) (hb : t = some r → fb ρ M1 = some (eB.e r, M1)) : fOrV fa fb ρ M = some (eB.e r, M1) := by
  rw [ev_orV, ha, Option.bind_some]; simp only []; rw [tr_B, Option.bind_some]; cases a
  · exact hb h
  · cases h; rfl
/-- the same with the state that the second part leaves -/
theorem x_andS {c : Ec A} {Mm : S → Mem} {t : Option (Bool × S)} {r : Bool × S} {s0 : S} (ha : fa ρ M = some (eB.e a, Mm s0)) (h : (if a = true then t else some (false, s0)) = some r) (hb : t = some r → fb ρ (Mm s0) = some (eB.e r.1, Mm r.2)) : fAndV fa fb ρ M = some (eB.e r.1, Mm r.2) := by
  rw [ev_andV, ha, Option.bind_some]; simp only []; rw [tr_B, Option.bind_some]; cases a
  · cases h; rfl
  · exact hb h
theorem x_if {c : Ec A} {u v : A} {fc : FT} (hc : fc ρ M = some (a, M1)) (ha : fa ρ M1 = some (c.e u, M1)) (hb : fb ρ M1 = some (c.e v, M1)) : fIfE fc fa fb ρ M = some (c.e (if a = true then u else v), M1) := by
  rw [ev_ifE, hc, Option.bind_some]; cases a
  · exact hb
  · exact ha
theorem x_ifM {c : Ec A} {fc : FT} {t u : Option A} {r : A} (hc : fc ρ M = some (a, M1)) (h : (if a = true then t else u) = some r) (ha : t = some r → fa ρ M1 = some (c.e r, M1)) (hb : u = some r → fb ρ M1 = some (c.e r, M1)) : fIfE fc fa fb ρ M = some (c.e r, M1) := by
  rw [ev_ifE, hc, Option.bind_some]; cases a
  · exact hb h
  · exact ha h
end
/-! ### calls -/
/-- arguments that are values -/
structure AV (ds : List D) : Prop where
  p : ∀ M, argsP M ds = some ds
  r : anyRef ds = false
  i : ∀ n, refIn n ds = false
theorem av_nil : AV [] := ⟨fun _ => rfl, rfl, fun _ => rfl⟩
theorem av_d {d : D} {ds : List D} (hd : d.nr = true) (h : AV ds) : AV (d :: ds) := by
  have hr := ir_of hd
  refine ⟨fun M => ?_, ?_, fun n => ?_⟩
  · show (argP M d).bind (fun e => (argsP M ds).bind fun es => some (e :: es)) = _
    rw [argP_nr hd M, Option.bind_some, h.p M]; rfl
  · show (d.isRef || anyRef ds) = false
    rw [hr, h.r]; rfl
  · cases d with
    | ref _ => cases hr
    | _ => exact h.i n
theorem av_c (c : Ec A) (a : A) {ds : List D} (h : AV ds) : AV (c.e a :: ds) := av_d (c.nr a) h
/-- arguments, lists of the state among them -/
structure AR (M : Mem) (ds es : List D) : Prop where
  p : argsP M ds = some es
theorem ar_nil {M : Mem} : AR M [] [] := ⟨rfl⟩
theorem ar_c {M : Mem} (c : Ec A) (a : A) {ds es : List D} (h : AR M ds es) : AR M (c.e a :: ds) (c.e a :: es) := ⟨by
  show (argP M (c.e a)).bind (fun e => (argsP M ds).bind fun es => some (e :: es)) = _
  rw [argP_nr (c.nr a) M, Option.bind_some, h.p]; rfl⟩
theorem ar_r {M : Mem} {c : Ec A} {xs : List A} {n : Nat} {ds es : List D} (hn : gm M n = some (cl c xs)) (h : AR M ds es) : AR M (.ref n :: ds) ((eL c).e xs :: es) := ⟨by
  show (argP M (.ref n)).bind (fun e => (argsP M ds).bind fun es => some (e :: es)) = _
  have e : argP M (.ref n) = some ((eL c).e xs) := by
    unfold argP
    simp only [gm_at hn]
    exact if_pos (nrs_map c.nr xs)
  rw [e, Option.bind_some, h.p]; rfl⟩
section
variable {ρ : Rho} {M M1 M2 : Mem} {f : FA} {ds es : List D} {q : FnC} {cR : Ec A} {r : A}
theorem x_call {z : D × Mem} (hf : f ρ M = some (ds, M1)) (h : callP q ds M1 = some z) : fCall q f ρ M = some z := by rw [ev_call, hf]; exact h
theorem p_v (a : AV ds) (h : q ds [] = some (cR.e r, [])) : callP q ds M = some (cR.e r, M) := by
  unfold callP
  rw [a.p M, Option.bind_some, h, Option.bind_some]
  simp only [a.r, Bool.false_and]
  rfl
theorem p_r (a : AR M ds es) (h : q es [] = some (cR.e r, [])) [n : NoL cR] : callP q ds M = some (cR.e r, M) := by
  unfold callP
  rw [a.p, Option.bind_some, h, Option.bind_some]
  simp only [n.nl, Bool.not_true, Bool.and_false]
  rfl
theorem p_m {c : Ec B} {xs : List B} (a : AV ds) (h : q ds [] = some (.ref 0, [cl c xs])) : callP q ds M = some (.ref M.length, M ++ [cl c xs]) := by
  unfold callP
  rw [a.p M, Option.bind_some, h, Option.bind_some]
  show (if anyRef ds && !D.nls (xs.map c.e) then none else if D.nrs (xs.map c.e) = true then some (D.ref M.length, M ++ [cl c xs]) else none) = _
  rw [a.r, Bool.false_and, if_neg Bool.false_ne_true, if_pos (nrs_map c.nr xs)]
theorem x_callS {i : Nat} {z : D × Mem} (hf : f ρ M = some (ds, M1)) (h : callS i q ds M1 = some z) : fCallS i q f ρ M = some z := by rw [ev_callS, hf]; exact h
theorem mo_nr (c : Ec B) (xs : List B) : (cl c xs).nr = true := nrs_map c.nr xs
theorem p_s {M' : Mem} {i n : Nat} {c c' : Ec B} {xs ys : List B} (h1 : ds[i]? = some (.ref n)) (h2 : gm M n = some (cl c xs)) (a : AV (ds.set i .non)) (h : q (ds.set i (.ref 0)) [cl c xs] = some (cR.e r, [cl c' ys])) (hM : M.set n (cl c' ys) = M') : callS i q ds M = some (cR.e r, M') := by
  subst hM
  have h2' := gm_at h2
  have e : (ds.set i .non).set i (.ref 0) = ds.set i (.ref 0) := List.set_set ..
  unfold callS
  simp only [h1, h2', mo_nr, a.i n, Bool.not_false, Bool.and_self, if_true, a.p M, Option.bind_some, e, h]
  rw [if_pos (by show ((D.nrs (ys.map c'.e) && (cR.e r).nr) && !(anyRef (ds.set i .non) && !((cR.e r).nl && D.nls (ys.map c'.e)))) = true; rw [nrs_map c'.nr ys, cR.nr r, a.r]; rfl)]
/-- .. with other lists of the state handed in -/
theorem p_sr {M' : Mem} {i n : Nat} {c c' : Ec B} {xs ys : List B} (h1 : ds[i]? = some (.ref n)) (h2 : gm M n = some (cl c xs)) (hi : refIn n (ds.set i .non) = false) (a : AR M (ds.set i .non) es) (h : q (es.set i (.ref 0)) [cl c xs] = some (cR.e r, [cl c' ys])) (hM : M.set n (cl c' ys) = M') [nr : NoL cR] [nc : NoL c'] : callS i q ds M = some (cR.e r, M') := by
  subst hM
  have h2' := gm_at h2
  unfold callS
  simp only [h1, h2', mo_nr, hi, Bool.not_false, Bool.and_self, if_true, a.p, Option.bind_some, h]
  rw [if_pos (by show ((D.nrs (ys.map c'.e) && (cR.e r).nr) && !(anyRef (ds.set i .non) && !((cR.e r).nl && D.nls (ys.map c'.e)))) = true; rw [nrs_map c'.nr ys, cR.nr r, nr.nl, nls_map nc.nl]; simp)]
theorem refIn_c {n : Nat} (c : Ec A) (a : A) {ds : List D} (h : refIn n ds = false) : refIn n (c.e a :: ds) = false := by
  have hr := c.ir a
  generalize c.e a = d at *
  cases d with
  | ref _ => cases hr
  | _ => exact h
theorem refIn_r {n m : Nat} {ds : List D} (hm : Nat.beq m n = false) (h : refIn n ds = false) : refIn n (.ref m :: ds) = false := by
  show (decide (m = n) || refIn n ds) = false
  rw [h, Bool.or_false, decide_eq_false]
  intro e
  subst e
  rw [Nat.beq_refl] at hm; cases hm
theorem refIn_non {n : Nat} {ds : List D} (h : refIn n ds = false) : refIn n (.non :: ds) = false := h
/-! what a def hands back -/
theorem startR_eq (n : Nat) (ds : List D) : startR n ds = ds.map some ++ List.replicate (n - ds.length) none := rfl
def FQ (mu : Bool) (k : Nat) (res : D × Mem) : Out → Mem → Prop := fun o M' => match o with
  | .ret d => fin mu k d M' = some res
  | .nx _ => fin mu k .non M' = some res
  | _ => False
theorem fin_nr {mu : Bool} {k : Nat} {d : D} {M' : Mem} (h : d.nr = true) (hm : Mem.nr (M'.take k) = true) : fin mu k d M' = some (d, M'.take k) := by
  unfold fin
  rw [if_pos hm]
  cases d with
  | ref _ => cases h
  | _ => exact if_pos h
theorem f_v0 {mu : Bool} {M' : Mem} (c : Ec A) (a : A) : fin mu 0 (c.e a) M' = some (c.e a, []) := fin_nr (c.nr a) rfl
theorem nr1 (c : Ec B) (xs : List B) : Mem.nr [cl c xs] = true := by
  show ((cl c xs).nr && Mem.nr []) = true
  rw [mo_nr]; rfl
theorem f_v1 {mu : Bool} {M' : Mem} (c : Ec A) (a : A) {c' : Ec B} {xs : List B} : fin mu 1 (c.e a) (cl c' xs :: M') = some (c.e a, [cl c' xs]) := fin_nr (c.nr a) (nr1 c' xs)
theorem f_r0 {j : Nat} {M' : Mem} {c : Ec A} {xs : List A} (h : gm M' j = some (cl c xs)) : fin false 0 (.ref j) M' = some ((eL c).e xs, []) := by
  unfold fin
  rw [if_pos (by rfl)]
  show (if j < 0 then none else match M'[j]? with | some (.lst xs) => if D.nrs xs = true then (if false = true then some (D.ref 0, M'.take 0 ++ [.lst xs]) else some (.lst xs, M'.take 0)) else none | none => none) = _
  rw [if_neg (by omega), gm_at h]
  show (if D.nrs (xs.map c.e) = true then _ else none) = _
  rw [if_pos (nrs_map c.nr xs)]; rfl
theorem f_r1 {j : Nat} {M' : Mem} {c : Ec A} {xs : List A} {c' : Ec B} {ys : List B} (hj : Nat.ble 1 j = true) (h : gm (cl c' ys :: M') j = some (cl c xs)) : fin false 1 (.ref j) (cl c' ys :: M') = some ((eL c).e xs, [cl c' ys]) := by
  have hj' := Nat.le_of_ble_eq_true hj
  unfold fin
  rw [if_pos (show Mem.nr ((cl c' ys :: M').take 1) = true from nr1 c' ys)]
  show (if j < 1 then none else match (cl c' ys :: M')[j]? with | some (.lst xs) => if D.nrs xs = true then (if false = true then some (D.ref 1, (cl c' ys :: M').take 1 ++ [.lst xs]) else some (.lst xs, (cl c' ys :: M').take 1)) else none | none => none) = _
  rw [if_neg (by omega), gm_at h]
  show (if D.nrs (xs.map c.e) = true then _ else none) = _
  rw [if_pos (nrs_map c.nr xs)]; rfl
theorem f_m0 {j : Nat} {M' : Mem} {c : Ec A} {xs : List A} (h : gm M' j = some (cl c xs)) : fin true 0 (.ref j) M' = some (.ref 0, [cl c xs]) := by
  unfold fin
  rw [if_pos (by rfl)]
  show (if j < 0 then none else match M'[j]? with | some (.lst xs) => if D.nrs xs = true then (if true = true then some (D.ref 0, M'.take 0 ++ [.lst xs]) else some (.lst xs, M'.take 0)) else none | none => none) = _
  rw [if_neg (by omega), gm_at h]
  show (if D.nrs (xs.map c.e) = true then _ else none) = _
  rw [if_pos (nrs_map c.nr xs)]; rfl
end
/-! ### statements -/
def WP (f : FS) (ρ : Rho) (M : Mem) (Q : Out → Mem → Prop) : Prop := ∃ o M', f ρ M = some (o, M') ∧ Q o M'
section
variable {ρ ρ1 : Rho} {M M1 M2 : Mem} {Q : Out → Mem → Prop} {f g k : FS} {fe : FE} {d : D} {i : Nat}
theorem run_wp {mu : Bool} {n : Nat} {ds : List D} {res : D × Mem} (h : WP f (startR n ds) M (FQ mu M.length res)) : runFn mu n f ds M = some res := by
  obtain ⟨o, M', e, q⟩ := h
  unfold runFn
  rw [e, Option.bind_some]
  cases o with
  | ret d => exact q
  | nx ρ => exact q
  | bk _ => exact q.elim
  | ct _ => exact q.elim
theorem w_add (h : WP (sSeq f sNext) ρ M Q) : WP f ρ M Q := by
  obtain ⟨o, M', e, q⟩ := h
  rw [ev_seq] at e
  obtain ⟨⟨o1, M1⟩, h1, e⟩ := Option.bind_eq_some_iff.mp e
  refine ⟨o1, M1, h1, ?_⟩
  cases o1 <;> (cases e; exact q)
theorem w_assoc {a b : FS} (h : WP (sSeq a (sSeq b k)) ρ M Q) : WP (sSeq (sSeq a b) k) ρ M Q := by
  obtain ⟨o, M', e, q⟩ := h
  refine ⟨o, M', ?_, q⟩
  rw [ev_seq] at e
  rw [ev_seq, ev_seq]
  obtain ⟨⟨o1, M1⟩, h1, e⟩ := Option.bind_eq_some_iff.mp e
  rw [h1, Option.bind_some]
  cases o1 with
  | nx ρ1 => exact e
  | _ => exact e
theorem w_next (h : WP k ρ M Q) : WP (sSeq sNext k) ρ M Q := h
theorem w_end (h : Q (.nx ρ) M) : WP sNext ρ M Q := ⟨_, _, rfl, h⟩
theorem w_step (h : f ρ M = some (.nx ρ1, M1)) (K : WP k ρ1 M1 Q) : WP (sSeq f k) ρ M Q := by
  obtain ⟨o, M', e, q⟩ := K
  exact ⟨o, M', by rw [ev_seq, h]; exact e, q⟩
theorem w_set {c : Ec A} {a : A} (h : fe ρ M = some (c.e a, M1)) (K : WP k (ρ.set i (some (c.e a))) M1 Q) : WP (sSeq (sSet i fe) k) ρ M Q := w_step (by rw [ev_set, h]; rfl) K
theorem w_setE {c : Ec A} {a b : A} (h : fe ρ M = some (c.e a, M1)) (E : a = b) (K : WP k (ρ.set i (some (c.e b))) M1 Q) : WP (sSeq (sSet i fe) k) ρ M Q := by subst E; exact w_set h K
theorem w_setR (h : fe ρ M = some (d, M1)) (K : WP k (ρ.set i (some d)) M1 Q) : WP (sSeq (sSet i fe) k) ρ M Q := w_step (by rw [ev_set, h]; rfl) K
theorem w_drop (h : fe ρ M = some (d, M1)) (K : WP k ρ M1 Q) : WP (sSeq (sDrop fe) k) ρ M Q := w_step (by rw [ev_drop, h]; rfl) K
theorem w_asg {t : FG} {ρ' : Rho} (h : fe ρ M = some (d, M1)) (ht : t d ρ = some ρ') (K : WP k ρ' M1 Q) : WP (sSeq (sAsg fe t) k) ρ M Q := w_step (by rw [ev_asg, h, Option.bind_some]; simp only []; rw [ht]; rfl) K
theorem w_asgE {c : Ec A} {a b : A} {t : FG} {ρ' : Rho} (h : fe ρ M = some (c.e a, M1)) (E : a = b) (ht : t (c.e b) ρ = some ρ') (K : WP k ρ' M1 Q) : WP (sSeq (sAsg fe t) k) ρ M Q := by subst E; exact w_asg h ht K
theorem w_par {j : Nat} {fa : FA} {x y : D} (h : fa ρ M = some ([x, y], M1)) (K : WP k ((ρ.set i (some x)).set j (some y)) M1 Q) : WP (sSeq (sPar i j fa) k) ρ M Q := w_step (by rw [ev_par, h]; rfl) K
theorem w_par3 {j l : Nat} {fa : FA} {x y z : D} (h : fa ρ M = some ([x, y, z], M1)) (K : WP k (((ρ.set i (some x)).set j (some y)).set l (some z)) M1 Q) : WP (sSeq (sPar3 i j l fa) k) ρ M Q := w_step (by rw [ev_par3, h]; rfl) K
theorem w_ret (h : fe ρ M = some (d, M1)) (q : Q (.ret d) M1) : WP (sSeq (sRet fe) k) ρ M Q := ⟨.ret d, M1, by rw [ev_seq, ev_ret, h]; rfl, q⟩
theorem w_retN (q : Q (.ret .non) M) : WP (sSeq sRetN k) ρ M Q := ⟨.ret .non, M, rfl, q⟩
theorem w_brk (q : Q (.bk ρ) M) : WP (sSeq sBreak k) ρ M Q := ⟨.bk ρ, M, rfl, q⟩
theorem w_cont (q : Q (.ct ρ) M) : WP (sSeq sCont k) ρ M Q := ⟨.ct ρ, M, rfl, q⟩
theorem w_if {fc : FT} {b : Bool} (hc : fc ρ M = some (b, M1)) (h1 : b = true → WP (sSeq f k) ρ M1 Q) (h2 : b = false → WP (sSeq g k) ρ M1 Q) : WP (sSeq (sIf fc f g) k) ρ M Q := by
  have e : ∀ r, (if b = true then sSeq f k ρ M1 else sSeq g k ρ M1) = some r → sSeq (sIf fc f g) k ρ M = some r := fun r h => by
    rw [ev_seq, ev_if, hc, Option.bind_some]
    cases b <;> exact h
  cases b with
  | true =>
    obtain ⟨o, M', h, q⟩ := h1 rfl
    exact ⟨o, M', e _ h, q⟩
  | false =>
    obtain ⟨o, M', h, q⟩ := h2 rfl
    exact ⟨o, M', e _ h, q⟩
theorem w_ifT {fc : FT} {b : Bool} {t u : Option A} {r : A} (hc : fc ρ M = some (b, M1)) (h : (if b = true then t else u) = some r) (h1 : t = some r → WP (sSeq f k) ρ M1 Q) (h2 : u = some r → WP (sSeq g k) ρ M1 Q) : WP (sSeq (sIf fc f g) k) ρ M Q :=
  w_if hc (fun e => by subst e; exact h1 h) fun e => by subst e; exact h2 h
/-- a statement whose end is told by R -/
def CQ (R : Rho → Mem → Prop) (Q : Out → Mem → Prop) : Out → Mem → Prop := fun o M' => match o with
  | .nx ρ' => R ρ' M'
  | o => Q o M'
theorem w_endC {R : Rho → Mem → Prop} (h : R ρ M) : WP sNext ρ M (CQ R Q) := ⟨_, _, rfl, h⟩
theorem cq_ret {R : Rho → Mem → Prop} (h : Q (.ret d) M) : CQ R Q (.ret d) M := h
theorem cq_bk {R : Rho → Mem → Prop} (h : Q (.bk ρ) M) : CQ R Q (.bk ρ) M := h
theorem cq_ct {R : Rho → Mem → Prop} (h : Q (.ct ρ) M) : CQ R Q (.ct ρ) M := h
theorem w_cut (R : Rho → Mem → Prop) (h : WP (sSeq f sNext) ρ M (CQ R Q)) (K : ∀ ρ' M', R ρ' M' → WP k ρ' M' Q) : WP (sSeq f k) ρ M Q := by
  obtain ⟨o, M', e, q⟩ := w_add h
  cases o with
  | nx ρ' => exact w_step e (K ρ' M' q)
  | ret d => exact ⟨.ret d, M', by rw [ev_seq, e]; rfl, q⟩
  | bk d => exact ⟨.bk d, M', by rw [ev_seq, e]; rfl, q⟩
  | ct d => exact ⟨.ct d, M', by rw [ev_seq, e]; rfl, q⟩
/-! lists of the state -/
theorem ml_at {n : Nat} {c : Ec A} {xs : List A} (h : gm M n = some (cl c xs)) : mlOf (.ref n) M = some (n, xs.map c.e) := by
  show (match M[n]? with | some (.lst xs) => some (n, xs) | _ => none) = _
  rw [gm_at h]; rfl
theorem ty_at {n : Nat} {c : Ec A} {xs : List A} (h : gm M n = some (cl c xs)) : tyOk "list" (.ref n) M = true := by
  show (lsOf (.ref n) M).isSome = true
  rw [ls_ref h]; rfl
theorem x_m {g : GM} {fo : FE} {fa : FA} {n : Nat} {c : Ec A} {xs : List A} {ds : List D} {z : D × Mem} (ho : fo ρ M = some (.ref n, M)) (hn : gm M n = some (cl c xs)) (ha : fa ρ M = some (ds, M1)) (hg : g (.ref n) ds M1 = some z) : fM "list" g fo fa ρ M = some z := by
  rw [ev_m, ho, Option.bind_some]; simp only []; rw [if_pos (ty_at hn), ha, Option.bind_some]; exact hg
theorem m_app {M' : Mem} {n : Nat} {c : Ec A} {xs zs : List A} {a : A} (hn : gm M n = some (cl c xs)) (h : tapp xs a = some zs) (hM : M.set n (cl c zs) = M') : gAppend (.ref n) [c.e a] M = some (eN.e (), M') := by
  subst hM
  unfold tapp at h
  split at h
  · rename_i hq
    cases h
    rw [ev_append, ml_at hn, Option.bind_some]
    simp only [List.length_map]
    rw [if_pos hq]
    unfold cl
    rw [List.map_append]; rfl
  · cases h
theorem m_pop {M' : Mem} {n : Nat} {c : Ec A} {xs : List A} {p : A × List A} (hn : gm M n = some (cl c xs)) (h : tpop xs = some p) (hM : M.set n (cl c p.2) = M') : gPop (.ref n) [] M = some (c.e p.1, M') := by
  subst hM
  obtain ⟨a, zs⟩ := p
  unfold tpop at h
  obtain ⟨b, hb, e⟩ := Option.map_eq_some_iff.mp h
  cases e
  rw [ev_pop, ml_at hn, Option.bind_some]
  simp only [List.length_map, List.getElem?_map, hb, Option.map_some, Option.bind_some]
  unfold cl
  rw [List.map_dropLast]
def tpop1 (xs : List A) (i : Int) : Option (A × List A) := (L2.ixN xs.length i).bind fun k => (xs[k]?).map fun a => (a, xs.eraseIdx k)
theorem map_erase (f : A → B) : ∀ (xs : List A) (k : Nat), (xs.map f).eraseIdx k = (xs.eraseIdx k).map f
  | [], _ => rfl
  | x :: xs, 0 => rfl
  | x :: xs, k + 1 => by
    show f x :: (xs.map f).eraseIdx k = f x :: (xs.eraseIdx k).map f
    rw [map_erase f xs k]
theorem m_pop1 {M' : Mem} {n : Nat} {c : Ec A} {xs : List A} {p : A × List A} {i : Int} (hn : gm M n = some (cl c xs)) (h : tpop1 xs i = some p) (hM : M.set n (cl c p.2) = M') : gPop1 (.ref n) [eI.e i] M = some (c.e p.1, M') := by
  subst hM
  obtain ⟨a, zs⟩ := p
  unfold tpop1 at h
  obtain ⟨k, hk, h⟩ := bnd h
  obtain ⟨b, hb, e⟩ := Option.map_eq_some_iff.mp h
  cases e
  show (mlOf (.ref n) M).bind _ = _
  rw [ml_at hn, Option.bind_some]
  simp only [List.length_map, List.getElem?_map, hk, hb, Option.map_some, Option.bind_some, map_erase]
  rfl
theorem m_rev {M' : Mem} {n : Nat} {c : Ec A} {xs : List A} (hn : gm M n = some (cl c xs)) (hM : M.set n (cl c xs.reverse) = M') : gReverse (.ref n) [] M = some (eN.e (), M') := by
  subst hM
  rw [ev_reverse, ml_at hn, Option.bind_some]
  simp only []
  unfold cl
  rw [List.map_reverse]; rfl
theorem w_setIx {fo fi : FE} {n : Nat} {c : Ec A} {xs zs : List A} {a : A} {j : Int} (hv : fe ρ M = some (c.e a, M1)) (ho : fo ρ M1 = some (.ref n, M1)) (hi : fi ρ M1 = some (eI.e j, M2)) (hn : gm M2 n = some (cl c xs)) (h : tset xs j a = some zs) (K : WP k ρ (M2.set n (cl c zs)) Q) : WP (sSeq (sSetIx fe fo fi) k) ρ M Q := by
  unfold tset at h
  obtain ⟨m, hm, e⟩ := Option.map_eq_some_iff.mp h
  subst e
  refine w_step (ρ1 := ρ) (M1 := M2.set n (cl c (xs.set m a))) ?_ K
  rw [ev_setIx, hv, Option.bind_some]; simp only []; rw [ho, Option.bind_some]; simp only []; rw [hi, Option.bind_some]
  show (mlOf (.ref n) M2).bind _ = _
  rw [ml_at hn, Option.bind_some]
  simp only [List.length_map, hm, Option.bind_some]
  unfold cl
  rw [List.map_set]
theorem w_aug {gm' : G2M} {x y : D} (hx : gs ρ i = some x) (hy : fe ρ M = some (y, M1)) {z : D} (hg : gm' x y M1 = some (z, M2)) (K : WP k (ρ.set i (some z)) M2 Q) : WP (sSeq (sAug i gm' fe) k) ρ M Q :=
  w_step (by rw [ev_aug, gs_at hx]; simp only []; rw [hy, Option.bind_some]; simp only []; rw [hg]; rfl) K
theorem u_add {a b : Int} : gIAddA (eI.e a) (eI.e b) M = some (eI.e (a + b), M) := rfl
theorem u_catT {L L' : List D} (h : Nat.ble (L.length + L'.length) 10000 = true) : gIAddA (.tup L) (.tup L') M = some (.tup (L ++ L'), M) := by
  show (if L.length + L'.length ≤ LINE then some (D.tup (L ++ L'), M) else none) = _
  rw [if_pos (Nat.le_trans (Nat.le_of_ble_eq_true h) (by decide))]
theorem u_catV {c : Ec A} {xs ys zs : List A} (h : tcat xs ys = some zs) : gIAddA ((eV c).e xs) ((eV c).e ys) M = some ((eV c).e zs, M) := by
  obtain ⟨hq, rfl⟩ := tcat_ok h
  show (if (xs.map c.e).length + (ys.map c.e).length ≤ LINE then some (D.tup (xs.map c.e ++ ys.map c.e), M) else none) = _
  rw [if_pos (by simpa using hq), ← List.map_append]; rfl
theorem u_ext {M' : Mem} {n : Nat} {c : Ec A} {xs ys zs : List A} (hn : gm M n = some (cl c xs)) (r : Lt d M c ys) (h : tcat xs ys = some zs) (hM : M.set n (cl c zs) = M') : gIExt (.ref n) d M = some (.ref n, M') := by
  subst hM
  obtain ⟨hq, rfl⟩ := tcat_ok h
  unfold gIExt
  rw [ml_at hn, Option.bind_some, r.lt, Option.bind_some]
  simp only [List.length_map]
  rw [if_pos hq, ← List.map_append]; rfl
end
end TL
namespace TL
open PySem PySem.Spec PyProof.Rows L2 PF
variable {A B C S A' B' C' E : Type}
/-! ### loops -/
section
variable {ρ : Rho} {M M1 : Mem} {Q : Out → Mem → Prop} {k fb : FS} {fi : FI} {t : FG} {cA : Ec A} {xs : List A} {kk : Option Nat} {c : Mem → Bool} {R : S → Rho → Mem → Prop} {QR : E → D → Mem → Prop}
def BQ0 (R : S → Rho → Mem → Prop) (s' : S) : Out → Mem → Prop := fun o M' => match o with
  | .nx ρ' => R s' ρ' M'
  | .ct ρ' => R s' ρ' M'
  | _ => False
def BQr (R : S → Rho → Mem → Prop) (QR : E → D → Mem → Prop) (r : Ex E S) : Out → Mem → Prop := fun o M' => match o with
  | .nx ρ' => ∃ s', Ex.go s' = r ∧ R s' ρ' M'
  | .ct ρ' => ∃ s', Ex.go s' = r ∧ R s' ρ' M'
  | .ret d => ∃ e, Ex.ex e = r ∧ QR e d M'
  | _ => False
def BQb (R : S → Rho → Mem → Prop) (r : Ex S S) : Out → Mem → Prop := fun o M' => match o with
  | .nx ρ' => ∃ s', Ex.go s' = r ∧ R s' ρ' M'
  | .ct ρ' => ∃ s', Ex.go s' = r ∧ R s' ρ' M'
  | .bk ρ' => ∃ s', Ex.ex s' = r ∧ R s' ρ' M'
  | _ => False
def BQx (R : S → Rho → Mem → Prop) (QR : E → D → Mem → Prop) (r : Ex (Ex E S) S) : Out → Mem → Prop := fun o M' => match o with
  | .nx ρ' => ∃ s', Ex.go s' = r ∧ R s' ρ' M'
  | .ct ρ' => ∃ s', Ex.go s' = r ∧ R s' ρ' M'
  | .bk ρ' => ∃ s', Ex.ex (Ex.go s') = r ∧ R s' ρ' M'
  | .ret d => ∃ e, Ex.ex (Ex.ex e) = r ∧ QR e d M'
theorem e_0 {s' : S} (h : R s' ρ M) : BQ0 R s' (.nx ρ) M := h
theorem c_0 {s' : S} (h : R s' ρ M) : BQ0 R s' (.ct ρ) M := h
theorem e_r (s' : S) (h : R s' ρ M) : BQr R QR (.go s') (.nx ρ) M := ⟨s', rfl, h⟩
theorem c_r (s' : S) (h : R s' ρ M) : BQr R QR (.go s') (.ct ρ) M := ⟨s', rfl, h⟩
theorem r_r {e : E} {d : D} (h : QR e d M) : BQr R QR (.ex e) (.ret d) M := ⟨e, rfl, h⟩
theorem e_b (s' : S) (h : R s' ρ M) : BQb R (.go s') (.nx ρ) M := ⟨s', rfl, h⟩
theorem c_b (s' : S) (h : R s' ρ M) : BQb R (.go s') (.ct ρ) M := ⟨s', rfl, h⟩
theorem b_b (s' : S) (h : R s' ρ M) : BQb R (.ex s') (.bk ρ) M := ⟨s', rfl, h⟩
theorem e_x (s' : S) (h : R s' ρ M) : BQx R QR (.go s') (.nx ρ) M := ⟨s', rfl, h⟩
theorem c_x (s' : S) (h : R s' ρ M) : BQx R QR (.go s') (.ct ρ) M := ⟨s', rfl, h⟩
theorem b_x (s' : S) (h : R s' ρ M) : BQx R QR (.ex (.go s')) (.bk ρ) M := ⟨s', rfl, h⟩
theorem r_x {e : E} {d : D} (h : QR e d M) : BQx R QR (.ex (.ex e)) (.ret d) M := ⟨e, rfl, h⟩
theorem w_stp {d : D} {ρ' : Rho} (ht : t d ρ = some ρ') (h : WP fb ρ' M Q) : WP (sStep t fb d) ρ M Q := by
  obtain ⟨o, M', e, q⟩ := h
  exact ⟨o, M', by rw [ev_step, ht]; exact e, q⟩
theorem lp0 {f : A → S → Option S} {step : D → FS} (hc : ∀ s ρ M, R s ρ M → c M = true) (hs : ∀ a s s' ρ M, f a s = some s' → R s ρ M → WP (step (cA.e a)) ρ M (BQ0 R s')) :
    ∀ (xs : List A) (s s' : S) (ρ : Rho) (M : Mem), tfold f xs s = some s' → R s ρ M → ∃ ρ' M', sLoop c step (xs.map cA.e) ρ M = some (.nx ρ', M') ∧ R s' ρ' M'
  | [], s, s', ρ, M, h, h0 => by cases h; exact ⟨ρ, M, by rw [List.map_nil, sLoop, if_pos (hc _ _ _ h0)], h0⟩
  | a :: xs, s, s', ρ, M, h, h0 => by
    obtain ⟨s1, h1, h2⟩ := bnd h
    obtain ⟨o, M1, e, q⟩ := hs a s s1 ρ M h1 h0
    cases o with
    | nx ρ1 =>
      obtain ⟨ρ2, M2, e2, q2⟩ := lp0 hc hs xs s1 s' ρ1 M1 h2 q
      exact ⟨ρ2, M2, by rw [List.map_cons, sLoop, if_pos (hc _ _ _ h0), e]; exact e2, q2⟩
    | ct ρ1 =>
      obtain ⟨ρ2, M2, e2, q2⟩ := lp0 hc hs xs s1 s' ρ1 M1 h2 q
      exact ⟨ρ2, M2, by rw [List.map_cons, sLoop, if_pos (hc _ _ _ h0), e]; exact e2, q2⟩
    | bk _ => exact q.elim
    | ret _ => exact q.elim
theorem w_fold (R : S → Rho → Mem → Prop) {f : A → S → Option S} {s s' : S} (hi : fi ρ M = some ((xs.map cA.e, kk), M1)) (h : tfold f xs s = some s') (h0 : R s ρ M1) (hc : ∀ s ρ M, R s ρ M → chk kk (xs.map cA.e) M = true)
    (step : ∀ a s s' ρ M, f a s = some s' → R s ρ M → WP (sStep t fb (cA.e a)) ρ M (BQ0 R s')) (K : ∀ ρ' M', R s' ρ' M' → WP k ρ' M' Q) : WP (sSeq (sFor fi t fb) k) ρ M Q := by
  obtain ⟨ρ', M', e, q⟩ := lp0 (c := chk kk (xs.map cA.e)) hc step xs s s' ρ M1 h h0
  exact w_step (by rw [ev_for, hi]; exact e) (K ρ' M' q)
theorem lpr {f : A → S → Option (Ex E S)} {step : D → FS} (hc : ∀ s ρ M, R s ρ M → c M = true) (hs : ∀ a s r ρ M, f a s = some r → R s ρ M → WP (step (cA.e a)) ρ M (BQr R QR r)) :
    ∀ (xs : List A) (s : S) (r : Ex E S) (ρ : Rho) (M : Mem), tforr f xs s = some r → R s ρ M → ∃ o M', sLoop c step (xs.map cA.e) ρ M = some (o, M') ∧ match o with | .nx ρ' => ∃ s', Ex.go s' = r ∧ R s' ρ' M' | .ret d => ∃ e, Ex.ex e = r ∧ QR e d M' | _ => False
  | [], s, r, ρ, M, h, h0 => by cases h; exact ⟨.nx ρ, M, by rw [List.map_nil, sLoop, if_pos (hc _ _ _ h0)], s, rfl, h0⟩
  | a :: xs, s, r, ρ, M, h, h0 => by
    obtain ⟨r1, h1, h2⟩ := bnd h
    obtain ⟨o, M1, e, q⟩ := hs a s r1 ρ M h1 h0
    cases o with
    | nx ρ1 =>
      obtain ⟨s1, rfl, q⟩ := q
      obtain ⟨o2, M2, e2, q2⟩ := lpr hc hs xs s1 r ρ1 M1 h2 q
      exact ⟨o2, M2, by rw [List.map_cons, sLoop, if_pos (hc _ _ _ h0), e]; exact e2, q2⟩
    | ct ρ1 =>
      obtain ⟨s1, rfl, q⟩ := q
      obtain ⟨o2, M2, e2, q2⟩ := lpr hc hs xs s1 r ρ1 M1 h2 q
      exact ⟨o2, M2, by rw [List.map_cons, sLoop, if_pos (hc _ _ _ h0), e]; exact e2, q2⟩
    | bk _ => exact q.elim
    | ret d =>
      obtain ⟨x, rfl, q⟩ := q
      cases h2
      exact ⟨.ret d, M1, by rw [List.map_cons, sLoop, if_pos (hc _ _ _ h0), e]; rfl, x, rfl, q⟩
theorem w_forr (R : S → Rho → Mem → Prop) (QR : E → D → Mem → Prop) {f : A → S → Option (Ex E S)} {s : S} {r : Ex E S} (hi : fi ρ M = some ((xs.map cA.e, kk), M1)) (h : tforr f xs s = some r) (h0 : R s ρ M1) (hc : ∀ s ρ M, R s ρ M → chk kk (xs.map cA.e) M = true)
    (step : ∀ a s r ρ M, f a s = some r → R s ρ M → WP (sStep t fb (cA.e a)) ρ M (BQr R QR r)) (KR : ∀ e d M', Ex.ex e = r → QR e d M' → Q (.ret d) M') (K : ∀ s' ρ' M', Ex.go s' = r → R s' ρ' M' → WP k ρ' M' Q) : WP (sSeq (sFor fi t fb) k) ρ M Q := by
  obtain ⟨o, M', e, q⟩ := lpr (c := chk kk (xs.map cA.e)) hc step xs s r ρ M1 h h0
  have e' : sFor fi t fb ρ M = some (o, M') := by rw [ev_for, hi]; exact e
  cases o with
  | nx ρ' => obtain ⟨s', h1, h2⟩ := q; exact w_step e' (K s' ρ' M' h1 h2)
  | ret d => obtain ⟨x, h1, h2⟩ := q; exact ⟨.ret d, M', by rw [ev_seq, e']; rfl, KR x d M' h1 h2⟩
  | bk _ => exact q.elim
  | ct _ => exact q.elim
theorem lpb {f : A → S → Option (Ex S S)} {step : D → FS} (hc : ∀ s ρ M, R s ρ M → c M = true) (hs : ∀ a s r ρ M, f a s = some r → R s ρ M → WP (step (cA.e a)) ρ M (BQb R r)) :
    ∀ (xs : List A) (s s' : S) (ρ : Rho) (M : Mem), tforb f xs s = some s' → R s ρ M → ∃ ρ' M', sLoop c step (xs.map cA.e) ρ M = some (.nx ρ', M') ∧ R s' ρ' M'
  | [], s, r, ρ, M, h, h0 => by cases h; exact ⟨ρ, M, by rw [List.map_nil, sLoop, if_pos (hc _ _ _ h0)], h0⟩
  | a :: xs, s, r, ρ, M, h, h0 => by
    obtain ⟨r1, h1, h2⟩ := bnd h
    obtain ⟨o, M1, e, q⟩ := hs a s r1 ρ M h1 h0
    cases o with
    | nx ρ1 =>
      obtain ⟨s1, rfl, q⟩ := q
      obtain ⟨o2, M2, e2, q2⟩ := lpb hc hs xs s1 r ρ1 M1 h2 q
      exact ⟨o2, M2, by rw [List.map_cons, sLoop, if_pos (hc _ _ _ h0), e]; exact e2, q2⟩
    | ct ρ1 =>
      obtain ⟨s1, rfl, q⟩ := q
      obtain ⟨o2, M2, e2, q2⟩ := lpb hc hs xs s1 r ρ1 M1 h2 q
      exact ⟨o2, M2, by rw [List.map_cons, sLoop, if_pos (hc _ _ _ h0), e]; exact e2, q2⟩
    | bk ρ1 =>
      obtain ⟨s1, rfl, q⟩ := q
      cases h2
      exact ⟨ρ1, M1, by rw [List.map_cons, sLoop, if_pos (hc _ _ _ h0), e]; rfl, q⟩
    | ret _ => exact q.elim
theorem w_forb (R : S → Rho → Mem → Prop) {f : A → S → Option (Ex S S)} {s s' : S} (hi : fi ρ M = some ((xs.map cA.e, kk), M1)) (h : tforb f xs s = some s') (h0 : R s ρ M1) (hc : ∀ s ρ M, R s ρ M → chk kk (xs.map cA.e) M = true)
    (step : ∀ a s r ρ M, f a s = some r → R s ρ M → WP (sStep t fb (cA.e a)) ρ M (BQb R r)) (K : ∀ ρ' M', R s' ρ' M' → WP k ρ' M' Q) : WP (sSeq (sFor fi t fb) k) ρ M Q := by
  obtain ⟨ρ', M', e, q⟩ := lpb (c := chk kk (xs.map cA.e)) hc step xs s s' ρ M1 h h0
  exact w_step (by rw [ev_for, hi]; exact e) (K ρ' M' q)
theorem lpx {f : A → S → Option (Ex (Ex E S) S)} {step : D → FS} (hc : ∀ s ρ M, R s ρ M → c M = true) (hs : ∀ a s r ρ M, f a s = some r → R s ρ M → WP (step (cA.e a)) ρ M (BQx R QR r)) :
    ∀ (xs : List A) (s : S) (r : Ex E S) (ρ : Rho) (M : Mem), tforx f xs s = some r → R s ρ M → ∃ o M', sLoop c step (xs.map cA.e) ρ M = some (o, M') ∧ match o with | .nx ρ' => ∃ s', Ex.go s' = r ∧ R s' ρ' M' | .ret d => ∃ e, Ex.ex e = r ∧ QR e d M' | _ => False
  | [], s, r, ρ, M, h, h0 => by cases h; exact ⟨.nx ρ, M, by rw [List.map_nil, sLoop, if_pos (hc _ _ _ h0)], s, rfl, h0⟩
  | a :: xs, s, r, ρ, M, h, h0 => by
    obtain ⟨r1, h1, h2⟩ := bnd h
    obtain ⟨o, M1, e, q⟩ := hs a s r1 ρ M h1 h0
    cases o with
    | nx ρ1 =>
      obtain ⟨s1, rfl, q⟩ := q
      obtain ⟨o2, M2, e2, q2⟩ := lpx hc hs xs s1 r ρ1 M1 h2 q
      exact ⟨o2, M2, by rw [List.map_cons, sLoop, if_pos (hc _ _ _ h0), e]; exact e2, q2⟩
    | ct ρ1 =>
      obtain ⟨s1, rfl, q⟩ := q
      obtain ⟨o2, M2, e2, q2⟩ := lpx hc hs xs s1 r ρ1 M1 h2 q
      exact ⟨o2, M2, by rw [List.map_cons, sLoop, if_pos (hc _ _ _ h0), e]; exact e2, q2⟩
    | bk ρ1 =>
      obtain ⟨s1, rfl, q⟩ := q
      cases h2
      exact ⟨.nx ρ1, M1, by rw [List.map_cons, sLoop, if_pos (hc _ _ _ h0), e]; rfl, s1, rfl, q⟩
    | ret d =>
      obtain ⟨x, rfl, q⟩ := q
      cases h2
      exact ⟨.ret d, M1, by rw [List.map_cons, sLoop, if_pos (hc _ _ _ h0), e]; rfl, x, rfl, q⟩
theorem w_forx (R : S → Rho → Mem → Prop) (QR : E → D → Mem → Prop) {f : A → S → Option (Ex (Ex E S) S)} {s : S} {r : Ex E S} (hi : fi ρ M = some ((xs.map cA.e, kk), M1)) (h : tforx f xs s = some r) (h0 : R s ρ M1) (hc : ∀ s ρ M, R s ρ M → chk kk (xs.map cA.e) M = true)
    (step : ∀ a s r ρ M, f a s = some r → R s ρ M → WP (sStep t fb (cA.e a)) ρ M (BQx R QR r)) (KR : ∀ e d M', Ex.ex e = r → QR e d M' → Q (.ret d) M') (K : ∀ s' ρ' M', Ex.go s' = r → R s' ρ' M' → WP k ρ' M' Q) : WP (sSeq (sFor fi t fb) k) ρ M Q := by
  obtain ⟨o, M', e, q⟩ := lpx (c := chk kk (xs.map cA.e)) hc step xs s r ρ M1 h h0
  have e' : sFor fi t fb ρ M = some (o, M') := by rw [ev_for, hi]; exact e
  cases o with
  | nx ρ' => obtain ⟨s', h1, h2⟩ := q; exact w_step e' (K s' ρ' M' h1 h2)
  | ret d => obtain ⟨x, h1, h2⟩ := q; exact ⟨.ret d, M', by rw [ev_seq, e']; rfl, KR x d M' h1 h2⟩
  | bk _ => exact q.elim
  | ct _ => exact q.elim
/-! while -/
variable {fc : FT}
theorem whx {f : S → Option (Ex (Ex E S) S)} {cc : S → Option Bool} (hcc : ∀ s b ρ M, cc s = some b → R s ρ M → fc ρ M = some (b, M)) (hs : ∀ s r ρ M, f s = some r → R s ρ M → WP fb ρ M (BQx R QR r)) :
    ∀ (n m : Nat) (s : S) (r : Ex E S) (ρ : Rho) (M : Mem), n ≤ m → twhx cc f n s = some r → R s ρ M → ∃ o M', sWhileN fc fb m ρ M = some (o, M') ∧ match o with | .nx ρ' => ∃ s', Ex.go s' = r ∧ R s' ρ' M' | .ret d => ∃ e, Ex.ex e = r ∧ QR e d M' | _ => False
  | 0, _, s, r, ρ, M, _, h, h0 => by cases h
  | n + 1, 0, s, r, ρ, M, hm, h, h0 => by omega
  | n + 1, m + 1, s, r, ρ, M, hm, h, h0 => by
    obtain ⟨b, hb, h⟩ := bnd h
    have e0 := hcc s b ρ M hb h0
    cases b with
    | false =>
      rw [if_neg Bool.false_ne_true] at h
      cases h
      exact ⟨.nx ρ, M, by rw [sWhileN, e0]; rfl, s, rfl, h0⟩
    | true =>
      rw [if_pos rfl] at h
      obtain ⟨r1, h1, h2⟩ := bnd h
      obtain ⟨o, M1, e, q⟩ := hs s r1 ρ M h1 h0
      cases o with
      | nx ρ1 =>
        obtain ⟨s1, rfl, q⟩ := q
        obtain ⟨o2, M2, e2, q2⟩ := whx hcc hs n m s1 r ρ1 M1 (by omega) h2 q
        exact ⟨o2, M2, by rw [sWhileN, e0, Option.bind_some, if_pos rfl]; simp only []; rw [e]; exact e2, q2⟩
      | ct ρ1 =>
        obtain ⟨s1, rfl, q⟩ := q
        obtain ⟨o2, M2, e2, q2⟩ := whx hcc hs n m s1 r ρ1 M1 (by omega) h2 q
        exact ⟨o2, M2, by rw [sWhileN, e0, Option.bind_some, if_pos rfl]; simp only []; rw [e]; exact e2, q2⟩
      | bk ρ1 =>
        obtain ⟨s1, rfl, q⟩ := q
        cases h2
        exact ⟨.nx ρ1, M1, by rw [sWhileN, e0, Option.bind_some, if_pos rfl]; simp only []; rw [e]; rfl, s1, rfl, q⟩
      | ret d =>
        obtain ⟨x, rfl, q⟩ := q
        cases h2
        exact ⟨.ret d, M1, by rw [sWhileN, e0, Option.bind_some, if_pos rfl]; simp only []; rw [e]; rfl, x, rfl, q⟩
theorem fuel_ge (ρ : Rho) (M : Mem) : FUEL ≤ fuel ρ M := fuel_big ρ M
theorem w_whx (R : S → Rho → Mem → Prop) (QR : E → D → Mem → Prop) {f : S → Option (Ex (Ex E S) S)} {cc : S → Option Bool} {s : S} {r : Ex E S} (h : twhx cc f FUEL s = some r) (h0 : R s ρ M) (hcc : ∀ s b ρ M, cc s = some b → R s ρ M → fc ρ M = some (b, M))
    (step : ∀ s r ρ M, f s = some r → R s ρ M → WP fb ρ M (BQx R QR r)) (KR : ∀ e d M', Ex.ex e = r → QR e d M' → Q (.ret d) M') (K : ∀ s' ρ' M', Ex.go s' = r → R s' ρ' M' → WP k ρ' M' Q) : WP (sSeq (sWhile fc fb) k) ρ M Q := by
  obtain ⟨o, M', e, q⟩ := whx hcc step FUEL (fuel ρ M) s r ρ M (fuel_ge ρ M) h h0
  have e' : sWhile fc fb ρ M = some (o, M') := e
  cases o with
  | nx ρ' => obtain ⟨s', h1, h2⟩ := q; exact w_step e' (K s' ρ' M' h1 h2)
  | ret d => obtain ⟨x, h1, h2⟩ := q; exact ⟨.ret d, M', by rw [ev_seq, e']; rfl, KR x d M' h1 h2⟩
  | bk _ => exact q.elim
  | ct _ => exact q.elim
theorem twhr_x {f : S → Option (Ex E S)} {cc : S → Option Bool} : ∀ (n : Nat) (s : S), twhx cc (fun s => (f s).map fun r => match r with | .ex e => Ex.ex (Ex.ex e) | .go b => Ex.go b) n s = twhr cc f n s
  | 0, _ => rfl
  | n + 1, s => by
    show (cc s).bind _ = (cc s).bind _
    congr 1; funext b
    cases b
    · rfl
    · simp only [if_true]
      cases f s with
      | none => rfl
      | some r => cases r with
        | ex e => rfl
        | go b => exact twhr_x n b
theorem w_whr (R : S → Rho → Mem → Prop) (QR : E → D → Mem → Prop) {f : S → Option (Ex E S)} {cc : S → Option Bool} {s : S} {r : Ex E S} (h : twhr cc f FUEL s = some r) (h0 : R s ρ M) (hcc : ∀ s b ρ M, cc s = some b → R s ρ M → fc ρ M = some (b, M))
    (step : ∀ s r ρ M, f s = some r → R s ρ M → WP fb ρ M (BQr R QR r)) (KR : ∀ e d M', Ex.ex e = r → QR e d M' → Q (.ret d) M') (K : ∀ s' ρ' M', Ex.go s' = r → R s' ρ' M' → WP k ρ' M' Q) : WP (sSeq (sWhile fc fb) k) ρ M Q :=
  w_whx R QR ((twhr_x FUEL s).trans h) h0 hcc (fun s r1 ρ M hf hR => by
    obtain ⟨r0, h1, rfl⟩ := Option.map_eq_some_iff.mp hf
    obtain ⟨o, M', e, q⟩ := step s r0 ρ M h1 hR
    refine ⟨o, M', e, ?_⟩
    cases o with
    | nx _ => obtain ⟨s', rfl, q⟩ := q; exact ⟨s', rfl, q⟩
    | ct _ => obtain ⟨s', rfl, q⟩ := q; exact ⟨s', rfl, q⟩
    | bk _ => exact q.elim
    | ret d => obtain ⟨x, rfl, q⟩ := q; exact ⟨x, rfl, q⟩) KR K
theorem twh_x {f : S → Option S} {cc : S → Option Bool} : ∀ (n : Nat) (s : S), twhx (E := Unit) cc (fun s => (f s).map fun b => Ex.go b) n s = (twh cc f n s).map Ex.go
  | 0, _ => rfl
  | n + 1, s => by
    show (cc s).bind _ = ((cc s).bind _).map Ex.go
    cases cc s with
    | none => rfl
    | some b =>
      cases b
      · rfl
      · simp only [if_true, Option.bind_some]
        cases f s with
        | none => rfl
        | some r => exact twh_x n r
theorem w_wh (R : S → Rho → Mem → Prop) {f : S → Option S} {cc : S → Option Bool} {s s' : S} (h : twh cc f FUEL s = some s') (h0 : R s ρ M) (hcc : ∀ s b ρ M, cc s = some b → R s ρ M → fc ρ M = some (b, M))
    (step : ∀ s s' ρ M, f s = some s' → R s ρ M → WP fb ρ M (BQ0 R s')) (K : ∀ ρ' M', R s' ρ' M' → WP k ρ' M' Q) : WP (sSeq (sWhile fc fb) k) ρ M Q :=
  w_whx (E := Unit) R (fun _ _ _ => False) (r := .go s') ((twh_x FUEL s).trans (by rw [h]; rfl)) h0 hcc (fun s r1 ρ M hf hR => by
    obtain ⟨r0, h1, rfl⟩ := Option.map_eq_some_iff.mp hf
    obtain ⟨o, M', e, q⟩ := step s r0 ρ M h1 hR
    refine ⟨o, M', e, ?_⟩
    cases o with
    | nx _ => exact ⟨_, rfl, q⟩
    | ct _ => exact ⟨_, rfl, q⟩
    | bk _ => exact q.elim
    | ret d => exact q.elim) (fun _ _ _ _ h => h.elim) fun s1 ρ' M' e q => by cases e; exact K ρ' M' q
theorem twhb_x {f : S → Option (Ex S S)} {cc : S → Option Bool} : ∀ (n : Nat) (s : S), twhx (E := Unit) cc (fun s => (f s).map fun r => match r with | .ex b => Ex.ex (Ex.go b) | .go b => Ex.go b) n s = (twhb cc f n s).map Ex.go
  | 0, _ => rfl
  | n + 1, s => by
    show (cc s).bind _ = ((cc s).bind _).map Ex.go
    cases cc s with
    | none => rfl
    | some b =>
      cases b
      · rfl
      · simp only [if_true, Option.bind_some]
        cases f s with
        | none => rfl
        | some r => cases r with
          | ex b => rfl
          | go b => exact twhb_x n b
theorem w_whb (R : S → Rho → Mem → Prop) {f : S → Option (Ex S S)} {cc : S → Option Bool} {s s' : S} (h : twhb cc f FUEL s = some s') (h0 : R s ρ M) (hcc : ∀ s b ρ M, cc s = some b → R s ρ M → fc ρ M = some (b, M))
    (step : ∀ s r ρ M, f s = some r → R s ρ M → WP fb ρ M (BQb R r)) (K : ∀ ρ' M', R s' ρ' M' → WP k ρ' M' Q) : WP (sSeq (sWhile fc fb) k) ρ M Q :=
  w_whx (E := Unit) R (fun _ _ _ => False) (r := .go s') ((twhb_x FUEL s).trans (by rw [h]; rfl)) h0 hcc (fun s r1 ρ M hf hR => by
    obtain ⟨r0, h1, rfl⟩ := Option.map_eq_some_iff.mp hf
    obtain ⟨o, M', e, q⟩ := step s r0 ρ M h1 hR
    refine ⟨o, M', e, ?_⟩
    cases o with
    | nx _ => obtain ⟨s', rfl, q⟩ := q; exact ⟨s', rfl, q⟩
    | ct _ => obtain ⟨s', rfl, q⟩ := q; exact ⟨s', rfl, q⟩
    | bk _ => obtain ⟨s', rfl, q⟩ := q; exact ⟨s', rfl, q⟩
    | ret d => exact q.elim) (fun _ _ _ _ h => h.elim) fun s1 ρ' M' e q => by cases e; exact K ρ' M' q
end
/-! ### a body whose own lists are frozen at its end -/
section
variable {ρ : Rho} {M M1 : Mem} {Q : Out → Mem → Prop} {f : FS}
theorem fe_v {m : Nat} {d : D} (h : d.nr = true) : frE m M1 d = some d := by
  cases d with
  | ref _ => cases h
  | non => rfl
  | bl _ => rfl
  | int _ => rfl
  | str _ => rfl
  | tup _ => exact if_pos h
  | lst _ => exact if_pos h
  | kst _ => exact if_pos h
theorem fl_v {m : Nat} : ∀ {l : List D}, D.nrs l = true → frL m M1 l = some l
  | [], _ => rfl
  | d :: l, h => by
    rw [D.nrs, Bool.and_eq_true] at h
    show (frE m M1 d).bind _ = _
    rw [fe_v h.1, Option.bind_some, fl_v h.2]; rfl
theorem fm_cl {m : Nat} {c : Ec A} {xs : List A} {ms ns : Mem} (h : frMs m M1 ms = some ns) : frMs m M1 (cl c xs :: ms) = some (cl c xs :: ns) := by
  show (frL m M1 (xs.map c.e)).bind (fun ys => (frMs m M1 ms).bind fun ns => some (.lst ys :: ns)) = _
  rw [fl_v (nrs_map c.nr xs), Option.bind_some, h]; rfl
theorem fm_n {m : Nat} : frMs m M1 [] = some [] := rfl
/-- the slots behind it, one by one -/
def FrS (m : Nat) (M1 : Mem) (ρ ρ' : Rho) : Prop := frS m M1 ρ = ρ'
theorem fs_n {m : Nat} : FrS m M1 [] [] := rfl
theorem fs_c {m : Nat} {c : Ec A} {a : A} {ρ ρ' : Rho} (h : FrS m M1 ρ ρ') : FrS m M1 (some (c.e a) :: ρ) (some (c.e a) :: ρ') := by
  show frE m M1 (c.e a) :: frS m M1 ρ = _
  rw [fe_v (c.nr a)]; unfold FrS at h; rw [h]
theorem fs_o {m : Nat} {n : Nat} {ρ ρ' : Rho} (hn : Nat.blt n m = true) (h : FrS m M1 ρ ρ') : FrS m M1 (some (.ref n) :: ρ) (some (.ref n) :: ρ') := by
  show frE m M1 (.ref n) :: frS m M1 ρ = _
  have : n < m := Nat.le_of_ble_eq_true hn
  rw [show frE m M1 (.ref n) = some (.ref n) from if_pos this]; unfold FrS at h; rw [h]
theorem fs_r {m : Nat} {c : Ec A} {xs : List A} {n : Nat} {ρ ρ' : Rho} (hn : Nat.blt n m = false) (hm : gm M1 n = some (cl c xs)) (h : FrS m M1 ρ ρ') : FrS m M1 (some (.ref n) :: ρ) (some ((eL c).e xs) :: ρ') := by
  show frE m M1 (.ref n) :: frS m M1 ρ = _
  have hlt : ¬ n < m := fun z => by
    have z2 : Nat.blt n m = true := Nat.ble_eq_true_of_le z
    rw [hn] at z2; cases z2
  have e : frE m M1 (.ref n) = some ((eL c).e xs) := by
    show (if n < m then some (D.ref n) else match M1[n]? with
      | some (.lst xs) => if D.nrs xs = true then some (D.lst xs) else none
      | none => none) = _
    rw [if_neg hlt, gm_at hm]
    exact if_pos (nrs_map c.nr xs)
  rw [e]; unfold FrS at h; rw [h]
/-- a slot that nobody reads behind it -/
theorem fs_j {m : Nat} {o : Option D} {ρ ρ' : Rho} (h : FrS m M1 ρ ρ') : FrS m M1 (o :: ρ) ((o.bind fun d => frE m M1 d) :: ρ') := by
  show _ :: frS m M1 ρ = _
  unfold FrS at h; rw [h]
/-- what the body leaves, with its own lists frozen -/
def FZ (m : Nat) (Q : Out → Mem → Prop) : Out → Mem → Prop := fun o M1 => match o with
  | .nx ρ1 => ∃ ρ2 M2, FrS m M1 ρ1 ρ2 ∧ frMs m M1 (M1.take m) = some M2 ∧ Q (.nx ρ2) M2
  | .bk ρ1 => ∃ ρ2 M2, FrS m M1 ρ1 ρ2 ∧ frMs m M1 (M1.take m) = some M2 ∧ Q (.bk ρ2) M2
  | .ct ρ1 => ∃ ρ2 M2, FrS m M1 ρ1 ρ2 ∧ frMs m M1 (M1.take m) = some M2 ∧ Q (.ct ρ2) M2
  | .ret d => ∃ e M2, frE m M1 d = some e ∧ frMs m M1 (M1.take m) = some M2 ∧ Q (.ret e) M2
theorem z_nx {m : Nat} {ρ1 ρ2 : Rho} {M2 : Mem} (h1 : FrS m M1 ρ1 ρ2) (h2 : frMs m M1 (M1.take m) = some M2) (q : Q (.nx ρ2) M2) : FZ m Q (.nx ρ1) M1 := ⟨ρ2, M2, h1, h2, q⟩
theorem z_bk {m : Nat} {ρ1 ρ2 : Rho} {M2 : Mem} (h1 : FrS m M1 ρ1 ρ2) (h2 : frMs m M1 (M1.take m) = some M2) (q : Q (.bk ρ2) M2) : FZ m Q (.bk ρ1) M1 := ⟨ρ2, M2, h1, h2, q⟩
theorem z_ct {m : Nat} {ρ1 ρ2 : Rho} {M2 : Mem} (h1 : FrS m M1 ρ1 ρ2) (h2 : frMs m M1 (M1.take m) = some M2) (q : Q (.ct ρ2) M2) : FZ m Q (.ct ρ1) M1 := ⟨ρ2, M2, h1, h2, q⟩
theorem z_rt {m : Nat} {d e : D} {M2 : Mem} (h1 : frE m M1 d = some e) (h2 : frMs m M1 (M1.take m) = some M2) (q : Q (.ret e) M2) : FZ m Q (.ret d) M1 := ⟨e, M2, h1, h2, q⟩
theorem fe_c {m : Nat} (c : Ec A) (a : A) : frE m M1 (c.e a) = some (c.e a) := fe_v (c.nr a)
theorem fe_r {m : Nat} {c : Ec A} {xs : List A} {n : Nat} (hn : Nat.blt n m = false) (hm : gm M1 n = some (cl c xs)) : frE m M1 (.ref n) = some ((eL c).e xs) := by
  have h := fs_r (ρ := []) (ρ' := []) hn hm rfl
  exact List.head_eq_of_cons_eq h
theorem w_blk (h : WP (sSeq f sNext) ρ M (FZ M.length Q)) : WP (sBlk f) ρ M Q := by
  obtain ⟨o, M1, e, q⟩ := w_add h
  cases o with
  | nx ρ1 => obtain ⟨ρ2, M2, h1, h2, q⟩ := q; exact ⟨.nx ρ2, M2, by unfold sBlk; rw [e, Option.bind_some]; simp only []; rw [h2]; unfold FrS at h1; rw [← h1]; rfl, q⟩
  | bk ρ1 => obtain ⟨ρ2, M2, h1, h2, q⟩ := q; exact ⟨.bk ρ2, M2, by unfold sBlk; rw [e, Option.bind_some]; simp only []; rw [h2]; unfold FrS at h1; rw [← h1]; rfl, q⟩
  | ct ρ1 => obtain ⟨ρ2, M2, h1, h2, q⟩ := q; exact ⟨.ct ρ2, M2, by unfold sBlk; rw [e, Option.bind_some]; simp only []; rw [h2]; unfold FrS at h1; rw [← h1]; rfl, q⟩
  | ret d => obtain ⟨e', M2, h1, h2, q⟩ := q; exact ⟨.ret e', M2, by unfold sBlk; rw [e, Option.bind_some]; simp only []; rw [h2, Option.bind_some]; rw [h1]; rfl, q⟩
end
end TL
namespace TL
open PySem PySem.Spec PyProof.Rows L2 PF
variable {A B C S A' B' C' E : Type}
/-! ### one type seen as another -/
theorem co_O {c : Ec A} {c' : Ec B} {f : A → B} (h : ∀ a, c'.e (f a) = c.e a) (o : Option A) : (eO c').e (o.map f) = (eO c).e o := by
  cases o with
  | none => rfl
  | some a => exact h a
theorem co_map {c : Ec A} {c' : Ec B} {f : A → B} (h : ∀ a, c'.e (f a) = c.e a) (xs : List A) : (xs.map f).map c'.e = xs.map c.e := by
  rw [List.map_map]; exact List.map_congr_left fun a _ => h a
theorem co_L {c : Ec A} {c' : Ec B} {f : A → B} (h : ∀ a, c'.e (f a) = c.e a) (xs : List A) : (eL c').e (xs.map f) = (eL c).e xs := by
  show D.lst _ = D.lst _
  rw [co_map h]
theorem co_V {c : Ec A} {c' : Ec B} {f : A → B} (h : ∀ a, c'.e (f a) = c.e a) (xs : List A) : (eV c').e (xs.map f) = (eV c).e xs := by
  show D.tup _ = D.tup _
  rw [co_map h]
def tv1 (xs : List A) : Option A := match xs with | [a] => some a | _ => none
def tv2 (xs : List A) : Option (A × A) := match xs with | [a, b] => some (a, b) | _ => none
def tv3 (xs : List A) : Option (A × A × A) := match xs with | [a, b, c] => some (a, b, c) | _ => none
def tv4 (xs : List A) : Option (A × A × A × A) := match xs with | [a, b, c, d] => some (a, b, c, d) | _ => none
section
variable {c : Ec A} {ρ : Rho} {M M1 : Mem} {fa : FE} {xs : List A}
theorem x_v1 {p : A} (h : fa ρ M = some ((eV c).e xs, M1)) (E : tv1 xs = some p) : fa ρ M = some ((e1 c).e p, M1) := by
  unfold tv1 at E; split at E
  · cases E; exact h
  · cases E
theorem x_v2 {p : A × A} (h : fa ρ M = some ((eV c).e xs, M1)) (E : tv2 xs = some p) : fa ρ M = some ((e2 c c).e p, M1) := by
  unfold tv2 at E; split at E
  · cases E; exact h
  · cases E
theorem x_v3 {p : A × A × A} (h : fa ρ M = some ((eV c).e xs, M1)) (E : tv3 xs = some p) : fa ρ M = some ((e3 c c c).e p, M1) := by
  unfold tv3 at E; split at E
  · cases E; exact h
  · cases E
theorem x_v4 {p : A × A × A × A} (h : fa ρ M = some ((eV c).e xs, M1)) (E : tv4 xs = some p) : fa ρ M = some ((e4 c c c c).e p, M1) := by
  unfold tv4 at E; split at E
  · cases E; exact h
  · cases E
theorem tall_map : ∀ {xs : List (Option A)} {ys : List A}, tall xs = some ys → xs.map (eO c).e = ys.map c.e
  | [], ys, h => by cases h; rfl
  | x :: xs, ys, h => by
    obtain ⟨a, ha, h⟩ := bnd h
    obtain ⟨as, has, h⟩ := bnd h
    cases h
    subst ha
    rw [List.map_cons, List.map_cons, tall_map has]; rfl
theorem x_allL {os : List (Option A)} (h : fa ρ M = some ((eL (eO c)).e os, M1)) (E : tall os = some xs) : fa ρ M = some ((eL c).e xs, M1) := by
  rw [h]; show some (D.lst _, M1) = some (D.lst _, M1); rw [tall_map E]
theorem x_allV {os : List (Option A)} (h : fa ρ M = some ((eV (eO c)).e os, M1)) (E : tall os = some xs) : fa ρ M = some ((eV c).e xs, M1) := by
  rw [h]; show some (D.tup _, M1) = some (D.tup _, M1); rw [tall_map E]
theorem x_allN {f : FA} {os : List (Option A)} (h : f ρ M = some (os.map (eO c).e, M1)) (E : tall os = some xs) : f ρ M = some (xs.map c.e, M1) := by
  rw [h, tall_map E]
theorem x_mutE {f : FA} {ys : List A} (h : f ρ M = some (xs.map c.e, M1)) (E : xs = ys) : fMut f ρ M = some (.ref M1.length, M1 ++ [cl c ys]) := by subst E; exact x_mut h
end
theorem pinj {a c : A} {b d : B} (h : some (a, b) = some (c, d)) : a = c ∧ b = d := by cases h; exact ⟨rfl, rfl⟩
theorem at3 {x0 x1 x2 x3 : A} {xs : List A} : L2.atI (x0 :: x1 :: x2 :: x3 :: xs) 3 = some x3 := at_nat (n := 3) rfl
theorem at4 {x0 x1 x2 x3 x4 : A} {xs : List A} : L2.atI (x0 :: x1 :: x2 :: x3 :: x4 :: xs) 4 = some x4 := at_nat (n := 4) rfl
theorem at5 {x0 x1 x2 x3 x4 x5 : A} {xs : List A} : L2.atI (x0 :: x1 :: x2 :: x3 :: x4 :: x5 :: xs) 5 = some x5 := at_nat (n := 5) rfl
theorem at6 {x0 x1 x2 x3 x4 x5 x6 : A} {xs : List A} : L2.atI (x0 :: x1 :: x2 :: x3 :: x4 :: x5 :: x6 :: xs) 6 = some x6 := at_nat (n := 6) rfl
theorem at0 {x0 : A} {xs : List A} : L2.atI (x0 :: xs) 0 = some x0 := at_nat (n := 0) rfl
theorem at1 {x0 x1 : A} {xs : List A} : L2.atI (x0 :: x1 :: xs) 1 = some x1 := at_nat (n := 1) rfl
theorem at2 {x0 x1 x2 : A} {xs : List A} : L2.atI (x0 :: x1 :: x2 :: xs) 2 = some x2 := at_nat (n := 2) rfl
/-! ### _law_same, of two things -/
def bsame (q : FnC) : FS := (sSeq (sIf (fTru (fIsi .bl (fVar 1)))
      (sRet (fAndV (fIsi .bl (fVar 0)) (f2 (gB (gEq)) (fVar 0) (fVar 1))))
      (sNext))
      (sSeq (sIf (fTru (fIsi .int (fVar 1)))
      (sRet (fAndV (fIsi .int (fVar 0)) (fAndV (fNotV (fIsi .bl (fVar 0))) (f2 (gB (gEq)) (fVar 0) (fVar 1)))))
      (sNext))
      (sSeq (sIf (fTru (fIsi .str (fVar 1)))
      (sRet (fAndV (fIsi .str (fVar 0)) (f2 (gB (gEq)) (fVar 0) (fVar 1))))
      (sNext))
      (sSeq (sIf (f2T (gIs) (fVar 1) (fC .non))
      (sRet (f2 (gB (gIs)) (fVar 0) (fC .non)))
      (sNext))
      (sSeq (sIf (fOr (fNot (fTru (fIsi .tup (fVar 0)))) (f2T (gNe) (fB gLen (fCons (fVar 0) (fNil))) (fB gLen (fCons (fVar 1) (fNil)))))
      (sRet (fC (.bl false)))
      (sNext))
      (sSeq (sFor (fiRg1 (fCons (fB gLen (fCons (fVar 1) (fNil))) (fNil))) (tN 2)
      (sIf (fNot (fTru (fCall q (fCons (f2 gIx (fVar 0) (fVar 2)) (fCons (f2 gIx (fVar 1) (fVar 2)) (fNil))))))
      (sRet (fC (.bl false)))
      (sNext)))
      (sRet (fC (.bl true)))))))))
end TL
namespace TL
open PySem PySem.Spec PyProof.Rows L2 PF
variable {A B C S A' B' C' E : Type}
theorem gm_l {L : Mem} : ∀ {M : Mem} {n : Nat} {mo : MO}, gm M n = some mo → gm (M ++ L) n = some mo
  | [], _, _, h => by cases h
  | _ :: _, 0, _, h => h
  | _ :: M, n + 1, _, h => gm_l (M := M) (n := n) h
theorem gm_end {mo : MO} : ∀ {M : Mem}, gm (M ++ [mo]) M.length = some mo
  | [] => rfl
  | _ :: M => gm_end (M := M)
theorem gm_st {x mo : MO} : ∀ {M : Mem} {i n : Nat}, i < n → gm M n = some mo → gm (M.set i x) n = some mo
  | [], _, _, _, h => by cases h
  | _ :: _, 0, 0, hi, _ => absurd hi (Nat.lt_irrefl _)
  | _ :: _, 0, _ + 1, _, h => h
  | _ :: _, _ + 1, 0, hi, _ => absurd hi (Nat.not_lt_zero _)
  | _ :: M, i + 1, n + 1, hi, h => gm_st (M := M) (Nat.lt_of_succ_lt_succ hi) h
theorem x_isi (T : Ty) {fa : FE} {ρ : Rho} {M M1 : Mem} {d : D} {b : Bool} (ha : fa ρ M = some (d, M1)) (h : isi (tyOf d) T = b) : fIsi T fa ρ M = some (eB.e b, M1) := by
  rw [ev_isi, ha, Option.bind_some]
  subst h; rfl
theorem x_isiO (T : Ty) {fa : FE} {ρ : Rho} {M M1 : Mem} {c : Ec A} {o : Option A} (ha : fa ρ M = some ((eO c).e o, M1)) (h : ∀ a, isi (tyOf (c.e a)) T = true) (hT : isi .non T = false := by rfl) : fIsi T fa ρ M = some (eB.e o.isSome, M1) := by
  refine x_isi T ha ?_
  cases o with
  | none => exact hT
  | some a => exact h a
theorem x_isiO0 (T : Ty) {fa : FE} {ρ : Rho} {M M1 : Mem} {c : Ec A} {o : Option A} (ha : fa ρ M = some ((eO c).e o, M1)) (h : ∀ a, isi (tyOf (c.e a)) T = false) (hT : isi .non T = false := by rfl) : fIsi T fa ρ M = some (eB.e false, M1) := by
  refine x_isi T ha ?_
  cases o with
  | none => exact hT
  | some a => exact h a
theorem x_repN {c : Ec A} {xs zs : List A} {j : Int} {fa fb : FE} {x : D} {ρ : Rho} {M M1 M2 : Mem} (ha : fa ρ M = some (x, M1)) (hb : fb ρ M1 = some (eI.e j, M2)) (l : Lt x M2 c xs) (h : trepL xs j = some zs) : f2N gRep fa fb ρ M = some (zs.map c.e, M2) := by
  obtain ⟨hq, rfl⟩ := trepL_ok h
  unfold f2N
  rw [ha, Option.bind_some]; simp only []; rw [hb, Option.bind_some]
  show (match ltOf x M2 with | some xs => if (decide (-(9223372036854775808) ≤ j) && (decide (j < 9223372036854775808) && decide (xs.length * j.toNat ≤ LINE))) = true then some (List.replicate j.toNat xs).flatten else none | none => none).bind _ = _
  rw [l.lt]
  simp only [List.length_map]
  rw [if_pos hq, flat_map]; rfl
theorem u_sub {a b : Int} {M : Mem} : gISub (eI.e a) (eI.e b) M = some (eI.e (a - b), M) := rfl
theorem u_mul {a b c : Int} {M : Mem} (h : tmul a b = some c) : gIMul (eI.e a) (eI.e b) M = some (eI.e c, M) := by
  show (if okMul a b = true then some (D.int (a * b), M) else none) = _
  unfold tmul at h
  split at h
  · rename_i q; rw [if_pos q]; cases h; rfl
  · cases h
theorem x_fzD {f : FA} {ρ : Rho} {M M1 : Mem} {ds : List D} (h : f ρ M = some (ds, M1)) (hl : Nat.ble ds.length 10000 = true) : fFz (fLstD f) ρ M = some (.lst ds, M1) := by
  rw [ev_fz, ev_lstD, h, Option.bind_some, if_pos (Nat.le_trans (Nat.le_of_ble_eq_true hl) (by decide))]; rfl
section
variable {c : Ec A} {ρ : Rho} {M M1 : Mem} {fa : FE} {xs : List A}
theorem x_l2 {p : A × A} (h : fa ρ M = some ((eL c).e xs, M1)) (E : tv2 xs = some p) : fa ρ M = some (.lst [c.e p.1, c.e p.2], M1) := by
  unfold tv2 at E; split at E
  · cases E; exact h
  · cases E
theorem x_l3 {p : A × A × A} (h : fa ρ M = some ((eL c).e xs, M1)) (E : tv3 xs = some p) : fa ρ M = some (.lst [c.e p.1, c.e p.2.1, c.e p.2.2], M1) := by
  unfold tv3 at E; split at E
  · cases E; exact h
  · cases E
theorem x_l4 {p : A × A × A × A} (h : fa ρ M = some ((eL c).e xs, M1)) (E : tv4 xs = some p) : fa ρ M = some (.lst [c.e p.1, c.e p.2.1, c.e p.2.2.1, c.e p.2.2.2], M1) := by
  unfold tv4 at E; split at E
  · cases E; exact h
  · cases E
end
theorem tf_all (xs : List A) : tfilt (fun _ => some true) xs = some xs := by rw [tfilt_some, List.filter_eq_self.mpr fun _ _ => rfl]
theorem u_eq {g : G2M} {x y : D} {c : Ec A} {a b : A} {M M1 : Mem} (h : g x y M = some (c.e a, M1)) (E : a = b) : g x y M = some (c.e b, M1) := by subst E; exact h
/-! ### _law_same -/
def okA (_ : A) : Bool := true
def okO (f : A → Bool) (o : Option A) : Bool := match o with | none => true | some a => f a
def okV (f : A → Bool) (xs : List A) : Bool := Nat.ble xs.length 1000000 && xs.all f
def okP (f : A → Bool) (g : B → Bool) (p : A × B) : Bool := f p.1 && g p.2
def okS (x : Str) : Bool := PyData.strOk x
def tsame [DecidableEq A] (ok : A → Bool) (a b : A) : Option Bool := if (ok a && ok b) = true then some (decide (a = b)) else none
/-- what a _law_same keeps -/
structure SameFn (cs : Nat → FnC) : Prop where
  bl : ∀ n a b, cs (n + 1) [.bl a, .bl b] [] = some (.bl (decide (a = b)), [])
  int : ∀ n a b, cs (n + 1) [.int a, .int b] [] = some (.bl (decide (a = b)), [])
  str : ∀ n a b, PyData.strOk a = true → PyData.strOk b = true → cs (n + 1) [.str a, .str b] [] = some (.bl (decide (a = b)), [])
  nn : ∀ n d, d.nr = true → cs (n + 1) [d, .non] [] = some (.bl (isNn d), [])
  nx : ∀ n d, d.nr = true → d.nl = true → isNn d = false → cs (n + 1) [.non, d] [] = some (.bl false, [])
  tn : ∀ n xs ys, D.nrs xs = true → D.nrs ys = true → xs.length ≠ ys.length → cs (n + 1) [.tup xs, .tup ys] [] = some (.bl false, [])
  tt : ∀ n (zs : List (D × D)) (f : D × D → Bool), zs.length ≤ 1000000 → D.nrs (zs.map Prod.fst) = true → D.nrs (zs.map Prod.snd) = true → (∀ z ∈ zs, cs n [z.1, z.2] [] = some (.bl (f z), [])) → cs (n + 1) [.tup (zs.map Prod.fst), .tup (zs.map Prod.snd)] [] = some (.bl (zs.all f), [])
class Sm (n : outParam Nat) (c : Ec A) (ok : outParam (A → Bool)) [DecidableEq A] : Prop where
  s : ∀ {cs : Nat → FnC}, SameFn cs → ∀ m, n ≤ m → ∀ a b, ok a = true → ok b = true → cs m [c.e a, c.e b] [] = some (.bl (decide (a = b)), [])
  nl : ∀ a, (c.e a).nl = true
instance sm_I : Sm 1 eI (okA (A := Int)) := ⟨fun h m hm a b _ _ => by obtain ⟨k, rfl⟩ : ∃ k, m = k + 1 := ⟨m - 1, by omega⟩; exact h.int k a b, fun _ => rfl⟩
instance sm_B : Sm 1 eB (okA (A := Bool)) := ⟨fun h m hm a b _ _ => by obtain ⟨k, rfl⟩ : ∃ k, m = k + 1 := ⟨m - 1, by omega⟩; exact h.bl k a b, fun _ => rfl⟩
instance sm_S : Sm 1 eS okS := ⟨fun h m hm a b h1 h2 => by obtain ⟨k, rfl⟩ : ∃ k, m = k + 1 := ⟨m - 1, by omega⟩; exact h.str k a b h1 h2, fun _ => rfl⟩
instance sm_N : Sm 1 eN (okA (A := Unit)) := ⟨fun h m hm a b _ _ => by
  obtain ⟨k, rfl⟩ : ∃ k, m = k + 1 := ⟨m - 1, by omega⟩
  exact h.nn k .non rfl, fun _ => rfl⟩
instance sm_O {n : Nat} {c : Ec A} {ok : A → Bool} [DecidableEq A] [q : Sm n c ok] [nn : NotN c] : Sm (n + 1) (eO c) (okO ok) := ⟨fun h m hm a b h1 h2 => by
  obtain ⟨k, rfl⟩ : ∃ k, m = k + 1 := ⟨m - 1, by omega⟩
  cases a with
  | none =>
    cases b with
    | none => exact h.nn k .non rfl
    | some b =>
      have := h.nx k (c.e b) (c.nr b) (q.nl b) (nn.nn b)
      exact this
  | some a =>
    cases b with
    | none =>
      have := h.nn k (c.e a) (c.nr a)
      rw [nn.nn a] at this
      exact this
    | some b =>
      have := q.s h (k + 1) (by omega) a b h1 h2
      rw [show decide (some a = some b) = decide (a = b) by by_cases e : a = b <;> simp [e]]
      exact this, fun o => match o with | none => rfl | some a => q.nl a⟩
theorem all_zip [DecidableEq A] : ∀ xs ys : List A, xs.length = ys.length → (xs.zip ys).all (fun p => decide (p.1 = p.2)) = decide (xs = ys)
  | [], [], _ => rfl
  | [], _ :: _, h => by simp at h
  | _ :: _, [], h => by simp at h
  | x :: xs, y :: ys, h => by
    rw [List.zip_cons_cons, List.all_cons, all_zip xs ys (by simpa using h)]
    by_cases e1 : x = y <;> by_cases e2 : xs = ys <;> simp [e1, e2]
instance sm_V {n : Nat} {c : Ec A} {ok : A → Bool} [DecidableEq A] [q : Sm n c ok] : Sm (n + 1) (eV c) (okV ok) := ⟨fun {cs} h m hm a b h1 h2 => by
  obtain ⟨k, rfl⟩ : ∃ k, m = k + 1 := ⟨m - 1, by omega⟩
  unfold okV at h1 h2
  rw [Bool.and_eq_true, List.all_eq_true] at h1 h2
  show cs (k + 1) [.tup (a.map c.e), .tup (b.map c.e)] [] = _
  by_cases hl : a.length = b.length
  · have hz := h.tt k ((a.zip b).map fun p => (c.e p.1, c.e p.2)) (fun z => (a.zip b).all fun p => true) 
    -- the rows side by side
    have hf : ∀ (xs ys : List A), xs.length = ys.length → (∀ x ∈ xs, ok x = true) → (∀ x ∈ ys, ok x = true) → ys.length ≤ 1000000 → cs (k + 1) [.tup (xs.map c.e), .tup (ys.map c.e)] [] = some (.bl ((xs.zip ys).all fun p => decide (p.1 = p.2)), []) := by
      intro xs ys hxy ha hb hlen
      have e1 : xs.map c.e = ((xs.zip ys).map fun p => (c.e p.1, c.e p.2)).map Prod.fst := by
        rw [List.map_map, show (Prod.fst ∘ fun p : A × A => (c.e p.1, c.e p.2)) = c.e ∘ Prod.fst from rfl, ← List.map_map, List.map_fst_zip (by omega)]
      have e2 : ys.map c.e = ((xs.zip ys).map fun p => (c.e p.1, c.e p.2)).map Prod.snd := by
        rw [List.map_map, show (Prod.snd ∘ fun p : A × A => (c.e p.1, c.e p.2)) = c.e ∘ Prod.snd from rfl, ← List.map_map, List.map_snd_zip (by omega)]
      -- a test on data that tells equal ones: the result of the call itself
      let g : D × D → Bool := fun z => match cs k [z.1, z.2] [] with | some (.bl b, _) => b | _ => false
      have hg : ∀ p ∈ xs.zip ys, cs k [c.e p.1, c.e p.2] [] = some (.bl (decide (p.1 = p.2)), []) := fun p hp => by
        have hp' : (p.1, p.2) ∈ xs.zip ys := hp
        exact q.s h k (by omega) p.1 p.2 (ha _ (List.of_mem_zip hp').1) (hb _ (List.of_mem_zip hp').2)
      have := h.tt k ((xs.zip ys).map fun p => (c.e p.1, c.e p.2)) g (by rw [List.length_map, List.length_zip]; omega) (by rw [← e1]; exact nrs_map c.nr xs) (by rw [← e2]; exact nrs_map c.nr ys) (fun z hz => by
        obtain ⟨p, hp, rfl⟩ := List.mem_map.mp hz
        show cs k [c.e p.1, c.e p.2] [] = some (.bl (match cs k [c.e p.1, c.e p.2] [] with | some (.bl b, _) => b | _ => false), [])
        rw [hg p hp])
      rw [← e1, ← e2] at this
      rw [this, List.all_map]
      congr 2
      have : (xs.zip ys).all (g ∘ fun p => (c.e p.1, c.e p.2)) = (xs.zip ys).all fun p => decide (p.1 = p.2) := by
        rw [Bool.eq_iff_iff, List.all_eq_true, List.all_eq_true]
        refine ⟨fun hh p hp => ?_, fun hh p hp => ?_⟩
        · have := hh p hp
          show decide _ = true
          have e : (g ∘ fun p : A × A => (c.e p.1, c.e p.2)) p = decide (p.1 = p.2) := by
            show (match cs k [c.e p.1, c.e p.2] [] with | some (.bl b, _) => b | _ => false) = _
            rw [hg p hp]
          rw [← e]; exact this
        · have e : (g ∘ fun p : A × A => (c.e p.1, c.e p.2)) p = decide (p.1 = p.2) := by
            show (match cs k [c.e p.1, c.e p.2] [] with | some (.bl b, _) => b | _ => false) = _
            rw [hg p hp]
          rw [e]; exact hh p hp
      rw [this]
    rw [hf a b hl h1.2 h2.2 (Nat.le_of_ble_eq_true h2.1), all_zip a b hl]
  · rw [h.tn k _ _ (nrs_map c.nr a) (nrs_map c.nr b) (by simpa using hl), decide_eq_false (fun e => hl (by rw [e]))], fun xs => nl_tup (nls_map q.nl xs)⟩
section
variable {A1 A2 A3 A4 A5 A6 : Type} {a1 : Ec A1} {a2 : Ec A2} {a3 : Ec A3} {a4 : Ec A4} {a5 : Ec A5} {a6 : Ec A6} {k1 k2 k3 k4 k5 k6 : Nat} [DecidableEq A1] [DecidableEq A2] [DecidableEq A3] [DecidableEq A4] [DecidableEq A5] [DecidableEq A6]
  {l1 : A1 → Bool} {l2 : A2 → Bool} {l3 : A3 → Bool} {l4 : A4 → Bool} {l5 : A5 → Bool} {l6 : A6 → Bool}
  [q1 : Sm k1 a1 l1] [q2 : Sm k2 a2 l2] [q3 : Sm k3 a3 l3] [q4 : Sm k4 a4 l4] [q5 : Sm k5 a5 l5] [q6 : Sm k6 a6 l6]
/-- fixed tuples: a list of pairs with what is due of each -/
theorem sm_tup {cs : Nat → FnC} (h : SameFn cs) {k : Nat} (zs : List (D × D)) (bs : List Bool) (hl : zs.length ≤ 1000000) (h1 : D.nrs (zs.map Prod.fst) = true) (h2 : D.nrs (zs.map Prod.snd) = true) (hz : zs.map (fun z => cs k [z.1, z.2] []) = bs.map fun b => some (.bl b, [])) : cs (k + 1) [.tup (zs.map Prod.fst), .tup (zs.map Prod.snd)] [] = some (.bl (bs.all id), []) := by
  let g : D × D → Bool := fun z => match cs k [z.1, z.2] [] with | some (.bl b, _) => b | _ => false
  have key : ∀ (zs : List (D × D)) (bs : List Bool), zs.map (fun z => cs k [z.1, z.2] []) = bs.map (fun b => some (.bl b, [])) → (∀ z ∈ zs, cs k [z.1, z.2] [] = some (.bl (g z), [])) ∧ zs.all g = bs.all id := by
    intro zs
    induction zs with
    | nil => intro bs h; cases bs with | nil => exact ⟨fun _ h => (by cases h), rfl⟩ | cons _ _ => cases h
    | cons z zs ih =>
      intro bs h
      cases bs with
      | nil => cases h
      | cons b bs =>
        rw [List.map_cons, List.map_cons, List.cons.injEq] at h
        obtain ⟨i1, i2⟩ := ih bs h.2
        have e : g z = b := by show (match cs k [z.1, z.2] [] with | some (.bl b, _) => b | _ => false) = b; rw [h.1]
        refine ⟨fun y hy => ?_, by rw [List.all_cons, List.all_cons, e, i2]; rfl⟩
        rcases List.mem_cons.mp hy with rfl | hy
        · rw [e]; exact h.1
        · exact i1 y hy
  obtain ⟨i1, i2⟩ := key zs bs hz
  rw [h.tt k zs g hl h1 h2 i1, i2]
instance sm_0 : Sm 1 e0 (okA (A := Unit)) := ⟨fun {cs} h m hm a b _ _ => by
  obtain ⟨k, rfl⟩ : ∃ k, m = k + 1 := ⟨m - 1, by omega⟩
  exact sm_tup h (k := k) [] [] (by decide) rfl rfl rfl, fun _ => nl_tup rfl⟩
instance sm_1 : Sm (k1 + 1) (e1 a1) l1 := ⟨fun {cs} h m hm a b h1 h2 => by
  obtain ⟨k, rfl⟩ : ∃ k, m = k + 1 := ⟨m - 1, by omega⟩
  have := sm_tup h (k := k) [(a1.e a, a1.e b)] [decide (a = b)] (by simp) (nrs_c (a1.nr _) nrs_n) (nrs_c (a1.nr _) nrs_n) (by simp only [List.map_cons, List.map_nil, q1.s h k (by omega) a b h1 h2])
  simpa [e1] using this, fun _ => nl_tup (nls_c (q1.nl _) rfl)⟩
instance sm_2 : Sm (max k1 k2 + 1) (e2 a1 a2) (okP l1 l2) := ⟨fun {cs} h m hm a b h1 h2 => by
  obtain ⟨k, rfl⟩ : ∃ k, m = k + 1 := ⟨m - 1, by omega⟩
  obtain ⟨x1, x2⟩ := a; obtain ⟨y1, y2⟩ := b
  simp only [okP, Bool.and_eq_true] at h1 h2
  have := sm_tup h (k := k) [(a1.e x1, a1.e y1), (a2.e x2, a2.e y2)] [decide (x1 = y1), decide (x2 = y2)] (by simp) (nrs_c (a1.nr _) (nrs_c (a2.nr _) nrs_n)) (nrs_c (a1.nr _) (nrs_c (a2.nr _) nrs_n)) (by simp only [List.map_cons, List.map_nil, q1.s h k (by omega) x1 y1 h1.1 h2.1, q2.s h k (by omega) x2 y2 h1.2 h2.2])
  simpa [e2, Prod.mk.injEq, Bool.decide_and] using this, fun _ => nl_tup (nls_c (q1.nl _) (nls_c (q2.nl _) rfl))⟩
instance sm_3 : Sm (max (max k1 k2) k3 + 1) (e3 a1 a2 a3) (okP l1 (okP l2 l3)) := ⟨fun {cs} h m hm a b h1 h2 => by
  obtain ⟨k, rfl⟩ : ∃ k, m = k + 1 := ⟨m - 1, by omega⟩
  obtain ⟨x1, x2, x3⟩ := a; obtain ⟨y1, y2, y3⟩ := b
  simp only [okP, Bool.and_eq_true] at h1 h2
  have := sm_tup h (k := k) [(a1.e x1, a1.e y1), (a2.e x2, a2.e y2), (a3.e x3, a3.e y3)] [decide (x1 = y1), decide (x2 = y2), decide (x3 = y3)] (by simp) (nrs_c (a1.nr _) (nrs_c (a2.nr _) (nrs_c (a3.nr _) nrs_n))) (nrs_c (a1.nr _) (nrs_c (a2.nr _) (nrs_c (a3.nr _) nrs_n))) (by simp only [List.map_cons, List.map_nil, q1.s h k (by omega) x1 y1 h1.1 h2.1, q2.s h k (by omega) x2 y2 h1.2.1 h2.2.1, q3.s h k (by omega) x3 y3 h1.2.2 h2.2.2])
  simpa [e3, Prod.mk.injEq, Bool.decide_and] using this, fun _ => nl_tup (nls_c (q1.nl _) (nls_c (q2.nl _) (nls_c (q3.nl _) rfl)))⟩
instance sm_4 : Sm (max (max (max k1 k2) k3) k4 + 1) (e4 a1 a2 a3 a4) (okP l1 (okP l2 (okP l3 l4))) := ⟨fun {cs} h m hm a b h1 h2 => by
  obtain ⟨k, rfl⟩ : ∃ k, m = k + 1 := ⟨m - 1, by omega⟩
  obtain ⟨x1, x2, x3, x4⟩ := a; obtain ⟨y1, y2, y3, y4⟩ := b
  simp only [okP, Bool.and_eq_true] at h1 h2
  have := sm_tup h (k := k) [(a1.e x1, a1.e y1), (a2.e x2, a2.e y2), (a3.e x3, a3.e y3), (a4.e x4, a4.e y4)] [decide (x1 = y1), decide (x2 = y2), decide (x3 = y3), decide (x4 = y4)] (by simp) (nrs_c (a1.nr _) (nrs_c (a2.nr _) (nrs_c (a3.nr _) (nrs_c (a4.nr _) nrs_n)))) (nrs_c (a1.nr _) (nrs_c (a2.nr _) (nrs_c (a3.nr _) (nrs_c (a4.nr _) nrs_n)))) (by simp only [List.map_cons, List.map_nil, q1.s h k (by omega) x1 y1 h1.1 h2.1, q2.s h k (by omega) x2 y2 h1.2.1 h2.2.1, q3.s h k (by omega) x3 y3 h1.2.2.1 h2.2.2.1, q4.s h k (by omega) x4 y4 h1.2.2.2 h2.2.2.2])
  simpa [e4, Prod.mk.injEq, Bool.decide_and] using this, fun _ => nl_tup (nls_c (q1.nl _) (nls_c (q2.nl _) (nls_c (q3.nl _) (nls_c (q4.nl _) rfl))))⟩
instance sm_5 : Sm (max (max (max (max k1 k2) k3) k4) k5 + 1) (e5 a1 a2 a3 a4 a5) (okP l1 (okP l2 (okP l3 (okP l4 l5)))) := ⟨fun {cs} h m hm a b h1 h2 => by
  obtain ⟨k, rfl⟩ : ∃ k, m = k + 1 := ⟨m - 1, by omega⟩
  obtain ⟨x1, x2, x3, x4, x5⟩ := a; obtain ⟨y1, y2, y3, y4, y5⟩ := b
  simp only [okP, Bool.and_eq_true] at h1 h2
  have := sm_tup h (k := k) [(a1.e x1, a1.e y1), (a2.e x2, a2.e y2), (a3.e x3, a3.e y3), (a4.e x4, a4.e y4), (a5.e x5, a5.e y5)] [decide (x1 = y1), decide (x2 = y2), decide (x3 = y3), decide (x4 = y4), decide (x5 = y5)] (by simp) (nrs_c (a1.nr _) (nrs_c (a2.nr _) (nrs_c (a3.nr _) (nrs_c (a4.nr _) (nrs_c (a5.nr _) nrs_n))))) (nrs_c (a1.nr _) (nrs_c (a2.nr _) (nrs_c (a3.nr _) (nrs_c (a4.nr _) (nrs_c (a5.nr _) nrs_n))))) (by simp only [List.map_cons, List.map_nil, q1.s h k (by omega) x1 y1 h1.1 h2.1, q2.s h k (by omega) x2 y2 h1.2.1 h2.2.1, q3.s h k (by omega) x3 y3 h1.2.2.1 h2.2.2.1, q4.s h k (by omega) x4 y4 h1.2.2.2.1 h2.2.2.2.1, q5.s h k (by omega) x5 y5 h1.2.2.2.2 h2.2.2.2.2])
  simpa [e5, Prod.mk.injEq, Bool.decide_and] using this, fun _ => nl_tup (nls_c (q1.nl _) (nls_c (q2.nl _) (nls_c (q3.nl _) (nls_c (q4.nl _) (nls_c (q5.nl _) rfl)))))⟩
end
/-- .. called -/
theorem p_sameG {cs : Nat → FnC} {q : FnC} (hq : q = cs 12) (hs : SameFn cs) {n : Nat} {c : Ec A} {ok : A → Bool} [DecidableEq A] [t : Sm n c ok] {M : Mem} {a b : A} (h1 : ok a = true) (h2 : ok b = true) (hn : Nat.ble n 12 = true := by decide) : callP q [c.e a, c.e b] M = some (eB.e (decide (a = b)), M) := by
  refine p_v (cR := eB) (av_c c a (av_c c b av_nil)) ?_
  rw [hq]
  exact t.s hs 12 (Nat.le_of_ble_eq_true hn) a b h1 h2
end TL
namespace TL
open PySem PySem.Spec PyProof.Rows L2 PF
variable {A B : Type}
class OkAll (ok : A → Bool) : Prop where
  t : ∀ a, ok a = true
instance oka_A : OkAll (okA (A := A)) := ⟨fun _ => rfl⟩
instance oka_O {f : A → Bool} [h : OkAll f] : OkAll (okO f) := ⟨fun o => match o with | none => rfl | some a => h.t a⟩
instance oka_P {f : A → Bool} {g : B → Bool} [h : OkAll f] [k : OkAll g] : OkAll (okP f g) := ⟨fun p => by unfold okP; rw [h.t, k.t]; rfl⟩
theorem p_sameG2 {cs : Nat → FnC} {q : FnC} (hq : q = cs 12) (hs : SameFn cs) {n : Nat} {c : Ec A} {ok : A → Bool} [DecidableEq A] [t : Sm n c ok] {M : Mem} {a b : A} {r : Bool} (h : tsame ok a b = some r) (hn : Nat.ble n 12 = true := by decide) : callP q [c.e a, c.e b] M = some (eB.e r, M) := by
  unfold tsame at h
  split at h
  · rename_i ho
    rw [Bool.and_eq_true] at ho
    cases h
    exact p_sameG hq hs ho.1 ho.2 hn
  · cases h
end TL
namespace TL
open PySem PySem.Spec PyProof.Rows L2 PF
variable {A B C S A1 A2 A3 A4 B1 B2 B3 B4 : Type}
/-! ### partial casts -/
def PC (c : Ec A) (c' : Ec B) (f : A → Option B) : Prop := ∀ a b, f a = some b → c'.e b = c.e a
theorem pc_id {c : Ec A} : PC c c some := fun a b h => by cases h; rfl
theorem pc_O {c : Ec A} : PC (eO c) c (fun o => o) := fun a b h => by subst h; rfl
theorem pc_co {c : Ec A} {c' : Ec B} {f : A → B} (E : ∀ a, c'.e (f a) = c.e a) : PC c c' (fun a => some (f a)) := fun a b h => by cases h; exact E a
theorem pc_then {c : Ec A} {c' : Ec B} {c2 : Ec C} {f : A → Option B} {g : B → Option C} (h : PC c c' f) (k : PC c' c2 g) : PC c c2 (fun a => (f a).bind g) := fun a b e => by
  obtain ⟨x, h1, h2⟩ := bnd e
  rw [k x b h2, h a x h1]
theorem pc_2 {c1 : Ec A1} {c2 : Ec A2} {d1 : Ec B1} {d2 : Ec B2} {f1 : A1 → Option B1} {f2 : A2 → Option B2} (h1 : PC c1 d1 f1) (h2 : PC c2 d2 f2) : PC (e2 c1 c2) (e2 d1 d2) (fun p => (f1 p.1).bind fun a => (f2 p.2).bind fun b => some (a, b)) := fun p q h => by
  obtain ⟨a, ha, h⟩ := bnd h
  obtain ⟨b, hb, h⟩ := bnd h
  cases h
  show D.tup [d1.e a, d2.e b] = D.tup [c1.e p.1, c2.e p.2]
  rw [h1 _ _ ha, h2 _ _ hb]
theorem pc_3 {c1 : Ec A1} {c2 : Ec A2} {c3 : Ec A3} {d1 : Ec B1} {d2 : Ec B2} {d3 : Ec B3} {f1 : A1 → Option B1} {f2 : A2 → Option B2} {f3 : A3 → Option B3} (h1 : PC c1 d1 f1) (h2 : PC c2 d2 f2) (h3 : PC c3 d3 f3) : PC (e3 c1 c2 c3) (e3 d1 d2 d3) (fun p => (f1 p.1).bind fun a => (f2 p.2.1).bind fun b => (f3 p.2.2).bind fun c => some (a, b, c)) := fun p q h => by
  obtain ⟨a, ha, h⟩ := bnd h
  obtain ⟨b, hb, h⟩ := bnd h
  obtain ⟨c, hc, h⟩ := bnd h
  cases h
  show D.tup [d1.e a, d2.e b, d3.e c] = D.tup [c1.e p.1, c2.e p.2.1, c3.e p.2.2]
  rw [h1 _ _ ha, h2 _ _ hb, h3 _ _ hc]
theorem pc_4 {c1 : Ec A1} {c2 : Ec A2} {c3 : Ec A3} {c4 : Ec A4} {d1 : Ec B1} {d2 : Ec B2} {d3 : Ec B3} {d4 : Ec B4} {f1 : A1 → Option B1} {f2 : A2 → Option B2} {f3 : A3 → Option B3} {f4 : A4 → Option B4} (h1 : PC c1 d1 f1) (h2 : PC c2 d2 f2) (h3 : PC c3 d3 f3) (h4 : PC c4 d4 f4) : PC (e4 c1 c2 c3 c4) (e4 d1 d2 d3 d4) (fun p => (f1 p.1).bind fun a => (f2 p.2.1).bind fun b => (f3 p.2.2.1).bind fun c => (f4 p.2.2.2).bind fun d => some (a, b, c, d)) := fun p q h => by
  obtain ⟨a, ha, h⟩ := bnd h
  obtain ⟨b, hb, h⟩ := bnd h
  obtain ⟨c, hc, h⟩ := bnd h
  obtain ⟨d, hd, h⟩ := bnd h
  cases h
  show D.tup [d1.e a, d2.e b, d3.e c, d4.e d] = D.tup [c1.e p.1, c2.e p.2.1, c3.e p.2.2.1, c4.e p.2.2.2]
  rw [h1 _ _ ha, h2 _ _ hb, h3 _ _ hc, h4 _ _ hd]
theorem pc_map {c : Ec A} {c' : Ec B} {f : A → Option B} (h : PC c c' f) : ∀ (xs : List A) (ys : List B), tmap f xs = some ys → ys.map c'.e = xs.map c.e
  | [], ys, e => by cases e; rfl
  | x :: xs, ys, e => by
    obtain ⟨y, hy, e⟩ := bnd e
    obtain ⟨ys', hys, e⟩ := bnd e
    cases e
    rw [List.map_cons, List.map_cons, h x y hy, pc_map h xs ys' hys]
theorem pc_L {c : Ec A} {c' : Ec B} {f : A → Option B} (h : PC c c' f) : PC (eL c) (eL c') (tmap f) := fun xs ys e => by
  show D.lst _ = D.lst _
  rw [pc_map h xs ys e]
theorem pc_V {c : Ec A} {c' : Ec B} {f : A → Option B} (h : PC c c' f) : PC (eV c) (eV c') (tmap f) := fun xs ys e => by
  show D.tup _ = D.tup _
  rw [pc_map h xs ys e]
theorem pc_v1 {c : Ec A} : PC (eV c) (e1 c) tv1 := fun xs p E => by
  unfold tv1 at E; split at E
  · cases E; rfl
  · cases E
theorem pc_v2 {c : Ec A} : PC (eV c) (e2 c c) tv2 := fun xs p E => by
  unfold tv2 at E; split at E
  · cases E; rfl
  · cases E
theorem pc_v3 {c : Ec A} : PC (eV c) (e3 c c c) tv3 := fun xs p E => by
  unfold tv3 at E; split at E
  · cases E; rfl
  · cases E
theorem pc_v4 {c : Ec A} : PC (eV c) (e4 c c c c) tv4 := fun xs p E => by
  unfold tv4 at E; split at E
  · cases E; rfl
  · cases E
theorem x_pc {c : Ec A} {c' : Ec B} {f : A → Option B} {a : A} {b : B} {fa : FE} {ρ : Rho} {M M1 : Mem} (h : fa ρ M = some (c.e a, M1)) (k : PC c c' f) (e : f a = some b) : fa ρ M = some (c'.e b, M1) := by rw [h, k a b e]
theorem co_cl {c : Ec A} {c' : Ec B} {f : A → B} (h : ∀ a, c'.e (f a) = c.e a) (xs : List A) : cl c' (xs.map f) = cl c xs := by
  show MO.lst _ = MO.lst _
  rw [co_map h]
/-! ### xs.index(y) -/
def tindex (xs : List Int) (y : Int) : Option Int := (findI (fun z => decide (z = y)) xs).map fun (j : Nat) => (j : Int)
theorem x_idx {fo : FE} {fa : FA} {d : D} {xs : List Int} {y i : Int} {ρ : Rho} {M M1 M2 : Mem} (ho : fo ρ M = some (d, M1)) (l0 : Ls d M1 eI xs) (ha : fa ρ M1 = some ([eI.e y], M2)) (l : Ls d M2 eI xs) (h : tindex xs y = some i) : fM "list" gIndexL fo fa ρ M = some (eI.e i, M2) := by
  have t : tyOk "list" d M1 = true := by
    show (lsOf d M1).isSome = true
    rw [l0.ls]; rfl
  rw [ev_m, ho, Option.bind_some]; simp only []; rw [if_pos t, ha, Option.bind_some]
  show (lsOf d M2).bind (fun xs => (intsOf xs).bind fun ns => (findI (fun z => decide (z = y)) ns).map fun (j : Nat) => (D.int (j : Int), M2)) = _
  rw [l.ls, Option.bind_some, intsOf_map, Option.bind_some]
  unfold tindex at h
  obtain ⟨j, hj, rfl⟩ := Option.map_eq_some_iff.mp h
  rw [hj]; rfl
/-! ### comprehensions whose if draws too -/
def tmapO (f : A → S → Option (Option B × S)) : List A → S → Option (List B × S)
  | [], s => some ([], s)
  | x :: xs, s => (f x s).bind fun y => (tmapO f xs y.2).bind fun r => some (match y.1 with | some b => b :: r.1 | none => r.1, r.2)
theorem lcoreO {c : Mem → Bool} {t : FG} {ft : FT} {fe : FE} {ρ : Rho} {cA : Ec A} {cB : Ec B} {f : A → S → Option (Option B × S)} (Mm : S → Mem) (hc : ∀ s, c (Mm s) = true)
    (step : ∀ x s, ∃ ρ', t (cA.e x) ρ = some ρ' ∧ ∀ y s1, f x s = some (y, s1) → ∃ b M1, ft ρ' (Mm s) = some (b, M1) ∧ (b = true → ∃ z, y = some z ∧ fe ρ' M1 = some (cB.e z, Mm s1)) ∧ (b = false → y = none ∧ M1 = Mm s1)) :
    ∀ (xs : List A) (ys : List B) (s s' : S) (acc : List D), tmapO f xs s = some (ys, s') → lcLoop c t ft fe ρ (xs.map cA.e) acc (Mm s) = some (acc ++ ys.map cB.e, Mm s')
  | [], ys, s, s', acc, h => by
    cases h
    rw [List.map_nil, lcLoop, if_pos (hc s), List.map_nil, List.append_nil]
  | x :: xs, ys, s, s', acc, h => by
    obtain ⟨⟨y, s1⟩, hy, h⟩ := bnd h
    obtain ⟨⟨ys', s2⟩, hys, h⟩ := bnd h
    obtain ⟨ρ', e1, e2⟩ := step x s
    obtain ⟨b, M1, e3, e4, e5⟩ := e2 y s1 hy
    rw [List.map_cons, lcLoop, if_pos (hc s), e1, Option.bind_some, e3, Option.bind_some]
    simp only []
    cases b with
    | true =>
      obtain ⟨z, rfl, e6⟩ := e4 rfl
      cases h
      rw [if_pos rfl, e6, Option.bind_some]
      simp only []
      rw [lcoreO Mm hc step xs ys' s1 _ _ hys, List.map_cons, List.append_assoc]; rfl
    | false =>
      obtain ⟨rfl, rfl⟩ := e5 rfl
      cases h
      rw [if_neg Bool.false_ne_true]
      exact lcoreO Mm hc step xs ys' s1 _ _ hys
theorem x_lcO {fi : FI} {vs : List Nat} {t : FG} {ft : FT} {fe : FE} {ρ : Rho} {M : Mem} {kk : Option Nat} {xs : List A} {ys : List B} {cA : Ec A} {cB : Ec B} {f : A → S → Option (Option B × S)} (Mm : S → Mem) {s s' : S} (hi : fi ρ M = some ((xs.map cA.e, kk), Mm s)) (hc : ∀ s, chk kk (xs.map cA.e) (Mm s) = true) (h : tmapO f xs s = some (ys, s'))
    (step : ∀ x s, ∃ ρ', t (cA.e x) (wipeR ρ vs) = some ρ' ∧ ∀ y s1, f x s = some (y, s1) → ∃ b M1, ft ρ' (Mm s) = some (b, M1) ∧ (b = true → ∃ z, y = some z ∧ fe ρ' M1 = some (cB.e z, Mm s1)) ∧ (b = false → y = none ∧ M1 = Mm s1)) : fLC vs fi t ft fe ρ M = some (ys.map cB.e, Mm s') := by
  rw [ev_lc, hi, Option.bind_some]
  exact lcoreO Mm hc step xs ys s s' [] h
/-! ### and, or, if with a state -/
section
variable {ρ : Rho} {M : Mem} {ta tb : FT} {fa fb : FE} {a : Bool} {Mm : S → Mem} {s0 : S}
theorem k_andS (Mm : S → Mem) {t : Option (Bool × S)} {r : Bool × S} (ha : ta ρ M = some (a, Mm s0)) (h : (if a = true then t else some (false, s0)) = some r) (hb : t = some r → tb ρ (Mm s0) = some (r.1, Mm r.2)) : fAnd ta tb ρ M = some (r.1, Mm r.2) := by
  rw [ev_and, ha, Option.bind_some]; cases a
  · cases h; rfl
  · exact hb h
theorem k_orS (Mm : S → Mem) {t : Option (Bool × S)} {r : Bool × S} (ha : ta ρ M = some (a, Mm s0)) (h : (if a = true then some (true, s0) else t) = some r) (hb : t = some r → tb ρ (Mm s0) = some (r.1, Mm r.2)) : fOr ta tb ρ M = some (r.1, Mm r.2) := by
  rw [ev_or, ha, Option.bind_some]; cases a
  · exact hb h
  · cases h; rfl
theorem x_andZ (Mm : S → Mem) {t : Option (Bool × S)} {r : Bool × S} (ha : fa ρ M = some (eB.e a, Mm s0)) (h : (if a = true then t else some (false, s0)) = some r) (hb : t = some r → fb ρ (Mm s0) = some (eB.e r.1, Mm r.2)) : fAndV fa fb ρ M = some (eB.e r.1, Mm r.2) := by
  rw [ev_andV, ha, Option.bind_some]; simp only []; rw [tr_B, Option.bind_some]; cases a
  · cases h; rfl
  · exact hb h
theorem x_orZ (Mm : S → Mem) {t : Option (Bool × S)} {r : Bool × S} (ha : fa ρ M = some (eB.e a, Mm s0)) (h : (if a = true then some (true, s0) else t) = some r) (hb : t = some r → fb ρ (Mm s0) = some (eB.e r.1, Mm r.2)) : fOrV fa fb ρ M = some (eB.e r.1, Mm r.2) := by
  rw [ev_orV, ha, Option.bind_some]; simp only []; rw [tr_B, Option.bind_some]; cases a
  · exact hb h
  · cases h; rfl
theorem x_ifS (Mm : S → Mem) {c : Ec A} {fc : FT} {t u : Option (A × S)} {r : A × S} (hc : fc ρ M = some (a, Mm s0)) (h : (if a = true then t else u) = some r) (ha : t = some r → fa ρ (Mm s0) = some (c.e r.1, Mm r.2)) (hb : u = some r → fb ρ (Mm s0) = some (c.e r.1, Mm r.2)) : fIfE fc fa fb ρ M = some (c.e r.1, Mm r.2) := by
  rw [ev_ifE, hc, Option.bind_some]; cases a
  · exact hb h
  · exact ha h
end
/-! ### a return within a frozen body -/
theorem nr_take : ∀ {M : Mem} {k : Nat}, Mem.nr M = true → Mem.nr (M.take k) = true
  | [], k, h => by rw [List.take_nil]; rfl
  | m :: M, 0, h => rfl
  | m :: M, k + 1, h => by
    have h' : (m.nr && Mem.nr M) = true := h
    rw [Bool.and_eq_true] at h'
    show (m.nr && Mem.nr (M.take k)) = true
    rw [h'.1, nr_take h'.2]; rfl
theorem frMs_nr {m : Nat} {M1 : Mem} : ∀ {M : Mem}, Mem.nr M = true → frMs m M1 M = some M
  | [], _ => rfl
  | .lst xs :: M, h => by
    have h' : ((MO.lst xs).nr && Mem.nr M) = true := h
    rw [Bool.and_eq_true] at h'
    show (frL m M1 xs).bind (fun ys => (frMs m M1 M).bind fun ns => some (.lst ys :: ns)) = _
    rw [fl_v h'.1, Option.bind_some, frMs_nr h'.2]; rfl
theorem mnr_n : Mem.nr [] = true := rfl
theorem mnr_c {c : Ec A} {xs : List A} {M : Mem} (h : Mem.nr M = true) : Mem.nr (cl c xs :: M) = true := by
  show ((cl c xs).nr && Mem.nr M) = true
  rw [mo_nr, h]; rfl
theorem nr_get : ∀ {M : Mem} {j : Nat} {xs : List D}, Mem.nr M = true → M[j]? = some (.lst xs) → D.nrs xs = true
  | [], _, _, _, h => by simp at h
  | m :: M, 0, xs, hn, h => by
    have h' : (m.nr && Mem.nr M) = true := hn
    rw [Bool.and_eq_true] at h'
    have e : m = .lst xs := by simpa using h
    subst e; exact h'.1
  | m :: M, j + 1, xs, hn, h => by
    have h' : (m.nr && Mem.nr M) = true := hn
    rw [Bool.and_eq_true] at h'
    exact nr_get h'.2 (by simpa using h)
theorem z_hq {K m : Nat} {d : D} {M1 : Mem} {res : D × Mem} (h : fin false K d M1 = some res) (hn : Mem.nr M1 = true) (hK : K ≤ m) : ∃ e, frE m M1 d = some e ∧ frMs m M1 (M1.take m) = some (M1.take m) ∧ fin false K e (M1.take m) = some res ∧ Mem.nr (M1.take m) = true := by
  have n1 := nr_take (k := m) hn
  have ht : (M1.take m).take K = M1.take K := by rw [List.take_take, Nat.min_eq_left hK]
  have fv : ∀ e : D, e.nr = true → fin false K e M1 = some res → fin false K e (M1.take m) = some res := fun e he hf => by
    rw [fin_nr he (nr_take hn)] at hf
    rw [fin_nr he (by rw [ht]; exact nr_take hn), ht]; exact hf
  cases d with
  | ref j =>
    unfold fin at h
    rw [if_pos (nr_take hn)] at h
    have h : (if j < K then none else match M1[j]? with | some (.lst xs) => if D.nrs xs = true then (if false = true then some (D.ref K, M1.take K ++ [.lst xs]) else some (.lst xs, M1.take K)) else none | none => none) = some res := h
    split at h
    · cases h
    · rename_i hjK
      split at h
      · rename_i xs hx
        split at h
        · rename_i hxs
          have h : some (D.lst xs, M1.take K) = some res := h
          by_cases hj : j < m
          · refine ⟨.ref j, if_pos hj, frMs_nr n1, ?_, n1⟩
            unfold fin
            rw [if_pos (by rw [ht]; exact nr_take hn)]
            show (if j < K then none else match (M1.take m)[j]? with | some (.lst xs) => if D.nrs xs = true then (if false = true then some (D.ref K, (M1.take m).take K ++ [.lst xs]) else some (.lst xs, (M1.take m).take K)) else none | none => none) = some res
            rw [if_neg hjK, List.getElem?_take_of_lt hj, hx]
            simp only [hxs, if_true, ht]
            exact h
          · refine ⟨.lst xs, ?_, frMs_nr n1, ?_, n1⟩
            · show (if j < m then some (D.ref j) else match M1[j]? with
                | some (.lst xs) => if D.nrs xs = true then some (D.lst xs) else none
                | none => none) = _
              rw [if_neg hj, hx]
              exact if_pos hxs
            · rw [fin_nr (nr_lst hxs) (by rw [ht]; exact nr_take hn), ht]
              exact h
        · cases h
      · cases h
  | non => exact ⟨_, rfl, frMs_nr n1, fv _ rfl h, n1⟩
  | bl b => exact ⟨_, rfl, frMs_nr n1, fv _ rfl h, n1⟩
  | int b => exact ⟨_, rfl, frMs_nr n1, fv _ rfl h, n1⟩
  | str b => exact ⟨_, rfl, frMs_nr n1, fv _ rfl h, n1⟩
  | tup xs =>
    have hnr : (D.tup xs).nr = true := by
      unfold fin at h
      rw [if_pos (nr_take hn)] at h
      have h : (if (D.tup xs).nr = true then some (D.tup xs, M1.take K) else none) = some res := h
      split at h
      · assumption
      · cases h
    exact ⟨_, fe_v hnr, frMs_nr n1, fv _ hnr h, n1⟩
  | lst xs =>
    have hnr : (D.lst xs).nr = true := by
      unfold fin at h
      rw [if_pos (nr_take hn)] at h
      have h : (if (D.lst xs).nr = true then some (D.lst xs, M1.take K) else none) = some res := h
      split at h
      · assumption
      · cases h
    exact ⟨_, fe_v hnr, frMs_nr n1, fv _ hnr h, n1⟩
  | kst xs =>
    have hnr : (D.kst xs).nr = true := by
      unfold fin at h
      rw [if_pos (nr_take hn)] at h
      have h : (if (D.kst xs).nr = true then some (D.kst xs, M1.take K) else none) = some res := h
      split at h
      · assumption
      · cases h
    exact ⟨_, fe_v hnr, frMs_nr n1, fv _ hnr h, n1⟩
end TL
namespace TL
open PySem PySem.Spec PyProof.Rows L2 PF
variable {A : Type}
theorem w_asgL {n : Nat} {t : FGs} {fe : FE} {k : FS} {d : D} {ds : List D} {ρ ρ' : Rho} {M M1 : Mem} {Q : Out → Mem → Prop} (h : fe ρ M = some (d, M1)) (l : lsOf d M1 = some ds) (hn : ds.length = n) (ht : t ds ρ = some ρ') (K : WP k ρ' M1 Q) : WP (sSeq (sAsgL fe n t) k) ρ M Q :=
  w_step (by unfold sAsgL; rw [h, Option.bind_some]; simp only []; rw [l, Option.bind_some, if_pos hn, ht]; rfl) K
theorem lu2 {c : Ec A} {d : D} {M : Mem} {xs : List A} {p : A × A} (l : Ls d M c xs) (E : tv2 xs = some p) : lsOf d M = some [c.e p.1, c.e p.2] := by
  rw [l.ls]; unfold tv2 at E; split at E
  · cases E; rfl
  · cases E
theorem lu3 {c : Ec A} {d : D} {M : Mem} {xs : List A} {p : A × A × A} (l : Ls d M c xs) (E : tv3 xs = some p) : lsOf d M = some [c.e p.1, c.e p.2.1, c.e p.2.2] := by
  rw [l.ls]; unfold tv3 at E; split at E
  · cases E; rfl
  · cases E
theorem lu4 {c : Ec A} {d : D} {M : Mem} {xs : List A} {p : A × A × A × A} (l : Ls d M c xs) (E : tv4 xs = some p) : lsOf d M = some [c.e p.1, c.e p.2.1, c.e p.2.2.1, c.e p.2.2.2] := by
  rw [l.ls]; unfold tv4 at E; split at E
  · cases E; rfl
  · cases E
/-! a list set anew in a loop, changed -/
theorem gm_eq {x y : MO} : ∀ {M : Mem} {n : Nat}, gm M n = some y → gm (M.set n x) n = some x
  | [], _, h => by cases h
  | _ :: _, 0, _ => rfl
  | _ :: M, n + 1, h => gm_eq (M := M) (n := n) h
theorem dyn_set {x y : MO} {C mj : Mem} {n : Nat} (h : gm (C ++ mj) n = some y) (hn : C.length ≤ n) : ∃ mj', (C ++ mj).set n x = C ++ mj' ∧ gm (C ++ mj') n = some x := by
  refine ⟨mj.set (n - C.length) x, ?_, ?_⟩
  · rw [List.set_append_right _ _ hn]
  · rw [← List.set_append_right _ _ hn]; exact gm_eq h
theorem dyn_set0 {x y : MO} {mj : Mem} {n : Nat} (h : gm mj n = some y) : ∃ mj', mj.set n x = mj' ∧ gm mj' n = some x := ⟨_, rfl, gm_eq h⟩
end TL
namespace TL
open PySem PySem.Spec PyProof.Rows L2 PF
variable {A : Type}
def tsortN (lt : List A → List A → Bool) (xs : List (List A)) : Option (List (List A)) := if xs.all (fun x => !x.isEmpty) = true then some (tsort lt xs) else none
theorem n_sortN {c : Ec A} {lt : A → A → Bool} {k : Nat} {d : D} {M : Mem} {xs ys : List (List A)} [DecidableEq A] [q : Eqv k c] [o : Ord c lt] (l : Sq d M (eV c) xs) (h : tsortN (ltV lt) xs = some ys) (hk : Nat.ble (k + 1) 59 = true := by decide) : gSortA [d] M = some (ys.map (eV c).e) := by
  unfold tsortN at h
  split at h
  · rename_i hn
    cases h
    show (sqOf d M).bind (fun xs => if (okAl xs && srtb xs) = true then some (sortD xs) else none) = _
    have hs : srtb (xs.map (eV c).e) = true := by
      unfold srtb
      rw [Bool.or_eq_true]
      refine .inl (List.all_eq_true.mpr fun x hx => ?_)
      obtain ⟨a, ha, rfl⟩ := List.mem_map.mp hx
      have := List.all_eq_true.mp hn a ha
      cases a with
      | nil => cases this
      | cons y ys => rfl
    rw [l.sq, Option.bind_some, if_pos (by rw [okAl_map (c := eV c) (Nat.le_of_ble_eq_true hk), hs]; rfl)]
    congr 1
    refine (List.map_mergeSort (f := (eV c).e) (r := fun a b => !ltV lt b a) (s := leD) fun a _ b _ => ?_).symm
    show _ = PySem.W.dataLe false D.py ((eV c).e a) ((eV c).e b)
    rw [PySem.W.dataLe_eq]
    show _ = !PySem.W.dataLt ((eV c).e b).py ((eV c).e a).py
    rw [(o_V (l1 := lt)).dl]
  · cases h
end TL
namespace TL
open PySem PySem.Spec PyProof.Rows L2 PF
variable {A B C : Type}
/-! ### a state of which only some lists are known -/
theorem gm_ne {x y : MO} : ∀ {M : Mem} {n m : Nat}, n ≠ m → gm M m = some y → gm (M.set n x) m = some y
  | [], _, _, _, h => by cases h
  | _ :: _, 0, 0, hn, _ => absurd rfl hn
  | _ :: _, 0, m + 1, _, h => h
  | _ :: _, n + 1, 0, _, h => h
  | _ :: M, n + 1, m + 1, hn, h => gm_ne (M := M) (n := n) (m := m) (fun e => hn (by rw [e])) h
theorem gm_lt {x : MO} {M : Mem} {n : Nat} (h : gm M n = some x) : n < M.length := by
  have := gm_at h
  exact (List.getElem?_eq_some_iff.mp this).1
theorem ne_new {x : MO} {T : Mem} {n : Nat} (h : gm T n = some x) : n ≠ T.length := Nat.ne_of_lt (gm_lt h)
theorem ne_lt {i p n : Nat} (h : i < p) (h' : p ≤ n) : i ≠ n := by omega
theorem ab_base {C mj : Mem} : ∃ mj', C ++ mj = C ++ mj' := ⟨_, rfl⟩
theorem ab_set {C T : Mem} {n : Nat} {x : MO} (h : ∃ mj', T = C ++ mj') (hn : C.length ≤ n) : ∃ mj', T.set n x = C ++ mj' := by
  obtain ⟨mj, rfl⟩ := h
  exact ⟨_, List.set_append_right _ _ hn⟩
theorem ab_new {C T : Mem} {x : MO} (h : ∃ mj', T = C ++ mj') : ∃ mj', T ++ [x] = C ++ mj' := by
  obtain ⟨mj, rfl⟩ := h
  exact ⟨_, List.append_assoc _ _ _⟩
theorem ab_sset {C T : Mem} {i : Nat} {x : MO} (h : ∃ mj', T = C ++ mj') (hi : i < C.length) : ∃ mj', T.set i x = C.set i x ++ mj' := by
  obtain ⟨mj, rfl⟩ := h
  exact ⟨_, List.set_append_left _ _ hi⟩
theorem ab_len {C T : Mem} (h : ∃ mj', T = C ++ mj') : C.length ≤ T.length := by
  obtain ⟨mj, rfl⟩ := h
  rw [List.length_append]; omega
/-! a call that changes a list and makes another -/
section
variable {ρ : Rho} {M M1 : Mem} {f : FA} {ds es : List D} {q : FnC}
theorem x_callSM {i : Nat} {z : D × Mem} (hf : f ρ M = some (ds, M1)) (h : callSM i q ds M1 = some z) : fCallSM i q f ρ M = some z := by rw [ev_callSM, hf]; exact h
theorem p_sm {i n : Nat} {c c' : Ec B} {cR : Ec C} {xs ys : List B} {zs : List C} (h1 : ds[i]? = some (.ref n)) (h2 : gm M n = some (cl c xs)) (a : AV (ds.set i .non)) (h : q (ds.set i (.ref 0)) [cl c xs] = some (.ref 1, [cl c' ys, cl cR zs])) : callSM i q ds M = some (.ref M.length, M.set n (cl c' ys) ++ [cl cR zs]) := by
  have h2' := gm_at h2
  have e : (ds.set i .non).set i (.ref 0) = ds.set i (.ref 0) := List.set_set ..
  unfold callSM
  simp only [h1, h2', mo_nr, a.r, Bool.not_false, Bool.and_self, if_true, a.p M, Option.bind_some, e, h]
  show (if (D.nrs (ys.map c'.e) && D.nrs (zs.map cR.e)) = true then some (D.ref M.length, M.set n (.lst (ys.map c'.e)) ++ [.lst (zs.map cR.e)]) else none) = _
  rw [if_pos (by rw [nrs_map c'.nr ys, nrs_map cR.nr zs]; rfl)]; rfl
theorem f_m1 {j : Nat} {M' : Mem} {c : Ec A} {xs : List A} {c' : Ec B} {ys : List B} (hj : Nat.ble 1 j = true) (h : gm (cl c' ys :: M') j = some (cl c xs)) : fin true 1 (.ref j) (cl c' ys :: M') = some (.ref 1, [cl c' ys, cl c xs]) := by
  have hj' := Nat.le_of_ble_eq_true hj
  unfold fin
  rw [if_pos (show Mem.nr ((cl c' ys :: M').take 1) = true from nr1 c' ys)]
  show (if j < 1 then none else match (cl c' ys :: M')[j]? with | some (.lst xs) => if D.nrs xs = true then (if true = true then some (D.ref 1, (cl c' ys :: M').take 1 ++ [.lst xs]) else some (.lst xs, (cl c' ys :: M').take 1)) else none | none => none) = _
  rw [if_neg (by omega), gm_at h]
  show (if D.nrs (xs.map c.e) = true then _ else none) = _
  rw [if_pos (nrs_map c.nr xs)]; rfl
theorem f_m1x {j : Nat} {T M' : Mem} {c : Ec A} {xs : List A} {c' : Ec B} {ys : List B} (hT : T = cl c' ys :: M') (hj : 1 ≤ j) (h : gm T j = some (cl c xs)) : fin true 1 (.ref j) T = some (.ref 1, [cl c' ys, cl c xs]) := by
  subst hT
  exact f_m1 (Nat.ble_eq_true_of_le hj) h
theorem f_r1x {j : Nat} {T M' : Mem} {c : Ec A} {xs : List A} {c' : Ec B} {ys : List B} (hT : T = cl c' ys :: M') (hj : 1 ≤ j) (h : gm T j = some (cl c xs)) : fin false 1 (.ref j) T = some ((eL c).e xs, [cl c' ys]) := by
  subst hT
  exact f_r1 (Nat.ble_eq_true_of_le hj) h
end
/-! more operations -/
section
variable {ρ : Rho} {M M1 M2 M3 M4 : Mem} {fa fe fo fi : FE} {d x : D} {c : Ec A} {Q : Out → Mem → Prop} {k' : FS}
theorem c_le {k : Nat} {lt : A → A → Bool} [DecidableEq A] [q : Eqv k c] [o : Ord c lt] (a b : A) (hk : Nat.ble k 60 = true := by decide) : gCmpD (fun a b => !PySem.W.dataLt b a) (c.e a) (c.e b) M = some (!lt b a) := by
  unfold gCmpD
  rw [v_ec, v_ec]
  simp only [q.dp 60 (Nat.le_of_ble_eq_true hk) a, q.dp 60 (Nat.le_of_ble_eq_true hk) b, o.al, o.nn, Bool.and_self, Bool.not_false, Bool.and_true, if_true, o.dl]
theorem c_ge {k : Nat} {lt : A → A → Bool} [DecidableEq A] [q : Eqv k c] [o : Ord c lt] (a b : A) (hk : Nat.ble k 60 = true := by decide) : gCmpD (fun a b => !PySem.W.dataLt a b) (c.e a) (c.e b) M = some (!lt a b) := by
  unfold gCmpD
  rw [v_ec, v_ec]
  simp only [q.dp 60 (Nat.le_of_ble_eq_true hk) a, q.dp 60 (Nat.le_of_ble_eq_true hk) b, o.al, o.nn, Bool.and_self, Bool.not_false, Bool.and_true, if_true, o.dl]
theorem x_revL {xs : List A} (ha : fa ρ M = some (x, M1)) (l : Ls x M1 c xs) : fRevA fa ρ M = some ((eL c).e xs.reverse, M1) := by
  unfold fRevA
  rw [ha, Option.bind_some]
  have h : (lsOf x M1).bind (fun xs => some (D.lst xs.reverse, M1)) = some ((eL c).e xs.reverse, M1) := by
    rw [l.ls, Option.bind_some, ← List.map_reverse]; rfl
  cases x with
  | tup ys => exact absurd rfl (l.nt ys)
  | _ => exact h
theorem x_revV {xs : List A} (ha : fa ρ M = some ((eV c).e xs, M1)) : fRevA fa ρ M = some ((eV c).e xs.reverse, M1) := by
  unfold fRevA
  rw [ha, Option.bind_some]
  show some (D.tup (xs.map c.e).reverse, M1) = _
  rw [← List.map_reverse]; rfl
theorem x_revT {L L' : List D} (ha : fa ρ M = some (.tup L, M1)) (h : L.reverse = L') : fRevA fa ρ M = some (.tup L', M1) := by
  unfold fRevA
  rw [ha, Option.bind_some, ← h]
theorem w_augIx {g : G2M} {n : Nat} {xs xs4 zs : List A} {a z : A} {j : Int} {y : D} (ho : fo ρ M = some (.ref n, M1)) (hi : fi ρ M1 = some (eI.e j, M2)) (hn : gm M2 n = some (cl c xs)) (ha : tat xs j = some a) (hv : fe ρ M2 = some (y, M3)) (hg : g (c.e a) y M3 = some (c.e z, M4))
    (hn4 : gm M4 n = some (cl c xs4)) (h : tset xs4 j z = some zs) (K : WP k' ρ (M4.set n (cl c zs)) Q) : WP (sSeq (sAugIx g fo fi fe) k') ρ M Q := by
  unfold tset at h
  obtain ⟨m, hm, e⟩ := Option.map_eq_some_iff.mp h
  subst e
  refine w_step (ρ1 := ρ) (M1 := M4.set n (cl c (xs4.set m z))) ?_ K
  unfold sAugIx
  rw [ho, Option.bind_some]; simp only []; rw [hi, Option.bind_some]
  show (lsOf (.ref n) M2).bind _ = _
  have hat : L2.atI (xs.map c.e) j = some (c.e a) := by
    show L2.atI (xs.map c.e) j = _
    have h' : L2.atI xs j = some a := ha
    unfold L2.atI at h' ⊢
    obtain ⟨i, h1, h2⟩ := Option.bind_eq_some_iff.mp h'
    rw [List.length_map, h1, Option.bind_some, List.getElem?_map, h2]; rfl
  rw [ls_ref hn, Option.bind_some, hat, Option.bind_some, hv, Option.bind_some]; simp only []; rw [hg, Option.bind_some]
  show (mlOf (.ref n) M4).bind _ = _
  rw [ml_at hn4, Option.bind_some]
  simp only [List.length_map, hm, Option.bind_some]
  unfold cl
  rw [List.map_set]
theorem c_leI (a b : Int) : gCmpD (fun a b => !PySem.W.dataLt b a) (eI.e a) (eI.e b) M = some (decide (a ≤ b)) := by
  rw [c_le (c := eI) (lt := fun a b : Int => decide (a < b))]
  congr 1
  by_cases h : b < a <;> simp [h] <;> omega
theorem c_geI (a b : Int) : gCmpD (fun a b => !PySem.W.dataLt a b) (eI.e a) (eI.e b) M = some (decide (a ≥ b)) := by
  rw [c_ge (c := eI) (lt := fun a b : Int => decide (a < b))]
  congr 1
  by_cases h : a < b <;> simp [h] <;> omega
def tins (xs : List A) (i : Int) (a : A) : Option (List A) := if (decide (xs.length < LINE) && (decide (0 ≤ i) && decide (i < 1000000000))) = true then some (xs.take i.toNat ++ [a] ++ xs.drop i.toNat) else none
theorem m_ins {M' : Mem} {n : Nat} {xs zs : List A} {i : Int} {a : A} (hn : gm M n = some (cl c xs)) (h : tins xs i a = some zs) (hM : M.set n (cl c zs) = M') : gInsert (.ref n) [eI.e i, c.e a] M = some (eN.e (), M') := by
  subst hM
  unfold tins at h
  split at h
  · rename_i hc
    cases h
    show (mlOf (.ref n) M).bind _ = _
    rw [ml_at hn, Option.bind_some]
    simp only [List.length_map]
    rw [if_pos hc]
    unfold cl
    simp only [List.map_append, List.map_take, List.map_drop, List.map_cons, List.map_nil]
    rfl
  · cases h
theorem tins_ok {xs : List A} {i : Nat} {a : A} (h : xs.length < 10000000) (hi : i ≤ 100000000) : tins xs (i : Int) a = some (xs.take i ++ [a] ++ xs.drop i) := by
  unfold tins
  rw [if_pos]
  · rfl
  · have : LINE = 16777216 := rfl
    simp only [Bool.and_eq_true, decide_eq_true_eq]; omega
theorem b_max3 (i j k : Int) : gMax3 [eI.e i, eI.e j, eI.e k] M = some (eI.e (max (max i j) k)) := rfl
theorem b_min3 (i j k : Int) : gMin3 [eI.e i, eI.e j, eI.e k] M = some (eI.e (min (min i j) k)) := rfl
theorem b_min2D {k : Nat} {lt : A → A → Bool} [DecidableEq A] [q : Eqv k c] [o : Ord c lt] (a b : A) (hk : Nat.ble k 59 = true := by decide) : gMin2D [c.e a, c.e b] M = some (c.e (if lt b a = true then b else a)) := by
  show (if okAl [c.e a, c.e b] = true then some (if PySem.W.dataLt (c.e b).py (c.e a).py = true then c.e b else c.e a) else none) = _
  rw [if_pos (show okAl [c.e a, c.e b] = true from okAl_map (c := c) (lt := lt) (Nat.le_of_ble_eq_true hk) [a, b]), o.dl]
  by_cases h : lt b a = true
  · rw [if_pos h, if_pos h]
  · rw [if_neg h, if_neg h]
theorem b_max2D {k : Nat} {lt : A → A → Bool} [DecidableEq A] [q : Eqv k c] [o : Ord c lt] (a b : A) (hk : Nat.ble k 59 = true := by decide) : gMax2D [c.e a, c.e b] M = some (c.e (if lt a b = true then b else a)) := by
  show (if okAl [c.e a, c.e b] = true then some (if PySem.W.dataLt (c.e a).py (c.e b).py = true then c.e b else c.e a) else none) = _
  rw [if_pos (show okAl [c.e a, c.e b] = true from okAl_map (c := c) (lt := lt) (Nat.le_of_ble_eq_true hk) [a, b]), o.dl]
  by_cases h : lt a b = true
  · rw [if_pos h, if_pos h]
  · rw [if_neg h, if_neg h]
theorem b_min2DI (a b : Int) : gMin2D [eI.e a, eI.e b] M = some (eI.e (min a b)) := by
  rw [b_min2D (c := eI) (lt := fun a b : Int => decide (a < b))]
  congr 2
  by_cases h : b < a <;> simp [h] <;> omega
theorem b_max2DI (a b : Int) : gMax2D [eI.e a, eI.e b] M = some (eI.e (max a b)) := by
  rw [b_max2D (c := eI) (lt := fun a b : Int => decide (a < b))]
  congr 2
  by_cases h : a < b <;> simp [h] <;> omega
end
end TL
namespace TL
open PySem PySem.Spec PyProof.Rows L2 PF
variable {A B C S E : Type}
/-! ### what typed code comes to -/
def Post (t : Option A) (P : A → Prop) : Prop := ∃ a, t = some a ∧ P a
theorem Post.bind {t : Option A} {f : A → Option B} {P : A → Prop} {Q : B → Prop} (h : Post t P) (k : ∀ a, P a → Post (f a) Q) : Post (t.bind f) Q := by
  obtain ⟨a, e, p⟩ := h
  rw [e]; exact k a p
theorem Post.let {a : A} {f : A → Option B} {Q : B → Prop} (k : Post (f a) Q) : Post (tlet a f) Q := k
theorem Post.pure {a : A} {P : A → Prop} (h : P a) : Post (some a) P := ⟨a, rfl, h⟩
theorem Post.imp {t : Option A} {P Q : A → Prop} (h : Post t P) (k : ∀ a, P a → Q a) : Post t Q := let ⟨a, e, p⟩ := h; ⟨a, e, k a p⟩
theorem Post.of {t : Option A} {a : A} {P : A → Prop} (e : t = some a) (h : P a) : Post t P := ⟨a, e, h⟩
theorem Post.eqb {t : Option A} {a : A} {f : A → Option B} {Q : B → Prop} (e : t = some a) (k : Post (f a) Q) : Post (t.bind f) Q := by rw [e]; exact k
theorem Post.ite {c : Prop} [Decidable c] {t u : Option A} {P : A → Prop} (h1 : c → Post t P) (h2 : ¬ c → Post u P) : Post (if c then t else u) P := by
  by_cases h : c
  · rw [if_pos h]; exact h1 h
  · rw [if_neg h]; exact h2 h
theorem Post.ift {c : Prop} [Decidable c] {t u : Option A} {P : A → Prop} (h : c) (h1 : Post t P) : Post (if c then t else u) P := by rw [if_pos h]; exact h1
theorem Post.iff {c : Prop} [Decidable c] {t u : Option A} {P : A → Prop} (h : ¬ c) (h1 : Post u P) : Post (if c then t else u) P := by rw [if_neg h]; exact h1
/-- a part that goes on -/
theorem Post.go {t : Option (Ex E B)} {f : E → Option C} {g : B → Option C} {P : B → Prop} {Q : C → Prop} (h : Post t fun r => ∃ b, r = .go b ∧ P b) (k : ∀ b, P b → Post (g b) Q) : Post (t.bind fun r => r.cas f g) Q := by
  obtain ⟨_, e, b, rfl, p⟩ := h
  rw [e]; exact k b p
theorem bind_some' {t : Option A} : (t.bind fun w => some w) = t := by cases t <;> rfl
/-! whole numbers -/
theorem tmul_r {a b : Int} (h : b.natAbs < 18446744073709551616) : tmul a b = some (a * b) := if_pos (okMul_r h)
theorem tmul_l {a b : Int} (h : a.natAbs < 18446744073709551616) : tmul a b = some (a * b) := if_pos (okMul_l h)
theorem tmul_big {a b : Int} (h : a.natAbs < 2 ^ 400000) (h' : b.natAbs < 2 ^ 400000) : tmul a b = some (a * b) := if_pos (okMul_big h h')
theorem tmod_ok {a b : Int} (h : b ≠ 0) : tmod a b = some (a.fmod b) := if_pos h
theorem tdiv_ok {a b : Int} (h : b ≠ 0) (h' : b.natAbs < 2 ^ 9000) : tdiv a b = some (a.fdiv b) := if_pos (okDiv_of h h')
theorem fmod_pos {a b : Int} (h : 0 < b) : 0 ≤ a.fmod b ∧ a.fmod b < b := by
  rw [Int.fmod_eq_emod_of_nonneg _ (by omega)]
  exact ⟨Int.emod_nonneg _ (by omega), Int.emod_lt_of_pos _ h⟩
theorem trg_of {lo hi : Int} (h1 : -1000000 ≤ lo) (h2 : hi ≤ 10000000) (h3 : lo ≤ 10000000) (h4 : -1000000 ≤ hi) : trg lo hi = some (upto lo (hi - lo).toNat) := if_pos (okR_of h1 h2 h3 h4)
theorem trg_0 {n : Nat} (h : n ≤ 1000000) : trg 0 (n : Int) = some (upto 0 n) := by
  rw [trg_of (by omega) (by omega) (by omega) (by omega), Int.sub_zero, Int.toNat_natCast]
theorem mem_upto {lo : Int} {n : Nat} {x : Int} : x ∈ upto lo n ↔ lo ≤ x ∧ x < lo + n := by
  unfold upto
  rw [List.mem_map]
  constructor
  · rintro ⟨k, hk, rfl⟩
    rw [List.mem_range] at hk
    omega
  · intro h
    exact ⟨(x - lo).toNat, by rw [List.mem_range]; omega, by omega⟩
@[simp] theorem len_upto {lo : Int} {n : Nat} : (upto lo n).length = n := by simp [upto]
theorem upto_0 {lo : Int} : upto lo 0 = [] := rfl
theorem upto_succ {lo : Int} {n : Nat} : upto lo (n + 1) = upto lo n ++ [lo + n] := by simp [upto, List.range_succ]
theorem upto_cons {lo : Int} {n : Nat} : upto lo (n + 1) = lo :: upto (lo + 1) n := by
  unfold upto
  rw [List.range_succ_eq_map, List.map_cons, List.map_map]
  congr 1
  · simp
  · exact List.map_congr_left fun i _ => by show lo + ((i + 1 : Nat) : Int) = _; omega
theorem get_upto {lo : Int} {n k : Nat} (h : k < n) : (upto lo n)[k]? = some (lo + k) := by simp [upto, h]
/-! lists -/
theorem tat_n {xs : List A} {n : Nat} {a : A} (h : xs[n]? = some a) : tat xs (n : Int) = some a := at_nat h
theorem tat_i {xs : List A} {i : Int} {n : Nat} {a : A} (hi : i = n) (h : xs[n]? = some a) : tat xs i = some a := by subst hi; exact at_nat h
theorem tat_in {xs : List A} {i : Int} (h0 : 0 ≤ i) (h : i < xs.length) : ∃ a, tat xs i = some a ∧ xs[i.toNat]? = some a ∧ a ∈ xs := by
  obtain ⟨n, rfl⟩ := Int.eq_ofNat_of_zero_le h0
  have hn : n < xs.length := by omega
  exact ⟨xs[n], at_nat (List.getElem?_eq_getElem hn), by simp [hn], List.getElem_mem hn⟩
theorem tat_neg {xs : List A} {i : Int} (h0 : i < 0) (h : -(xs.length : Int) ≤ i) : ∃ a, tat xs i = some a ∧ xs[(xs.length + i).toNat]? = some a ∧ a ∈ xs := by
  have hn : (xs.length + i).toNat < xs.length := by omega
  refine ⟨xs[(xs.length + i).toNat], ?_, by simp [hn], List.getElem_mem hn⟩
  unfold tat
  rw [atI_eq]
  unfold L2.ixN
  rw [if_neg (by omega), if_pos (by omega)]
  show xs[(i + xs.length).toNat]? = _
  rw [show (i + xs.length).toNat = (xs.length + i).toNat by omega]
  exact List.getElem?_eq_getElem hn
theorem tapp_ok {xs : List A} {x : A} (h : xs.length < 10000000) : tapp xs x = some (xs ++ [x]) := if_pos (by show _ < 16777216; omega)
theorem tcat_of {xs ys : List A} (h : xs.length + ys.length ≤ 10000000) : tcat xs ys = some (xs ++ ys) := if_pos (by show _ ≤ 16777216; omega)
theorem tflat_ok {yss : List (List A)} (h : yss.flatten.length ≤ 10000000) : tflat yss = some yss.flatten := if_pos (by show _ ≤ 16777216; omega)
theorem tmap_eq {f : A → Option B} {g : A → B} : ∀ {xs : List A}, (∀ x ∈ xs, f x = some (g x)) → tmap f xs = some (xs.map g)
  | [], _ => rfl
  | x :: xs, h => by rw [tmap, h x (by simp), Option.bind_some, tmap_eq fun y hy => h y (List.mem_cons_of_mem _ hy)]; rfl
theorem tfilt_eq {p : A → Option Bool} {q : A → Bool} : ∀ {xs : List A}, (∀ x ∈ xs, p x = some (q x)) → tfilt p xs = some (xs.filter q)
  | [], _ => rfl
  | x :: xs, h => by rw [tfilt, h x (by simp), Option.bind_some, tfilt_eq fun y hy => h y (List.mem_cons_of_mem _ hy), Option.bind_some, List.filter_cons]
theorem tall_some : ∀ xs : List A, tall (xs.map some) = some xs
  | [] => rfl
  | x :: xs => by rw [List.map_cons, tall, Option.bind_some, tall_some xs]; rfl
theorem tmap_post {f : A → Option B} {P : A → B → Prop} : ∀ {xs : List A}, (∀ x ∈ xs, Post (f x) (P x)) → Post (tmap f xs) fun ys => ys.length = xs.length ∧ ∀ (k : Nat) (x : A) (y : B), xs[k]? = some x → ys[k]? = some y → P x y
  | [], _ => ⟨[], rfl, rfl, fun k x y h => by simp at h⟩
  | x :: xs, h => by
    obtain ⟨y, hy, p⟩ := h x (by simp)
    obtain ⟨ys, hys, hl, q⟩ := tmap_post (f := f) (P := P) fun z hz => h z (List.mem_cons_of_mem _ hz)
    refine ⟨y :: ys, by rw [tmap, hy, Option.bind_some, hys]; rfl, by simp [hl], fun k x' y' h1 h2 => ?_⟩
    cases k with
    | zero => simp at h1 h2; subst h1 h2; exact p
    | succ k => exact q k x' y' (by simpa using h1) (by simpa using h2)
theorem tmapS_post {f : A → S → Option (B × S)} {I : S → Prop} {P : B → Prop} (h : ∀ x s, I s → Post (f x s) fun r => P r.1 ∧ I r.2) : ∀ (xs : List A) (s : S), I s → Post (tmapS f xs s) fun r => r.1.length = xs.length ∧ (∀ y ∈ r.1, P y) ∧ I r.2
  | [], s, hs => ⟨([], s), rfl, rfl, by simp, hs⟩
  | x :: xs, s, hs => by
    obtain ⟨⟨y, s1⟩, e1, p, i1⟩ := h x s hs
    obtain ⟨⟨ys, s2⟩, e2, hl, q, i2⟩ := tmapS_post h xs s1 i1
    refine ⟨(y :: ys, s2), by rw [tmapS, e1, Option.bind_some, e2]; rfl, by simp [hl], fun z hz => ?_, i2⟩
    rcases List.mem_cons.mp hz with rfl | hz
    · exact p
    · exact q z hz
theorem tmapS_mem {f : A → S → Option (B × S)} {I : S → Prop} {P : B → Prop} : ∀ (xs : List A), (∀ x ∈ xs, ∀ s, I s → Post (f x s) fun r => P r.1 ∧ I r.2) → ∀ (s : S), I s → Post (tmapS f xs s) fun r => r.1.length = xs.length ∧ (∀ y ∈ r.1, P y) ∧ I r.2
  | [], _, s, hs => ⟨([], s), rfl, rfl, by simp, hs⟩
  | x :: xs, h, s, hs => by
    obtain ⟨⟨y, s1⟩, e1, p, i1⟩ := h x (by simp) s hs
    obtain ⟨⟨ys, s2⟩, e2, hl, q, i2⟩ := tmapS_mem xs (fun y hy => h y (List.mem_cons_of_mem _ hy)) s1 i1
    refine ⟨(y :: ys, s2), by rw [tmapS, e1, Option.bind_some, e2]; rfl, by simp [hl], fun z hz => ?_, i2⟩
    rcases List.mem_cons.mp hz with rfl | hz
    · exact p
    · exact q z hz
/-! loops -/
theorem tfold_post {f : A → S → Option S} {xs : List A} (I : List A → S → Prop) {s : S} (h0 : I [] s) (h : ∀ pre x suf s, xs = pre ++ x :: suf → I pre s → Post (f x s) (I (pre ++ [x]))) : Post (tfold f xs s) (I xs) := by
  have main : ∀ (suf pre : List A) (s : S), xs = pre ++ suf → I pre s → Post (tfold f suf s) (I xs) := by
    intro suf
    induction suf with
    | nil => intro pre s e i; rw [List.append_nil] at e; subst e; exact ⟨s, rfl, i⟩
    | cons x suf ih =>
      intro pre s e i
      obtain ⟨s1, e1, i1⟩ := h pre x suf s e i
      obtain ⟨s2, e2, i2⟩ := ih (pre ++ [x]) s1 (by rw [e]; simp) i1
      exact ⟨s2, by rw [tfold, e1]; exact e2, i2⟩
  exact main xs [] s rfl h0
theorem tfold_inv {f : A → S → Option S} (I : S → Prop) : ∀ {xs : List A} {s : S}, I s → (∀ x ∈ xs, ∀ s, I s → Post (f x s) I) → Post (tfold f xs s) I
  | [], s, h0, _ => ⟨s, rfl, h0⟩
  | x :: xs, s, h0, h => by
    obtain ⟨s1, e1, i1⟩ := h x (by simp) s h0
    obtain ⟨s2, e2, i2⟩ := tfold_inv I (xs := xs) i1 fun y hy => h y (List.mem_cons_of_mem _ hy)
    exact ⟨s2, by rw [tfold, e1]; exact e2, i2⟩
theorem tfold_eq {f : A → S → Option S} {g : S → A → S} : ∀ {xs : List A} {s : S}, (∀ x ∈ xs, ∀ s, f x s = some (g s x)) → tfold f xs s = some (xs.foldl g s)
  | [], _, _ => rfl
  | x :: xs, s, h => by rw [tfold, h x (by simp) s, Option.bind_some, tfold_eq fun y hy => h y (List.mem_cons_of_mem _ hy)]; rfl
theorem tforr_go {f : A → S → Option (Ex E S)} (I : S → Prop) : ∀ {xs : List A} {s : S}, I s → (∀ x ∈ xs, ∀ s, I s → Post (f x s) fun r => ∃ s', r = .go s' ∧ I s') → Post (tforr f xs s) fun r => ∃ s', r = .go s' ∧ I s'
  | [], s, h0, _ => ⟨.go s, rfl, s, rfl, h0⟩
  | x :: xs, s, h0, h => by
    obtain ⟨_, e1, s1, rfl, i1⟩ := h x (by simp) s h0
    obtain ⟨r, e2, i2⟩ := tforr_go I (xs := xs) i1 fun y hy => h y (List.mem_cons_of_mem _ hy)
    exact ⟨r, by rw [tforr, e1]; exact e2, i2⟩
theorem tforr_post {f : A → S → Option (Ex E S)} {xs : List A} (I : List A → S → Prop) {s : S} (h0 : I [] s) (h : ∀ pre x suf s, xs = pre ++ x :: suf → I pre s → Post (f x s) fun r => ∃ s', r = .go s' ∧ I (pre ++ [x]) s') : Post (tforr f xs s) fun r => ∃ s', r = .go s' ∧ I xs s' := by
  have main : ∀ (suf pre : List A) (s : S), xs = pre ++ suf → I pre s → Post (tforr f suf s) fun r => ∃ s', r = .go s' ∧ I xs s' := by
    intro suf
    induction suf with
    | nil => intro pre s e i; rw [List.append_nil] at e; subst e; exact ⟨_, rfl, s, rfl, i⟩
    | cons x suf ih =>
      intro pre s e i
      obtain ⟨_, e1, s1, rfl, i1⟩ := h pre x suf s e i
      obtain ⟨s2, e2, i2⟩ := ih (pre ++ [x]) s1 (by rw [e]; simp) i1
      exact ⟨s2, by rw [tforr, e1]; exact e2, i2⟩
  exact main xs [] s rfl h0
theorem tforr_gen {f : A → S → Option (Ex E S)} {xs : List A} (Q : E → Prop) (I : List A → S → Prop) {s : S} (h0 : I [] s) (h : ∀ pre x suf s, xs = pre ++ x :: suf → I pre s → Post (f x s) fun r => (∃ e, r = .ex e ∧ Q e) ∨ ∃ s', r = .go s' ∧ I (pre ++ [x]) s') : Post (tforr f xs s) fun r => (∃ e, r = .ex e ∧ Q e) ∨ ∃ s', r = .go s' ∧ I xs s' := by
  have main : ∀ (suf pre : List A) (s : S), xs = pre ++ suf → I pre s → Post (tforr f suf s) fun r => (∃ e, r = .ex e ∧ Q e) ∨ ∃ s', r = .go s' ∧ I xs s' := by
    intro suf
    induction suf with
    | nil => intro pre s e i; rw [List.append_nil] at e; subst e; exact ⟨_, rfl, .inr ⟨s, rfl, i⟩⟩
    | cons x suf ih =>
      intro pre s e i
      obtain ⟨_, e1, ⟨z, rfl, q⟩ | ⟨s1, rfl, i1⟩⟩ := h pre x suf s e i
      · exact ⟨_, by rw [tforr, e1]; rfl, .inl ⟨z, rfl, q⟩⟩
      · obtain ⟨s2, e2, i2⟩ := ih (pre ++ [x]) s1 (by rw [e]; simp) i1
        exact ⟨s2, by rw [tforr, e1]; exact e2, i2⟩
  exact main xs [] s rfl h0
/-- a loop that leaves with the first one that e tells -/
theorem tforr_find {f : A → Unit → Option (Ex E Unit)} (e : A → Option E) : ∀ {xs : List A}, (∀ x ∈ xs, f x () = some (match e x with | some r => .ex r | none => .go ())) → tforr f xs () = some (match xs.findSome? e with | some r => .ex r | none => .go ())
  | [], _ => rfl
  | x :: xs, h => by
    rw [tforr, h x (by simp), Option.bind_some, List.findSome?_cons]
    cases e x with
    | some r => rfl
    | none => exact tforr_find e fun y hy => h y (List.mem_cons_of_mem _ hy)
/-! least and greatest, sorted -/
def ltI (a b : Int) : Bool := decide (a < b)
abbrev mnI (x : Int) (xs : List Int) : Int := xs.foldl (fun a y => if decide (y < a) = true then y else a) x
theorem tmin_I {x : Int} {xs : List Int} : tmin (fun a b : Int => decide (a < b)) (x :: xs) = some (xs.foldl min x) := by
  show some (xs.foldl (fun a y => if decide (y < a) = true then y else a) x) = _
  rw [show (fun a y : Int => if decide (y < a) = true then y else a) = min by funext a y; by_cases h : y < a <;> simp [h] <;> omega]
theorem tmax_I {x : Int} {xs : List Int} : tmax (fun a b : Int => decide (a < b)) (x :: xs) = some (xs.foldl max x) := by
  show some (xs.foldl (fun a y => if decide (a < y) = true then y else a) x) = _
  rw [show (fun a y : Int => if decide (a < y) = true then y else a) = max by funext a y; by_cases h : a < y <;> simp [h] <;> omega]
theorem foldl_min_le : ∀ (xs : List Int) (x : Int), xs.foldl min x ≤ x ∧ ∀ y ∈ xs, xs.foldl min x ≤ y
  | [], x => ⟨Int.le_refl _, by simp⟩
  | y :: xs, x => by
    obtain ⟨h1, h2⟩ := foldl_min_le xs (min x y)
    rw [List.foldl_cons]
    refine ⟨by omega, fun z hz => ?_⟩
    rcases List.mem_cons.mp hz with rfl | hz
    · omega
    · exact h2 z hz
theorem foldl_min_mem : ∀ (xs : List Int) (x : Int), xs.foldl min x ∈ x :: xs
  | [], x => by simp
  | y :: xs, x => by
    rw [List.foldl_cons]
    have := foldl_min_mem xs (min x y)
    rcases List.mem_cons.mp this with h | h
    · rw [h]; rcases Int.le_total x y with q | q
      · rw [Int.min_eq_left q]; simp
      · rw [Int.min_eq_right q]; simp
    · exact List.mem_cons_of_mem _ (List.mem_cons_of_mem _ h)
theorem foldl_max_le : ∀ (xs : List Int) (x : Int), x ≤ xs.foldl max x ∧ ∀ y ∈ xs, y ≤ xs.foldl max x
  | [], x => ⟨Int.le_refl _, by simp⟩
  | y :: xs, x => by
    obtain ⟨h1, h2⟩ := foldl_max_le xs (max x y)
    rw [List.foldl_cons]
    refine ⟨by omega, fun z hz => ?_⟩
    rcases List.mem_cons.mp hz with rfl | hz
    · omega
    · exact h2 z hz
theorem foldl_max_mem : ∀ (xs : List Int) (x : Int), xs.foldl max x ∈ x :: xs
  | [], x => by simp
  | y :: xs, x => by
    rw [List.foldl_cons]
    have := foldl_max_mem xs (max x y)
    rcases List.mem_cons.mp this with h | h
    · rw [h]; rcases Int.le_total x y with q | q
      · rw [Int.max_eq_right q]; simp
      · rw [Int.max_eq_left q]; simp
    · exact List.mem_cons_of_mem _ (List.mem_cons_of_mem _ h)
/-- the least of numbers that are there, told by what it is -/
theorem tmin_is {xs : List Int} {m : Int} (h : m ∈ xs) (hl : ∀ y ∈ xs, m ≤ y) : tmin (fun a b : Int => decide (a < b)) xs = some m := by
  cases xs with
  | nil => simp at h
  | cons x xs =>
    rw [tmin_I]
    obtain ⟨h1, h2⟩ := foldl_min_le xs x
    have h3 := foldl_min_mem xs x
    have h4 := hl _ h3
    rcases List.mem_cons.mp h with rfl | h
    · congr 1; omega
    · have := h2 m h; congr 1; omega
theorem tmax_is {xs : List Int} {m : Int} (h : m ∈ xs) (hl : ∀ y ∈ xs, y ≤ m) : tmax (fun a b : Int => decide (a < b)) xs = some m := by
  cases xs with
  | nil => simp at h
  | cons x xs =>
    rw [tmax_I]
    obtain ⟨h1, h2⟩ := foldl_max_le xs x
    have h3 := foldl_max_mem xs x
    have h4 := hl _ h3
    rcases List.mem_cons.mp h with rfl | h
    · congr 1; omega
    · have := h2 m h; congr 1; omega
theorem tmin_post {xs : List Int} (h : xs ≠ []) : Post (tmin (fun a b : Int => decide (a < b)) xs) fun m => m ∈ xs ∧ ∀ y ∈ xs, m ≤ y := by
  cases xs with
  | nil => exact absurd rfl h
  | cons x xs =>
    refine ⟨_, tmin_I, foldl_min_mem xs x, fun y hy => ?_⟩
    obtain ⟨h1, h2⟩ := foldl_min_le xs x
    rcases List.mem_cons.mp hy with rfl | hy
    · exact h1
    · exact h2 y hy
theorem tmax_post {xs : List Int} (h : xs ≠ []) : Post (tmax (fun a b : Int => decide (a < b)) xs) fun m => m ∈ xs ∧ ∀ y ∈ xs, y ≤ m := by
  cases xs with
  | nil => exact absurd rfl h
  | cons x xs =>
    refine ⟨_, tmax_I, foldl_max_mem xs x, fun y hy => ?_⟩
    obtain ⟨h1, h2⟩ := foldl_max_le xs x
    rcases List.mem_cons.mp hy with rfl | hy
    · exact h1
    · exact h2 y hy
/-- sorted whole numbers -/
theorem srt_perm (xs : List Int) : (tsort (fun a b : Int => decide (a < b)) xs).Perm xs := List.mergeSort_perm _ _
theorem srt_len (xs : List Int) : (tsort (fun a b : Int => decide (a < b)) xs).length = xs.length := (srt_perm xs).length_eq
theorem srt_mem {xs : List Int} {x : Int} : x ∈ tsort (fun a b : Int => decide (a < b)) xs ↔ x ∈ xs := (srt_perm xs).mem_iff
theorem srt_le (xs : List Int) : (tsort (fun a b : Int => decide (a < b)) xs).Pairwise (· ≤ ·) := by
  have := List.pairwise_mergeSort (le := fun a b : Int => !decide (b < a)) (fun a b c h1 h2 => by simp at *; omega) (fun a b => by simp; omega) xs
  exact this.imp fun h => by simpa using h
theorem srt_at {xs : List Int} {i j : Nat} {x y : Int} (hij : i ≤ j) (hi : (tsort (fun a b : Int => decide (a < b)) xs)[i]? = some x) (hj : (tsort (fun a b : Int => decide (a < b)) xs)[j]? = some y) : x ≤ y := by
  rcases Nat.lt_or_eq_of_le hij with h | h
  · obtain ⟨h1, rfl⟩ := List.getElem?_eq_some_iff.mp hi
    obtain ⟨h2, rfl⟩ := List.getElem?_eq_some_iff.mp hj
    exact List.pairwise_iff_getElem.mp (srt_le xs) i j h1 h2 h
  · subst h; rw [hi] at hj; cases hj; exact Int.le_refl _
theorem srt_eq {xs ys : List Int} (h : xs.Perm ys) : tsort (fun a b : Int => decide (a < b)) xs = tsort (fun a b : Int => decide (a < b)) ys := sort_uniq ((srt_perm xs).trans (h.trans (srt_perm ys).symm)) (srt_le xs) (srt_le ys)
theorem srt_of {xs : List Int} (h : xs.Pairwise (· ≤ ·)) : tsort (fun a b : Int => decide (a < b)) xs = xs := sort_uniq (srt_perm xs) (srt_le xs) h
/-- sorted, to be reckoned -/
def insI (x : Int) : List Int → List Int
  | [] => [x]
  | y :: ys => if x ≤ y then x :: y :: ys else y :: insI x ys
def isrt : List Int → List Int
  | [] => []
  | x :: xs => insI x (isrt xs)
theorem insI_perm (x : Int) : ∀ ys : List Int, (insI x ys).Perm (x :: ys)
  | [] => List.Perm.refl _
  | y :: ys => by
    rw [insI]
    split
    · exact List.Perm.refl _
    · exact ((insI_perm x ys).cons y).trans (List.Perm.swap x y ys)
theorem insI_le (x : Int) : ∀ {ys : List Int}, ys.Pairwise (· ≤ ·) → (insI x ys).Pairwise (· ≤ ·)
  | [], _ => by simp [insI]
  | y :: ys, h => by
    have h1 := List.pairwise_cons.mp h
    rw [insI]
    split
    · rename_i q
      refine List.pairwise_cons.mpr ⟨fun z hz => ?_, h⟩
      rcases List.mem_cons.mp hz with rfl | hz
      · exact q
      · have := h1.1 z hz; omega
    · rename_i q
      refine List.pairwise_cons.mpr ⟨fun z hz => ?_, insI_le x h1.2⟩
      rcases List.mem_cons.mp ((insI_perm x ys).mem_iff.mp hz) with rfl | hz
      · omega
      · exact h1.1 z hz
theorem isrt_ok : ∀ xs : List Int, (isrt xs).Perm xs ∧ (isrt xs).Pairwise (· ≤ ·)
  | [] => ⟨List.Perm.refl _, List.Pairwise.nil⟩
  | x :: xs => ⟨(insI_perm x _).trans ((isrt_ok xs).1.cons x), insI_le x (isrt_ok xs).2⟩
theorem srt_isrt : tsort (fun a b : Int => decide (a < b)) = isrt := by
  funext xs
  exact sort_uniq ((srt_perm xs).trans (isrt_ok xs).1.symm) (srt_le xs) (isrt_ok xs).2
end TL
/-!
TW: sorting by any order of rows of ints, so that the kernel can reckon it
-/
namespace LP
open PySem PySem.Spec PyProof.Rows L2 PF TL
theorem perm_uniq {R : A → A → Prop} (an : ∀ a b, R a b → R b a → a = b) : ∀ {xs ys : List A}, xs.Perm ys → xs.Pairwise R → ys.Pairwise R → xs = ys
  | [], ys, h, _, _ => by rw [List.Perm.nil_eq h]
  | x :: xs, [], h, _, _ => by have := h.length_eq; simp at this
  | x :: xs, y :: ys, h, h1, h2 => by
    cases h1 with | cons a1 b1 =>
    cases h2 with | cons a2 b2 =>
    have hx : x ∈ y :: ys := h.mem_iff.mp (by simp)
    have hy : y ∈ x :: xs := h.mem_iff.mpr (by simp)
    have e : x = y := by
      rcases List.mem_cons.mp hx with e | hx
      · exact e
      · rcases List.mem_cons.mp hy with e | hy
        · exact e.symm
        · exact an x y (a1 y hy) (a2 x hx)
    subst e
    rw [perm_uniq an ((List.perm_cons x).mp h) b1 b2]
structure Lin (lt : A → A → Bool) : Prop where
  tr : ∀ a b c, lt b a = false → lt c b = false → lt c a = false
  to : ∀ a b, lt a b = false ∨ lt b a = false
  an : ∀ a b, lt a b = false → lt b a = false → a = b
theorem lin_int : Lin fun a b : Int => decide (a < b) := by
  refine ⟨fun a b c h1 h2 => ?_, fun a b => ?_, fun a b h1 h2 => ?_⟩
  · rw [decide_eq_false_iff_not] at *; omega
  · rw [decide_eq_false_iff_not, decide_eq_false_iff_not]; omega
  · rw [decide_eq_false_iff_not] at *; omega
theorem lin_lx [DecidableEq A] [DecidableEq B] {l1 : A → A → Bool} {l2 : B → B → Bool} (h1 : Lin l1) (h2 : Lin l2) : Lin (lx l1 l2) := by
  refine ⟨fun a b c p q => ?_, fun a b => ?_, fun a b p q => ?_⟩
  · unfold lx at p q ⊢
    by_cases e1 : b.1 = a.1
    · rw [if_pos e1] at p
      by_cases e2 : c.1 = b.1
      · rw [if_pos e2] at q
        rw [if_pos (e2.trans e1)]
        exact h2.tr _ _ _ p q
      · rw [if_neg e2] at q
        rw [if_neg fun z => e2 (z.trans e1.symm), ← e1]
        exact q
    · rw [if_neg e1] at p
      by_cases e2 : c.1 = b.1
      · rw [if_neg fun z => e1 (e2.symm.trans z), e2]
        exact p
      · rw [if_neg e2] at q
        by_cases e3 : c.1 = a.1
        · exfalso
          rw [e3] at q
          exact e1 (h1.an _ _ p q)
        · rw [if_neg e3]
          exact h1.tr _ _ _ p q
  · unfold lx
    by_cases e : a.1 = b.1
    · rw [if_pos e, if_pos e.symm]; exact h2.to _ _
    · rw [if_neg e, if_neg fun z => e z.symm]; exact h1.to _ _
  · unfold lx at p q
    by_cases e : a.1 = b.1
    · rw [if_pos e] at p
      rw [if_pos e.symm] at q
      exact Prod.ext e (h2.an _ _ p q)
    · rw [if_neg e] at p
      rw [if_neg fun z => e z.symm] at q
      exact absurd (h1.an _ _ p q) e
def insG (lt : A → A → Bool) (x : A) : List A → List A
  | [] => [x]
  | y :: ys => if lt y x = true then y :: insG lt x ys else x :: y :: ys
def isrtG (lt : A → A → Bool) : List A → List A
  | [] => []
  | x :: xs => insG lt x (isrtG lt xs)
theorem insG_perm (lt : A → A → Bool) (x : A) : ∀ ys : List A, (insG lt x ys).Perm (x :: ys)
  | [] => .refl _
  | y :: ys => by
    unfold insG
    split
    · exact ((insG_perm lt x ys).cons y).trans (.swap ..)
    · exact .refl _
theorem insG_le {lt : A → A → Bool} (h : Lin lt) (x : A) : ∀ {ys : List A}, ys.Pairwise (fun a b => lt b a = false) → (insG lt x ys).Pairwise fun a b => lt b a = false
  | [], _ => by unfold insG; exact .cons (fun _ h => by cases h) .nil
  | y :: ys, hp => by
    cases hp with | cons a b =>
    unfold insG
    split
    · rename_i q
      refine .cons (fun z hz => ?_) (insG_le h x b)
      rcases List.mem_cons.mp ((insG_perm lt x ys).mem_iff.mp hz) with rfl | hz
      · rcases h.to z y with e | e
        · exact e
        · rw [q] at e; cases e
      · exact a z hz
    · rename_i q
      have q := Bool.eq_false_iff.mpr q
      refine .cons (fun z hz => ?_) (.cons a b)
      rcases List.mem_cons.mp hz with rfl | hz
      · exact q
      · exact h.tr _ _ _ q (a z hz)
theorem isrtG_ok {lt : A → A → Bool} (h : Lin lt) : ∀ xs : List A, (isrtG lt xs).Perm xs ∧ (isrtG lt xs).Pairwise fun a b => lt b a = false
  | [] => ⟨.refl _, .nil⟩
  | x :: xs => ⟨(insG_perm lt x _).trans ((isrtG_ok h xs).1.cons x), insG_le h x (isrtG_ok h xs).2⟩
theorem tsort_perm (lt : A → A → Bool) (xs : List A) : (tsort lt xs).Perm xs := List.mergeSort_perm _ _
theorem tsort_len (lt : A → A → Bool) (xs : List A) : (tsort lt xs).length = xs.length := (tsort_perm lt xs).length_eq
theorem tsort_le {lt : A → A → Bool} (h : Lin lt) (xs : List A) : (tsort lt xs).Pairwise fun a b => lt b a = false := by
  have := List.pairwise_mergeSort (le := fun a b : A => !lt b a) (fun a b c h1 h2 => by
    simp only [Bool.not_eq_true'] at *; exact h.tr _ _ _ h1 h2) (fun a b => by
    rw [Bool.or_eq_true, Bool.not_eq_true', Bool.not_eq_true']; exact (h.to b a)) xs
  exact this.imp fun {a b} h => by simpa using h
theorem tsort_uniq {lt : A → A → Bool} (h : Lin lt) {xs ys : List A} (hp : ys.Perm xs) (hl : ys.Pairwise fun a b => lt b a = false) : tsort lt xs = ys :=
  perm_uniq (fun a b p q => h.an _ _ q p) ((tsort_perm lt xs).trans hp.symm) (tsort_le h xs) hl
theorem tsort_isrt {lt : A → A → Bool} (h : Lin lt) : tsort lt = isrtG lt := funext fun xs => tsort_uniq h (isrtG_ok h xs).1 (isrtG_ok h xs).2
theorem tsort_eq {lt : A → A → Bool} (h : Lin lt) {xs ys : List A} (p : xs.Perm ys) : tsort lt xs = tsort lt ys := tsort_uniq h ((tsort_perm lt ys).trans p.symm) (tsort_le h ys)
theorem lin2 : Lin (lx (fun a b : Int => decide (a < b)) (fun a b : Int => decide (a < b))) := lin_lx lin_int lin_int
theorem lin3 : Lin (lx (fun a b : Int => decide (a < b)) (lx (fun a b : Int => decide (a < b)) (fun a b : Int => decide (a < b)))) := lin_lx lin_int lin2
theorem sortU_k (xs : List Int) : sortU xs = dedS (isrt xs) := by
  unfold sortU
  congr 1
  exact sort_uniq ((sortI_perm xs).trans (isrt_ok xs).1.symm) (sortI_le xs) (isrt_ok xs).2
theorem tsortU_k : tsortU = fun xs : List Int => if xs.length < 64 then some (dedS (isrt xs)) else none := by
  funext xs; unfold tsortU; rw [sortU_k]
theorem tlenU_k : tlenU = fun xs : List Int => if xs.length ≤ 4000 then some ((dedS (isrt xs)).length : Int) else none := by
  funext xs; unfold tlenU; rw [sortU_k]
end LP
namespace LP
open PySem PySem.Spec PyProof.Rows L2 PF
/-- count_in(times, begin, end): slots ['times', 'begin', 'end', 'time'] -/
def bcount_in : FS :=
    sRet (fB gLen (fCons (fFz (fLC [3] (fiSq (fVar 0)) (tN 3) (fChainT (gCmp fun i j => decide (i ≤ j)) (gCmp fun i j => decide (i < j)) (fVar 1) (fVar 3) (fVar 2)) (fC (.int 1)))) (fNil)))
def ccount_in : FnC := runFn false 4 bcount_in
abbrev qcount_in : FnC := ccount_in
theorem hqcount_in : ∀ ds M r, qcount_in ds M = some r → ccount_in ds M = some r := fun _ _ _ h => h
/-- most_in(times, wide): slots ['times', 'wide', 'told', 'time', 'many'] -/
def bmost_in : FS :=
    sSeq (sSet 2 (fFz (fLC [3] (fiSq (fVar 0)) (tN 3) (fYes) (fTup (fCons (f1 gNeg (fCall qcount_in (fCons (fVar 0) (fCons (fVar 3) (fCons (f2 gAdd (fVar 3) (fVar 1)) (fNil)))))) (fCons (fVar 3) (fNil)))))))
      (sSeq (sIf (f2T (gEq) (fB gLen (fCons (fVar 2) (fNil))) (fC (.int 0)))
      (sRet (fC .non))
      (sNext))
      (sSeq (sAsg (fB gMin1 (fCons (fVar 2) (fNil))) (tTA 2 (tsC (tN 4) (tsC (tN 3) (tsN)))))
      (sRet (fTup (fCons (f1 gNeg (fVar 4)) (fCons (fVar 3) (fNil)))))))
def cmost_in : FnC := runFn false 5 bmost_in
abbrev qmost_in : FnC := cmost_in
theorem hqmost_in : ∀ ds M r, qmost_in ds M = some r → cmost_in ds M = some r := fun _ _ _ h => h
/-- gaps_of(times): slots ['times', 'at'] -/
def bgaps_of : FS :=
    sRet (fB gTuple (fCons (fFz (fLC [1] (fiRg1 (fCons (f2 gSub (fB gLen (fCons (fVar 0) (fNil))) (fC (.int 1))) (fNil))) (tN 1) (fYes) (f2 gSub (f2 gIx (fVar 0) (f2 gAdd (fVar 1) (fC (.int 1)))) (f2 gIx (fVar 0) (fVar 1))))) (fNil)))
def cgaps_of : FnC := runFn false 2 bgaps_of
abbrev qgaps_of : FnC := cgaps_of
theorem hqgaps_of : ∀ ds M r, qgaps_of ds M = some r → cgaps_of ds M = some r := fun _ _ _ h => h
/-- longest_quiet(times, begin, end): slots ['times', 'begin', 'end', 'best', 'here', 'time', 'own'] -/
def blongest_quiet : FS :=
    sSeq (sSet 3 (fTup (fCons (fVar 1) (fCons (fVar 1) (fNil)))))
      (sSeq (sSet 4 (fVar 1))
      (sSeq (sFor (fiSq (f2 gAdd (fFz (fLC [6] (fiSq (fVar 0)) (tN 6) (fChainT (gCmp fun i j => decide (i ≤ j)) (gCmp fun i j => decide (i < j)) (fVar 1) (fVar 6) (fVar 2)) (fVar 6))) (fFz (fLstD (fCons (fVar 2) (fNil)))))) (tN 5)
      (sSeq (sIf (f2T (gCmp fun i j => decide (j < i)) (f2 gSub (fVar 5) (fVar 4)) (f2 gSub (f2 gIx (fVar 3) (fC (.int 1))) (f2 gIx (fVar 3) (fC (.int 0)))))
      (sSet 3 (fTup (fCons (fVar 4) (fCons (fVar 5) (fNil)))))
      (sNext))
      (sSet 4 (fB gMax2 (fCons (fVar 4) (fCons (f2 gAdd (fVar 5) (fC (.int 1))) (fNil)))))))
      (sRet (fVar 3))))
def clongest_quiet : FnC := runFn false 7 blongest_quiet
abbrev qlongest_quiet : FnC := clongest_quiet
theorem hqlongest_quiet : ∀ ds M r, qlongest_quiet ds M = some r → clongest_quiet ds M = some r := fun _ _ _ h => h
/-- thinned_times(times, dead): slots ['times', 'dead', 'found', 'time'] -/
def bthinned_times : FS :=
    sSeq (sSet 2 (fTup (fNil)))
      (sSeq (sFor (fiSq (fVar 0)) (tN 3)
      (sIf (fOr (f2T (gEq) (fB gLen (fCons (fVar 2) (fNil))) (fC (.int 0))) (f2T (gCmp fun i j => decide (j < i)) (f2 gSub (fVar 3) (f2 gIx (fVar 2) (f1 gNeg (fC (.int 1))))) (fVar 1)))
      (sAug 2 gIAddA (fTup (fCons (fVar 3) (fNil))))
      (sNext)))
      (sRet (fVar 2)))
def cthinned_times : FnC := runFn false 4 bthinned_times
abbrev qthinned_times : FnC := cthinned_times
theorem hqthinned_times : ∀ ds M r, qthinned_times ds M = some r → cthinned_times ds M = some r := fun _ _ _ h => h
/-- how_far(one, other): slots ['one', 'other'] -/
def bhow_far : FS :=
    sRet (f2 gAdd (fB gAbs (fCons (f2 gSub (f2 gIx (fVar 0) (fC (.int 0))) (f2 gIx (fVar 1) (fC (.int 0)))) (fNil))) (fB gAbs (fCons (f2 gSub (f2 gIx (fVar 0) (fC (.int 1))) (f2 gIx (fVar 1) (fC (.int 1)))) (fNil))))
def chow_far : FnC := runFn false 2 bhow_far
abbrev qhow_far : FnC := chow_far
theorem hqhow_far : ∀ ds M r, qhow_far ds M = some r → chow_far ds M = some r := fun _ _ _ h => h
/-- are_linked(one, other, far, minutes): slots ['one', 'other', 'far', 'minutes'] -/
def bare_linked : FS :=
    sRet (fAndV (f2 (gB (gCmp fun i j => decide (i ≤ j))) (fCall qhow_far (fCons (f2 gIx (fVar 0) (fC (.int 1))) (fCons (f2 gIx (fVar 1) (fC (.int 1))) (fNil)))) (fVar 2)) (f2 (gB (gCmp fun i j => decide (i ≤ j))) (fB gAbs (fCons (f2 gSub (f2 gIx (fVar 0) (fC (.int 0))) (f2 gIx (fVar 1) (fC (.int 0)))) (fNil))) (fVar 3)))
def care_linked : FnC := runFn false 4 bare_linked
abbrev qare_linked : FnC := care_linked
theorem hqare_linked : ∀ ds M r, qare_linked ds M = some r → care_linked ds M = some r := fun _ _ _ h => h
/-- put_together(tops, one, other): slots ['tops', 'one', 'other', 'low', 'high', 'top'] -/
def bput_together : FS :=
    sSeq (sAsg (fTup (fCons (fB gMin2 (fCons (f2 gIx (fVar 0) (fVar 1)) (fCons (f2 gIx (fVar 0) (fVar 2)) (fNil)))) (fCons (fB gMax2 (fCons (f2 gIx (fVar 0) (fVar 1)) (fCons (f2 gIx (fVar 0) (fVar 2)) (fNil)))) (fNil)))) (tTA 2 (tsC (tN 3) (tsC (tN 4) (tsN)))))
      (sRet (fFz (fLC [5] (fiSq (fVar 0)) (tN 5) (fYes) (fIfE (f2T (gEq) (fVar 5) (fVar 4)) (fVar 3) (fVar 5)))))
def cput_together : FnC := runFn false 6 bput_together
abbrev qput_together : FnC := cput_together
theorem hqput_together : ∀ ds M r, qput_together ds M = some r → cput_together ds M = some r := fun _ _ _ h => h
/-- clusters_of(catalog, far, minutes): slots ['catalog', 'far', 'minutes', 'tops', 'one', 'other', 'top', 'at'] -/
def bclusters_of : FS :=
    sSeq (sSet 3 (fFz (fLstRg1 (fCons (fB gLen (fCons (fVar 0) (fNil))) (fNil)))))
      (sSeq (sFor (fiRg1 (fCons (fB gLen (fCons (fVar 0) (fNil))) (fNil))) (tN 4)
      (sFor (fiRg1 (fCons (fVar 4) (fNil))) (tN 5)
      (sIf (fAnd (f2T (gNe) (f2 gIx (fVar 3) (fVar 4)) (f2 gIx (fVar 3) (fVar 5))) (fTru (fCall qare_linked (fCons (f2 gIx (fVar 0) (fVar 4)) (fCons (f2 gIx (fVar 0) (fVar 5)) (fCons (fVar 1) (fCons (fVar 2) (fNil))))))))
      (sSet 3 (fCall qput_together (fCons (fVar 3) (fCons (fVar 4) (fCons (fVar 5) (fNil))))))
      (sNext))))
      (sRet (fB gTuple (fCons (fFz (fLC [6] (fiSq (fFz (fBN gSortU (fCons (fVar 3) (fNil))))) (tN 6) (fYes) (fB gTuple (fCons (fFz (fLC [7] (fiRg1 (fCons (fB gLen (fCons (fVar 3) (fNil))) (fNil))) (tN 7) (f2T (gEq) (f2 gIx (fVar 3) (fVar 7)) (fVar 6)) (fVar 7))) (fNil))))) (fNil)))))
def cclusters_of : FnC := runFn false 8 bclusters_of
abbrev qclusters_of : FnC := cclusters_of
theorem hqclusters_of : ∀ ds M r, qclusters_of ds M = some r → cclusters_of ds M = some r := fun _ _ _ h => h
/-- main_of(catalog, cluster): slots ['catalog', 'cluster', 'at'] -/
def bmain_of : FS :=
    sRet (f2 gIx (fB gMin1 (fCons (fFz (fLC [2] (fiSq (fVar 1)) (tN 2) (fYes) (fTup (fCons (f1 gNeg (f2 gIx (f2 gIx (fVar 0) (fVar 2)) (fC (.int 2)))) (fCons (f2 gIx (f2 gIx (fVar 0) (fVar 2)) (fC (.int 0))) (fCons (f2 gIx (f2 gIx (fVar 0) (fVar 2)) (fC (.int 1))) (fCons (fVar 2) (fNil)))))))) (fNil))) (fC (.int 3)))
def cmain_of : FnC := runFn false 3 bmain_of
abbrev qmain_of : FnC := cmain_of
theorem hqmain_of : ∀ ds M r, qmain_of ds M = some r → cmain_of ds M = some r := fun _ _ _ h => h
/-- main_shocks(catalog, far, minutes): slots ['catalog', 'far', 'minutes', 'cluster'] -/
def bmain_shocks : FS :=
    sRet (fB gTuple (fCons (fFz (fLC [3] (fiSq (fCall qclusters_of (fCons (fVar 0) (fCons (fVar 1) (fCons (fVar 2) (fNil)))))) (tN 3) (fYes) (fCall qmain_of (fCons (fVar 0) (fCons (fVar 3) (fNil)))))) (fNil)))
def cmain_shocks : FnC := runFn false 4 bmain_shocks
abbrev qmain_shocks : FnC := cmain_shocks
theorem hqmain_shocks : ∀ ds M r, qmain_shocks ds M = some r → cmain_shocks ds M = some r := fun _ _ _ h => h
/-- thinned(catalog, far, minutes): slots ['catalog', 'far', 'minutes', 'at'] -/
def bthinned : FS :=
    sRet (fB gTuple (fCons (fFz (fBN gSortA (fCons (fFz (fLC [3] (fiSq (fCall qmain_shocks (fCons (fVar 0) (fCons (fVar 1) (fCons (fVar 2) (fNil)))))) (tN 3) (fYes) (f2 gIx (fVar 0) (fVar 3)))) (fNil)))) (fNil)))
def cthinned : FnC := runFn false 4 bthinned
abbrev qthinned : FnC := cthinned
theorem hqthinned : ∀ ds M r, qthinned ds M = some r → cthinned ds M = some r := fun _ _ _ h => h
/-- before_and_after(catalog, far, minutes): slots ['catalog', 'far', 'minutes', 'found', 'cluster', 'time', 'before', 'at'] -/
def bbefore_and_after : FS :=
    sSeq (sSet 3 (fMut (fLstD (fNil))))
      (sSeq (sFor (fiSq (fCall qclusters_of (fCons (fVar 0) (fCons (fVar 1) (fCons (fVar 2) (fNil)))))) (tN 4)
      (sSeq (sSet 5 (f2 gIx (f2 gIx (fVar 0) (fCall qmain_of (fCons (fVar 0) (fCons (fVar 4) (fNil))))) (fC (.int 0))))
      (sSeq (sSet 6 (fB gLen (fCons (fFz (fLC [7] (fiSq (fVar 4)) (tN 7) (f2T (gCmp fun i j => decide (i < j)) (f2 gIx (f2 gIx (fVar 0) (fVar 7)) (fC (.int 0))) (fVar 5)) (fC (.int 1)))) (fNil))))
      (sDrop (fM "list" gAppend (fVar 3) (fCons (fTup (fCons (fVar 6) (fCons (fB gLen (fCons (fFz (fLC [7] (fiSq (fVar 4)) (tN 7) (f2T (gCmp fun i j => decide (j < i)) (f2 gIx (f2 gIx (fVar 0) (fVar 7)) (fC (.int 0))) (fVar 5)) (fC (.int 1)))) (fNil))) (fNil)))) (fNil)))))))
      (sRet (fB gTuple (fCons (fVar 3) (fNil)))))
def cbefore_and_after : FnC := runFn false 8 bbefore_and_after
abbrev qbefore_and_after : FnC := cbefore_and_after
theorem hqbefore_and_after : ∀ ds M r, qbefore_and_after ds M = some r → cbefore_and_after ds M = some r := fun _ _ _ h => h
/-- least_minutes(catalog, far): slots ['catalog', 'far', 'links', 'one', 'other', 'tops', 'last', 'minutes'] -/
def bleast_minutes : FS :=
    sSeq (sSet 2 (fMut (fLstD (fNil))))
      (sSeq (sFor (fiRg1 (fCons (fB gLen (fCons (fVar 0) (fNil))) (fNil))) (tN 3)
      (sFor (fiRg1 (fCons (fVar 3) (fNil))) (tN 4)
      (sIf (f2T (gCmp fun i j => decide (i ≤ j)) (fCall qhow_far (fCons (f2 gIx (f2 gIx (fVar 0) (fVar 3)) (fC (.int 1))) (fCons (f2 gIx (f2 gIx (fVar 0) (fVar 4)) (fC (.int 1))) (fNil)))) (fVar 1))
      (sDrop (fM "list" gAppend (fVar 2) (fCons (fTup (fCons (fB gAbs (fCons (f2 gSub (f2 gIx (f2 gIx (fVar 0) (fVar 3)) (fC (.int 0))) (f2 gIx (f2 gIx (fVar 0) (fVar 4)) (fC (.int 0)))) (fNil))) (fCons (fVar 3) (fCons (fVar 4) (fNil))))) (fNil))))
      (sNext))))
      (sSeq (sSet 5 (fFz (fLstRg1 (fCons (fB gLen (fCons (fVar 0) (fNil))) (fNil)))))
      (sSeq (sSet 6 (fC (.int 0)))
      (sSeq (sFor (fiSq (fFz (fBN gSortA (fCons (fVar 2) (fNil))))) (tTA 3 (tsC (tN 7) (tsC (tN 3) (tsC (tN 4) (tsN)))))
      (sIf (f2T (gNe) (f2 gIx (fVar 5) (fVar 3)) (f2 gIx (fVar 5) (fVar 4)))
      (sSeq (sSet 5 (fCall qput_together (fCons (fVar 5) (fCons (fVar 3) (fCons (fVar 4) (fNil))))))
      (sSet 6 (fVar 7)))
      (sNext)))
      (sRet (fIfE (f2T (gCmp fun i j => decide (i < j)) (fB gLenU (fCons (fVar 5) (fNil))) (fC (.int 2))) (fVar 6) (fC .non)))))))
def cleast_minutes : FnC := runFn false 8 bleast_minutes
abbrev qleast_minutes : FnC := cleast_minutes
theorem hqleast_minutes : ∀ ds M r, qleast_minutes ds M = some r → cleast_minutes ds M = some r := fun _ _ _ h => h
/-- steps_of(minutes, wide): slots ['minutes', 'wide', 'found', 'minute'] -/
def bsteps_of : FS :=
    sSeq (sSet 2 (fMut (fLstD (fNil))))
      (sSeq (sFor (fiSq (fFz (fBN gSortA (fCons (fVar 0) (fNil))))) (tN 3)
      (sIf (fAnd (f2T (gCmp fun i j => decide (j < i)) (fB gLen (fCons (fVar 2) (fNil))) (fC (.int 0))) (f2T (gCmp fun i j => decide (i ≤ j)) (f2 gSub (fVar 3) (f2 gIx (f2 gIx (fVar 2) (f1 gNeg (fC (.int 1)))) (f1 gNeg (fC (.int 1))))) (fVar 1)))
      (sAugIx gIAddA (fVar 2) (f1 gNeg (fC (.int 1))) (fTup (fCons (fVar 3) (fNil))))
      (sDrop (fM "list" gAppend (fVar 2) (fCons (fTup (fCons (fVar 3) (fNil))) (fNil))))))
      (sRet (fB gTuple (fCons (fVar 2) (fNil)))))
def csteps_of : FnC := runFn false 4 bsteps_of
abbrev qsteps_of : FnC := csteps_of
theorem hqsteps_of : ∀ ds M r, qsteps_of ds M = some r → csteps_of ds M = some r := fun _ _ _ h => h
/-- _law_draws(script, many): slots ['script', 'many', 'cells', 'cell', 'rest', 'draws', 'k', 'at', 'once'] -/
def b_law_draws : FS :=
    sSeq (sSet 2 (fMut (fLC [3] (fiSq (fVar 0)) (tN 3) (fYes) (fB gInt (fCons (fVar 3) (fNil))))))
      (sSeq (sIf (f2T (gEq) (fB gLen (fCons (fVar 2) (fNil))) (fC (.int 0)))
      (sDrop (fM "list" gAppend (fVar 2) (fCons (fC (.int 0)) (fNil))))
      (sNext))
      (sSeq (sSet 4 (fMut (fBN gList (fCons (fVar 2) (fNil)))))
      (sSeq (sSet 5 (fMut (fLstD (fNil))))
      (sSeq (sFor (fiRg1 (fCons (fVar 1) (fNil))) (tN 6)
      (sSeq (sSet 7 (f2 gMod (fVar 6) (fB gLen (fCons (fVar 2) (fNil)))))
      (sIf (fAnd (f2T (gCmp fun i j => decide (j ≤ i)) (f2 gIx (fVar 2) (fVar 7)) (f2 gPow (fC (.int 10)) (fC (.int 18)))) (f2T (gCmp fun i j => decide (j < i)) (f2 gIx (fVar 4) (fVar 7)) (fC (.int 0))))
      (sSeq (sDrop (fM "list" gAppend (fVar 5) (fCons (f2 gMod (fB gInt (fCons (f2 gIx (fVar 4) (fVar 7)) (fNil))) (fC (.int 1000))) (fNil))))
      (sSetIx (f2 gFdiv (f2 gIx (fVar 4) (fVar 7)) (fC (.int 1000))) (fVar 4) (fVar 7)))
      (sSeq (sSet 8 (f2 gMod (fB gInt (fCons (f2 gAdd (f2 gAdd (f2 gMul (f2 gIx (fVar 2) (fVar 7)) (fC (.int 48271))) (f2 gMul (fVar 6) (fC (.int 69621)))) (fC (.int 11))) (fNil))) (fC (.int 2147483647))))
      (sDrop (fM "list" gAppend (fVar 5) (fCons (f2 gMod (fB gInt (fCons (f2 gAdd (f2 gAdd (f2 gMul (fVar 8) (fVar 8)) (f2 gMul (fC (.int 3)) (fVar 8))) (fVar 6)) (fNil))) (fC (.int 1000003))) (fNil))))))))
      (sSeq (sDrop (fM "list" gReverse (fVar 5) (fNil)))
      (sRet (fVar 5)))))))
def c_law_draws : FnC := runFn true 9 b_law_draws
abbrev q_law_draws : FnC := c_law_draws
theorem hq_law_draws : ∀ ds M r, q_law_draws ds M = some r → c_law_draws ds M = some r := fun _ _ _ h => h
/-- _law_take(draws, many): slots ['draws', 'many'] -/
def b_law_take : FS :=
    sSeq (sIf (f2T (gEq) (fB gLen (fCons (fVar 0) (fNil))) (fC (.int 0)))
      (sRet (fC (.int 0)))
      (sNext))
      (sRet (f2 gMod (fB gInt (fCons (fM "list" gPop (fVar 0) (fNil)) (fNil))) (fVar 1)))
def c_law_take : FnC := runFn false 2 b_law_take
abbrev q_law_take : FnC := c_law_take
theorem hq_law_take : ∀ ds M r, q_law_take ds M = some r → c_law_take ds M = some r := fun _ _ _ h => h
/-- _law_same(actual, due): slots ['actual', 'due', 'k'] -/
def b_law_same (q_law_same : FnC) : FS :=
    sSeq (sIf (fTru (fIsi .bl (fVar 1)))
      (sRet (fAndV (fIsi .bl (fVar 0)) (f2 (gB (gEq)) (fVar 0) (fVar 1))))
      (sNext))
      (sSeq (sIf (fTru (fIsi .int (fVar 1)))
      (sRet (fAndV (fIsi .int (fVar 0)) (fAndV (fNotV (fIsi .bl (fVar 0))) (f2 (gB (gEq)) (fVar 0) (fVar 1)))))
      (sNext))
      (sSeq (sIf (fTru (fIsi .str (fVar 1)))
      (sRet (fAndV (fIsi .str (fVar 0)) (f2 (gB (gEq)) (fVar 0) (fVar 1))))
      (sNext))
      (sSeq (sIf (f2T (gIs) (fVar 1) (fC .non))
      (sRet (f2 (gB (gIs)) (fVar 0) (fC .non)))
      (sNext))
      (sSeq (sIf (fOr (fNot (fTru (fIsi .tup (fVar 0)))) (f2T (gNe) (fB gLen (fCons (fVar 0) (fNil))) (fB gLen (fCons (fVar 1) (fNil)))))
      (sRet (fC (.bl false)))
      (sNext))
      (sSeq (sFor (fiRg1 (fCons (fB gLen (fCons (fVar 1) (fNil))) (fNil))) (tN 2)
      (sIf (fNot (fTru (fCall q_law_same (fCons (f2 gIx (fVar 0) (fVar 2)) (fCons (f2 gIx (fVar 1) (fVar 2)) (fNil))))))
      (sRet (fC (.bl false)))
      (sNext)))
      (sRet (fC (.bl true))))))))
def c_law_same : Nat → FnC
  | 0, _, _ => none
  | n + 1, ds, M => runFn false 3 (b_law_same (c_law_same n)) ds M
def q_law_same : FnC := c_law_same 12
theorem hq_law_same : ∀ ds M r, q_law_same ds M = some r → c_law_same 12 ds M = some r := fun _ _ _ h => h
/-- _law_size(draws, script): slots ['draws', 'script', 'kind', 'number'] -/
def b_law_size : FS :=
    sSeq (sSet 2 (fCallS 0 q_law_take (fCons (fVar 0) (fCons (fC (.int 4)) (fNil)))))
      (sSeq (sSet 3 (fCallS 0 q_law_take (fCons (fVar 0) (fCons (fC (.int 1000)) (fNil)))))
      (sSeq (sIf (f2T (gEq) (fVar 2) (fC (.int 1)))
      (sSet 3 (f2 gAdd (fVar 3) (f2 gMul (f2 gAdd (fC (.int 1)) (fCallS 0 q_law_take (fCons (fVar 0) (fCons (fC (.int 1000)) (fNil))))) (f2 gPow (fC (.int 10)) (fC (.int 15))))))
      (sNext))
      (sSeq (sIf (fAnd (f2T (gEq) (fVar 2) (fC (.int 2))) (f2T (gCmp fun i j => decide (j < i)) (fB gLen (fCons (fVar 1) (fNil))) (fC (.int 0))))
      (sSet 3 (f2 gAdd (fVar 3) (f2 gMod (fB gInt (fCons (fB gAbs (fCons (fB gInt (fCons (f2 gIx (fVar 1) (fCallS 0 q_law_take (fCons (fVar 0) (fCons (fB gLen (fCons (fVar 1) (fNil))) (fNil))))) (fNil))) (fNil))) (fNil))) (f2 gPow (fC (.int 10)) (fC (.int 60))))))
      (sNext))
      (sSeq (sIf (f2T (gEq) (fVar 2) (fC (.int 3)))
      (sSet 3 (f2 gAdd (f2 gMul (fVar 3) (fC (.int 1000))) (fCallS 0 q_law_take (fCons (fVar 0) (fCons (fC (.int 1000)) (fNil))))))
      (sNext))
      (sRet (fVar 3))))))
def c_law_size : FnC := runFn false 4 b_law_size
abbrev q_law_size : FnC := c_law_size
theorem hq_law_size : ∀ ds M r, q_law_size ds M = some r → c_law_size ds M = some r := fun _ _ _ h => h
/-- _law_times(draws, script, many, great): slots ['draws', 'script', 'many', 'great', 'at', 'found', 'k'] -/
def b_law_times : FS :=
    sSeq (sSet 4 (f2 gSub (fCallS 0 q_law_take (fCons (fVar 0) (fCons (fC (.int 40)) (fNil)))) (fC (.int 20))))
      (sSeq (sSet 5 (fMut (fLstD (fNil))))
      (sSeq (sFor (fiRg1 (fCons (fVar 2) (fNil))) (tN 6)
      (sSeq (sSet 4 (f2 gAdd (f2 gAdd (fVar 4) (f2 gIx (fFz (fLstD (fCons (fC (.int 0)) (fCons (fCallS 0 q_law_take (fCons (fVar 0) (fCons (fC (.int 3)) (fNil)))) (fCons (fCallS 0 q_law_take (fCons (fVar 0) (fCons (fC (.int 30)) (fNil)))) (fNil)))))) (fCallS 0 q_law_take (fCons (fVar 0) (fCons (fC (.int 3)) (fNil)))))) (f2 gMul (fB gInt (fCons (fAndV (fVar 3) (f2 (gB (gEq)) (fCallS 0 q_law_take (fCons (fVar 0) (fCons (fC (.int 6)) (fNil)))) (fC (.int 0)))) (fNil))) (f2 gMod (fCallS 0 q_law_size (fCons (fVar 0) (fCons (fVar 1) (fNil)))) (f2 gPow (fC (.int 10)) (fC (.int 26)))))))
      (sDrop (fM "list" gAppend (fVar 5) (fCons (fVar 4) (fNil))))))
      (sRet (fB gTuple (fCons (fVar 5) (fNil))))))
def c_law_times : FnC := runFn false 7 b_law_times
abbrev q_law_times : FnC := c_law_times
theorem hq_law_times : ∀ ds M r, q_law_times ds M = some r → c_law_times ds M = some r := fun _ _ _ h => h
/-- _law_in(times, begin, end): slots ['times', 'begin', 'end', 'time'] -/
def b_law_in : FS :=
    sRet (fB gLen (fCons (fFz (fLC [3] (fiSq (fVar 0)) (tN 3) (fAnd (f2T (gCmp fun i j => decide (i ≤ j)) (fVar 1) (fVar 3)) (f2T (gCmp fun i j => decide (i < j)) (fVar 3) (fVar 2))) (fVar 3))) (fNil)))
def c_law_in : FnC := runFn false 4 b_law_in
abbrev q_law_in : FnC := c_law_in
theorem hq_law_in : ∀ ds M r, q_law_in ds M = some r → c_law_in ds M = some r := fun _ _ _ h => h
/-- _law_groups(times, minutes): slots ['times', 'minutes', 'found', 'k'] -/
def b_law_groups : FS :=
    sSeq (sSet 2 (fMut (fLstD (fNil))))
      (sSeq (sFor (fiRg1 (fCons (fB gLen (fCons (fVar 0) (fNil))) (fNil))) (tN 3)
      (sIf (fAnd (f2T (gCmp fun i j => decide (j < i)) (fVar 3) (fC (.int 0))) (f2T (gCmp fun i j => decide (i ≤ j)) (f2 gSub (f2 gIx (fVar 0) (fVar 3)) (f2 gIx (fVar 0) (f2 gSub (fVar 3) (fC (.int 1))))) (fVar 1)))
      (sSetIx (f2 gAdd (f2 gIx (fVar 2) (f1 gNeg (fC (.int 1)))) (fTup (fCons (fVar 3) (fNil)))) (fVar 2) (f1 gNeg (fC (.int 1))))
      (sDrop (fM "list" gAppend (fVar 2) (fCons (fTup (fCons (fVar 3) (fNil))) (fNil))))))
      (sRet (fB gTuple (fCons (fVar 2) (fNil)))))
def c_law_groups : FnC := runFn false 4 b_law_groups
abbrev q_law_groups : FnC := c_law_groups
theorem hq_law_groups : ∀ ds M r, q_law_groups ds M = some r → c_law_groups ds M = some r := fun _ _ _ h => h
/-- _law_one_right(draws, times, minutes): slots ['draws', 'times', 'minutes', 'catalog', 'time', 'groups', 'far', 'group', 'gaps', 'gap', 'k', 'kept', 'most', 'quiet', 'sizes', 'sized', 'mains', 'sides', 'best'] -/
def b_law_one_right : FS :=
    sSeq (sSet 3 (fB gTuple (fCons (fFz (fLC [4] (fiSq (fVar 1)) (tN 4) (fYes) (fTup (fCons (fVar 4) (fCons (fTup (fCons (fC (.int 3)) (fCons (fC (.int 4)) (fNil)))) (fCons (fC (.int 5)) (fNil))))))) (fNil))))
      (sSeq (sSet 5 (fCall q_law_groups (fCons (fVar 1) (fCons (fVar 2) (fNil)))))
      (sSeq (sSet 6 (fCallS 0 q_law_take (fCons (fVar 0) (fCons (fC (.int 9)) (fNil)))))
      (sSeq (sIf (fOr (fNot (fTru (fCall q_law_same (fCons (fCall qclusters_of (fCons (fVar 3) (fCons (fVar 6) (fCons (fVar 2) (fNil))))) (fCons (fVar 5) (fNil)))))) (fNot (fTru (fCall q_law_same (fCons (fCall qmain_shocks (fCons (fVar 3) (fCons (fVar 6) (fCons (fVar 2) (fNil))))) (fCons (fB gTuple (fCons (fFz (fLC [7] (fiSq (fVar 5)) (tN 7) (fYes) (f2 gIx (fVar 7) (fC (.int 0))))) (fNil))) (fNil)))))))
      (sRet (fC (.bl false)))
      (sNext))
      (sSeq (sSet 8 (fCall qgaps_of (fCons (fVar 1) (fNil))))
      (sSeq (sIf (fOr (fNot (fTru (fIsi .tup (fVar 8)))) (f2T (gNe) (fB gLen (fCons (fVar 8) (fNil))) (fB gMax2 (fCons (fC (.int 0)) (fCons (f2 gSub (fB gLen (fCons (fVar 1) (fNil))) (fC (.int 1))) (fNil))))))
      (sRet (fC (.bl false)))
      (sNext))
      (sSeq (sIf (fAnd (f2T (gCmp fun i j => decide (j < i)) (fB gLen (fCons (fVar 1) (fNil))) (fC (.int 0))) (f2T (gNe) (fB gLen (fCons (fVar 5) (fNil))) (f2 gAdd (fC (.int 1)) (fB gLen (fCons (fFz (fLC [9] (fiSq (fVar 8)) (tN 9) (f2T (gCmp fun i j => decide (j < i)) (fVar 9) (fVar 2)) (fVar 9))) (fNil))))))
      (sRet (fC (.bl false)))
      (sNext))
      (sSeq (sIf (fNot (fTru (fCall q_law_same (fCons (fCall qleast_minutes (fCons (fVar 3) (fCons (fVar 6) (fNil)))) (fCons (fB gMax1 (fCons (f2 gAdd (fTup (fCons (fC (.int 0)) (fNil))) (fVar 8)) (fNil))) (fNil))))))
      (sRet (fC (.bl false)))
      (sNext))
      (sSeq (sIf (fNot (fTru (fCall q_law_same (fCons (fCall qsteps_of (fCons (fVar 1) (fCons (fVar 2) (fNil)))) (fCons (fB gTuple (fCons (fFz (fLC [7] (fiSq (fVar 5)) (tN 7) (fYes) (fB gTuple (fCons (fFz (fLC [10] (fiSq (fVar 7)) (tN 10) (fYes) (f2 gIx (fVar 1) (fVar 10)))) (fNil))))) (fNil))) (fNil))))))
      (sRet (fC (.bl false)))
      (sNext))
      (sSeq (sSet 11 (fCall qthinned_times (fCons (fVar 1) (fCons (fVar 2) (fNil)))))
      (sSeq (sIf (fOr (fNot (fTru (fIsi .tup (fVar 11)))) (f2T (gCmp fun i j => decide (j < i)) (fB gLen (fCons (fFz (fLC [7] (fiSq (fVar 5)) (tN 7) (f2T (gNotInX) (f2 gIx (fVar 1) (f2 gIx (fVar 7) (fC (.int 0)))) (fVar 11)) (fVar 7))) (fNil))) (fC (.int 0))))
      (sRet (fC (.bl false)))
      (sNext))
      (sSeq (sIf (f2T (gCmp fun i j => decide (j < i)) (fB gLen (fCons (fFz (fLC [10] (fiRg2 (fCons (fC (.int 1)) (fCons (fB gLen (fCons (fVar 11) (fNil))) (fNil)))) (tN 10) (f2T (gCmp fun i j => decide (i ≤ j)) (f2 gSub (f2 gIx (fVar 11) (fVar 10)) (f2 gIx (fVar 11) (f2 gSub (fVar 10) (fC (.int 1))))) (fVar 2)) (fVar 10))) (fNil))) (fC (.int 0)))
      (sRet (fC (.bl false)))
      (sNext))
      (sSeq (sIf (f2T (gCmp fun i j => decide (j < i)) (fB gLen (fCons (fVar 1) (fNil))) (fC (.int 0)))
      (sSeq (sSet 12 (fCall qmost_in (fCons (fVar 1) (fCons (f2 gAdd (fVar 2) (fC (.int 1))) (fNil)))))
      (sSeq (sIf (fOr (fNot (fTru (fIsi .tup (fVar 12)))) (f2T (gCmp fun i j => decide (j < i)) (f2 gIx (fVar 12) (fC (.int 0))) (fB gMax1 (fCons (fFz (fLC [7] (fiSq (fVar 5)) (tN 7) (fYes) (fB gLen (fCons (fVar 7) (fNil))))) (fNil)))))
      (sRet (fC (.bl false)))
      (sNext))
      (sSeq (sSet 13 (fCall qlongest_quiet (fCons (fVar 1) (fCons (f2 gIx (fVar 1) (fC (.int 0))) (fCons (f2 gAdd (f2 gIx (fVar 1) (f1 gNeg (fC (.int 1)))) (fC (.int 1))) (fNil))))))
      (sIf (fOr (fNot (fTru (fIsi .tup (fVar 13)))) (fOr (f2T (gNe) (fB gLen (fCons (fVar 13) (fNil))) (fC (.int 2))) (f2T (gNe) (f2 gSub (f2 gIx (fVar 13) (fC (.int 1))) (f2 gIx (fVar 13) (fC (.int 0)))) (fB gMax1 (fCons (f2 gAdd (fFz (fLstD (fCons (fC (.int 0)) (fNil)))) (fFz (fLC [9] (fiSq (fVar 8)) (tN 9) (fYes) (f2 gSub (fVar 9) (fC (.int 1)))))) (fNil))))))
      (sRet (fC (.bl false)))
      (sNext)))))
      (sNext))
      (sSeq (sSet 14 (fFz (fLC [4] (fiSq (fVar 1)) (tN 4) (fYes) (fCallS 0 q_law_take (fCons (fVar 0) (fCons (fC (.int 4)) (fNil)))))))
      (sSeq (sSet 15 (fB gTuple (fCons (fFz (fLC [10] (fiRg1 (fCons (fB gLen (fCons (fVar 1) (fNil))) (fNil))) (tN 10) (fYes) (fTup (fCons (f2 gIx (fVar 1) (fVar 10)) (fCons (fTup (fCons (fC (.int 0)) (fCons (fC (.int 0)) (fNil)))) (fCons (f2 gIx (fVar 14) (fVar 10)) (fNil))))))) (fNil))))
      (sSeq (sSet 16 (fMut (fLstD (fNil))))
      (sSeq (sSet 17 (fMut (fLstD (fNil))))
      (sSeq (sFor (fiSq (fVar 5)) (tN 7)
      (sSeq (sSet 18 (f2 gIx (fB gMin1 (fCons (fFz (fLC [10] (fiSq (fVar 7)) (tN 10) (fYes) (fTup (fCons (f1 gNeg (f2 gIx (fVar 14) (fVar 10))) (fCons (f2 gIx (fVar 1) (fVar 10)) (fCons (fVar 10) (fNil))))))) (fNil))) (fC (.int 2))))
      (sSeq (sDrop (fM "list" gAppend (fVar 16) (fCons (fVar 18) (fNil))))
      (sDrop (fM "list" gAppend (fVar 17) (fCons (fTup (fCons (fB gLen (fCons (fFz (fLC [10] (fiSq (fVar 7)) (tN 10) (f2T (gCmp fun i j => decide (i < j)) (f2 gIx (fVar 1) (fVar 10)) (f2 gIx (fVar 1) (fVar 18))) (fVar 10))) (fNil))) (fCons (fB gLen (fCons (fFz (fLC [10] (fiSq (fVar 7)) (tN 10) (f2T (gCmp fun i j => decide (j < i)) (f2 gIx (fVar 1) (fVar 10)) (f2 gIx (fVar 1) (fVar 18))) (fVar 10))) (fNil))) (fNil)))) (fNil)))))))
      (sSeq (sIf (fOr (fNot (fTru (fCall q_law_same (fCons (fCall qmain_shocks (fCons (fVar 15) (fCons (fVar 6) (fCons (fVar 2) (fNil))))) (fCons (fB gTuple (fCons (fVar 16) (fNil))) (fNil)))))) (fNot (fTru (fCall q_law_same (fCons (fCall qbefore_and_after (fCons (fVar 15) (fCons (fVar 6) (fCons (fVar 2) (fNil))))) (fCons (fB gTuple (fCons (fVar 17) (fNil))) (fNil)))))))
      (sRet (fC (.bl false)))
      (sNext))
      (sRet (fCall q_law_same (fCons (fCall qthinned (fCons (fVar 15) (fCons (fVar 6) (fCons (fVar 2) (fNil))))) (fCons (fB gTuple (fCons (fFz (fBN gSortA (fCons (fFz (fLC [10] (fiSq (fVar 16)) (tN 10) (fYes) (f2 gIx (fVar 15) (fVar 10)))) (fNil)))) (fNil))) (fNil)))))))))))))))))))))))
def c_law_one_right : FnC := runFn false 19 b_law_one_right
abbrev q_law_one_right : FnC := c_law_one_right
theorem hq_law_one_right : ∀ ds M r, q_law_one_right ds M = some r → c_law_one_right ds M = some r := fun _ _ _ h => h
/-- _law_two_right(draws, times, minutes): slots ['draws', 'times', 'minutes', 'here', 'time', 'catalog', 'k', 'due', 'place', 'own', 'group'] -/
def b_law_two_right : FS :=
    sSeq (sSet 3 (fFz (fLC [4] (fiSq (fVar 1)) (tN 4) (fYes) (fCallS 0 q_law_take (fCons (fVar 0) (fCons (fC (.int 2)) (fNil)))))))
      (sSeq (sSet 5 (fB gTuple (fCons (fFz (fLC [6] (fiRg1 (fCons (fB gLen (fCons (fVar 1) (fNil))) (fNil))) (tN 6) (fYes) (fTup (fCons (f2 gIx (fVar 1) (fVar 6)) (fCons (fTup (fCons (f2 gMul (fC (.int 20)) (f2 gIx (fVar 3) (fVar 6))) (fCons (fC (.int 0)) (fNil)))) (fCons (fC (.int 1)) (fNil))))))) (fNil))))
      (sSeq (sSet 7 (fMut (fLstD (fNil))))
      (sSeq (sFor (fiRg1 (fCons (fC (.int 2)) (fNil))) (tN 8)
      (sSeq (sSet 9 (fFz (fLC [6] (fiRg1 (fCons (fB gLen (fCons (fVar 1) (fNil))) (fNil))) (tN 6) (f2T (gEq) (f2 gIx (fVar 3) (fVar 6)) (fVar 8)) (fVar 6))))
      (sFor (fiSq (fCall q_law_groups (fCons (fFz (fLC [6] (fiSq (fVar 9)) (tN 6) (fYes) (f2 gIx (fVar 1) (fVar 6)))) (fCons (fVar 2) (fNil))))) (tN 10)
      (sDrop (fM "list" gAppend (fVar 7) (fCons (fB gTuple (fCons (fFz (fLC [6] (fiSq (fVar 10)) (tN 6) (fYes) (f2 gIx (fVar 9) (fVar 6)))) (fNil))) (fNil)))))))
      (sSeq (sIf (fNot (fTru (fCall q_law_same (fCons (fCall qclusters_of (fCons (fVar 5) (fCons (fC (.int 19)) (fCons (fVar 2) (fNil))))) (fCons (fB gTuple (fCons (fFz (fBN gSortA (fCons (fVar 7) (fNil)))) (fNil))) (fNil))))))
      (sRet (fC (.bl false)))
      (sNext))
      (sRet (fCall q_law_same (fCons (fCall qclusters_of (fCons (fVar 5) (fCons (fC (.int 20)) (fCons (fVar 2) (fNil))))) (fCons (fCall q_law_groups (fCons (fVar 1) (fCons (fVar 2) (fNil)))) (fNil)))))))))
def c_law_two_right : FnC := runFn false 11 b_law_two_right
abbrev q_law_two_right : FnC := c_law_two_right
theorem hq_law_two_right : ∀ ds M r, q_law_two_right ds M = some r → c_law_two_right ds M = some r := fun _ _ _ h => h
/-- law(script): slots ['script', 'draws', 'k', 'times', 'gaps', 'at', 'minutes', 'catalog', 'time'] -/
def blaw : FS :=
    sSeq (sSet 1 (fCall q_law_draws (fCons (fVar 0) (fCons (fC (.int 520)) (fNil)))))
      (sSeq (sFor (fiRg1 (fCons (fC (.int 3)) (fNil))) (tN 2)
      (sSeq (sSet 3 (fCallS 0 q_law_times (fCons (fVar 1) (fCons (fVar 0) (fCons (fCallS 0 q_law_take (fCons (fVar 1) (fCons (f2 gIx (fFz (fLstD (fCons (fC (.int 6)) (fCons (fC (.int 26)) (fCons (fC (.int 14)) (fNil)))))) (fVar 2)) (fNil)))) (fCons (f2 (gB (gEq)) (fVar 2) (fC (.int 2))) (fNil)))))))
      (sSeq (sSet 4 (f2 gAdd (fFz (fLstD (fCons (fC (.int 0)) (fNil)))) (fFz (fLC [5] (fiRg2 (fCons (fC (.int 1)) (fCons (fB gLen (fCons (fVar 3) (fNil))) (fNil)))) (tN 5) (fYes) (f2 gSub (f2 gIx (fVar 3) (fVar 5)) (f2 gIx (fVar 3) (f2 gSub (fVar 5) (fC (.int 1)))))))))
      (sFor (fiSq (fFz (fLstD (fCons (fCallS 0 q_law_take (fCons (fVar 1) (fCons (fC (.int 6)) (fNil)))) (fCons (fCallS 0 q_law_take (fCons (fVar 1) (fCons (fC (.int 41)) (fNil)))) (fCons (f2 gIx (fVar 4) (fCallS 0 q_law_take (fCons (fVar 1) (fCons (fB gLen (fCons (fVar 4) (fNil))) (fNil))))) (fCons (fB gMax1 (fCons (fVar 4) (fNil))) (fNil)))))))) (tN 6)
      (sIf (fOr (fNot (fTru (fCallS 0 q_law_one_right (fCons (fVar 1) (fCons (fVar 3) (fCons (fVar 6) (fNil))))))) (fNot (fTru (fCallS 0 q_law_two_right (fCons (fVar 1) (fCons (fVar 3) (fCons (fVar 6) (fNil))))))))
      (sRet (fC (.bl false)))
      (sNext))))))
      (sSeq (sSet 3 (fTup (fCons (fC (.int 1)) (fCons (fC (.int 3)) (fCons (fC (.int 3)) (fCons (fC (.int 8)) (fCons (fC (.int 9)) (fNil))))))))
      (sSeq (sSet 7 (fB gTuple (fCons (fFz (fLC [8] (fiSq (fVar 3)) (tN 8) (fYes) (fTup (fCons (fVar 8) (fCons (fTup (fCons (fC (.int 0)) (fCons (fC (.int 0)) (fNil)))) (fCons (fC (.int 2)) (fNil))))))) (fNil))))
      (sSeq (sIf (fOr (fNot (fTru (fCall q_law_same (fCons (fCall qclusters_of (fCons (fVar 7) (fCons (fC (.int 0)) (fCons (fC (.int 2)) (fNil))))) (fCons (fTup (fCons (fTup (fCons (fC (.int 0)) (fCons (fC (.int 1)) (fCons (fC (.int 2)) (fNil))))) (fCons (fTup (fCons (fC (.int 3)) (fCons (fC (.int 4)) (fNil)))) (fNil)))) (fNil)))))) (fOr (fNot (fTru (fCall q_law_same (fCons (fCall qleast_minutes (fCons (fVar 7) (fCons (fC (.int 0)) (fNil)))) (fCons (fC (.int 5)) (fNil)))))) (fNot (fTru (fCall q_law_same (fCons (fCall qthinned_times (fCons (fVar 3) (fCons (fC (.int 2)) (fNil)))) (fCons (fTup (fCons (fC (.int 1)) (fCons (fC (.int 8)) (fNil)))) (fNil))))))))
      (sRet (fC (.bl false)))
      (sNext))
      (sRet (fAndV (fCall q_law_same (fCons (fCall qsteps_of (fCons (fVar 3) (fCons (fC (.int 1)) (fNil)))) (fCons (fTup (fCons (fTup (fCons (fC (.int 1)) (fNil))) (fCons (fTup (fCons (fC (.int 3)) (fCons (fC (.int 3)) (fNil)))) (fCons (fTup (fCons (fC (.int 8)) (fCons (fC (.int 9)) (fNil)))) (fNil))))) (fNil)))) (fCallS 0 q_law_one_right (fCons (fVar 1) (fCons (fTup (fNil)) (fCons (fC (.int 3)) (fNil)))))))))))
def claw : FnC := runFn false 9 blaw
end LP
namespace LP
open PySem PySem.Spec PyProof.Rows L2 PF TL
theorem fin_bl (b : Bool) : fin false 0 (.bl b) [] = some (.bl b, []) := fin_nr rfl rfl
theorem gLen_t (xs : List D) (M : Mem) : gLen [.tup xs] M = some (.int xs.length) := rfl
theorem same_loop {n : Nat} {zs : List (D × D)} {f : D × D → Bool} (h : ∀ z ∈ zs, c_law_same n [z.1, z.2] [] = some (.bl (f z), [])) (h1 : D.nrs (zs.map Prod.fst) = true) (h2 : D.nrs (zs.map Prod.snd) = true) {xs ys : List D} (hx : xs = zs.map Prod.fst) (hy : ys = zs.map Prod.snd) : ∀ (m k : Nat) (x : Option D), k + m = zs.length → ∃ o, sLoop (chk none (rgD 0 zs.length)) (sStep (tN 2) (sIf (fNot (fTru (fCall (c_law_same n) (fCons (f2 gIx (fVar 0) (fVar 2)) (fCons (f2 gIx (fVar 1) (fVar 2)) (fNil))))))
      (sRet (fC (.bl false))) (sNext))) ((List.range m).map fun i => D.int ((k + i : Nat) : Int)) [some (.tup xs), some (.tup ys), x] [] = some (o, []) ∧ ((zs.drop k).all f = false → o = .ret (.bl false)) ∧ ((zs.drop k).all f = true → ∃ y, o = .nx [some (.tup xs), some (.tup ys), y])
  | 0, k, x, hk => by
    refine ⟨.nx _, by rw [List.range_zero, List.map_nil, sLoop, if_pos (show chk none (rgD 0 zs.length) [] = true from rfl)], fun hh => ?_, fun _ => ⟨_, rfl⟩⟩
    rw [List.drop_eq_nil_of_le (by omega)] at hh; cases hh
  | m + 1, k, x, hk => by
    have hlt : k < zs.length := by omega
    obtain ⟨z, hz⟩ : ∃ z, zs[k]? = some z := ⟨_, List.getElem?_eq_getElem hlt⟩
    have hm : z ∈ zs := List.mem_of_getElem? hz
    have e := h z hm
    have a1 : L2.atI xs (k : Int) = some z.1 := at_nat (by rw [hx, List.getElem?_map, hz]; rfl)
    have a2 : L2.atI ys (k : Int) = some z.2 := at_nat (by rw [hy, List.getElem?_map, hz]; rfl)
    have n1 : z.1.nr = true := by
      have : ∀ {l : List D} {d : D}, D.nrs l = true → d ∈ l → d.nr = true := by
        intro l
        induction l with
        | nil => intro d _ h; cases h
        | cons y l ih =>
          intro d hn hd
          rw [D.nrs, Bool.and_eq_true] at hn
          rcases List.mem_cons.mp hd with rfl | hd
          · exact hn.1
          · exact ih hn.2 hd
      exact this h1 (List.mem_map_of_mem hm)
    have n2 : z.2.nr = true := by
      have : ∀ {l : List D} {d : D}, D.nrs l = true → d ∈ l → d.nr = true := by
        intro l
        induction l with
        | nil => intro d _ h; cases h
        | cons y l ih =>
          intro d hn hd
          rw [D.nrs, Bool.and_eq_true] at hn
          rcases List.mem_cons.mp hd with rfl | hd
          · exact hn.1
          · exact ih hn.2 hd
      exact this h2 (List.mem_map_of_mem hm)
    have hc : callP (c_law_same n) [z.1, z.2] [] = some (.bl (f z), []) := p_v (cR := eB) (av_d n1 (av_d n2 av_nil)) e
    have hd : zs.drop k = z :: zs.drop (k + 1) := by
      obtain ⟨hl, he⟩ := List.getElem?_eq_some_iff.mp hz
      rw [List.drop_eq_getElem_cons hl, he]
    obtain ⟨o, i1, i2, i3⟩ := same_loop h h1 h2 hx hy m (k + 1) (some (.int k)) (by omega)
    have er : (List.range (m + 1)).map (fun i => D.int ((k + i : Nat) : Int)) = .int k :: (List.range m).map fun i => D.int ((k + 1 + i : Nat) : Int) := by
      rw [List.range_succ_eq_map, List.map_cons, List.map_map]
      congr 1
      exact List.map_congr_left fun i _ => by show D.int ((k + (i + 1) : Nat) : Int) = _; rw [show k + (i + 1) = k + 1 + i by omega]
    rw [er, sLoop, if_pos (show chk none (rgD 0 zs.length) [] = true from rfl)]
    have st : sStep (tN 2) (sIf (fNot (fTru (fCall (c_law_same n) (fCons (f2 gIx (fVar 0) (fVar 2)) (fCons (f2 gIx (fVar 1) (fVar 2)) (fNil))))))
      (sRet (fC (.bl false))) (sNext)) (.int k) [some (.tup xs), some (.tup ys), x] [] = if f z = true then some (.nx [some (.tup xs), some (.tup ys), some (.int k)], []) else some (.ret (.bl false), []) := by
      simp [a1, a2, hc]
      cases f z <;> rfl
    rw [st]
    cases hf : f z with
    | true =>
      refine ⟨o, i1, fun hh => i2 ?_, fun hh => i3 ?_⟩
      · rw [hd, List.all_cons, hf, Bool.true_and] at hh; exact hh
      · rw [hd, List.all_cons, hf, Bool.true_and] at hh; exact hh
    | false =>
      refine ⟨_, rfl, fun _ => rfl, fun hh => ?_⟩
      rw [hd, List.all_cons, hf] at hh; cases hh
theorem same_fn : SameFn c_law_same where
  bl := fun n a b => by cases a <;> cases b <;> simp [c_law_same, b_law_same, runFn, startR, isi, tyOf, isNn, fin, Mem.nr, D.nr, gEq, D.val, D.dp, D.py, PyData.eqv]
  int := fun n a b => by simp [c_law_same, b_law_same, runFn, startR, isi, tyOf, isNn, fin, Mem.nr, D.nr]
  str := fun n a b h1 h2 => by
    have e : gEq (.str a) (.str b) [] = some (decide (a = b)) := by
      unfold gEq
      simp [D.val, D.dp, D.py, h1, h2, PyData.eqv]
      by_cases h : a = b <;> simp [h]
    simp [c_law_same, b_law_same, runFn, startR, isi, tyOf, isNn, fin, Mem.nr, D.nr, e]
  nn := fun n d h => by simp [c_law_same, b_law_same, runFn, startR, isi, tyOf, isNn, fin, Mem.nr, D.nr]
  nx := fun n d h hl hn => by
    have e0 : (D.non).nr = true := rfl
    cases d with
    | non => cases hn
    | ref _ => cases h
    | lst _ => rw [D.nl] at hl; cases hl
    | kst _ => rw [D.nl] at hl; cases hl
    | bl b => simp [c_law_same, b_law_same, runFn, startR, isi, tyOf, isNn, fin, Mem.nr, D.nr]
    | int b => simp [c_law_same, b_law_same, runFn, startR, isi, tyOf, isNn, fin, Mem.nr, D.nr]
    | str b => simp [c_law_same, b_law_same, runFn, startR, isi, tyOf, isNn, fin, Mem.nr, D.nr]
    | tup b => simp [c_law_same, b_law_same, runFn, startR, isi, tyOf, isNn, fin, Mem.nr, D.nr]
  tn := fun n xs ys h1 h2 hl => by
    have hl2 : ¬ ((xs.length : Int) = ys.length) := by omega
    simp [c_law_same, b_law_same, runFn, startR, isi, tyOf, isNn, fin, Mem.nr, D.nr, hl2, hl]
  tt := fun n zs f hlen h1 h2 hz => by
    have ok : okR 0 (zs.length : Int) = true := okR_of (by omega) (by omega) (by omega) (by omega)
    obtain ⟨o, e, e2, e3⟩ := same_loop hz h1 h2 rfl rfl zs.length 0 none (by omega)
    have er : (List.range zs.length).map (fun i => D.int ((0 + i : Nat) : Int)) = rgD 0 zs.length := by
      unfold rgD
      exact List.map_congr_left fun i _ => by rw [Nat.zero_add, Int.zero_add]
    rw [er] at e
    rw [List.drop_zero] at e2 e3
    cases hf : zs.all f with
    | false =>
      rw [e2 hf] at e
      simp [c_law_same, b_law_same, runFn, startR, isi, tyOf, isNn, gIs, ev_rgh1 _ ok, e, fin, Mem.nr, D.nr]
    | true =>
      obtain ⟨y, rfl⟩ := e3 hf
      simp [c_law_same, b_law_same, runFn, startR, isi, tyOf, isNn, gIs, ev_rgh1 _ ok, e, fin, Mem.nr, D.nr]
theorem p_same {A : Type} {n : Nat} {c : Ec A} {ok : A → Bool} [DecidableEq A] [t : Sm n c ok] [o : OkAll ok] {M : Mem} (a b : A) (hn : Nat.ble n 12 = true := by decide) : callP q_law_same [c.e a, c.e b] M = some (eB.e (decide (a = b)), M) := p_sameG rfl same_fn (o.t a) (o.t b) hn
theorem p_sameT {A : Type} {n : Nat} {c : Ec A} {ok : A → Bool} [DecidableEq A] [t : Sm n c ok] {M : Mem} {a b : A} {r : Bool} (h : tsame ok a b = some r) (hn : Nat.ble n 12 = true := by decide) : callP q_law_same [c.e a, c.e b] M = some (eB.e r, M) := p_sameG2 rfl same_fn h hn
end LP
namespace LP
open PySem PySem.Spec PyProof.Rows L2 PF TL
/-- _law_draws(v_script: script[int], v_many: int) -> list[int] -/
def t_law_draws (v_script : (List Int)) (v_many : Int) : Option (List Int) :=
  tlet ((List.map (fun (cell_1 : Int) => cell_1) v_script)) fun cells_2 =>
  Option.bind (α := (List Int)) (if (decide ((List.length cells_2 : Int) = (0 : Int))) = true then (Option.bind (tapp cells_2 ((0 : Int))) fun cells_4 => some cells_4) else (some cells_2)) fun s_3 =>
  Option.bind (trg ((0 : Int)) v_many) fun r_5 =>
  Option.bind (α := ((List Int) × (List Int))) (tfold (fun (k_10 : Int) (s_6 : ((List Int) × (List Int))) => Option.bind (tmod k_10 ((List.length s_3 : Int))) fun m_11 => Option.bind (tat s_3 m_11) fun x_12 => Option.bind (if (decide (x_12 ≥ ((10 : Int) ^ 18))) = true then Option.bind (tat s_6.1 m_11) fun x_13 => some ((decide (x_13 > (0 : Int)))) else some false) fun w_14 => Option.bind (α := ((List Int) × (List Int))) (if w_14 = true then (Option.bind (tat s_6.1 m_11) fun x_17 => Option.bind (tapp s_6.2 ((Int.fmod x_17 ((1000 : Int))))) fun draws_18 => Option.bind (tat s_6.1 m_11) fun x_19 => Option.bind (tset s_6.1 m_11 ((Int.fdiv x_19 ((1000 : Int))))) fun a_20 => some ((a_20, draws_18))) else (Option.bind (tat s_3 m_11) fun x_21 => tlet ((Int.fmod ((((x_21 * (48271 : Int)) + (k_10 * (69621 : Int))) + (11 : Int))) ((2147483647 : Int)))) fun once_22 => Option.bind (tmul once_22 once_22) fun m_23 => Option.bind (tapp s_6.2 ((Int.fmod (((m_23 + ((3 : Int) * once_22)) + k_10)) ((1000003 : Int))))) fun draws_24 => some ((s_6.1, draws_24)))) fun s_15 => some ((s_15.1, s_15.2))) r_5 ((s_3, ([] : (List Int))))) fun s_25 =>
  some ((List.reverse s_25.2))
/-- _law_take(v_draws: list[int], v_many: int) -> int -/
def t_law_take (v_draws : (List Int)) (v_many : Int) : Option (Int × List Int) :=
  if (decide ((List.length v_draws : Int) = (0 : Int))) = true then (some (((0 : Int), v_draws))) else
  Option.bind (tpop v_draws) fun p_1 =>
  Option.bind (tmod p_1.1 v_many) fun m_2 =>
  some ((m_2, p_1.2))
/-- _law_size(v_draws: list[int], v_script: script[int]) -> int -/
def t_law_size (v_draws : (List Int)) (v_script : (List Int)) : Option (Int × List Int) :=
  Option.bind (t_law_take v_draws ((4 : Int))) fun y_1 =>
  Option.bind (t_law_take y_1.2 ((1000 : Int))) fun y_2 =>
  Option.bind (α := (Int × (List Int))) (if (decide (y_1.1 = (1 : Int))) = true then (Option.bind (t_law_take y_2.2 ((1000 : Int))) fun y_4 => tlet ((y_2.1 + (((1 : Int) + y_4.1) * ((10 : Int) ^ 15)))) fun number_5 => some ((number_5, y_4.2))) else (some ((y_2.1, y_2.2)))) fun s_3 =>
  Option.bind (α := (Int × (List Int))) (if ((decide (y_1.1 = (2 : Int))) && (decide ((List.length v_script : Int) > (0 : Int)))) = true then (Option.bind (t_law_take s_3.2 ((List.length v_script : Int))) fun y_7 => Option.bind (tat v_script y_7.1) fun x_8 => tlet ((s_3.1 + (Int.fmod ((Int.natAbs x_8 : Int)) (((10 : Int) ^ 60))))) fun number_9 => some ((number_9, y_7.2))) else (some ((s_3.1, s_3.2)))) fun s_6 =>
  Option.bind (α := (Int × (List Int))) (if (decide (y_1.1 = (3 : Int))) = true then (Option.bind (t_law_take s_6.2 ((1000 : Int))) fun y_11 => tlet (((s_6.1 * (1000 : Int)) + y_11.1)) fun number_12 => some ((number_12, y_11.2))) else (some ((s_6.1, s_6.2)))) fun s_10 =>
  some ((s_10.1, s_10.2))
/-- _law_times(v_draws: list[int], v_script: script[int], v_many: int, v_great: bool) -> tuple[int] -/
def t_law_times (v_draws : (List Int)) (v_script : (List Int)) (v_many : Int) (v_great : Bool) : Option ((List Int) × List Int) :=
  Option.bind (t_law_take v_draws ((40 : Int))) fun y_1 =>
  tlet ((y_1.1 - (20 : Int))) fun at_2 =>
  Option.bind (trg ((0 : Int)) v_many) fun r_3 =>
  Option.bind (α := (Int × (List Int) × (List Int))) (tfold (fun (k_6 : Int) (s_4 : (Int × (List Int) × (List Int))) => Option.bind (t_law_take s_4.2.1 ((3 : Int))) fun y_7 => Option.bind (t_law_take y_7.2 ((30 : Int))) fun y_8 => Option.bind (t_law_take y_8.2 ((3 : Int))) fun y_9 => Option.bind (tat ([(0 : Int), y_7.1, y_8.1]) y_9.1) fun x_10 => Option.bind (if v_great = true then Option.bind (t_law_take y_9.2 ((6 : Int))) fun y_11 => some ((decide (y_11.1 = (0 : Int))), y_11.2) else some (false, y_9.2)) fun w_13 => Option.bind (t_law_size w_13.2 v_script) fun y_14 => Option.bind (tmul ((if w_13.1 = true then (1 : Int) else 0)) ((Int.fmod y_14.1 (((10 : Int) ^ 26))))) fun m_15 => tlet (((s_4.1 + x_10) + m_15)) fun at_16 => Option.bind (tapp s_4.2.2 at_16) fun found_17 => some ((at_16, y_14.2, found_17))) r_3 ((at_2, y_1.2, ([] : (List Int))))) fun s_18 =>
  some ((s_18.2.2, s_18.2.1))
/-- _law_groups(v_times: tuple[int], v_minutes: int) -> tuple[tuple[int]] -/
def t_law_groups (v_times : (List Int)) (v_minutes : Int) : Option (List (List Int)) :=
  Option.bind (trg ((0 : Int)) ((List.length v_times : Int))) fun r_1 =>
  Option.bind (α := (List (List Int))) (tfold (fun (k_4 : Int) (s_2 : (List (List Int))) => Option.bind (if (decide (k_4 > (0 : Int))) = true then Option.bind (tat v_times k_4) fun x_5 => Option.bind (tat v_times ((k_4 - (1 : Int)))) fun x_6 => some ((decide ((x_5 - x_6) ≤ v_minutes))) else some false) fun w_7 => Option.bind (α := (List (List Int))) (if w_7 = true then (Option.bind (tat s_2 ((-1 : Int))) fun x_9 => Option.bind (tcat x_9 ([k_4])) fun w_10 => Option.bind (tset s_2 ((-1 : Int)) w_10) fun a_11 => some a_11) else (Option.bind (tapp s_2 ([k_4])) fun found_12 => some found_12)) fun s_8 => some s_8) r_1 (([] : (List (List Int))))) fun s_13 =>
  some s_13
/-- how_far(v_one: (int, int), v_other: (int, int)) -> int -/
def t_how_far (v_one : (Int × Int)) (v_other : (Int × Int)) : Option Int :=
  some (((Int.natAbs ((v_one.1 - v_other.1)) : Int) + (Int.natAbs ((v_one.2 - v_other.2)) : Int)))
def p_how_far (v_one : (Int × Int)) (v_other : (Int × Int)) : Int :=
  (((Int.natAbs ((v_one.1 - v_other.1)) : Int) + (Int.natAbs ((v_one.2 - v_other.2)) : Int)))
theorem tp_how_far (v_one : (Int × Int)) (v_other : (Int × Int)) : t_how_far v_one v_other = some (p_how_far v_one v_other) := by
  unfold t_how_far p_how_far
  first | rfl | (simp only [tlet_eq]; done) | (simp only [tlet_eq]; repeat' split) <;> rfl
/-- are_linked(v_one: (int, (int, int), int), v_other: (int, (int, int), int), v_far: int, v_minutes: int) -> bool -/
def t_are_linked (v_one : (Int × (Int × Int) × Int)) (v_other : (Int × (Int × Int) × Int)) (v_far : Int) (v_minutes : Int) : Option Bool :=
  some (((decide ((p_how_far v_one.2.1 v_other.2.1) ≤ v_far)) && (decide ((Int.natAbs ((v_one.1 - v_other.1)) : Int) ≤ v_minutes))))
def p_are_linked (v_one : (Int × (Int × Int) × Int)) (v_other : (Int × (Int × Int) × Int)) (v_far : Int) (v_minutes : Int) : Bool :=
  (((decide ((p_how_far v_one.2.1 v_other.2.1) ≤ v_far)) && (decide ((Int.natAbs ((v_one.1 - v_other.1)) : Int) ≤ v_minutes))))
theorem tp_are_linked (v_one : (Int × (Int × Int) × Int)) (v_other : (Int × (Int × Int) × Int)) (v_far : Int) (v_minutes : Int) : t_are_linked v_one v_other v_far v_minutes = some (p_are_linked v_one v_other v_far v_minutes) := by
  unfold t_are_linked p_are_linked
  first | rfl | (simp only [tlet_eq]; done) | (simp only [tlet_eq]; repeat' split) <;> rfl
/-- put_together(v_tops: list[int], v_one: int, v_other: int) -> list[int] -/
def t_put_together (v_tops : (List Int)) (v_one : Int) (v_other : Int) : Option (List Int) :=
  Option.bind (tat v_tops v_one) fun x_1 =>
  Option.bind (tat v_tops v_other) fun x_2 =>
  Option.bind (tat v_tops v_one) fun x_3 =>
  Option.bind (tat v_tops v_other) fun x_4 =>
  tlet (((min x_1 x_2), (max x_3 x_4))) fun e_5 =>
  some ((List.map (fun (top_6 : Int) => (if (decide (top_6 = e_5.2)) = true then e_5.1 else top_6)) v_tops))
/-- clusters_of(v_catalog: tuple[(int, (int, int), int)], v_far: int, v_minutes: int) -> tuple[tuple[int]] -/
def t_clusters_of (v_catalog : (List (Int × (Int × Int) × Int))) (v_far : Int) (v_minutes : Int) : Option (List (List Int)) :=
  Option.bind (trg ((0 : Int)) ((List.length v_catalog : Int))) fun r_1 =>
  Option.bind (trg ((0 : Int)) ((List.length v_catalog : Int))) fun r_2 =>
  Option.bind (α := (List Int)) (tfold (fun (one_6 : Int) (s_3 : (List Int)) => Option.bind (trg ((0 : Int)) one_6) fun r_7 => Option.bind (α := (List Int)) (tfold (fun (other_10 : Int) (s_8 : (List Int)) => Option.bind (tat s_8 one_6) fun x_11 => Option.bind (tat s_8 other_10) fun x_12 => Option.bind (if (!(decide (x_11 = x_12))) = true then Option.bind (tat v_catalog one_6) fun x_13 => Option.bind (tat v_catalog other_10) fun x_14 => some ((p_are_linked x_13 x_14 v_far v_minutes)) else some false) fun w_15 => Option.bind (α := (List Int)) (if w_15 = true then (Option.bind (t_put_together s_8 one_6 other_10) fun y_17 => some y_17) else (some s_8)) fun s_16 => some s_16) r_7 s_3) fun s_18 => some s_18) r_2 r_1) fun s_20 =>
  Option.bind (tsortU s_20) fun u_23 =>
  Option.bind (tmap (fun (top_24 : Int) => Option.bind (trg ((0 : Int)) ((List.length s_20 : Int))) fun r_25 => Option.bind (tfilt (fun (at_26 : Int) => Option.bind (tat s_20 at_26) fun x_27 => some ((decide (x_27 = top_24)))) r_25) fun z_28 => some ((List.map (fun (at_26 : Int) => at_26) z_28))) u_23) fun l_29 =>
  some l_29
/-- main_of(v_catalog: tuple[(int, (int, int), int)], v_cluster: tuple[int]) -> int -/
def t_main_of (v_catalog : (List (Int × (Int × Int) × Int))) (v_cluster : (List Int)) : Option Int :=
  Option.bind (tmap (fun (at_1 : Int) => Option.bind (tat v_catalog at_1) fun x_2 => Option.bind (tat v_catalog at_1) fun x_3 => Option.bind (tat v_catalog at_1) fun x_4 => some (((-x_2.2.2), x_3.1, x_4.2.1, at_1))) v_cluster) fun l_5 =>
  Option.bind (tmin (lx (fun a b : Int => decide (a < b)) (lx (fun a b : Int => decide (a < b)) (lx (lx (fun a b : Int => decide (a < b)) (fun a b : Int => decide (a < b))) (fun a b : Int => decide (a < b))))) l_5) fun min_6 =>
  some min_6.2.2.2
/-- main_shocks(v_catalog: tuple[(int, (int, int), int)], v_far: int, v_minutes: int) -> tuple[int] -/
def t_main_shocks (v_catalog : (List (Int × (Int × Int) × Int))) (v_far : Int) (v_minutes : Int) : Option (List Int) :=
  Option.bind (t_clusters_of v_catalog v_far v_minutes) fun y_1 =>
  Option.bind (tmap (fun (cluster_2 : (List Int)) => Option.bind (t_main_of v_catalog cluster_2) fun y_3 => some (y_3)) y_1) fun l_4 =>
  some l_4
/-- gaps_of(v_times: tuple[int]) -> tuple[int] -/
def t_gaps_of (v_times : (List Int)) : Option (List Int) :=
  Option.bind (trg ((0 : Int)) (((List.length v_times : Int) - (1 : Int)))) fun r_1 =>
  Option.bind (tmap (fun (at_2 : Int) => Option.bind (tat v_times ((at_2 + (1 : Int)))) fun x_3 => Option.bind (tat v_times at_2) fun x_4 => some ((x_3 - x_4))) r_1) fun l_5 =>
  some l_5
/-- least_minutes(v_catalog: tuple[(int, (int, int), int)], v_far: int) -> int? -/
def t_least_minutes (v_catalog : (List (Int × (Int × Int) × Int))) (v_far : Int) : Option (Option Int) :=
  Option.bind (trg ((0 : Int)) ((List.length v_catalog : Int))) fun r_1 =>
  Option.bind (α := (List (Int × Int × Int))) (tfold (fun (one_5 : Int) (s_2 : (List (Int × Int × Int))) => Option.bind (trg ((0 : Int)) one_5) fun r_6 => Option.bind (α := (List (Int × Int × Int))) (tfold (fun (other_9 : Int) (s_7 : (List (Int × Int × Int))) => Option.bind (tat v_catalog one_5) fun x_10 => Option.bind (tat v_catalog other_9) fun x_11 => Option.bind (α := (List (Int × Int × Int))) (if (decide ((p_how_far x_10.2.1 x_11.2.1) ≤ v_far)) = true then (Option.bind (tat v_catalog one_5) fun x_13 => Option.bind (tat v_catalog other_9) fun x_14 => Option.bind (tapp s_7 (((Int.natAbs ((x_13.1 - x_14.1)) : Int), one_5, other_9))) fun links_15 => some links_15) else (some s_7)) fun s_12 => some s_12) r_6 s_2) fun s_16 => some s_16) r_1 (([] : (List (Int × Int × Int))))) fun s_18 =>
  Option.bind (trg ((0 : Int)) ((List.length v_catalog : Int))) fun r_21 =>
  Option.bind (α := ((List Int) × Int)) (tfold (fun (e_26 : (Int × Int × Int)) (s_22 : ((List Int) × Int)) => Option.bind (tat s_22.1 e_26.2.1) fun x_27 => Option.bind (tat s_22.1 e_26.2.2) fun x_28 => Option.bind (α := ((List Int) × Int)) (if (!(decide (x_27 = x_28))) = true then (Option.bind (t_put_together s_22.1 e_26.2.1 e_26.2.2) fun y_30 => some ((y_30, e_26.1))) else (some ((s_22.1, s_22.2)))) fun s_29 => some ((s_29.1, s_29.2))) ((tsort (lx (fun a b : Int => decide (a < b)) (lx (fun a b : Int => decide (a < b)) (fun a b : Int => decide (a < b)))) s_18)) ((r_21, (0 : Int)))) fun s_31 =>
  Option.bind (tlenU s_31.1) fun u_35 =>
  some ((if (decide (u_35 < (2 : Int))) = true then (some s_31.2) else none))
/-- steps_of(v_minutes: tuple[int], v_wide: int) -> tuple[tuple[int]] -/
def t_steps_of (v_minutes : (List Int)) (v_wide : Int) : Option (List (List Int)) :=
  Option.bind (α := (List (List Int))) (tfold (fun (minute_3 : Int) (s_1 : (List (List Int))) => Option.bind (if (decide ((List.length s_1 : Int) > (0 : Int))) = true then Option.bind (tat s_1 ((-1 : Int))) fun x_4 => Option.bind (tat x_4 ((-1 : Int))) fun x_5 => some ((decide ((minute_3 - x_5) ≤ v_wide))) else some false) fun w_6 => Option.bind (α := (List (List Int))) (if w_6 = true then (Option.bind (tat s_1 ((-1 : Int))) fun x_8 => Option.bind (tcat x_8 ([minute_3])) fun w_9 => Option.bind (tset s_1 ((-1 : Int)) w_9) fun a_10 => some a_10) else (Option.bind (tapp s_1 ([minute_3])) fun found_11 => some found_11)) fun s_7 => some s_7) ((tsort (fun a b : Int => decide (a < b)) v_minutes)) (([] : (List (List Int))))) fun s_12 =>
  some s_12
/-- thinned_times(v_times: tuple[int], v_dead: int) -> tuple[int] -/
def t_thinned_times (v_times : (List Int)) (v_dead : Int) : Option (List Int) :=
  Option.bind (α := (List Int)) (tfold (fun (time_3 : Int) (s_1 : (List Int)) => Option.bind (if (decide ((List.length s_1 : Int) = (0 : Int))) = true then some true else Option.bind (tat s_1 ((-1 : Int))) fun x_4 => some ((decide ((time_3 - x_4) > v_dead)))) fun w_5 => Option.bind (α := (List Int)) (if w_5 = true then (Option.bind (tcat s_1 ([time_3])) fun found_7 => some found_7) else (some s_1)) fun s_6 => some s_6) v_times (([] : (List Int)))) fun s_8 =>
  some s_8
/-- count_in(v_times: tuple[int], v_begin: int, v_end: int) -> int -/
def t_count_in (v_times : (List Int)) (v_begin : Int) (v_end : Int) : Option Int :=
  some ((List.length ((List.map (fun (time_1 : Int) => (1 : Int)) ((List.filter (fun (time_1 : Int) => ((decide (v_begin ≤ time_1)) && (decide (time_1 < v_end)))) v_times)))) : Int))
def p_count_in (v_times : (List Int)) (v_begin : Int) (v_end : Int) : Int :=
  ((List.length ((List.map (fun (time_1 : Int) => (1 : Int)) ((List.filter (fun (time_1 : Int) => ((decide (v_begin ≤ time_1)) && (decide (time_1 < v_end)))) v_times)))) : Int))
theorem tp_count_in (v_times : (List Int)) (v_begin : Int) (v_end : Int) : t_count_in v_times v_begin v_end = some (p_count_in v_times v_begin v_end) := by
  unfold t_count_in p_count_in
  first | rfl | (simp only [tlet_eq]; done) | (simp only [tlet_eq]; repeat' split) <;> rfl
/-- most_in(v_times: tuple[int], v_wide: int) -> (int, int)? -/
def t_most_in (v_times : (List Int)) (v_wide : Int) : Option (Option (Int × Int)) :=
  tlet ((List.map (fun (time_1 : Int) => ((-((p_count_in v_times time_1 ((time_1 + v_wide))))), time_1)) v_times)) fun told_2 =>
  if (decide ((List.length told_2 : Int) = (0 : Int))) = true then (some none) else
  Option.bind (tmin (lx (fun a b : Int => decide (a < b)) (fun a b : Int => decide (a < b))) told_2) fun min_3 =>
  some ((some (((-min_3.1), min_3.2))))
/-- longest_quiet(v_times: tuple[int], v_begin: int, v_end: int) -> (int, int) -/
def t_longest_quiet (v_times : (List Int)) (v_begin : Int) (v_end : Int) : Option (Int × Int) :=
  tlet ((v_begin, v_begin)) fun best_1 =>
  Option.bind (tcat ((List.map (fun (own_2 : Int) => own_2) ((List.filter (fun (own_2 : Int) => ((decide (v_begin ≤ own_2)) && (decide (own_2 < v_end)))) v_times)))) ([v_end])) fun w_3 =>
  Option.bind (α := ((Int × Int) × Int)) (tfold (fun (time_6 : Int) (s_4 : ((Int × Int) × Int)) => Option.bind (α := (Int × Int)) (if (decide ((time_6 - s_4.2) > (s_4.1.2 - s_4.1.1))) = true then (tlet ((s_4.2, time_6)) fun best_8 => some best_8) else (some s_4.1)) fun s_7 => tlet ((max s_4.2 ((time_6 + (1 : Int))))) fun here_9 => some ((s_7, here_9))) w_3 ((best_1, v_begin))) fun s_10 =>
  some s_10.1
/-- before_and_after(v_catalog: tuple[(int, (int, int), int)], v_far: int, v_minutes: int) -> tuple[(int, int)] -/
def t_before_and_after (v_catalog : (List (Int × (Int × Int) × Int))) (v_far : Int) (v_minutes : Int) : Option (List (Int × Int)) :=
  Option.bind (t_clusters_of v_catalog v_far v_minutes) fun y_1 =>
  Option.bind (α := (List (Int × Int))) (tfold (fun (cluster_6 : (List Int)) (s_2 : (List (Int × Int))) => Option.bind (t_main_of v_catalog cluster_6) fun y_7 => Option.bind (tat v_catalog y_7) fun x_8 => Option.bind (tfilt (fun (at_9 : Int) => Option.bind (tat v_catalog at_9) fun x_10 => some ((decide (x_10.1 < x_8.1)))) cluster_6) fun z_11 => tlet ((List.length ((List.map (fun (at_9 : Int) => (1 : Int)) z_11)) : Int)) fun before_12 => Option.bind (tfilt (fun (at_13 : Int) => Option.bind (tat v_catalog at_13) fun x_14 => some ((decide (x_14.1 > x_8.1)))) cluster_6) fun z_15 => Option.bind (tapp s_2 ((before_12, (List.length ((List.map (fun (at_13 : Int) => (1 : Int)) z_15)) : Int)))) fun found_16 => some found_16) y_1 (([] : (List (Int × Int))))) fun s_17 =>
  some s_17
/-- thinned(v_catalog: tuple[(int, (int, int), int)], v_far: int, v_minutes: int) -> tuple[(int, (int, int), int)] -/
def t_thinned (v_catalog : (List (Int × (Int × Int) × Int))) (v_far : Int) (v_minutes : Int) : Option (List (Int × (Int × Int) × Int)) :=
  Option.bind (t_main_shocks v_catalog v_far v_minutes) fun y_1 =>
  Option.bind (tmap (fun (at_2 : Int) => Option.bind (tat v_catalog at_2) fun x_3 => some (x_3)) y_1) fun l_4 =>
  some ((tsort (lx (fun a b : Int => decide (a < b)) (lx (lx (fun a b : Int => decide (a < b)) (fun a b : Int => decide (a < b))) (fun a b : Int => decide (a < b)))) l_4))
/-- _law_one_right(v_draws: list[int], v_times: tuple[int], v_minutes: int) -> bool -/
def t_law_one_right (v_draws : (List Int)) (v_times : (List Int)) (v_minutes : Int) : Option (Bool × List Int) :=
  tlet ((List.map (fun (time_1 : Int) => (time_1, ((3 : Int), (4 : Int)), (5 : Int))) v_times)) fun catalog_2 =>
  Option.bind (t_law_groups v_times v_minutes) fun y_3 =>
  Option.bind (t_law_take v_draws ((9 : Int))) fun y_4 =>
  Option.bind (t_clusters_of catalog_2 y_4.1 v_minutes) fun y_5 =>
  Option.bind (tsame (okV (okV okA)) y_5 y_3) fun q_6 =>
  Option.bind (if (!q_6) = true then some true else Option.bind (t_main_shocks catalog_2 y_4.1 v_minutes) fun y_7 => Option.bind (tmap (fun (group_8 : (List Int)) => Option.bind (tat group_8 ((0 : Int))) fun x_9 => some (x_9)) y_3) fun l_10 => Option.bind (tsame (okV okA) y_7 l_10) fun q_11 => some ((!q_11))) fun w_12 =>
  if w_12 = true then (some ((false, y_4.2))) else
  Option.bind (t_gaps_of v_times) fun y_13 =>
  if ((!true) || (!(decide ((List.length y_13 : Int) = (max ((0 : Int)) (((List.length v_times : Int) - (1 : Int)))))))) = true then (some ((false, y_4.2))) else
  if ((decide ((List.length v_times : Int) > (0 : Int))) && (!(decide ((List.length y_3 : Int) = ((1 : Int) + (List.length ((List.map (fun (gap_14 : Int) => gap_14) ((List.filter (fun (gap_14 : Int) => (decide (gap_14 > v_minutes))) y_13)))) : Int)))))) = true then (some ((false, y_4.2))) else
  Option.bind (t_least_minutes catalog_2 y_4.1) fun y_15 =>
  Option.bind (tcat ([((0 : Int))]) y_13) fun w_16 =>
  Option.bind (tmax (fun a b : Int => decide (a < b)) w_16) fun max_17 =>
  if (!((decide (y_15 = (some max_17))))) = true then (some ((false, y_4.2))) else
  Option.bind (t_steps_of v_times v_minutes) fun y_18 =>
  Option.bind (tmap (fun (group_19 : (List Int)) => Option.bind (tmap (fun (k_20 : Int) => Option.bind (tat v_times k_20) fun x_21 => some (x_21)) group_19) fun l_22 => some (l_22)) y_3) fun l_23 =>
  Option.bind (tsame (okV (okV okA)) y_18 l_23) fun q_24 =>
  if (!q_24) = true then (some ((false, y_4.2))) else
  Option.bind (t_thinned_times v_times v_minutes) fun y_25 =>
  Option.bind (if (!true) = true then some true else Option.bind (tfilt (fun (group_26 : (List Int)) => Option.bind (tat group_26 ((0 : Int))) fun x_27 => Option.bind (tat v_times x_27) fun x_28 => some ((!(tin x_28 y_25)))) y_3) fun z_29 => some ((decide ((List.length ((List.map (fun (group_26 : (List Int)) => group_26) z_29)) : Int) > (0 : Int))))) fun w_30 =>
  if w_30 = true then (some ((false, y_4.2))) else
  Option.bind (trg ((1 : Int)) ((List.length y_25 : Int))) fun r_31 =>
  Option.bind (tfilt (fun (k_32 : Int) => Option.bind (tat y_25 k_32) fun x_33 => Option.bind (tat y_25 ((k_32 - (1 : Int)))) fun x_34 => some ((decide ((x_33 - x_34) ≤ v_minutes)))) r_31) fun z_35 =>
  if (decide ((List.length ((List.map (fun (k_32 : Int) => k_32) z_35)) : Int) > (0 : Int))) = true then (some ((false, y_4.2))) else
  Option.bind (α := Ex (Bool × (List Int)) Unit) (if (decide ((List.length v_times : Int) > (0 : Int))) = true then (Option.bind (t_most_in v_times ((v_minutes + (1 : Int)))) fun y_39 => Option.bind (if (!((Option.isSome y_39))) = true then some true else Option.bind (y_39) fun w_40 => Option.bind (tmax (fun a b : Int => decide (a < b)) ((List.map (fun (group_41 : (List Int)) => (List.length group_41 : Int)) y_3))) fun max_42 => some ((decide (w_40.1 > max_42)))) fun w_43 => if w_43 = true then (some ((Ex.ex ((false, y_4.2))))) else Option.bind (tat v_times ((0 : Int))) fun x_44 => Option.bind (tat v_times ((-1 : Int))) fun x_45 => Option.bind (t_longest_quiet v_times x_44 ((x_45 + (1 : Int)))) fun y_46 => Option.bind (if (!true) = true then some true else Option.bind (if (!(decide ((2 : Int) = (2 : Int)))) = true then some true else Option.bind (tcat ([(0 : Int)]) ((List.map (fun (gap_47 : Int) => (gap_47 - (1 : Int))) y_13))) fun w_48 => Option.bind (tmax (fun a b : Int => decide (a < b)) w_48) fun max_49 => some ((!(decide ((y_46.2 - y_46.1) = max_49))))) fun w_50 => some (w_50)) fun w_51 => if w_51 = true then (some ((Ex.ex ((false, y_4.2))))) else some (Ex.go (()))) else (some (Ex.go (())))) fun r_96 => Ex.cas r_96 (fun e => some e) fun s_36 =>
  Option.bind (tmapS (fun (time_52 : Int) (s_54 : (List Int)) => Option.bind (t_law_take s_54 ((4 : Int))) fun y_55 => some (y_55.1, y_55.2)) v_times y_4.2) fun l_56 =>
  Option.bind (trg ((0 : Int)) ((List.length v_times : Int))) fun r_59 =>
  Option.bind (tmap (fun (k_60 : Int) => Option.bind (tat v_times k_60) fun x_61 => Option.bind (tat l_56.1 k_60) fun x_62 => some ((x_61, ((0 : Int), (0 : Int)), x_62))) r_59) fun l_63 =>
  Option.bind (α := ((List Int) × (List (Int × Int)))) (tfold (fun (group_67 : (List Int)) (s_64 : ((List Int) × (List (Int × Int)))) => Option.bind (tmap (fun (k_68 : Int) => Option.bind (tat l_56.1 k_68) fun x_69 => Option.bind (tat v_times k_68) fun x_70 => some (((-x_69), x_70, k_68))) group_67) fun l_71 => Option.bind (tmin (lx (fun a b : Int => decide (a < b)) (lx (fun a b : Int => decide (a < b)) (fun a b : Int => decide (a < b)))) l_71) fun min_72 => Option.bind (tapp s_64.1 min_72.2.2) fun mains_73 => Option.bind (tfilt (fun (k_74 : Int) => Option.bind (tat v_times k_74) fun x_75 => Option.bind (tat v_times min_72.2.2) fun x_76 => some ((decide (x_75 < x_76)))) group_67) fun z_77 => Option.bind (tfilt (fun (k_78 : Int) => Option.bind (tat v_times k_78) fun x_79 => Option.bind (tat v_times min_72.2.2) fun x_80 => some ((decide (x_79 > x_80)))) group_67) fun z_81 => Option.bind (tapp s_64.2 (((List.length ((List.map (fun (k_74 : Int) => k_74) z_77)) : Int), (List.length ((List.map (fun (k_78 : Int) => k_78) z_81)) : Int)))) fun sides_82 => some ((mains_73, sides_82))) y_3 ((([] : (List Int)), ([] : (List (Int × Int)))))) fun s_83 =>
  Option.bind (t_main_shocks l_63 y_4.1 v_minutes) fun y_86 =>
  Option.bind (tsame (okV okA) y_86 s_83.1) fun q_87 =>
  Option.bind (if (!q_87) = true then some true else Option.bind (t_before_and_after l_63 y_4.1 v_minutes) fun y_88 => Option.bind (tsame (okV (okP okA okA)) y_88 s_83.2) fun q_89 => some ((!q_89))) fun w_90 =>
  if w_90 = true then (some ((false, l_56.2))) else
  Option.bind (t_thinned l_63 y_4.1 v_minutes) fun y_91 =>
  Option.bind (tmap (fun (k_92 : Int) => Option.bind (tat l_63 k_92) fun x_93 => some (x_93)) s_83.1) fun l_94 =>
  Option.bind (tsame (okV (okP okA (okP (okP okA okA) okA))) y_91 ((tsort (lx (fun a b : Int => decide (a < b)) (lx (lx (fun a b : Int => decide (a < b)) (fun a b : Int => decide (a < b))) (fun a b : Int => decide (a < b)))) l_94))) fun q_95 =>
  some ((q_95, l_56.2))
/-- _law_groups(v_times: list[int], v_minutes: int) -> tuple[tuple[int]] -/
def t_law_groups_1 (v_times : (List Int)) (v_minutes : Int) : Option (List (List Int)) :=
  Option.bind (trg ((0 : Int)) ((List.length v_times : Int))) fun r_1 =>
  Option.bind (α := (List (List Int))) (tfold (fun (k_4 : Int) (s_2 : (List (List Int))) => Option.bind (if (decide (k_4 > (0 : Int))) = true then Option.bind (tat v_times k_4) fun x_5 => Option.bind (tat v_times ((k_4 - (1 : Int)))) fun x_6 => some ((decide ((x_5 - x_6) ≤ v_minutes))) else some false) fun w_7 => Option.bind (α := (List (List Int))) (if w_7 = true then (Option.bind (tat s_2 ((-1 : Int))) fun x_9 => Option.bind (tcat x_9 ([k_4])) fun w_10 => Option.bind (tset s_2 ((-1 : Int)) w_10) fun a_11 => some a_11) else (Option.bind (tapp s_2 ([k_4])) fun found_12 => some found_12)) fun s_8 => some s_8) r_1 (([] : (List (List Int))))) fun s_13 =>
  some s_13
/-- _law_two_right(v_draws: list[int], v_times: tuple[int], v_minutes: int) -> bool -/
def t_law_two_right (v_draws : (List Int)) (v_times : (List Int)) (v_minutes : Int) : Option (Bool × List Int) :=
  Option.bind (tmapS (fun (time_1 : Int) (s_3 : (List Int)) => Option.bind (t_law_take s_3 ((2 : Int))) fun y_4 => some (y_4.1, y_4.2)) v_times v_draws) fun l_5 =>
  Option.bind (trg ((0 : Int)) ((List.length v_times : Int))) fun r_8 =>
  Option.bind (tmap (fun (k_9 : Int) => Option.bind (tat v_times k_9) fun x_10 => Option.bind (tat l_5.1 k_9) fun x_11 => some ((x_10, (((20 : Int) * x_11), (0 : Int)), (1 : Int)))) r_8) fun l_12 =>
  Option.bind (α := (List (List Int))) (tfold (fun (place_17 : Int) (s_13 : (List (List Int))) => Option.bind (trg ((0 : Int)) ((List.length v_times : Int))) fun r_18 => Option.bind (tfilt (fun (k_19 : Int) => Option.bind (tat l_5.1 k_19) fun x_20 => some ((decide (x_20 = place_17)))) r_18) fun z_21 => tlet ((List.map (fun (k_19 : Int) => k_19) z_21)) fun own_22 => Option.bind (tmap (fun (k_23 : Int) => Option.bind (tat v_times k_23) fun x_24 => some (x_24)) own_22) fun l_25 => Option.bind (t_law_groups_1 l_25 v_minutes) fun y_26 => Option.bind (α := (List (List Int))) (tfold (fun (group_29 : (List Int)) (s_27 : (List (List Int))) => Option.bind (tmap (fun (k_30 : Int) => Option.bind (tat own_22 k_30) fun x_31 => some (x_31)) group_29) fun l_32 => Option.bind (tapp s_27 l_32) fun due_33 => some due_33) y_26 s_13) fun s_34 => some s_34) ((upto (0 : Int) 2)) (([] : (List (List Int))))) fun s_36 =>
  Option.bind (t_clusters_of l_12 ((19 : Int)) v_minutes) fun y_40 =>
  Option.bind (tsortN (ltV (fun a b : Int => decide (a < b))) s_36) fun u_41 =>
  Option.bind (tsame (okV (okV okA)) y_40 u_41) fun q_42 =>
  if (!q_42) = true then (some ((false, l_5.2))) else
  Option.bind (t_clusters_of l_12 ((20 : Int)) v_minutes) fun y_43 =>
  Option.bind (t_law_groups v_times v_minutes) fun y_44 =>
  Option.bind (tsame (okV (okV okA)) y_43 y_44) fun q_45 =>
  some ((q_45, l_5.2))
/-- law(v_script: script[int]) -> bool -/
def t_law (v_script : (List Int)) : Option Bool :=
  Option.bind (t_law_draws v_script ((520 : Int))) fun y_1 =>
  Option.bind (α := Ex Bool (List Int)) (tforr (E := Bool) (fun (k_7 : Int) (s_2 : (List Int)) => Option.bind (tat ([(6 : Int), (26 : Int), (14 : Int)]) k_7) fun x_8 => Option.bind (t_law_take s_2 x_8) fun y_9 => Option.bind (t_law_times y_9.2 v_script y_9.1 ((decide (k_7 = (2 : Int))))) fun y_10 => Option.bind (trg ((1 : Int)) ((List.length y_10.1 : Int))) fun r_11 => Option.bind (tmap (fun (at_12 : Int) => Option.bind (tat y_10.1 at_12) fun x_13 => Option.bind (tat y_10.1 ((at_12 - (1 : Int)))) fun x_14 => some ((x_13 - x_14))) r_11) fun l_15 => Option.bind (tcat ([(0 : Int)]) l_15) fun w_16 => Option.bind (t_law_take y_10.2 ((6 : Int))) fun y_17 => Option.bind (t_law_take y_17.2 ((41 : Int))) fun y_18 => Option.bind (t_law_take y_18.2 ((List.length w_16 : Int))) fun y_19 => Option.bind (tat w_16 y_19.1) fun x_20 => Option.bind (tmax (fun a b : Int => decide (a < b)) w_16) fun max_21 => Option.bind (α := Ex Bool (List Int)) (tforr (E := Bool) (fun (minutes_24 : Int) (s_22 : (List Int)) => Option.bind (t_law_one_right s_22 y_10.1 minutes_24) fun y_25 => Option.bind (if (!y_25.1) = true then some (true, y_25.2) else Option.bind (t_law_two_right y_25.2 y_10.1 minutes_24) fun y_26 => some ((!y_26.1), y_26.2)) fun w_28 => if w_28.1 = true then (some ((Ex.ex false))) else some (Ex.go w_28.2)) ([y_17.1, y_18.1, x_20, max_21]) y_19.2) fun r_31 => Ex.cas r_31 (fun e => some ((Ex.ex e))) fun s_29 => some (Ex.go s_29)) ((upto (0 : Int) 3)) y_1) fun r_52 => Ex.cas r_52 (fun e => some e) fun s_32 =>
  tlet (((1 : Int), (3 : Int), (3 : Int), (8 : Int), (9 : Int))) fun times_37 =>
  tlet ((List.map (fun (time_38 : Int) => (time_38, ((0 : Int), (0 : Int)), (2 : Int))) ([times_37.1, times_37.2.1, times_37.2.2.1, times_37.2.2.2.1, times_37.2.2.2.2]))) fun catalog_39 =>
  Option.bind (t_clusters_of catalog_39 ((0 : Int)) ((2 : Int))) fun y_40 =>
  Option.bind (tsame (okV (okV okA)) y_40 ([[(((((0 : Int), (1 : Int), (2 : Int)), ((3 : Int), (4 : Int)))).1).1, (((((0 : Int), (1 : Int), (2 : Int)), ((3 : Int), (4 : Int)))).1).2.1, (((((0 : Int), (1 : Int), (2 : Int)), ((3 : Int), (4 : Int)))).1).2.2], [(((((0 : Int), (1 : Int), (2 : Int)), ((3 : Int), (4 : Int)))).2).1, (((((0 : Int), (1 : Int), (2 : Int)), ((3 : Int), (4 : Int)))).2).2]])) fun q_41 =>
  Option.bind (if (!q_41) = true then some true else Option.bind (t_least_minutes catalog_39 ((0 : Int))) fun y_42 => Option.bind (if (!((decide (y_42 = (some ((5 : Int))))))) = true then some true else Option.bind (t_thinned_times ([times_37.1, times_37.2.1, times_37.2.2.1, times_37.2.2.2.1, times_37.2.2.2.2]) ((2 : Int))) fun y_43 => Option.bind (tsame (okV okA) y_43 ([(((1 : Int), (8 : Int))).1, (((1 : Int), (8 : Int))).2])) fun q_44 => some ((!q_44))) fun w_45 => some (w_45)) fun w_46 =>
  if w_46 = true then (some false) else
  Option.bind (t_steps_of ([times_37.1, times_37.2.1, times_37.2.2.1, times_37.2.2.2.1, times_37.2.2.2.2]) ((1 : Int))) fun y_47 =>
  Option.bind (tsame (okV (okV okA)) y_47 ([[((((1 : Int), ((3 : Int), (3 : Int)), ((8 : Int), (9 : Int)))).1)], [((((1 : Int), ((3 : Int), (3 : Int)), ((8 : Int), (9 : Int)))).2.1).1, ((((1 : Int), ((3 : Int), (3 : Int)), ((8 : Int), (9 : Int)))).2.1).2], [((((1 : Int), ((3 : Int), (3 : Int)), ((8 : Int), (9 : Int)))).2.2).1, ((((1 : Int), ((3 : Int), (3 : Int)), ((8 : Int), (9 : Int)))).2.2).2]])) fun q_48 =>
  Option.bind (if q_48 = true then Option.bind (t_law_one_right s_32 (([] : (List Int))) ((3 : Int))) fun y_49 => some (y_49.1, y_49.2) else some (false, s_32)) fun w_51 =>
  some w_51.1
end LP
namespace LP
open PySem PySem.Spec PyProof.Rows L2 PF TL
theorem r_law_draws {v_script : (List Int)} {v_many : Int} {r : (List Int)} (h : t_law_draws v_script v_many = some r) : c_law_draws [(eK eI).e v_script, eI.e v_many] [] = some (.ref 0, [cl eI r]) := by
  unfold t_law_draws at h
  refine run_wp (f := b_law_draws) (n := 9) ?_
  refine w_add ?_
  refine w_assoc ?_
  obtain ⟨cells_2, h1, h⟩ := lbnd h
  refine w_setR (x_mutE (c := eI) (x_lc0 (cB := eI) (g := fun (cell_1 : Int) => cell_1) (i_sq (c := eI) (x_var rfl) s_K rfl) chk_0 (fun cell_1 => ⟨_, rfl, x_b (x_cons (x_var rfl) (x_nil)) (b_int _)⟩)) h1) ?_
  refine w_assoc ?_
  obtain ⟨s_3, hs, h⟩ := bnd h
  refine w_cut (fun ρ M => ρ = [some ((eK eI).e v_script), some (eI.e v_many), some (.ref 0), none, none, none, none, none, none] ∧ M = [cl eI s_3]) (w_ifT (x_f2T (x_b (x_cons (x_var rfl) (x_nil)) (b_len (c := eI) (s_R rfl))) (x_int _) (c_eq (c := eI) (v_ec _ _) (v_ec _ _))) hs (fun h => ?_) (fun h => ?_)) ?_
  · obtain ⟨cells_4, h3, h⟩ := bnd h
    refine w_drop (x_m (c := eI) (xs := cells_2) (x_var rfl) rfl (x_cons (x_int _) (x_nil)) (m_app rfl h3 rfl)) ?_
    obtain rfl := Option.some.inj h
    exact w_endC ⟨rfl, rfl⟩
  · refine w_next ?_
    obtain rfl := Option.some.inj h
    exact w_endC ⟨rfl, rfl⟩
  · rintro _ _ ⟨rfl, rfl⟩
    refine w_assoc ?_
    refine w_setR (x_mut (c := eI) (x_bN (x_cons (x_var rfl) (x_nil)) (n_list (c := eI) (s_R rfl)))) ?_
    refine w_assoc ?_
    refine w_setR (x_mut (c := eN) (x_lst (c := eN) ([] : List Unit) (x_nil) rfl rfl)) ?_
    refine w_assoc ?_
    obtain ⟨r_5, h4, h⟩ := bnd h
    obtain ⟨s_25, hs, h⟩ := bnd h
    refine w_fold (fun (s_6 : ((List Int) × (List Int))) ρ M => ∃ j_7 : Option D, ∃ j_8 : Option D, ∃ j_9 : Option D, ρ = [some ((eK eI).e v_script), some (eI.e v_many), some (.ref 0), none, some (.ref 1), some (.ref 2), j_7, j_8, j_9] ∧ M = [cl eI s_3, cl eI s_6.1, cl eI s_6.2]) (cA := eI) (s := (s_3, ([] : (List Int)))) (i_rg1 (x_cons (x_var rfl) (x_nil)) h4) hs ⟨_, _, _, rfl, rfl⟩ (fun _ _ _ _ => chk_0) ?_ ?_
    · rintro k_10 s_6 _ _ _ h ⟨j_7, j_8, j_9, rfl, rfl⟩
      refine w_stp rfl ?_
      refine w_add ?_
      refine w_assoc ?_
      obtain ⟨m_11, h6, h⟩ := bnd h
      refine w_set (c := eI) (x_f2 (x_var rfl) (x_b (x_cons (x_var rfl) (x_nil)) (b_len (c := eI) (s_R rfl))) (g_mod h6)) ?_
      obtain ⟨x_12, h7, h⟩ := bnd h
      obtain ⟨w_14, h9, h⟩ := bnd h
      obtain ⟨s_15, hs, h⟩ := bnd h
      refine w_cut (fun ρ M => ∃ j_16 : Option D, ρ = [some ((eK eI).e v_script), some (eI.e v_many), some (.ref 0), none, some (.ref 1), some (.ref 2), some (eI.e k_10), some (eI.e m_11), j_16] ∧ M = [cl eI s_3, cl eI s_15.1, cl eI s_15.2]) (w_ifT (k_andM (x_f2T (x_f2 (x_var rfl) (x_var rfl) (g_at (c := eI) (s_R rfl) h7)) (x_f2 (x_int _) (x_int _) (g_powL (by decide) rfl)) (c_int _)) h9 (fun h => by obtain ⟨x_13, h8, h⟩ := bnd h; obtain rfl := Option.some.inj h; exact x_f2T (x_f2 (x_var rfl) (x_var rfl) (g_at (c := eI) (s_R rfl) h8)) (x_int _) (c_int _))) hs (fun h => ?_) (fun h => ?_)) ?_
      · refine w_assoc ?_
        obtain ⟨x_17, h11, h⟩ := bnd h
        obtain ⟨draws_18, h12, h⟩ := bnd h
        refine w_drop (x_m (c := eI) (xs := s_6.2) (x_var rfl) rfl (x_cons (x_f2 (x_b (x_cons (x_f2 (x_var rfl) (x_var rfl) (g_at (c := eI) (s_R rfl) h11)) (x_nil)) (b_int _)) (x_int _) (g_modL (by decide))) (x_nil)) (m_app rfl h12 rfl)) ?_
        obtain ⟨x_19, h13, h⟩ := bnd h
        obtain ⟨a_20, h14, h⟩ := bnd h
        refine w_setIx (c := eI) (x_f2 (x_f2 (x_var rfl) (x_var rfl) (g_at (c := eI) (s_R rfl) h13)) (x_int _) (g_divL (by decide) (by decide))) (x_var rfl) (x_var rfl) rfl h14 ?_
        obtain rfl := Option.some.inj h
        exact w_endC ⟨_, rfl, rfl⟩
      · refine w_assoc ?_
        obtain ⟨x_21, h15, h⟩ := bnd h
        obtain ⟨once_22, h16, h⟩ := lbnd h
        refine w_setE (c := eI) (x_f2 (x_b (x_cons (x_f2 (x_f2 (x_f2 (x_f2 (x_var rfl) (x_var rfl) (g_at (c := eI) (s_R rfl) h15)) (x_int _) (g_mulR (by decide))) (x_f2 (x_var rfl) (x_int _) (g_mulR (by decide))) (g_add _ _)) (x_int _) (g_add _ _)) (x_nil)) (b_int _)) (x_int _) (g_modL (by decide))) h16 ?_
        obtain ⟨m_23, h17, h⟩ := bnd h
        obtain ⟨draws_24, h18, h⟩ := bnd h
        refine w_drop (x_m (c := eI) (xs := s_6.2) (x_var rfl) rfl (x_cons (x_f2 (x_b (x_cons (x_f2 (x_f2 (x_f2 (x_var rfl) (x_var rfl) (g_mul h17)) (x_f2 (x_int _) (x_var rfl) (g_mulL (by decide))) (g_add _ _)) (x_var rfl) (g_add _ _)) (x_nil)) (b_int _)) (x_int _) (g_modL (by decide))) (x_nil)) (m_app rfl h18 rfl)) ?_
        obtain rfl := Option.some.inj h
        exact w_endC ⟨_, rfl, rfl⟩
      · rintro _ _ ⟨j_16, rfl, rfl⟩
        obtain rfl := Option.some.inj h
        exact w_end (e_0 ⟨_, _, _, rfl, rfl⟩)
    · rintro _ _ ⟨j_26, j_27, j_28, rfl, rfl⟩
      refine w_assoc ?_
      refine w_drop (x_m (c := eI) (x_var rfl) rfl x_nil (m_rev rfl rfl)) ?_
      obtain rfl := Option.some.inj h
      refine w_ret (x_var rfl) ?_
      exact f_m0 rfl
theorem r_law_take {v_draws : (List Int)} {v_many : Int} {r : (Int × List Int)} (h : t_law_take v_draws v_many = some r) : c_law_take [.ref 0, eI.e v_many] [cl eI v_draws] = some (eI.e r.1, [cl eI r.2]) := by
  unfold t_law_take at h
  refine run_wp (f := b_law_take) (n := 2) ?_
  refine w_add ?_
  refine w_assoc ?_
  refine w_ifT (x_f2T (x_b (x_cons (x_var rfl) (x_nil)) (b_len (c := eI) (s_R rfl))) (x_int _) (c_eq (c := eI) (v_ec _ _) (v_ec _ _))) h (fun h => ?_) (fun h => ?_)
  · obtain rfl := Option.some.inj h
    refine w_ret (x_int _) ?_
    exact f_v1 eI _
  · refine w_next ?_
    obtain ⟨p_1, h1, h⟩ := bnd h
    obtain ⟨m_2, h2, h⟩ := bnd h
    obtain rfl := Option.some.inj h
    refine w_ret (x_f2 (x_b (x_cons (x_m (c := eI) (x_var rfl) rfl x_nil (m_pop rfl h1 rfl)) (x_nil)) (b_int _)) (x_var rfl) (g_mod h2)) ?_
    exact f_v1 eI _
theorem r_law_size {v_draws : (List Int)} {v_script : (List Int)} {r : (Int × List Int)} (h : t_law_size v_draws v_script = some r) : c_law_size [.ref 0, (eK eI).e v_script] [cl eI v_draws] = some (eI.e r.1, [cl eI r.2]) := by
  unfold t_law_size at h
  refine run_wp (f := b_law_size) (n := 4) ?_
  refine w_add ?_
  refine w_assoc ?_
  obtain ⟨y_1, h1, h⟩ := bnd h
  refine w_set (c := eI) (x_callS (x_cons (x_var rfl) (x_cons (x_int _) (x_nil))) (p_s (cR := eI) (c := eI) rfl rfl (av_c eN () (av_c _ _ (av_nil))) (r_law_take h1) rfl)) ?_
  refine w_assoc ?_
  obtain ⟨y_2, h2, h⟩ := bnd h
  refine w_set (c := eI) (x_callS (x_cons (x_var rfl) (x_cons (x_int _) (x_nil))) (p_s (cR := eI) (c := eI) rfl rfl (av_c eN () (av_c _ _ (av_nil))) (r_law_take h2) rfl)) ?_
  refine w_assoc ?_
  obtain ⟨s_3, hs, h⟩ := bnd h
  refine w_cut (fun ρ M => ρ = [some (.ref 0), some ((eK eI).e v_script), some (eI.e y_1.1), some (eI.e s_3.1)] ∧ M = [cl eI s_3.2]) (w_ifT (x_f2T (x_var rfl) (x_int _) (c_eq (c := eI) (v_ec _ _) (v_ec _ _))) hs (fun h => ?_) (fun h => ?_)) ?_
  · obtain ⟨y_4, h4, h⟩ := bnd h
    obtain ⟨number_5, h5, h⟩ := lbnd h
    refine w_setE (c := eI) (x_f2 (x_var rfl) (x_f2 (x_f2 (x_int _) (x_callS (x_cons (x_var rfl) (x_cons (x_int _) (x_nil))) (p_s (cR := eI) (c := eI) rfl rfl (av_c eN () (av_c _ _ (av_nil))) (r_law_take h4) rfl)) (g_add _ _)) (x_f2 (x_int _) (x_int _) (g_powL (by decide) rfl)) (g_mulR (by decide))) (g_add _ _)) h5 ?_
    change WP _ [some (.ref 0), some ((eK eI).e v_script), some (eI.e y_1.1), some (eI.e number_5)] _ _
    obtain rfl := Option.some.inj h
    exact w_endC ⟨rfl, rfl⟩
  · refine w_next ?_
    obtain rfl := Option.some.inj h
    exact w_endC ⟨rfl, rfl⟩
  · rintro _ _ ⟨rfl, rfl⟩
    refine w_assoc ?_
    obtain ⟨s_6, hs, h⟩ := bnd h
    refine w_cut (fun ρ M => ρ = [some (.ref 0), some ((eK eI).e v_script), some (eI.e y_1.1), some (eI.e s_6.1)] ∧ M = [cl eI s_6.2]) (w_ifT (k_and (x_f2T (x_var rfl) (x_int _) (c_eq (c := eI) (v_ec _ _) (v_ec _ _))) (x_f2T (x_b (x_cons (x_var rfl) (x_nil)) (b_len (c := eI) s_K)) (x_int _) (c_int _))) hs (fun h => ?_) (fun h => ?_)) ?_
    · obtain ⟨y_7, h7, h⟩ := bnd h
      obtain ⟨x_8, h8, h⟩ := bnd h
      obtain ⟨number_9, h9, h⟩ := lbnd h
      refine w_setE (c := eI) (x_f2 (x_var rfl) (x_f2 (x_b (x_cons (x_b (x_cons (x_b (x_cons (x_f2 (x_var rfl) (x_callS (x_cons (x_var rfl) (x_cons (x_b (x_cons (x_var rfl) (x_nil)) (b_len (c := eI) s_K)) (x_nil))) (p_s (cR := eI) (c := eI) rfl rfl (av_c eN () (av_c _ _ (av_nil))) (r_law_take h7) rfl)) (g_at (c := eI) s_K h8)) (x_nil)) (b_int _)) (x_nil)) (b_abs _)) (x_nil)) (b_int _)) (x_f2 (x_int _) (x_int _) (g_powL (by decide) rfl)) (g_modL (by decide))) (g_add _ _)) h9 ?_
      obtain rfl := Option.some.inj h
      exact w_endC ⟨rfl, rfl⟩
    · refine w_next ?_
      obtain rfl := Option.some.inj h
      exact w_endC ⟨rfl, rfl⟩
    · rintro _ _ ⟨rfl, rfl⟩
      refine w_assoc ?_
      obtain ⟨s_10, hs, h⟩ := bnd h
      refine w_cut (fun ρ M => ρ = [some (.ref 0), some ((eK eI).e v_script), some (eI.e y_1.1), some (eI.e s_10.1)] ∧ M = [cl eI s_10.2]) (w_ifT (x_f2T (x_var rfl) (x_int _) (c_eq (c := eI) (v_ec _ _) (v_ec _ _))) hs (fun h => ?_) (fun h => ?_)) ?_
      · obtain ⟨y_11, h11, h⟩ := bnd h
        obtain ⟨number_12, h12, h⟩ := lbnd h
        refine w_setE (c := eI) (x_f2 (x_f2 (x_var rfl) (x_int _) (g_mulR (by decide))) (x_callS (x_cons (x_var rfl) (x_cons (x_int _) (x_nil))) (p_s (cR := eI) (c := eI) rfl rfl (av_c eN () (av_c _ _ (av_nil))) (r_law_take h11) rfl)) (g_add _ _)) h12 ?_
        obtain rfl := Option.some.inj h
        exact w_endC ⟨rfl, rfl⟩
      · refine w_next ?_
        obtain rfl := Option.some.inj h
        exact w_endC ⟨rfl, rfl⟩
      · rintro _ _ ⟨rfl, rfl⟩
        obtain rfl := Option.some.inj h
        refine w_ret (x_var rfl) ?_
        exact f_v1 eI _
theorem r_law_times {v_draws : (List Int)} {v_script : (List Int)} {v_many : Int} {v_great : Bool} {r : ((List Int) × List Int)} (h : t_law_times v_draws v_script v_many v_great = some r) : c_law_times [.ref 0, (eK eI).e v_script, eI.e v_many, eB.e v_great] [cl eI v_draws] = some ((eV eI).e r.1, [cl eI r.2]) := by
  unfold t_law_times at h
  refine run_wp (f := b_law_times) (n := 7) ?_
  refine w_add ?_
  refine w_assoc ?_
  obtain ⟨y_1, h1, h⟩ := bnd h
  obtain ⟨at_2, h2, h⟩ := lbnd h
  refine w_setE (c := eI) (x_f2 (x_callS (x_cons (x_var rfl) (x_cons (x_int _) (x_nil))) (p_s (cR := eI) (c := eI) rfl rfl (av_c eN () (av_c _ _ (av_nil))) (r_law_take h1) rfl)) (x_int _) (g_sub _ _)) h2 ?_
  refine w_assoc ?_
  refine w_setR (x_mut (c := eN) (x_lst (c := eN) ([] : List Unit) (x_nil) rfl rfl)) ?_
  refine w_assoc ?_
  obtain ⟨r_3, h3, h⟩ := bnd h
  obtain ⟨s_18, hs, h⟩ := bnd h
  refine w_fold (fun (s_4 : (Int × (List Int) × (List Int))) ρ M => ∃ j_5 : Option D, ρ = [some (.ref 0), some ((eK eI).e v_script), some (eI.e v_many), some (eB.e v_great), some (eI.e s_4.1), some (.ref 1), j_5] ∧ M = [cl eI s_4.2.1, cl eI s_4.2.2]) (cA := eI) (s := (at_2, y_1.2, ([] : (List Int)))) (i_rg1 (x_cons (x_var rfl) (x_nil)) h3) hs ⟨_, rfl, rfl⟩ (fun _ _ _ _ => chk_0) ?_ ?_
  · rintro k_6 s_4 _ _ _ h ⟨j_5, rfl, rfl⟩
    refine w_stp rfl ?_
    refine w_add ?_
    refine w_assoc ?_
    obtain ⟨y_7, h5, h⟩ := bnd h
    obtain ⟨y_8, h6, h⟩ := bnd h
    obtain ⟨y_9, h7, h⟩ := bnd h
    obtain ⟨x_10, h8, h⟩ := bnd h
    obtain ⟨w_13, h10, h⟩ := bnd h
    obtain ⟨y_14, h11, h⟩ := bnd h
    obtain ⟨m_15, h12, h⟩ := bnd h
    obtain ⟨at_16, h13, h⟩ := lbnd h
    refine w_setE (c := eI) (x_f2 (x_f2 (x_var rfl) (x_f2 (x_fz (c := eI) (x_lst (c := eI) [(0 : Int), y_7.1, y_8.1] (x_cons (x_int _) (x_cons (x_callS (x_cons (x_var rfl) (x_cons (x_int _) (x_nil))) (p_s (cR := eI) (c := eI) rfl rfl (av_c eN () (av_c _ _ (av_nil))) (r_law_take h5) rfl)) (x_cons (x_callS (x_cons (x_var rfl) (x_cons (x_int _) (x_nil))) (p_s (cR := eI) (c := eI) rfl rfl (av_c eN () (av_c _ _ (av_nil))) (r_law_take h6) rfl)) (x_nil)))) rfl rfl)) (x_callS (x_cons (x_var rfl) (x_cons (x_int _) (x_nil))) (p_s (cR := eI) (c := eI) rfl rfl (av_c eN () (av_c _ _ (av_nil))) (r_law_take h7) rfl)) (g_at (c := eI) s_L h8)) (g_add _ _)) (x_f2 (x_b (x_cons (x_andZ (S := (List Int)) (s0 := y_9.2) (r := w_13) (fun (s_12 : (List Int)) => [cl eI s_12, cl eI s_4.2.2]) (x_var rfl) h10 (fun h => by obtain ⟨y_11, h9, h⟩ := bnd h; obtain rfl := Option.some.inj h; exact x_f2 (x_callS (x_cons (x_var rfl) (x_cons (x_int _) (x_nil))) (p_s (cR := eI) (c := eI) rfl rfl (av_c eN () (av_c _ _ (av_nil))) (r_law_take h9) rfl)) (x_int _) (g_B (c_eq (c := eI) (v_ec _ _) (v_ec _ _))))) (x_nil)) (b_intb _)) (x_f2 (x_callS (x_cons (x_var rfl) (x_cons (x_var rfl) (x_nil))) (p_s (cR := eI) (c := eI) rfl rfl (av_c eN () (av_c _ _ (av_nil))) (r_law_size h11) rfl)) (x_f2 (x_int _) (x_int _) (g_powL (by decide) rfl)) (g_modL (by decide))) (g_mul h12)) (g_add _ _)) h13 ?_
    obtain ⟨found_17, h14, h⟩ := bnd h
    refine w_drop (x_m (c := eI) (xs := s_4.2.2) (x_var rfl) rfl (x_cons (x_var rfl) (x_nil)) (m_app rfl h14 rfl)) ?_
    obtain rfl := Option.some.inj h
    exact w_end (e_0 ⟨_, rfl, rfl⟩)
  · rintro _ _ ⟨j_19, rfl, rfl⟩
    obtain rfl := Option.some.inj h
    refine w_ret (x_b (x_cons (x_var rfl) (x_nil)) (b_tuple (c := eI) (s_R rfl))) ?_
    exact f_v1 (eV eI) _
theorem r_law_groups {v_times : (List Int)} {v_minutes : Int} {r : (List (List Int))} (h : t_law_groups v_times v_minutes = some r) : c_law_groups [(eV eI).e v_times, eI.e v_minutes] [] = some ((eV (eV eI)).e r, []) := by
  unfold t_law_groups at h
  refine run_wp (f := b_law_groups) (n := 4) ?_
  refine w_add ?_
  refine w_assoc ?_
  refine w_setR (x_mut (c := eN) (x_lst (c := eN) ([] : List Unit) (x_nil) rfl rfl)) ?_
  refine w_assoc ?_
  obtain ⟨r_1, h1, h⟩ := bnd h
  obtain ⟨s_13, hs, h⟩ := bnd h
  refine w_fold (fun (s_2 : (List (List Int))) ρ M => ∃ j_3 : Option D, ρ = [some ((eV eI).e v_times), some (eI.e v_minutes), some (.ref 0), j_3] ∧ M = [cl (eV eI) s_2]) (cA := eI) (s := ([] : (List (List Int)))) (i_rg1 (x_cons (x_b (x_cons (x_var rfl) (x_nil)) (b_len (c := eI) s_V)) (x_nil)) h1) hs ⟨_, rfl, rfl⟩ (fun _ _ _ _ => chk_0) ?_ ?_
  · rintro k_4 s_2 _ _ _ h ⟨j_3, rfl, rfl⟩
    refine w_stp rfl ?_
    refine w_add ?_
    obtain ⟨w_7, h5, h⟩ := bnd h
    obtain ⟨s_8, hs, h⟩ := bnd h
    refine w_cut (fun ρ M => ρ = [some ((eV eI).e v_times), some (eI.e v_minutes), some (.ref 0), some (eI.e k_4)] ∧ M = [cl (eV eI) s_8]) (w_ifT (k_andM (x_f2T (x_var rfl) (x_int _) (c_int _)) h5 (fun h => by obtain ⟨x_5, h3, h⟩ := bnd h; obtain ⟨x_6, h4, h⟩ := bnd h; obtain rfl := Option.some.inj h; exact x_f2T (x_f2 (x_f2 (x_var rfl) (x_var rfl) (g_at (c := eI) s_V h3)) (x_f2 (x_var rfl) (x_f2 (x_var rfl) (x_int _) (g_sub _ _)) (g_at (c := eI) s_V h4)) (g_sub _ _)) (x_var rfl) (c_int _))) hs (fun h => ?_) (fun h => ?_)) ?_
    · obtain ⟨x_9, h7, h⟩ := bnd h
      obtain ⟨w_10, h8, h⟩ := bnd h
      obtain ⟨a_11, h9, h⟩ := bnd h
      refine w_setIx (c := (eV eI)) (x_f2 (x_f2 (x_var rfl) (x_f1 (x_int _) (g_neg _)) (g_at (c := (eV eI)) (s_R rfl) h7)) (x_co (x_tup1 (x_cons (x_var rfl) (x_nil))) (show (eV eI).e ([k_4]) = (e1 eI).e k_4 from (fun _ => rfl) k_4)) (g_catV (c := eI) h8)) (x_var rfl) (x_f1 (x_int _) (g_neg _)) rfl h9 ?_
      obtain rfl := Option.some.inj h
      exact w_endC ⟨rfl, rfl⟩
    · obtain ⟨found_12, h10, h⟩ := bnd h
      refine w_drop (x_m (c := (eV eI)) (xs := s_2) (x_var rfl) rfl (x_cons (x_co (x_tup1 (x_cons (x_var rfl) (x_nil))) (show (eV eI).e ([k_4]) = (e1 eI).e k_4 from (fun _ => rfl) k_4)) (x_nil)) (m_app rfl h10 rfl)) ?_
      obtain rfl := Option.some.inj h
      exact w_endC ⟨rfl, rfl⟩
    · rintro _ _ ⟨rfl, rfl⟩
      obtain rfl := Option.some.inj h
      exact w_end (e_0 ⟨_, rfl, rfl⟩)
  · rintro _ _ ⟨j_14, rfl, rfl⟩
    obtain rfl := Option.some.inj h
    refine w_ret (x_b (x_cons (x_var rfl) (x_nil)) (b_tuple (c := (eV eI)) (s_R rfl))) ?_
    exact f_v0 (eV (eV eI)) _
theorem r_how_far {v_one : (Int × Int)} {v_other : (Int × Int)} {r : Int} (h : t_how_far v_one v_other = some r) : chow_far [(e2 eI eI).e v_one, (e2 eI eI).e v_other] [] = some (eI.e r, []) := by
  unfold t_how_far at h
  refine run_wp (f := bhow_far) (n := 2) ?_
  refine w_add ?_
  obtain rfl := Option.some.inj h
  refine w_ret (x_f2 (x_b (x_cons (x_f2 (x_f2 (x_var rfl) (x_int _) (g_ix at0)) (x_f2 (x_var rfl) (x_int _) (g_ix at0)) (g_sub _ _)) (x_nil)) (b_abs _)) (x_b (x_cons (x_f2 (x_f2 (x_var rfl) (x_int _) (g_ix at1)) (x_f2 (x_var rfl) (x_int _) (g_ix at1)) (g_sub _ _)) (x_nil)) (b_abs _)) (g_add _ _)) ?_
  exact f_v0 eI _
theorem r_are_linked {v_one : (Int × (Int × Int) × Int)} {v_other : (Int × (Int × Int) × Int)} {v_far : Int} {v_minutes : Int} {r : Bool} (h : t_are_linked v_one v_other v_far v_minutes = some r) : care_linked [(e3 eI (e2 eI eI) eI).e v_one, (e3 eI (e2 eI eI) eI).e v_other, eI.e v_far, eI.e v_minutes] [] = some (eB.e r, []) := by
  unfold t_are_linked at h
  refine run_wp (f := bare_linked) (n := 4) ?_
  refine w_add ?_
  obtain rfl := Option.some.inj h
  refine w_ret (x_and (x_f2 (x_call (x_cons (x_f2 (x_var rfl) (x_int _) (g_ix at1)) (x_cons (x_f2 (x_var rfl) (x_int _) (g_ix at1)) (x_nil))) (p_v (cR := eI) (av_c _ _ (av_c _ _ (av_nil))) (r_how_far (tp_how_far v_one.2.1 v_other.2.1)))) (x_var rfl) (g_B (c_int _))) (x_f2 (x_b (x_cons (x_f2 (x_f2 (x_var rfl) (x_int _) (g_ix at0)) (x_f2 (x_var rfl) (x_int _) (g_ix at0)) (g_sub _ _)) (x_nil)) (b_abs _)) (x_var rfl) (g_B (c_int _)))) ?_
  exact f_v0 eB _
theorem r_put_together {v_tops : (List Int)} {v_one : Int} {v_other : Int} {r : (List Int)} (h : t_put_together v_tops v_one v_other = some r) : cput_together [(eL eI).e v_tops, eI.e v_one, eI.e v_other] [] = some ((eL eI).e r, []) := by
  unfold t_put_together at h
  refine run_wp (f := bput_together) (n := 6) ?_
  refine w_add ?_
  refine w_assoc ?_
  obtain ⟨x_1, h1, h⟩ := bnd h
  obtain ⟨x_2, h2, h⟩ := bnd h
  obtain ⟨x_3, h3, h⟩ := bnd h
  obtain ⟨x_4, h4, h⟩ := bnd h
  obtain ⟨e_5, h5, h⟩ := lbnd h
  refine w_asgE (c := (e2 eI eI)) (x_tup2 (x_cons (x_b (x_cons (x_f2 (x_var rfl) (x_var rfl) (g_at (c := eI) s_L h1)) (x_cons (x_f2 (x_var rfl) (x_var rfl) (g_at (c := eI) s_L h2)) (x_nil))) (b_min2 _ _)) (x_cons (x_b (x_cons (x_f2 (x_var rfl) (x_var rfl) (g_at (c := eI) s_L h3)) (x_cons (x_f2 (x_var rfl) (x_var rfl) (g_at (c := eI) s_L h4)) (x_nil))) (b_max2 _ _)) (x_nil)))) h5 rfl ?_
  obtain rfl := Option.some.inj h
  refine w_ret (x_fz (c := eI) (x_lc0 (cB := eI) (g := fun (top_6 : Int) => (if (decide (top_6 = e_5.2)) = true then e_5.1 else top_6)) (i_sq (c := eI) (x_var rfl) s_L rfl) chk_0 (fun top_6 => ⟨_, rfl, x_if (c := eI) (x_f2T (x_var rfl) (x_var rfl) (c_eq (c := eI) (v_ec _ _) (v_ec _ _))) (x_var rfl) (x_var rfl)⟩))) ?_
  exact f_v0 (eL eI) _
theorem r_clusters_of {v_catalog : (List (Int × (Int × Int) × Int))} {v_far : Int} {v_minutes : Int} {r : (List (List Int))} (h : t_clusters_of v_catalog v_far v_minutes = some r) : cclusters_of [(eV (e3 eI (e2 eI eI) eI)).e v_catalog, eI.e v_far, eI.e v_minutes] [] = some ((eV (eV eI)).e r, []) := by
  unfold t_clusters_of at h
  refine run_wp (f := bclusters_of) (n := 8) ?_
  refine w_add ?_
  refine w_assoc ?_
  obtain ⟨r_1, h1, h⟩ := bnd h
  refine w_set (c := (eL eI)) (x_fz (c := eI) (x_lrg1 (x_cons (x_b (x_cons (x_var rfl) (x_nil)) (b_len (c := (e3 eI (e2 eI eI) eI)) s_V)) (x_nil)) h1)) ?_
  refine w_assoc ?_
  obtain ⟨r_2, h2, h⟩ := bnd h
  obtain ⟨s_20, hs, h⟩ := bnd h
  refine w_fold (fun (s_3 : (List Int)) ρ M => ∃ j_4 : Option D, ∃ j_5 : Option D, ρ = [some ((eV (e3 eI (e2 eI eI) eI)).e v_catalog), some (eI.e v_far), some (eI.e v_minutes), some ((eL eI).e s_3), j_4, j_5, none, none] ∧ M = []) (cA := eI) (s := r_1) (i_rg1 (x_cons (x_b (x_cons (x_var rfl) (x_nil)) (b_len (c := (e3 eI (e2 eI eI) eI)) s_V)) (x_nil)) h2) hs ⟨_, _, rfl, rfl⟩ (fun _ _ _ _ => chk_0) ?_ ?_
  · rintro one_6 s_3 _ _ _ h ⟨j_4, j_5, rfl, rfl⟩
    refine w_stp rfl ?_
    refine w_add ?_
    obtain ⟨r_7, h4, h⟩ := bnd h
    obtain ⟨s_18, hs, h⟩ := bnd h
    refine w_fold (fun (s_8 : (List Int)) ρ M => ∃ j_9 : Option D, ρ = [some ((eV (e3 eI (e2 eI eI) eI)).e v_catalog), some (eI.e v_far), some (eI.e v_minutes), some ((eL eI).e s_8), some (eI.e one_6), j_9, none, none] ∧ M = []) (cA := eI) (s := s_3) (i_rg1 (x_cons (x_var rfl) (x_nil)) h4) hs ⟨_, rfl, rfl⟩ (fun _ _ _ _ => chk_0) ?_ ?_
    · rintro other_10 s_8 _ _ _ h ⟨j_9, rfl, rfl⟩
      refine w_stp rfl ?_
      refine w_add ?_
      obtain ⟨x_11, h6, h⟩ := bnd h
      obtain ⟨x_12, h7, h⟩ := bnd h
      obtain ⟨w_15, h10, h⟩ := bnd h
      obtain ⟨s_16, hs, h⟩ := bnd h
      refine w_cut (fun ρ M => ρ = [some ((eV (e3 eI (e2 eI eI) eI)).e v_catalog), some (eI.e v_far), some (eI.e v_minutes), some ((eL eI).e s_16), some (eI.e one_6), some (eI.e other_10), none, none] ∧ M = []) (w_ifT (k_andM (x_f2T (x_f2 (x_var rfl) (x_var rfl) (g_at (c := eI) s_L h6)) (x_f2 (x_var rfl) (x_var rfl) (g_at (c := eI) s_L h7)) (c_ne (c := eI) (v_ec _ _) (v_ec _ _))) h10 (fun h => by obtain ⟨x_13, h8, h⟩ := bnd h; obtain ⟨x_14, h9, h⟩ := bnd h; obtain rfl := Option.some.inj h; exact k_tru (x_call (x_cons (x_f2 (x_var rfl) (x_var rfl) (g_at (c := (e3 eI (e2 eI eI) eI)) s_V h8)) (x_cons (x_f2 (x_var rfl) (x_var rfl) (g_at (c := (e3 eI (e2 eI eI) eI)) s_V h9)) (x_cons (x_var rfl) (x_cons (x_var rfl) (x_nil))))) (p_v (cR := eB) (av_c _ _ (av_c _ _ (av_c _ _ (av_c _ _ (av_nil))))) (r_are_linked (tp_are_linked x_13 x_14 v_far v_minutes)))) (tr_B _))) hs (fun h => ?_) (fun h => ?_)) ?_
      · obtain ⟨y_17, h12, h⟩ := bnd h
        refine w_set (c := (eL eI)) (x_call (x_cons (x_var rfl) (x_cons (x_var rfl) (x_cons (x_var rfl) (x_nil)))) (p_v (cR := (eL eI)) (av_c _ _ (av_c _ _ (av_c _ _ (av_nil)))) (r_put_together h12))) ?_
        obtain rfl := Option.some.inj h
        exact w_endC ⟨rfl, rfl⟩
      · refine w_next ?_
        obtain rfl := Option.some.inj h
        exact w_endC ⟨rfl, rfl⟩
      · rintro _ _ ⟨rfl, rfl⟩
        obtain rfl := Option.some.inj h
        exact w_end (e_0 ⟨_, rfl, rfl⟩)
    · rintro _ _ ⟨j_19, rfl, rfl⟩
      obtain rfl := Option.some.inj h
      exact w_end (e_0 ⟨_, _, rfl, rfl⟩)
  · rintro _ _ ⟨j_21, j_22, rfl, rfl⟩
    obtain ⟨u_23, h13, h⟩ := bnd h
    obtain ⟨l_29, h17, h⟩ := bnd h
    obtain rfl := Option.some.inj h
    refine w_ret (x_b (x_cons (x_fz (c := (eV eI)) (x_lcM (cB := (eV eI)) (i_sq (c := eI) (x_fz (c := eI) (x_bN (x_cons (x_var rfl) (x_nil)) (n_sortU s_L h13))) s_L rfl) chk_0 h17 (fun top_24 => ⟨_, rfl, fun _ h => by obtain ⟨r_25, h14, h⟩ := bnd h; obtain ⟨z_28, h16, h⟩ := bnd h; obtain rfl := Option.some.inj h; exact x_b (x_cons (x_fz (c := eI) (x_lcF (cB := eI) (g := fun (at_26 : Int) => at_26) (i_rg1 (x_cons (x_b (x_cons (x_var rfl) (x_nil)) (b_len (c := eI) s_L)) (x_nil)) h14) chk_0 h16 (fun at_26 => ⟨_, rfl, fun _ h => by obtain ⟨x_27, h15, h⟩ := bnd h; obtain rfl := Option.some.inj h; exact x_f2T (x_f2 (x_var rfl) (x_var rfl) (g_at (c := eI) s_L h15)) (x_var rfl) (c_eq (c := eI) (v_ec _ _) (v_ec _ _)), x_var rfl⟩))) (x_nil)) (b_tuple (c := eI) s_L)⟩))) (x_nil)) (b_tuple (c := (eV eI)) s_L)) ?_
    exact f_v0 (eV (eV eI)) _
theorem r_main_of {v_catalog : (List (Int × (Int × Int) × Int))} {v_cluster : (List Int)} {r : Int} (h : t_main_of v_catalog v_cluster = some r) : cmain_of [(eV (e3 eI (e2 eI eI) eI)).e v_catalog, (eV eI).e v_cluster] [] = some (eI.e r, []) := by
  unfold t_main_of at h
  refine run_wp (f := bmain_of) (n := 3) ?_
  refine w_add ?_
  obtain ⟨l_5, h4, h⟩ := bnd h
  obtain ⟨min_6, h5, h⟩ := bnd h
  obtain rfl := Option.some.inj h
  refine w_ret (x_f2 (x_b (x_cons (x_fz (c := (e4 eI eI (e2 eI eI) eI)) (x_lcM (cB := (e4 eI eI (e2 eI eI) eI)) (i_sq (c := eI) (x_var rfl) s_V rfl) chk_0 h4 (fun at_1 => ⟨_, rfl, fun _ h => by obtain ⟨x_2, h1, h⟩ := bnd h; obtain ⟨x_3, h2, h⟩ := bnd h; obtain ⟨x_4, h3, h⟩ := bnd h; obtain rfl := Option.some.inj h; exact x_tup4 (x_cons (x_f1 (x_f2 (x_f2 (x_var rfl) (x_var rfl) (g_at (c := (e3 eI (e2 eI eI) eI)) s_V h1)) (x_int _) (g_ix at2)) (g_neg _)) (x_cons (x_f2 (x_f2 (x_var rfl) (x_var rfl) (g_at (c := (e3 eI (e2 eI eI) eI)) s_V h2)) (x_int _) (g_ix at0)) (x_cons (x_f2 (x_f2 (x_var rfl) (x_var rfl) (g_at (c := (e3 eI (e2 eI eI) eI)) s_V h3)) (x_int _) (g_ix at1)) (x_cons (x_var rfl) (x_nil)))))⟩))) (x_nil)) (b_min (c := (e4 eI eI (e2 eI eI) eI)) s_L h5)) (x_int _) (g_ix at3)) ?_
  exact f_v0 eI _
theorem r_main_shocks {v_catalog : (List (Int × (Int × Int) × Int))} {v_far : Int} {v_minutes : Int} {r : (List Int)} (h : t_main_shocks v_catalog v_far v_minutes = some r) : cmain_shocks [(eV (e3 eI (e2 eI eI) eI)).e v_catalog, eI.e v_far, eI.e v_minutes] [] = some ((eV eI).e r, []) := by
  unfold t_main_shocks at h
  refine run_wp (f := bmain_shocks) (n := 4) ?_
  refine w_add ?_
  obtain ⟨y_1, h1, h⟩ := bnd h
  obtain ⟨l_4, h3, h⟩ := bnd h
  obtain rfl := Option.some.inj h
  refine w_ret (x_b (x_cons (x_fz (c := eI) (x_lcM (cB := eI) (i_sq (c := (eV eI)) (x_call (x_cons (x_var rfl) (x_cons (x_var rfl) (x_cons (x_var rfl) (x_nil)))) (p_v (cR := (eV (eV eI))) (av_c _ _ (av_c _ _ (av_c _ _ (av_nil)))) (r_clusters_of h1))) s_V rfl) chk_0 h3 (fun cluster_2 => ⟨_, rfl, fun _ h => by obtain ⟨y_3, h2, h⟩ := bnd h; obtain rfl := Option.some.inj h; exact x_call (x_cons (x_var rfl) (x_cons (x_var rfl) (x_nil))) (p_v (cR := eI) (av_c _ _ (av_c _ _ (av_nil))) (r_main_of h2))⟩))) (x_nil)) (b_tuple (c := eI) s_L)) ?_
  exact f_v0 (eV eI) _
theorem r_gaps_of {v_times : (List Int)} {r : (List Int)} (h : t_gaps_of v_times = some r) : cgaps_of [(eV eI).e v_times] [] = some ((eV eI).e r, []) := by
  unfold t_gaps_of at h
  refine run_wp (f := bgaps_of) (n := 2) ?_
  refine w_add ?_
  obtain ⟨r_1, h1, h⟩ := bnd h
  obtain ⟨l_5, h4, h⟩ := bnd h
  obtain rfl := Option.some.inj h
  refine w_ret (x_b (x_cons (x_fz (c := eI) (x_lcM (cB := eI) (i_rg1 (x_cons (x_f2 (x_b (x_cons (x_var rfl) (x_nil)) (b_len (c := eI) s_V)) (x_int _) (g_sub _ _)) (x_nil)) h1) chk_0 h4 (fun at_2 => ⟨_, rfl, fun _ h => by obtain ⟨x_3, h2, h⟩ := bnd h; obtain ⟨x_4, h3, h⟩ := bnd h; obtain rfl := Option.some.inj h; exact x_f2 (x_f2 (x_var rfl) (x_f2 (x_var rfl) (x_int _) (g_add _ _)) (g_at (c := eI) s_V h2)) (x_f2 (x_var rfl) (x_var rfl) (g_at (c := eI) s_V h3)) (g_sub _ _)⟩))) (x_nil)) (b_tuple (c := eI) s_L)) ?_
  exact f_v0 (eV eI) _
theorem r_least_minutes {v_catalog : (List (Int × (Int × Int) × Int))} {v_far : Int} {r : (Option Int)} (h : t_least_minutes v_catalog v_far = some r) : cleast_minutes [(eV (e3 eI (e2 eI eI) eI)).e v_catalog, eI.e v_far] [] = some ((eO eI).e r, []) := by
  unfold t_least_minutes at h
  refine run_wp (f := bleast_minutes) (n := 8) ?_
  refine w_add ?_
  refine w_assoc ?_
  refine w_setR (x_mut (c := eN) (x_lst (c := eN) ([] : List Unit) (x_nil) rfl rfl)) ?_
  refine w_assoc ?_
  obtain ⟨r_1, h1, h⟩ := bnd h
  obtain ⟨s_18, hs, h⟩ := bnd h
  refine w_fold (fun (s_2 : (List (Int × Int × Int))) ρ M => ∃ j_3 : Option D, ∃ j_4 : Option D, ρ = [some ((eV (e3 eI (e2 eI eI) eI)).e v_catalog), some (eI.e v_far), some (.ref 0), j_3, j_4, none, none, none] ∧ M = [cl (e3 eI eI eI) s_2]) (cA := eI) (s := ([] : (List (Int × Int × Int)))) (i_rg1 (x_cons (x_b (x_cons (x_var rfl) (x_nil)) (b_len (c := (e3 eI (e2 eI eI) eI)) s_V)) (x_nil)) h1) hs ⟨_, _, rfl, rfl⟩ (fun _ _ _ _ => chk_0) ?_ ?_
  · rintro one_5 s_2 _ _ _ h ⟨j_3, j_4, rfl, rfl⟩
    refine w_stp rfl ?_
    refine w_add ?_
    obtain ⟨r_6, h3, h⟩ := bnd h
    obtain ⟨s_16, hs, h⟩ := bnd h
    refine w_fold (fun (s_7 : (List (Int × Int × Int))) ρ M => ∃ j_8 : Option D, ρ = [some ((eV (e3 eI (e2 eI eI) eI)).e v_catalog), some (eI.e v_far), some (.ref 0), some (eI.e one_5), j_8, none, none, none] ∧ M = [cl (e3 eI eI eI) s_7]) (cA := eI) (s := s_2) (i_rg1 (x_cons (x_var rfl) (x_nil)) h3) hs ⟨_, rfl, rfl⟩ (fun _ _ _ _ => chk_0) ?_ ?_
    · rintro other_9 s_7 _ _ _ h ⟨j_8, rfl, rfl⟩
      refine w_stp rfl ?_
      refine w_add ?_
      obtain ⟨x_10, h5, h⟩ := bnd h
      obtain ⟨x_11, h6, h⟩ := bnd h
      obtain ⟨s_12, hs, h⟩ := bnd h
      refine w_cut (fun ρ M => ρ = [some ((eV (e3 eI (e2 eI eI) eI)).e v_catalog), some (eI.e v_far), some (.ref 0), some (eI.e one_5), some (eI.e other_9), none, none, none] ∧ M = [cl (e3 eI eI eI) s_12]) (w_ifT (x_f2T (x_call (x_cons (x_f2 (x_f2 (x_var rfl) (x_var rfl) (g_at (c := (e3 eI (e2 eI eI) eI)) s_V h5)) (x_int _) (g_ix at1)) (x_cons (x_f2 (x_f2 (x_var rfl) (x_var rfl) (g_at (c := (e3 eI (e2 eI eI) eI)) s_V h6)) (x_int _) (g_ix at1)) (x_nil))) (p_v (cR := eI) (av_c _ _ (av_c _ _ (av_nil))) (r_how_far (tp_how_far x_10.2.1 x_11.2.1)))) (x_var rfl) (c_int _)) hs (fun h => ?_) (fun h => ?_)) ?_
      · obtain ⟨x_13, h8, h⟩ := bnd h
        obtain ⟨x_14, h9, h⟩ := bnd h
        obtain ⟨links_15, h10, h⟩ := bnd h
        refine w_drop (x_m (c := (e3 eI eI eI)) (xs := s_7) (x_var rfl) rfl (x_cons (x_tup3 (x_cons (x_b (x_cons (x_f2 (x_f2 (x_f2 (x_var rfl) (x_var rfl) (g_at (c := (e3 eI (e2 eI eI) eI)) s_V h8)) (x_int _) (g_ix at0)) (x_f2 (x_f2 (x_var rfl) (x_var rfl) (g_at (c := (e3 eI (e2 eI eI) eI)) s_V h9)) (x_int _) (g_ix at0)) (g_sub _ _)) (x_nil)) (b_abs _)) (x_cons (x_var rfl) (x_cons (x_var rfl) (x_nil))))) (x_nil)) (m_app rfl h10 rfl)) ?_
        obtain rfl := Option.some.inj h
        exact w_endC ⟨rfl, rfl⟩
      · refine w_next ?_
        obtain rfl := Option.some.inj h
        exact w_endC ⟨rfl, rfl⟩
      · rintro _ _ ⟨rfl, rfl⟩
        obtain rfl := Option.some.inj h
        exact w_end (e_0 ⟨_, rfl, rfl⟩)
    · rintro _ _ ⟨j_17, rfl, rfl⟩
      obtain rfl := Option.some.inj h
      exact w_end (e_0 ⟨_, _, rfl, rfl⟩)
  · rintro _ _ ⟨j_19, j_20, rfl, rfl⟩
    refine w_assoc ?_
    obtain ⟨r_21, h11, h⟩ := bnd h
    refine w_set (c := (eL eI)) (x_fz (c := eI) (x_lrg1 (x_cons (x_b (x_cons (x_var rfl) (x_nil)) (b_len (c := (e3 eI (e2 eI eI) eI)) s_V)) (x_nil)) h11)) ?_
    refine w_assoc ?_
    refine w_set (c := eI) (x_int _) ?_
    refine w_assoc ?_
    obtain ⟨s_31, hs, h⟩ := bnd h
    refine w_fold (fun (s_22 : ((List Int) × Int)) ρ M => ∃ j_23 : Option D, ∃ j_24 : Option D, ∃ j_25 : Option D, ρ = [some ((eV (e3 eI (e2 eI eI) eI)).e v_catalog), some (eI.e v_far), some (.ref 0), j_23, j_24, some ((eL eI).e s_22.1), some (eI.e s_22.2), j_25] ∧ M = [cl (e3 eI eI eI) s_18]) (cA := (e3 eI eI eI)) (s := (r_21, (0 : Int))) (i_sq (c := (e3 eI eI eI)) (x_fz (c := (e3 eI eI eI)) (x_bN (x_cons (x_var rfl) (x_nil)) (n_sort (c := (e3 eI eI eI)) (s_R rfl)))) s_L rfl) hs ⟨_, _, _, rfl, rfl⟩ (fun _ _ _ _ => chk_0) ?_ ?_
    · rintro e_26 s_22 _ _ _ h ⟨j_23, j_24, j_25, rfl, rfl⟩
      refine w_stp rfl ?_
      refine w_add ?_
      obtain ⟨x_27, h13, h⟩ := bnd h
      obtain ⟨x_28, h14, h⟩ := bnd h
      obtain ⟨s_29, hs, h⟩ := bnd h
      refine w_cut (fun ρ M => ρ = [some ((eV (e3 eI (e2 eI eI) eI)).e v_catalog), some (eI.e v_far), some (.ref 0), some (eI.e e_26.2.1), some (eI.e e_26.2.2), some ((eL eI).e s_29.1), some (eI.e s_29.2), some (eI.e e_26.1)] ∧ M = [cl (e3 eI eI eI) s_18]) (w_ifT (x_f2T (x_f2 (x_var rfl) (x_var rfl) (g_at (c := eI) s_L h13)) (x_f2 (x_var rfl) (x_var rfl) (g_at (c := eI) s_L h14)) (c_ne (c := eI) (v_ec _ _) (v_ec _ _))) hs (fun h => ?_) (fun h => ?_)) ?_
      · refine w_assoc ?_
        obtain ⟨y_30, h16, h⟩ := bnd h
        refine w_set (c := (eL eI)) (x_call (x_cons (x_var rfl) (x_cons (x_var rfl) (x_cons (x_var rfl) (x_nil)))) (p_v (cR := (eL eI)) (av_c _ _ (av_c _ _ (av_c _ _ (av_nil)))) (r_put_together h16))) ?_
        refine w_set (c := eI) (x_var rfl) ?_
        obtain rfl := Option.some.inj h
        exact w_endC ⟨rfl, rfl⟩
      · refine w_next ?_
        obtain rfl := Option.some.inj h
        exact w_endC ⟨rfl, rfl⟩
      · rintro _ _ ⟨rfl, rfl⟩
        obtain rfl := Option.some.inj h
        exact w_end (e_0 ⟨_, _, _, rfl, rfl⟩)
    · rintro _ _ ⟨j_32, j_33, j_34, rfl, rfl⟩
      obtain ⟨u_35, h17, h⟩ := bnd h
      obtain rfl := Option.some.inj h
      refine w_ret (x_if (c := (eO eI)) (x_f2T (x_b (x_cons (x_var rfl) (x_nil)) (b_lenU s_L h17)) (x_int _) (c_int _)) (x_co (x_var rfl) (show (eO eI).e ((some s_31.2)) = eI.e s_31.2 from (fun _ => rfl) s_31.2)) (x_co (x_non) (show (eO eI).e none = eN.e (()) from (fun _ => rfl) (())))) ?_
      exact f_v0 (eO eI) _
theorem r_steps_of {v_minutes : (List Int)} {v_wide : Int} {r : (List (List Int))} (h : t_steps_of v_minutes v_wide = some r) : csteps_of [(eV eI).e v_minutes, eI.e v_wide] [] = some ((eV (eV eI)).e r, []) := by
  unfold t_steps_of at h
  refine run_wp (f := bsteps_of) (n := 4) ?_
  refine w_add ?_
  refine w_assoc ?_
  refine w_setR (x_mut (c := eN) (x_lst (c := eN) ([] : List Unit) (x_nil) rfl rfl)) ?_
  refine w_assoc ?_
  obtain ⟨s_12, hs, h⟩ := bnd h
  refine w_fold (fun (s_1 : (List (List Int))) ρ M => ∃ j_2 : Option D, ρ = [some ((eV eI).e v_minutes), some (eI.e v_wide), some (.ref 0), j_2] ∧ M = [cl (eV eI) s_1]) (cA := eI) (s := ([] : (List (List Int)))) (i_sq (c := eI) (x_fz (c := eI) (x_bN (x_cons (x_var rfl) (x_nil)) (n_sort (c := eI) s_V))) s_L rfl) hs ⟨_, rfl, rfl⟩ (fun _ _ _ _ => chk_0) ?_ ?_
  · rintro minute_3 s_1 _ _ _ h ⟨j_2, rfl, rfl⟩
    refine w_stp rfl ?_
    refine w_add ?_
    obtain ⟨w_6, h4, h⟩ := bnd h
    obtain ⟨s_7, hs, h⟩ := bnd h
    refine w_cut (fun ρ M => ρ = [some ((eV eI).e v_minutes), some (eI.e v_wide), some (.ref 0), some (eI.e minute_3)] ∧ M = [cl (eV eI) s_7]) (w_ifT (k_andM (x_f2T (x_b (x_cons (x_var rfl) (x_nil)) (b_len (c := (eV eI)) (s_R rfl))) (x_int _) (c_int _)) h4 (fun h => by obtain ⟨x_4, h2, h⟩ := bnd h; obtain ⟨x_5, h3, h⟩ := bnd h; obtain rfl := Option.some.inj h; exact x_f2T (x_f2 (x_var rfl) (x_f2 (x_f2 (x_var rfl) (x_f1 (x_int _) (g_neg _)) (g_at (c := (eV eI)) (s_R rfl) h2)) (x_f1 (x_int _) (g_neg _)) (g_at (c := eI) s_V h3)) (g_sub _ _)) (x_var rfl) (c_int _))) hs (fun h => ?_) (fun h => ?_)) ?_
    · obtain ⟨x_8, h6, h⟩ := bnd h
      obtain ⟨w_9, h7, h⟩ := bnd h
      obtain ⟨a_10, h8, h⟩ := bnd h
      refine w_augIx (c := (eV eI)) (x_var rfl) (x_f1 (x_int _) (g_neg _)) rfl h6 (x_co (x_tup1 (x_cons (x_var rfl) (x_nil))) (show (eV eI).e ([minute_3]) = (e1 eI).e minute_3 from (fun _ => rfl) minute_3)) (u_catV (c := eI) h7) rfl h8 ?_
      obtain rfl := Option.some.inj h
      exact w_endC ⟨rfl, rfl⟩
    · obtain ⟨found_11, h9, h⟩ := bnd h
      refine w_drop (x_m (c := (eV eI)) (xs := s_1) (x_var rfl) rfl (x_cons (x_co (x_tup1 (x_cons (x_var rfl) (x_nil))) (show (eV eI).e ([minute_3]) = (e1 eI).e minute_3 from (fun _ => rfl) minute_3)) (x_nil)) (m_app rfl h9 rfl)) ?_
      obtain rfl := Option.some.inj h
      exact w_endC ⟨rfl, rfl⟩
    · rintro _ _ ⟨rfl, rfl⟩
      obtain rfl := Option.some.inj h
      exact w_end (e_0 ⟨_, rfl, rfl⟩)
  · rintro _ _ ⟨j_13, rfl, rfl⟩
    obtain rfl := Option.some.inj h
    refine w_ret (x_b (x_cons (x_var rfl) (x_nil)) (b_tuple (c := (eV eI)) (s_R rfl))) ?_
    exact f_v0 (eV (eV eI)) _
theorem r_thinned_times {v_times : (List Int)} {v_dead : Int} {r : (List Int)} (h : t_thinned_times v_times v_dead = some r) : cthinned_times [(eV eI).e v_times, eI.e v_dead] [] = some ((eV eI).e r, []) := by
  unfold t_thinned_times at h
  refine run_wp (f := bthinned_times) (n := 4) ?_
  refine w_add ?_
  refine w_assoc ?_
  refine w_set (c := e0) (x_tup0 (x_nil)) ?_
  refine w_assoc ?_
  obtain ⟨s_8, hs, h⟩ := bnd h
  refine w_fold (fun (s_1 : (List Int)) ρ M => ∃ j_2 : Option D, ρ = [some ((eV eI).e v_times), some (eI.e v_dead), some ((eV eI).e s_1), j_2] ∧ M = []) (cA := eI) (s := ([] : (List Int))) (i_sq (c := eI) (x_var rfl) s_V rfl) hs ⟨_, rfl, rfl⟩ (fun _ _ _ _ => chk_0) ?_ ?_
  · rintro time_3 s_1 _ _ _ h ⟨j_2, rfl, rfl⟩
    refine w_stp rfl ?_
    refine w_add ?_
    obtain ⟨w_5, h3, h⟩ := bnd h
    obtain ⟨s_6, hs, h⟩ := bnd h
    refine w_cut (fun ρ M => ρ = [some ((eV eI).e v_times), some (eI.e v_dead), some ((eV eI).e s_6), some (eI.e time_3)] ∧ M = []) (w_ifT (k_orM (x_f2T (x_b (x_cons (x_var rfl) (x_nil)) (b_len (c := eI) s_V)) (x_int _) (c_eq (c := eI) (v_ec _ _) (v_ec _ _))) h3 (fun h => by obtain ⟨x_4, h2, h⟩ := bnd h; obtain rfl := Option.some.inj h; exact x_f2T (x_f2 (x_var rfl) (x_f2 (x_var rfl) (x_f1 (x_int _) (g_neg _)) (g_at (c := eI) s_V h2)) (g_sub _ _)) (x_var rfl) (c_int _))) hs (fun h => ?_) (fun h => ?_)) ?_
    · obtain ⟨found_7, h5, h⟩ := bnd h
      refine w_aug rfl (x_co (x_tup1 (x_cons (x_var rfl) (x_nil))) (show (eV eI).e ([time_3]) = (e1 eI).e time_3 from (fun _ => rfl) time_3)) (u_catV (c := eI) (xs := s_1) h5) ?_
      obtain rfl := Option.some.inj h
      exact w_endC ⟨rfl, rfl⟩
    · refine w_next ?_
      obtain rfl := Option.some.inj h
      exact w_endC ⟨rfl, rfl⟩
    · rintro _ _ ⟨rfl, rfl⟩
      obtain rfl := Option.some.inj h
      exact w_end (e_0 ⟨_, rfl, rfl⟩)
  · rintro _ _ ⟨j_9, rfl, rfl⟩
    obtain rfl := Option.some.inj h
    refine w_ret (x_var rfl) ?_
    exact f_v0 (eV eI) _
theorem r_count_in {v_times : (List Int)} {v_begin : Int} {v_end : Int} {r : Int} (h : t_count_in v_times v_begin v_end = some r) : ccount_in [(eV eI).e v_times, eI.e v_begin, eI.e v_end] [] = some (eI.e r, []) := by
  unfold t_count_in at h
  refine run_wp (f := bcount_in) (n := 4) ?_
  refine w_add ?_
  obtain rfl := Option.some.inj h
  refine w_ret (x_b (x_cons (x_fz (c := eI) (x_lc0f (cB := eI) (p := fun (time_1 : Int) => ((decide (v_begin ≤ time_1)) && (decide (time_1 < v_end)))) (g := fun (time_1 : Int) => (1 : Int)) (i_sq (c := eI) (x_var rfl) s_V rfl) chk_0 (fun time_1 => ⟨_, rfl, x_chainT (x_var rfl) (x_var rfl) (c_int _) (x_var rfl) (c_int _), x_int _⟩))) (x_nil)) (b_len (c := eI) s_L)) ?_
  exact f_v0 eI _
theorem r_most_in {v_times : (List Int)} {v_wide : Int} {r : (Option (Int × Int))} (h : t_most_in v_times v_wide = some r) : cmost_in [(eV eI).e v_times, eI.e v_wide] [] = some ((eO (e2 eI eI)).e r, []) := by
  unfold t_most_in at h
  refine run_wp (f := bmost_in) (n := 5) ?_
  refine w_add ?_
  refine w_assoc ?_
  obtain ⟨told_2, h1, h⟩ := lbnd h
  refine w_setE (c := (eL (e2 eI eI))) (x_fz (c := (e2 eI eI)) (x_lc0 (cB := (e2 eI eI)) (g := fun (time_1 : Int) => ((-((p_count_in v_times time_1 ((time_1 + v_wide))))), time_1)) (i_sq (c := eI) (x_var rfl) s_V rfl) chk_0 (fun time_1 => ⟨_, rfl, x_tup2 (x_cons (x_f1 (x_call (x_cons (x_var rfl) (x_cons (x_var rfl) (x_cons (x_f2 (x_var rfl) (x_var rfl) (g_add _ _)) (x_nil)))) (p_v (cR := eI) (av_c _ _ (av_c _ _ (av_c _ _ (av_nil)))) (r_count_in (tp_count_in v_times time_1 ((time_1 + v_wide)))))) (g_neg _)) (x_cons (x_var rfl) (x_nil)))⟩))) h1 ?_
  refine w_assoc ?_
  refine w_ifT (x_f2T (x_b (x_cons (x_var rfl) (x_nil)) (b_len (c := (e2 eI eI)) s_L)) (x_int _) (c_eq (c := eI) (v_ec _ _) (v_ec _ _))) h (fun h => ?_) (fun h => ?_)
  · obtain rfl := Option.some.inj h
    refine w_ret (x_co (x_non) (show (eO (e2 eI eI)).e none = eN.e (()) from (fun _ => rfl) (()))) ?_
    exact f_v0 (eO (e2 eI eI)) _
  · refine w_next ?_
    refine w_assoc ?_
    obtain ⟨min_3, h2, h⟩ := bnd h
    refine w_asg (x_b (x_cons (x_var rfl) (x_nil)) (b_min (c := (e2 eI eI)) s_L h2)) rfl ?_
    obtain rfl := Option.some.inj h
    refine w_ret (x_co (x_tup2 (x_cons (x_f1 (x_var rfl) (g_neg _)) (x_cons (x_var rfl) (x_nil)))) (show (eO (e2 eI eI)).e ((some (((-min_3.1), min_3.2)))) = (e2 eI eI).e (((-min_3.1), min_3.2)) from (fun _ => rfl) (((-min_3.1), min_3.2)))) ?_
    exact f_v0 (eO (e2 eI eI)) _
theorem r_longest_quiet {v_times : (List Int)} {v_begin : Int} {v_end : Int} {r : (Int × Int)} (h : t_longest_quiet v_times v_begin v_end = some r) : clongest_quiet [(eV eI).e v_times, eI.e v_begin, eI.e v_end] [] = some ((e2 eI eI).e r, []) := by
  unfold t_longest_quiet at h
  refine run_wp (f := blongest_quiet) (n := 7) ?_
  refine w_add ?_
  refine w_assoc ?_
  obtain ⟨best_1, h1, h⟩ := lbnd h
  refine w_setE (c := (e2 eI eI)) (x_tup2 (x_cons (x_var rfl) (x_cons (x_var rfl) (x_nil)))) h1 ?_
  refine w_assoc ?_
  refine w_set (c := eI) (x_var rfl) ?_
  refine w_assoc ?_
  obtain ⟨w_3, h2, h⟩ := bnd h
  obtain ⟨s_10, hs, h⟩ := bnd h
  refine w_fold (fun (s_4 : ((Int × Int) × Int)) ρ M => ∃ j_5 : Option D, ρ = [some ((eV eI).e v_times), some (eI.e v_begin), some (eI.e v_end), some ((e2 eI eI).e s_4.1), some (eI.e s_4.2), j_5, none] ∧ M = []) (cA := eI) (s := (best_1, v_begin)) (i_sq (c := eI) (x_f2 (x_fz (c := eI) (x_lc0f (cB := eI) (p := fun (own_2 : Int) => ((decide (v_begin ≤ own_2)) && (decide (own_2 < v_end)))) (g := fun (own_2 : Int) => own_2) (i_sq (c := eI) (x_var rfl) s_V rfl) chk_0 (fun own_2 => ⟨_, rfl, x_chainT (x_var rfl) (x_var rfl) (c_int _) (x_var rfl) (c_int _), x_var rfl⟩))) (x_fz (c := eI) (x_lst (c := eI) [v_end] (x_cons (x_var rfl) (x_nil)) rfl rfl)) (g_catL (c := eI) t_L t_L h2)) s_L rfl) hs ⟨_, rfl, rfl⟩ (fun _ _ _ _ => chk_0) ?_ ?_
  · rintro time_6 s_4 _ _ _ h ⟨j_5, rfl, rfl⟩
    refine w_stp rfl ?_
    refine w_add ?_
    refine w_assoc ?_
    obtain ⟨s_7, hs, h⟩ := bnd h
    refine w_cut (fun ρ M => ρ = [some ((eV eI).e v_times), some (eI.e v_begin), some (eI.e v_end), some ((e2 eI eI).e s_7), some (eI.e s_4.2), some (eI.e time_6), none] ∧ M = []) (w_ifT (x_f2T (x_f2 (x_var rfl) (x_var rfl) (g_sub _ _)) (x_f2 (x_f2 (x_var rfl) (x_int _) (g_ix at1)) (x_f2 (x_var rfl) (x_int _) (g_ix at0)) (g_sub _ _)) (c_int _)) hs (fun h => ?_) (fun h => ?_)) ?_
    · obtain ⟨best_8, h5, h⟩ := lbnd h
      refine w_setE (c := (e2 eI eI)) (x_tup2 (x_cons (x_var rfl) (x_cons (x_var rfl) (x_nil)))) h5 ?_
      obtain rfl := Option.some.inj h
      exact w_endC ⟨rfl, rfl⟩
    · refine w_next ?_
      obtain rfl := Option.some.inj h
      exact w_endC ⟨rfl, rfl⟩
    · rintro _ _ ⟨rfl, rfl⟩
      obtain ⟨here_9, h6, h⟩ := lbnd h
      refine w_setE (c := eI) (x_b (x_cons (x_var rfl) (x_cons (x_f2 (x_var rfl) (x_int _) (g_add _ _)) (x_nil))) (b_max2 _ _)) h6 ?_
      obtain rfl := Option.some.inj h
      exact w_end (e_0 ⟨_, rfl, rfl⟩)
  · rintro _ _ ⟨j_11, rfl, rfl⟩
    obtain rfl := Option.some.inj h
    refine w_ret (x_var rfl) ?_
    exact f_v0 (e2 eI eI) _
theorem r_before_and_after {v_catalog : (List (Int × (Int × Int) × Int))} {v_far : Int} {v_minutes : Int} {r : (List (Int × Int))} (h : t_before_and_after v_catalog v_far v_minutes = some r) : cbefore_and_after [(eV (e3 eI (e2 eI eI) eI)).e v_catalog, eI.e v_far, eI.e v_minutes] [] = some ((eV (e2 eI eI)).e r, []) := by
  unfold t_before_and_after at h
  refine run_wp (f := bbefore_and_after) (n := 8) ?_
  refine w_add ?_
  refine w_assoc ?_
  refine w_setR (x_mut (c := eN) (x_lst (c := eN) ([] : List Unit) (x_nil) rfl rfl)) ?_
  refine w_assoc ?_
  obtain ⟨y_1, h1, h⟩ := bnd h
  obtain ⟨s_17, hs, h⟩ := bnd h
  refine w_fold (fun (s_2 : (List (Int × Int))) ρ M => ∃ j_3 : Option D, ∃ j_4 : Option D, ∃ j_5 : Option D, ρ = [some ((eV (e3 eI (e2 eI eI) eI)).e v_catalog), some (eI.e v_far), some (eI.e v_minutes), some (.ref 0), j_3, j_4, j_5, none] ∧ M = [cl (e2 eI eI) s_2]) (cA := (eV eI)) (s := ([] : (List (Int × Int)))) (i_sq (c := (eV eI)) (x_call (x_cons (x_var rfl) (x_cons (x_var rfl) (x_cons (x_var rfl) (x_nil)))) (p_v (cR := (eV (eV eI))) (av_c _ _ (av_c _ _ (av_c _ _ (av_nil)))) (r_clusters_of h1))) s_V rfl) hs ⟨_, _, _, rfl, rfl⟩ (fun _ _ _ _ => chk_0) ?_ ?_
  · rintro cluster_6 s_2 _ _ _ h ⟨j_3, j_4, j_5, rfl, rfl⟩
    refine w_stp rfl ?_
    refine w_add ?_
    refine w_assoc ?_
    obtain ⟨y_7, h3, h⟩ := bnd h
    obtain ⟨x_8, h4, h⟩ := bnd h
    refine w_set (c := eI) (x_f2 (x_f2 (x_var rfl) (x_call (x_cons (x_var rfl) (x_cons (x_var rfl) (x_nil))) (p_v (cR := eI) (av_c _ _ (av_c _ _ (av_nil))) (r_main_of h3))) (g_at (c := (e3 eI (e2 eI eI) eI)) s_V h4)) (x_int _) (g_ix at0)) ?_
    refine w_assoc ?_
    obtain ⟨z_11, h6, h⟩ := bnd h
    obtain ⟨before_12, h7, h⟩ := lbnd h
    refine w_setE (c := eI) (x_b (x_cons (x_fz (c := eI) (x_lcF (cB := eI) (g := fun (at_9 : Int) => (1 : Int)) (i_sq (c := eI) (x_var rfl) s_V rfl) chk_0 h6 (fun at_9 => ⟨_, rfl, fun _ h => by obtain ⟨x_10, h5, h⟩ := bnd h; obtain rfl := Option.some.inj h; exact x_f2T (x_f2 (x_f2 (x_var rfl) (x_var rfl) (g_at (c := (e3 eI (e2 eI eI) eI)) s_V h5)) (x_int _) (g_ix at0)) (x_var rfl) (c_int _), x_int _⟩))) (x_nil)) (b_len (c := eI) s_L)) h7 ?_
    obtain ⟨z_15, h9, h⟩ := bnd h
    obtain ⟨found_16, h10, h⟩ := bnd h
    refine w_drop (x_m (c := (e2 eI eI)) (xs := s_2) (x_var rfl) rfl (x_cons (x_tup2 (x_cons (x_var rfl) (x_cons (x_b (x_cons (x_fz (c := eI) (x_lcF (cB := eI) (g := fun (at_13 : Int) => (1 : Int)) (i_sq (c := eI) (x_var rfl) s_V rfl) chk_0 h9 (fun at_13 => ⟨_, rfl, fun _ h => by obtain ⟨x_14, h8, h⟩ := bnd h; obtain rfl := Option.some.inj h; exact x_f2T (x_f2 (x_f2 (x_var rfl) (x_var rfl) (g_at (c := (e3 eI (e2 eI eI) eI)) s_V h8)) (x_int _) (g_ix at0)) (x_var rfl) (c_int _), x_int _⟩))) (x_nil)) (b_len (c := eI) s_L)) (x_nil)))) (x_nil)) (m_app rfl h10 rfl)) ?_
    obtain rfl := Option.some.inj h
    exact w_end (e_0 ⟨_, _, _, rfl, rfl⟩)
  · rintro _ _ ⟨j_18, j_19, j_20, rfl, rfl⟩
    obtain rfl := Option.some.inj h
    refine w_ret (x_b (x_cons (x_var rfl) (x_nil)) (b_tuple (c := (e2 eI eI)) (s_R rfl))) ?_
    exact f_v0 (eV (e2 eI eI)) _
theorem r_thinned {v_catalog : (List (Int × (Int × Int) × Int))} {v_far : Int} {v_minutes : Int} {r : (List (Int × (Int × Int) × Int))} (h : t_thinned v_catalog v_far v_minutes = some r) : cthinned [(eV (e3 eI (e2 eI eI) eI)).e v_catalog, eI.e v_far, eI.e v_minutes] [] = some ((eV (e3 eI (e2 eI eI) eI)).e r, []) := by
  unfold t_thinned at h
  refine run_wp (f := bthinned) (n := 4) ?_
  refine w_add ?_
  obtain ⟨y_1, h1, h⟩ := bnd h
  obtain ⟨l_4, h3, h⟩ := bnd h
  obtain rfl := Option.some.inj h
  refine w_ret (x_b (x_cons (x_fz (c := (e3 eI (e2 eI eI) eI)) (x_bN (x_cons (x_fz (c := (e3 eI (e2 eI eI) eI)) (x_lcM (cB := (e3 eI (e2 eI eI) eI)) (i_sq (c := eI) (x_call (x_cons (x_var rfl) (x_cons (x_var rfl) (x_cons (x_var rfl) (x_nil)))) (p_v (cR := (eV eI)) (av_c _ _ (av_c _ _ (av_c _ _ (av_nil)))) (r_main_shocks h1))) s_V rfl) chk_0 h3 (fun at_2 => ⟨_, rfl, fun _ h => by obtain ⟨x_3, h2, h⟩ := bnd h; obtain rfl := Option.some.inj h; exact x_f2 (x_var rfl) (x_var rfl) (g_at (c := (e3 eI (e2 eI eI) eI)) s_V h2)⟩))) (x_nil)) (n_sort (c := (e3 eI (e2 eI eI) eI)) s_L))) (x_nil)) (b_tuple (c := (e3 eI (e2 eI eI) eI)) s_L)) ?_
  exact f_v0 (eV (e3 eI (e2 eI eI) eI)) _
theorem r_law_one_right {v_draws : (List Int)} {v_times : (List Int)} {v_minutes : Int} {r : (Bool × List Int)} (h : t_law_one_right v_draws v_times v_minutes = some r) : c_law_one_right [.ref 0, (eV eI).e v_times, eI.e v_minutes] [cl eI v_draws] = some (eB.e r.1, [cl eI r.2]) := by
  unfold t_law_one_right at h
  refine run_wp (f := b_law_one_right) (n := 19) ?_
  refine w_add ?_
  refine w_assoc ?_
  obtain ⟨catalog_2, h1, h⟩ := lbnd h
  refine w_setE (c := (eV (e3 eI (e2 eI eI) eI))) (x_b (x_cons (x_fz (c := (e3 eI (e2 eI eI) eI)) (x_lc0 (cB := (e3 eI (e2 eI eI) eI)) (g := fun (time_1 : Int) => (time_1, ((3 : Int), (4 : Int)), (5 : Int))) (i_sq (c := eI) (x_var rfl) s_V rfl) chk_0 (fun time_1 => ⟨_, rfl, x_tup3 (x_cons (x_var rfl) (x_cons (x_tup2 (x_cons (x_int _) (x_cons (x_int _) (x_nil)))) (x_cons (x_int _) (x_nil))))⟩))) (x_nil)) (b_tuple (c := (e3 eI (e2 eI eI) eI)) s_L)) h1 ?_
  refine w_assoc ?_
  obtain ⟨y_3, h2, h⟩ := bnd h
  refine w_set (c := (eV (eV eI))) (x_call (x_cons (x_var rfl) (x_cons (x_var rfl) (x_nil))) (p_v (cR := (eV (eV eI))) (av_c _ _ (av_c _ _ (av_nil))) (r_law_groups h2))) ?_
  refine w_assoc ?_
  obtain ⟨y_4, h3, h⟩ := bnd h
  refine w_set (c := eI) (x_callS (x_cons (x_var rfl) (x_cons (x_int _) (x_nil))) (p_s (cR := eI) (c := eI) rfl rfl (av_c eN () (av_c _ _ (av_nil))) (r_law_take h3) rfl)) ?_
  change WP _ [some (.ref 0), some ((eV eI).e v_times), some (eI.e v_minutes), some ((eV (e3 eI (e2 eI eI) eI)).e catalog_2), none, some ((eV (eV eI)).e y_3), some (eI.e y_4.1), none, none, none, none, none, none, none, none, none, none, none, none] _ _
  refine w_assoc ?_
  obtain ⟨y_5, h4, h⟩ := bnd h
  obtain ⟨q_6, h5, h⟩ := bnd h
  obtain ⟨w_12, h10, h⟩ := bnd h
  refine w_ifT (k_orM (k_not (k_tru (x_call (x_cons (x_call (x_cons (x_var rfl) (x_cons (x_var rfl) (x_cons (x_var rfl) (x_nil)))) (p_v (cR := (eV (eV eI))) (av_c _ _ (av_c _ _ (av_c _ _ (av_nil)))) (r_clusters_of h4))) (x_cons (x_var rfl) (x_nil))) (p_sameT (c := (eV (eV eI))) h5)) (tr_B _))) h10 (fun h => by obtain ⟨y_7, h6, h⟩ := bnd h; obtain ⟨l_10, h8, h⟩ := bnd h; obtain ⟨q_11, h9, h⟩ := bnd h; obtain rfl := Option.some.inj h; exact k_not (k_tru (x_call (x_cons (x_call (x_cons (x_var rfl) (x_cons (x_var rfl) (x_cons (x_var rfl) (x_nil)))) (p_v (cR := (eV eI)) (av_c _ _ (av_c _ _ (av_c _ _ (av_nil)))) (r_main_shocks h6))) (x_cons (x_b (x_cons (x_fz (c := eI) (x_lcM (cB := eI) (i_sq (c := (eV eI)) (x_var rfl) s_V rfl) chk_0 h8 (fun group_8 => ⟨_, rfl, fun _ h => by obtain ⟨x_9, h7, h⟩ := bnd h; obtain rfl := Option.some.inj h; exact x_f2 (x_var rfl) (x_int _) (g_at (c := eI) s_V h7)⟩))) (x_nil)) (b_tuple (c := eI) s_L)) (x_nil))) (p_sameT (c := (eV eI)) h9)) (tr_B _)))) h (fun h => ?_) (fun h => ?_)
  · obtain rfl := Option.some.inj h
    refine w_ret (x_bl _) ?_
    exact f_v1 eB _
  · refine w_next ?_
    refine w_assoc ?_
    obtain ⟨y_13, h11, h⟩ := bnd h
    refine w_set (c := (eV eI)) (x_call (x_cons (x_var rfl) (x_nil)) (p_v (cR := (eV eI)) (av_c _ _ (av_nil)) (r_gaps_of h11))) ?_
    refine w_assoc ?_
    refine w_ifT (k_or (k_not (k_tru (x_isi .tup (x_var rfl) rfl) (tr_B _))) (x_f2T (x_b (x_cons (x_var rfl) (x_nil)) (b_len (c := eI) s_V)) (x_b (x_cons (x_int _) (x_cons (x_f2 (x_b (x_cons (x_var rfl) (x_nil)) (b_len (c := eI) s_V)) (x_int _) (g_sub _ _)) (x_nil))) (b_max2 _ _)) (c_ne (c := eI) (v_ec _ _) (v_ec _ _)))) h (fun h => ?_) (fun h => ?_)
    · obtain rfl := Option.some.inj h
      refine w_ret (x_bl _) ?_
      exact f_v1 eB _
    · refine w_next ?_
      refine w_assoc ?_
      refine w_ifT (k_and (x_f2T (x_b (x_cons (x_var rfl) (x_nil)) (b_len (c := eI) s_V)) (x_int _) (c_int _)) (x_f2T (x_b (x_cons (x_var rfl) (x_nil)) (b_len (c := (eV eI)) s_V)) (x_f2 (x_int _) (x_b (x_cons (x_fz (c := eI) (x_lc0f (cB := eI) (p := fun (gap_14 : Int) => (decide (gap_14 > v_minutes))) (g := fun (gap_14 : Int) => gap_14) (i_sq (c := eI) (x_var rfl) s_V rfl) chk_0 (fun gap_14 => ⟨_, rfl, x_f2T (x_var rfl) (x_var rfl) (c_int _), x_var rfl⟩))) (x_nil)) (b_len (c := eI) s_L)) (g_add _ _)) (c_ne (c := eI) (v_ec _ _) (v_ec _ _)))) h (fun h => ?_) (fun h => ?_)
      · obtain rfl := Option.some.inj h
        refine w_ret (x_bl _) ?_
        exact f_v1 eB _
      · refine w_next ?_
        refine w_assoc ?_
        obtain ⟨y_15, h12, h⟩ := bnd h
        obtain ⟨w_16, h13, h⟩ := bnd h
        obtain ⟨max_17, h14, h⟩ := bnd h
        refine w_ifT (k_not (k_tru (x_call (x_cons (x_call (x_cons (x_var rfl) (x_cons (x_var rfl) (x_nil))) (p_v (cR := (eO eI)) (av_c _ _ (av_c _ _ (av_nil))) (r_least_minutes h12))) (x_cons (x_co (x_b (x_cons (x_f2 (x_co (x_tup1 (x_cons (x_int _) (x_nil))) (show (eV eI).e ([((0 : Int))]) = (e1 eI).e ((0 : Int)) from (fun _ => rfl) ((0 : Int)))) (x_var rfl) (g_catV (c := eI) h13)) (x_nil)) (b_max (c := eI) s_V h14)) (show (eO eI).e ((some max_17)) = eI.e max_17 from (fun _ => rfl) max_17)) (x_nil))) (p_same (c := (eO eI)) _ _)) (tr_B _))) h (fun h => ?_) (fun h => ?_)
        · obtain rfl := Option.some.inj h
          refine w_ret (x_bl _) ?_
          exact f_v1 eB _
        · refine w_next ?_
          refine w_assoc ?_
          obtain ⟨y_18, h15, h⟩ := bnd h
          obtain ⟨l_23, h18, h⟩ := bnd h
          obtain ⟨q_24, h19, h⟩ := bnd h
          refine w_ifT (k_not (k_tru (x_call (x_cons (x_call (x_cons (x_var rfl) (x_cons (x_var rfl) (x_nil))) (p_v (cR := (eV (eV eI))) (av_c _ _ (av_c _ _ (av_nil))) (r_steps_of h15))) (x_cons (x_b (x_cons (x_fz (c := (eV eI)) (x_lcM (cB := (eV eI)) (i_sq (c := (eV eI)) (x_var rfl) s_V rfl) chk_0 h18 (fun group_19 => ⟨_, rfl, fun _ h => by obtain ⟨l_22, h17, h⟩ := bnd h; obtain rfl := Option.some.inj h; exact x_b (x_cons (x_fz (c := eI) (x_lcM (cB := eI) (i_sq (c := eI) (x_var rfl) s_V rfl) chk_0 h17 (fun k_20 => ⟨_, rfl, fun _ h => by obtain ⟨x_21, h16, h⟩ := bnd h; obtain rfl := Option.some.inj h; exact x_f2 (x_var rfl) (x_var rfl) (g_at (c := eI) s_V h16)⟩))) (x_nil)) (b_tuple (c := eI) s_L)⟩))) (x_nil)) (b_tuple (c := (eV eI)) s_L)) (x_nil))) (p_sameT (c := (eV (eV eI))) h19)) (tr_B _))) h (fun h => ?_) (fun h => ?_)
          · obtain rfl := Option.some.inj h
            refine w_ret (x_bl _) ?_
            exact f_v1 eB _
          · refine w_next ?_
            refine w_assoc ?_
            obtain ⟨y_25, h20, h⟩ := bnd h
            refine w_set (c := (eV eI)) (x_call (x_cons (x_var rfl) (x_cons (x_var rfl) (x_nil))) (p_v (cR := (eV eI)) (av_c _ _ (av_c _ _ (av_nil))) (r_thinned_times h20))) ?_
            refine w_assoc ?_
            obtain ⟨w_30, h24, h⟩ := bnd h
            refine w_ifT (k_orM (k_not (k_tru (x_isi .tup (x_var rfl) rfl) (tr_B _))) h24 (fun h => by obtain ⟨z_29, h23, h⟩ := bnd h; obtain rfl := Option.some.inj h; exact x_f2T (x_b (x_cons (x_fz (c := (eV eI)) (x_lcF (cB := (eV eI)) (g := fun (group_26 : (List Int)) => group_26) (i_sq (c := (eV eI)) (x_var rfl) s_V rfl) chk_0 h23 (fun group_26 => ⟨_, rfl, fun _ h => by obtain ⟨x_27, h21, h⟩ := bnd h; obtain ⟨x_28, h22, h⟩ := bnd h; obtain rfl := Option.some.inj h; exact x_f2T (x_f2 (x_var rfl) (x_f2 (x_var rfl) (x_int _) (g_at (c := eI) s_V h21)) (g_at (c := eI) s_V h22)) (x_var rfl) (c_notIn (c_in (c := eI) (v_ec _ _) i_V)), x_var rfl⟩))) (x_nil)) (b_len (c := (eV eI)) s_L)) (x_int _) (c_int _))) h (fun h => ?_) (fun h => ?_)
            · obtain rfl := Option.some.inj h
              refine w_ret (x_bl _) ?_
              exact f_v1 eB _
            · refine w_next ?_
              refine w_assoc ?_
              obtain ⟨r_31, h25, h⟩ := bnd h
              obtain ⟨z_35, h28, h⟩ := bnd h
              refine w_ifT (x_f2T (x_b (x_cons (x_fz (c := eI) (x_lcF (cB := eI) (g := fun (k_32 : Int) => k_32) (i_rg2 (x_cons (x_int _) (x_cons (x_b (x_cons (x_var rfl) (x_nil)) (b_len (c := eI) s_V)) (x_nil))) h25) chk_0 h28 (fun k_32 => ⟨_, rfl, fun _ h => by obtain ⟨x_33, h26, h⟩ := bnd h; obtain ⟨x_34, h27, h⟩ := bnd h; obtain rfl := Option.some.inj h; exact x_f2T (x_f2 (x_f2 (x_var rfl) (x_var rfl) (g_at (c := eI) s_V h26)) (x_f2 (x_var rfl) (x_f2 (x_var rfl) (x_int _) (g_sub _ _)) (g_at (c := eI) s_V h27)) (g_sub _ _)) (x_var rfl) (c_int _), x_var rfl⟩))) (x_nil)) (b_len (c := eI) s_L)) (x_int _) (c_int _)) h (fun h => ?_) (fun h => ?_)
              · obtain rfl := Option.some.inj h
                refine w_ret (x_bl _) ?_
                exact f_v1 eB _
              · refine w_next ?_
                refine w_assoc ?_
                obtain ⟨r_96, hs, h29⟩ := bnd h
                refine w_cut (fun ρ M => ∃ s_36 : Unit, Ex.go s_36 = r_96 ∧ ∃ j_37 : Option D, ∃ j_38 : Option D, ρ = [some (.ref 0), some ((eV eI).e v_times), some (eI.e v_minutes), some ((eV (e3 eI (e2 eI eI) eI)).e catalog_2), none, some ((eV (eV eI)).e y_3), some (eI.e y_4.1), none, some ((eV eI).e y_13), none, none, some ((eV eI).e y_25), j_37, j_38, none, none, none, none, none] ∧ M = [cl eI y_4.2]) (w_ifT (x_f2T (x_b (x_cons (x_var rfl) (x_nil)) (b_len (c := eI) s_V)) (x_int _) (c_int _)) hs (fun h => ?_) (fun h => ?_)) ?_
                · refine w_assoc ?_
                  obtain ⟨y_39, h30, h⟩ := bnd h
                  refine w_set (c := (eO (e2 eI eI))) (x_call (x_cons (x_var rfl) (x_cons (x_f2 (x_var rfl) (x_int _) (g_add _ _)) (x_nil))) (p_v (cR := (eO (e2 eI eI))) (av_c _ _ (av_c _ _ (av_nil))) (r_most_in h30))) ?_
                  change WP _ [some (.ref 0), some ((eV eI).e v_times), some (eI.e v_minutes), some ((eV (e3 eI (e2 eI eI) eI)).e catalog_2), none, some ((eV (eV eI)).e y_3), some (eI.e y_4.1), none, some ((eV eI).e y_13), none, none, some ((eV eI).e y_25), some ((eO (e2 eI eI)).e y_39), none, none, none, none, none, none] _ _
                  refine w_assoc ?_
                  obtain ⟨w_43, h33, h⟩ := bnd h
                  refine w_ifT (k_orM (k_not (k_tru (x_isiO .tup (x_var rfl) (fun _ => rfl)) (tr_B _))) h33 (fun h => by obtain ⟨w_40, h31, h⟩ := bnd h; obtain ⟨max_42, h32, h⟩ := bnd h; obtain rfl := Option.some.inj h; exact x_f2T (x_f2 (x_cast (c := (e2 eI eI)) (x_var rfl) h31) (x_int _) (g_ix at0)) (x_b (x_cons (x_fz (c := eI) (x_lc0 (cB := eI) (g := fun (group_41 : (List Int)) => (List.length group_41 : Int)) (i_sq (c := (eV eI)) (x_var rfl) s_V rfl) chk_0 (fun group_41 => ⟨_, rfl, x_b (x_cons (x_var rfl) (x_nil)) (b_len (c := eI) s_V)⟩))) (x_nil)) (b_max (c := eI) s_L h32)) (c_int _))) h (fun h => ?_) (fun h => ?_)
                  · obtain rfl := Option.some.inj h
                    refine w_ret (x_bl _) ?_
                    obtain rfl := Option.some.inj h29
                    refine cq_ret ?_
                    exact f_v1 eB _
                  · refine w_next ?_
                    refine w_assoc ?_
                    obtain ⟨x_44, h34, h⟩ := bnd h
                    obtain ⟨x_45, h35, h⟩ := bnd h
                    obtain ⟨y_46, h36, h⟩ := bnd h
                    refine w_set (c := (e2 eI eI)) (x_call (x_cons (x_var rfl) (x_cons (x_f2 (x_var rfl) (x_int _) (g_at (c := eI) s_V h34)) (x_cons (x_f2 (x_f2 (x_var rfl) (x_f1 (x_int _) (g_neg _)) (g_at (c := eI) s_V h35)) (x_int _) (g_add _ _)) (x_nil)))) (p_v (cR := (e2 eI eI)) (av_c _ _ (av_c _ _ (av_c _ _ (av_nil)))) (r_longest_quiet h36))) ?_
                    obtain ⟨w_51, h40, h⟩ := bnd h
                    refine w_ifT (k_orM (k_not (k_tru (x_isi .tup (x_var rfl) rfl) (tr_B _))) h40 (fun h => by obtain ⟨w_50, h39, h⟩ := bnd h; obtain rfl := Option.some.inj h; exact k_orM (x_f2T (x_b (x_cons (x_var rfl) (x_nil)) (b_lenT rfl)) (x_int _) (c_ne (c := eI) (v_ec _ _) (v_ec _ _))) h39 (fun h => by obtain ⟨w_48, h37, h⟩ := bnd h; obtain ⟨max_49, h38, h⟩ := bnd h; obtain rfl := Option.some.inj h; exact x_f2T (x_f2 (x_f2 (x_var rfl) (x_int _) (g_ix at1)) (x_f2 (x_var rfl) (x_int _) (g_ix at0)) (g_sub _ _)) (x_b (x_cons (x_f2 (x_fz (c := eI) (x_lst (c := eI) [(0 : Int)] (x_cons (x_int _) (x_nil)) rfl rfl)) (x_fz (c := eI) (x_lc0 (cB := eI) (g := fun (gap_47 : Int) => (gap_47 - (1 : Int))) (i_sq (c := eI) (x_var rfl) s_V rfl) chk_0 (fun gap_47 => ⟨_, rfl, x_f2 (x_var rfl) (x_int _) (g_sub _ _)⟩))) (g_catL (c := eI) t_L t_L h37)) (x_nil)) (b_max (c := eI) s_L h38)) (c_ne (c := eI) (v_ec _ _) (v_ec _ _))))) h (fun h => ?_) (fun h => ?_)
                    · obtain rfl := Option.some.inj h
                      refine w_ret (x_bl _) ?_
                      obtain rfl := Option.some.inj h29
                      refine cq_ret ?_
                      exact f_v1 eB _
                    · refine w_next ?_
                      obtain rfl := Option.some.inj h
                      exact w_endC ⟨_, rfl, _, _, rfl, rfl⟩
                · refine w_next ?_
                  obtain rfl := Option.some.inj h
                  exact w_endC ⟨_, rfl, _, _, rfl, rfl⟩
                · rintro _ _ ⟨s_36, rfl, j_37, j_38, rfl, rfl⟩
                  have h := h29
                  rw [cas_go] at h
                  refine w_assoc ?_
                  obtain ⟨l_56, h43, h⟩ := bnd h
                  refine w_set (c := (eL eI)) (x_fz (c := eI) (x_lcS (S := (List Int)) (cB := eI) (fun (s_54 : (List Int)) => [cl eI s_54]) (s := y_4.2) (i_sq (c := eI) (x_var rfl) s_V rfl) (fun _ => chk_0) h43 (fun time_52 s_54 => ⟨_, rfl, fun y_57 s_58 h => by obtain ⟨y_55, h42, h⟩ := bnd h; obtain ⟨rfl, rfl⟩ := pinj h; exact x_callS (x_cons (x_var rfl) (x_cons (x_int _) (x_nil))) (p_s (cR := eI) (c := eI) rfl rfl (av_c eN () (av_c _ _ (av_nil))) (r_law_take h42) rfl)⟩))) ?_
                  refine w_assoc ?_
                  obtain ⟨r_59, h44, h⟩ := bnd h
                  obtain ⟨l_63, h47, h⟩ := bnd h
                  refine w_set (c := (eV (e3 eI (e2 eI eI) eI))) (x_b (x_cons (x_fz (c := (e3 eI (e2 eI eI) eI)) (x_lcM (cB := (e3 eI (e2 eI eI) eI)) (i_rg1 (x_cons (x_b (x_cons (x_var rfl) (x_nil)) (b_len (c := eI) s_V)) (x_nil)) h44) chk_0 h47 (fun k_60 => ⟨_, rfl, fun _ h => by obtain ⟨x_61, h45, h⟩ := bnd h; obtain ⟨x_62, h46, h⟩ := bnd h; obtain rfl := Option.some.inj h; exact x_tup3 (x_cons (x_f2 (x_var rfl) (x_var rfl) (g_at (c := eI) s_V h45)) (x_cons (x_tup2 (x_cons (x_int _) (x_cons (x_int _) (x_nil)))) (x_cons (x_f2 (x_var rfl) (x_var rfl) (g_at (c := eI) s_L h46)) (x_nil))))⟩))) (x_nil)) (b_tuple (c := (e3 eI (e2 eI eI) eI)) s_L)) ?_
                  refine w_assoc ?_
                  refine w_setR (x_mut (c := eN) (x_lst (c := eN) ([] : List Unit) (x_nil) rfl rfl)) ?_
                  change WP _ [some (.ref 0), some ((eV eI).e v_times), some (eI.e v_minutes), some ((eV (e3 eI (e2 eI eI) eI)).e catalog_2), none, some ((eV (eV eI)).e y_3), some (eI.e y_4.1), none, some ((eV eI).e y_13), none, none, some ((eV eI).e y_25), j_37, j_38, some ((eL eI).e l_56.1), some ((eV (e3 eI (e2 eI eI) eI)).e l_63), some (.ref 1), none, none] _ _
                  refine w_assoc ?_
                  refine w_setR (x_mut (c := eN) (x_lst (c := eN) ([] : List Unit) (x_nil) rfl rfl)) ?_
                  refine w_assoc ?_
                  obtain ⟨s_83, hs, h⟩ := bnd h
                  refine w_fold (fun (s_64 : ((List Int) × (List (Int × Int)))) ρ M => ∃ j_65 : Option D, ∃ j_66 : Option D, ρ = [some (.ref 0), some ((eV eI).e v_times), some (eI.e v_minutes), some ((eV (e3 eI (e2 eI eI) eI)).e catalog_2), none, some ((eV (eV eI)).e y_3), some (eI.e y_4.1), j_65, some ((eV eI).e y_13), none, none, some ((eV eI).e y_25), j_37, j_38, some ((eL eI).e l_56.1), some ((eV (e3 eI (e2 eI eI) eI)).e l_63), some (.ref 1), some (.ref 2), j_66] ∧ M = [cl eI l_56.2, cl eI s_64.1, cl (e2 eI eI) s_64.2]) (cA := (eV eI)) (s := (([] : (List Int)), ([] : (List (Int × Int))))) (i_sq (c := (eV eI)) (x_var rfl) s_V rfl) hs ⟨_, _, rfl, rfl⟩ (fun _ _ _ _ => chk_0) ?_ ?_
                  · rintro group_67 s_64 _ _ _ h ⟨j_65, j_66, rfl, rfl⟩
                    refine w_stp rfl ?_
                    refine w_add ?_
                    refine w_assoc ?_
                    obtain ⟨l_71, h51, h⟩ := bnd h
                    obtain ⟨min_72, h52, h⟩ := bnd h
                    refine w_set (c := eI) (x_f2 (x_b (x_cons (x_fz (c := (e3 eI eI eI)) (x_lcM (cB := (e3 eI eI eI)) (i_sq (c := eI) (x_var rfl) s_V rfl) chk_0 h51 (fun k_68 => ⟨_, rfl, fun _ h => by obtain ⟨x_69, h49, h⟩ := bnd h; obtain ⟨x_70, h50, h⟩ := bnd h; obtain rfl := Option.some.inj h; exact x_tup3 (x_cons (x_f1 (x_f2 (x_var rfl) (x_var rfl) (g_at (c := eI) s_L h49)) (g_neg _)) (x_cons (x_f2 (x_var rfl) (x_var rfl) (g_at (c := eI) s_V h50)) (x_cons (x_var rfl) (x_nil))))⟩))) (x_nil)) (b_min (c := (e3 eI eI eI)) s_L h52)) (x_int _) (g_ix at2)) ?_
                    refine w_assoc ?_
                    obtain ⟨mains_73, h53, h⟩ := bnd h
                    refine w_drop (x_m (c := eI) (xs := s_64.1) (x_var rfl) rfl (x_cons (x_var rfl) (x_nil)) (m_app rfl h53 rfl)) ?_
                    obtain ⟨z_77, h56, h⟩ := bnd h
                    obtain ⟨z_81, h59, h⟩ := bnd h
                    obtain ⟨sides_82, h60, h⟩ := bnd h
                    refine w_drop (x_m (c := (e2 eI eI)) (xs := s_64.2) (x_var rfl) rfl (x_cons (x_tup2 (x_cons (x_b (x_cons (x_fz (c := eI) (x_lcF (cB := eI) (g := fun (k_74 : Int) => k_74) (i_sq (c := eI) (x_var rfl) s_V rfl) chk_0 h56 (fun k_74 => ⟨_, rfl, fun _ h => by obtain ⟨x_75, h54, h⟩ := bnd h; obtain ⟨x_76, h55, h⟩ := bnd h; obtain rfl := Option.some.inj h; exact x_f2T (x_f2 (x_var rfl) (x_var rfl) (g_at (c := eI) s_V h54)) (x_f2 (x_var rfl) (x_var rfl) (g_at (c := eI) s_V h55)) (c_int _), x_var rfl⟩))) (x_nil)) (b_len (c := eI) s_L)) (x_cons (x_b (x_cons (x_fz (c := eI) (x_lcF (cB := eI) (g := fun (k_78 : Int) => k_78) (i_sq (c := eI) (x_var rfl) s_V rfl) chk_0 h59 (fun k_78 => ⟨_, rfl, fun _ h => by obtain ⟨x_79, h57, h⟩ := bnd h; obtain ⟨x_80, h58, h⟩ := bnd h; obtain rfl := Option.some.inj h; exact x_f2T (x_f2 (x_var rfl) (x_var rfl) (g_at (c := eI) s_V h57)) (x_f2 (x_var rfl) (x_var rfl) (g_at (c := eI) s_V h58)) (c_int _), x_var rfl⟩))) (x_nil)) (b_len (c := eI) s_L)) (x_nil)))) (x_nil)) (m_app rfl h60 rfl)) ?_
                    obtain rfl := Option.some.inj h
                    exact w_end (e_0 ⟨_, _, rfl, rfl⟩)
                  · rintro _ _ ⟨j_84, j_85, rfl, rfl⟩
                    refine w_assoc ?_
                    obtain ⟨y_86, h61, h⟩ := bnd h
                    obtain ⟨q_87, h62, h⟩ := bnd h
                    obtain ⟨w_90, h65, h⟩ := bnd h
                    refine w_ifT (k_orM (k_not (k_tru (x_call (x_cons (x_call (x_cons (x_var rfl) (x_cons (x_var rfl) (x_cons (x_var rfl) (x_nil)))) (p_v (cR := (eV eI)) (av_c _ _ (av_c _ _ (av_c _ _ (av_nil)))) (r_main_shocks h61))) (x_cons (x_b (x_cons (x_var rfl) (x_nil)) (b_tuple (c := eI) (s_R rfl))) (x_nil))) (p_sameT (c := (eV eI)) h62)) (tr_B _))) h65 (fun h => by obtain ⟨y_88, h63, h⟩ := bnd h; obtain ⟨q_89, h64, h⟩ := bnd h; obtain rfl := Option.some.inj h; exact k_not (k_tru (x_call (x_cons (x_call (x_cons (x_var rfl) (x_cons (x_var rfl) (x_cons (x_var rfl) (x_nil)))) (p_v (cR := (eV (e2 eI eI))) (av_c _ _ (av_c _ _ (av_c _ _ (av_nil)))) (r_before_and_after h63))) (x_cons (x_b (x_cons (x_var rfl) (x_nil)) (b_tuple (c := (e2 eI eI)) (s_R rfl))) (x_nil))) (p_sameT (c := (eV (e2 eI eI))) h64)) (tr_B _)))) h (fun h => ?_) (fun h => ?_)
                    · obtain rfl := Option.some.inj h
                      refine w_ret (x_bl _) ?_
                      exact f_v1 eB _
                    · refine w_next ?_
                      obtain ⟨y_91, h66, h⟩ := bnd h
                      obtain ⟨l_94, h68, h⟩ := bnd h
                      obtain ⟨q_95, h69, h⟩ := bnd h
                      obtain rfl := Option.some.inj h
                      refine w_ret (x_call (x_cons (x_call (x_cons (x_var rfl) (x_cons (x_var rfl) (x_cons (x_var rfl) (x_nil)))) (p_v (cR := (eV (e3 eI (e2 eI eI) eI))) (av_c _ _ (av_c _ _ (av_c _ _ (av_nil)))) (r_thinned h66))) (x_cons (x_b (x_cons (x_fz (c := (e3 eI (e2 eI eI) eI)) (x_bN (x_cons (x_fz (c := (e3 eI (e2 eI eI) eI)) (x_lcM (cB := (e3 eI (e2 eI eI) eI)) (i_ref (c := eI) (x_var rfl) rfl) (chk_r rfl) h68 (fun k_92 => ⟨_, rfl, fun _ h => by obtain ⟨x_93, h67, h⟩ := bnd h; obtain rfl := Option.some.inj h; exact x_f2 (x_var rfl) (x_var rfl) (g_at (c := (e3 eI (e2 eI eI) eI)) s_V h67)⟩))) (x_nil)) (n_sort (c := (e3 eI (e2 eI eI) eI)) s_L))) (x_nil)) (b_tuple (c := (e3 eI (e2 eI eI) eI)) s_L)) (x_nil))) (p_sameT (c := (eV (e3 eI (e2 eI eI) eI))) h69)) ?_
                      exact f_v1 eB _
theorem r_law_groups_1 {v_times : (List Int)} {v_minutes : Int} {r : (List (List Int))} (h : t_law_groups_1 v_times v_minutes = some r) : c_law_groups [(eL eI).e v_times, eI.e v_minutes] [] = some ((eV (eV eI)).e r, []) := by
  unfold t_law_groups_1 at h
  refine run_wp (f := b_law_groups) (n := 4) ?_
  refine w_add ?_
  refine w_assoc ?_
  refine w_setR (x_mut (c := eN) (x_lst (c := eN) ([] : List Unit) (x_nil) rfl rfl)) ?_
  refine w_assoc ?_
  obtain ⟨r_1, h1, h⟩ := bnd h
  obtain ⟨s_13, hs, h⟩ := bnd h
  refine w_fold (fun (s_2 : (List (List Int))) ρ M => ∃ j_3 : Option D, ρ = [some ((eL eI).e v_times), some (eI.e v_minutes), some (.ref 0), j_3] ∧ M = [cl (eV eI) s_2]) (cA := eI) (s := ([] : (List (List Int)))) (i_rg1 (x_cons (x_b (x_cons (x_var rfl) (x_nil)) (b_len (c := eI) s_L)) (x_nil)) h1) hs ⟨_, rfl, rfl⟩ (fun _ _ _ _ => chk_0) ?_ ?_
  · rintro k_4 s_2 _ _ _ h ⟨j_3, rfl, rfl⟩
    refine w_stp rfl ?_
    refine w_add ?_
    obtain ⟨w_7, h5, h⟩ := bnd h
    obtain ⟨s_8, hs, h⟩ := bnd h
    refine w_cut (fun ρ M => ρ = [some ((eL eI).e v_times), some (eI.e v_minutes), some (.ref 0), some (eI.e k_4)] ∧ M = [cl (eV eI) s_8]) (w_ifT (k_andM (x_f2T (x_var rfl) (x_int _) (c_int _)) h5 (fun h => by obtain ⟨x_5, h3, h⟩ := bnd h; obtain ⟨x_6, h4, h⟩ := bnd h; obtain rfl := Option.some.inj h; exact x_f2T (x_f2 (x_f2 (x_var rfl) (x_var rfl) (g_at (c := eI) s_L h3)) (x_f2 (x_var rfl) (x_f2 (x_var rfl) (x_int _) (g_sub _ _)) (g_at (c := eI) s_L h4)) (g_sub _ _)) (x_var rfl) (c_int _))) hs (fun h => ?_) (fun h => ?_)) ?_
    · obtain ⟨x_9, h7, h⟩ := bnd h
      obtain ⟨w_10, h8, h⟩ := bnd h
      obtain ⟨a_11, h9, h⟩ := bnd h
      refine w_setIx (c := (eV eI)) (x_f2 (x_f2 (x_var rfl) (x_f1 (x_int _) (g_neg _)) (g_at (c := (eV eI)) (s_R rfl) h7)) (x_co (x_tup1 (x_cons (x_var rfl) (x_nil))) (show (eV eI).e ([k_4]) = (e1 eI).e k_4 from (fun _ => rfl) k_4)) (g_catV (c := eI) h8)) (x_var rfl) (x_f1 (x_int _) (g_neg _)) rfl h9 ?_
      obtain rfl := Option.some.inj h
      exact w_endC ⟨rfl, rfl⟩
    · obtain ⟨found_12, h10, h⟩ := bnd h
      refine w_drop (x_m (c := (eV eI)) (xs := s_2) (x_var rfl) rfl (x_cons (x_co (x_tup1 (x_cons (x_var rfl) (x_nil))) (show (eV eI).e ([k_4]) = (e1 eI).e k_4 from (fun _ => rfl) k_4)) (x_nil)) (m_app rfl h10 rfl)) ?_
      obtain rfl := Option.some.inj h
      exact w_endC ⟨rfl, rfl⟩
    · rintro _ _ ⟨rfl, rfl⟩
      obtain rfl := Option.some.inj h
      exact w_end (e_0 ⟨_, rfl, rfl⟩)
  · rintro _ _ ⟨j_14, rfl, rfl⟩
    obtain rfl := Option.some.inj h
    refine w_ret (x_b (x_cons (x_var rfl) (x_nil)) (b_tuple (c := (eV eI)) (s_R rfl))) ?_
    exact f_v0 (eV (eV eI)) _
theorem r_law_two_right {v_draws : (List Int)} {v_times : (List Int)} {v_minutes : Int} {r : (Bool × List Int)} (h : t_law_two_right v_draws v_times v_minutes = some r) : c_law_two_right [.ref 0, (eV eI).e v_times, eI.e v_minutes] [cl eI v_draws] = some (eB.e r.1, [cl eI r.2]) := by
  unfold t_law_two_right at h
  refine run_wp (f := b_law_two_right) (n := 11) ?_
  refine w_add ?_
  refine w_assoc ?_
  obtain ⟨l_5, h3, h⟩ := bnd h
  refine w_set (c := (eL eI)) (x_fz (c := eI) (x_lcS (S := (List Int)) (cB := eI) (fun (s_3 : (List Int)) => [cl eI s_3]) (s := v_draws) (i_sq (c := eI) (x_var rfl) s_V rfl) (fun _ => chk_0) h3 (fun time_1 s_3 => ⟨_, rfl, fun y_6 s_7 h => by obtain ⟨y_4, h2, h⟩ := bnd h; obtain ⟨rfl, rfl⟩ := pinj h; exact x_callS (x_cons (x_var rfl) (x_cons (x_int _) (x_nil))) (p_s (cR := eI) (c := eI) rfl rfl (av_c eN () (av_c _ _ (av_nil))) (r_law_take h2) rfl)⟩))) ?_
  refine w_assoc ?_
  obtain ⟨r_8, h4, h⟩ := bnd h
  obtain ⟨l_12, h7, h⟩ := bnd h
  refine w_set (c := (eV (e3 eI (e2 eI eI) eI))) (x_b (x_cons (x_fz (c := (e3 eI (e2 eI eI) eI)) (x_lcM (cB := (e3 eI (e2 eI eI) eI)) (i_rg1 (x_cons (x_b (x_cons (x_var rfl) (x_nil)) (b_len (c := eI) s_V)) (x_nil)) h4) chk_0 h7 (fun k_9 => ⟨_, rfl, fun _ h => by obtain ⟨x_10, h5, h⟩ := bnd h; obtain ⟨x_11, h6, h⟩ := bnd h; obtain rfl := Option.some.inj h; exact x_tup3 (x_cons (x_f2 (x_var rfl) (x_var rfl) (g_at (c := eI) s_V h5)) (x_cons (x_tup2 (x_cons (x_f2 (x_int _) (x_f2 (x_var rfl) (x_var rfl) (g_at (c := eI) s_L h6)) (g_mulL (by decide))) (x_cons (x_int _) (x_nil)))) (x_cons (x_int _) (x_nil))))⟩))) (x_nil)) (b_tuple (c := (e3 eI (e2 eI eI) eI)) s_L)) ?_
  refine w_assoc ?_
  refine w_setR (x_mut (c := eN) (x_lst (c := eN) ([] : List Unit) (x_nil) rfl rfl)) ?_
  change WP _ [some (.ref 0), some ((eV eI).e v_times), some (eI.e v_minutes), some ((eL eI).e l_5.1), none, some ((eV (e3 eI (e2 eI eI) eI)).e l_12), none, some (.ref 1), none, none, none] _ _
  refine w_assoc ?_
  obtain ⟨s_36, hs, h⟩ := bnd h
  refine w_fold (fun (s_13 : (List (List Int))) ρ M => ∃ j_14 : Option D, ∃ j_15 : Option D, ∃ j_16 : Option D, ρ = [some (.ref 0), some ((eV eI).e v_times), some (eI.e v_minutes), some ((eL eI).e l_5.1), none, some ((eV (e3 eI (e2 eI eI) eI)).e l_12), none, some (.ref 1), j_14, j_15, j_16] ∧ M = [cl eI l_5.2, cl (eV eI) s_13]) (cA := eI) (s := ([] : (List (List Int)))) (i_rg1 (x_cons (x_int _) (x_nil)) (by rfl)) hs ⟨_, _, _, rfl, rfl⟩ (fun _ _ _ _ => chk_0) ?_ ?_
  · rintro place_17 s_13 _ _ _ h ⟨j_14, j_15, j_16, rfl, rfl⟩
    refine w_stp rfl ?_
    refine w_add ?_
    refine w_assoc ?_
    obtain ⟨r_18, h9, h⟩ := bnd h
    obtain ⟨z_21, h11, h⟩ := bnd h
    obtain ⟨own_22, h12, h⟩ := lbnd h
    refine w_setE (c := (eL eI)) (x_fz (c := eI) (x_lcF (cB := eI) (g := fun (k_19 : Int) => k_19) (i_rg1 (x_cons (x_b (x_cons (x_var rfl) (x_nil)) (b_len (c := eI) s_V)) (x_nil)) h9) chk_0 h11 (fun k_19 => ⟨_, rfl, fun _ h => by obtain ⟨x_20, h10, h⟩ := bnd h; obtain rfl := Option.some.inj h; exact x_f2T (x_f2 (x_var rfl) (x_var rfl) (g_at (c := eI) s_L h10)) (x_var rfl) (c_eq (c := eI) (v_ec _ _) (v_ec _ _)), x_var rfl⟩))) h12 ?_
    obtain ⟨l_25, h14, h⟩ := bnd h
    obtain ⟨y_26, h15, h⟩ := bnd h
    obtain ⟨s_34, hs, h⟩ := bnd h
    refine w_fold (fun (s_27 : (List (List Int))) ρ M => ∃ j_28 : Option D, ρ = [some (.ref 0), some ((eV eI).e v_times), some (eI.e v_minutes), some ((eL eI).e l_5.1), none, some ((eV (e3 eI (e2 eI eI) eI)).e l_12), none, some (.ref 1), some (eI.e place_17), some ((eL eI).e own_22), j_28] ∧ M = [cl eI l_5.2, cl (eV eI) s_27]) (cA := (eV eI)) (s := s_13) (i_sq (c := (eV eI)) (x_call (x_cons (x_fz (c := eI) (x_lcM (cB := eI) (i_sq (c := eI) (x_var rfl) s_L rfl) chk_0 h14 (fun k_23 => ⟨_, rfl, fun _ h => by obtain ⟨x_24, h13, h⟩ := bnd h; obtain rfl := Option.some.inj h; exact x_f2 (x_var rfl) (x_var rfl) (g_at (c := eI) s_V h13)⟩))) (x_cons (x_var rfl) (x_nil))) (p_v (cR := (eV (eV eI))) (av_c _ _ (av_c _ _ (av_nil))) (r_law_groups_1 h15))) s_V rfl) hs ⟨_, rfl, rfl⟩ (fun _ _ _ _ => chk_0) ?_ ?_
    · rintro group_29 s_27 _ _ _ h ⟨j_28, rfl, rfl⟩
      refine w_stp rfl ?_
      refine w_add ?_
      obtain ⟨l_32, h18, h⟩ := bnd h
      obtain ⟨due_33, h19, h⟩ := bnd h
      refine w_drop (x_m (c := (eV eI)) (xs := s_27) (x_var rfl) rfl (x_cons (x_b (x_cons (x_fz (c := eI) (x_lcM (cB := eI) (i_sq (c := eI) (x_var rfl) s_V rfl) chk_0 h18 (fun k_30 => ⟨_, rfl, fun _ h => by obtain ⟨x_31, h17, h⟩ := bnd h; obtain rfl := Option.some.inj h; exact x_f2 (x_var rfl) (x_var rfl) (g_at (c := eI) s_L h17)⟩))) (x_nil)) (b_tuple (c := eI) s_L)) (x_nil)) (m_app rfl h19 rfl)) ?_
      obtain rfl := Option.some.inj h
      exact w_end (e_0 ⟨_, rfl, rfl⟩)
    · rintro _ _ ⟨j_35, rfl, rfl⟩
      obtain rfl := Option.some.inj h
      exact w_end (e_0 ⟨_, _, _, rfl, rfl⟩)
  · rintro _ _ ⟨j_37, j_38, j_39, rfl, rfl⟩
    refine w_assoc ?_
    obtain ⟨y_40, h20, h⟩ := bnd h
    obtain ⟨u_41, h21, h⟩ := bnd h
    obtain ⟨q_42, h22, h⟩ := bnd h
    refine w_ifT (k_not (k_tru (x_call (x_cons (x_call (x_cons (x_var rfl) (x_cons (x_int _) (x_cons (x_var rfl) (x_nil)))) (p_v (cR := (eV (eV eI))) (av_c _ _ (av_c _ _ (av_c _ _ (av_nil)))) (r_clusters_of h20))) (x_cons (x_b (x_cons (x_fz (c := (eV eI)) (x_bN (x_cons (x_var rfl) (x_nil)) (n_sortN (c := eI) (s_R rfl) h21))) (x_nil)) (b_tuple (c := (eV eI)) s_L)) (x_nil))) (p_sameT (c := (eV (eV eI))) h22)) (tr_B _))) h (fun h => ?_) (fun h => ?_)
    · obtain rfl := Option.some.inj h
      refine w_ret (x_bl _) ?_
      exact f_v1 eB _
    · refine w_next ?_
      obtain ⟨y_43, h23, h⟩ := bnd h
      obtain ⟨y_44, h24, h⟩ := bnd h
      obtain ⟨q_45, h25, h⟩ := bnd h
      obtain rfl := Option.some.inj h
      refine w_ret (x_call (x_cons (x_call (x_cons (x_var rfl) (x_cons (x_int _) (x_cons (x_var rfl) (x_nil)))) (p_v (cR := (eV (eV eI))) (av_c _ _ (av_c _ _ (av_c _ _ (av_nil)))) (r_clusters_of h23))) (x_cons (x_call (x_cons (x_var rfl) (x_cons (x_var rfl) (x_nil))) (p_v (cR := (eV (eV eI))) (av_c _ _ (av_c _ _ (av_nil))) (r_law_groups h24))) (x_nil))) (p_sameT (c := (eV (eV eI))) h25)) ?_
      exact f_v1 eB _
theorem r_law {v_script : (List Int)} {r : Bool} (h : t_law v_script = some r) : claw [(eK eI).e v_script] [] = some (eB.e r, []) := by
  unfold t_law at h
  refine run_wp (f := blaw) (n := 9) ?_
  refine w_add ?_
  refine w_assoc ?_
  obtain ⟨y_1, h1, h⟩ := bnd h
  refine w_setR (x_call (x_cons (x_var rfl) (x_cons (x_int _) (x_nil))) (p_m (av_c _ _ (av_c _ _ (av_nil))) (r_law_draws h1))) ?_
  refine w_assoc ?_
  obtain ⟨r_52, hs, h2⟩ := bnd h
  refine w_forr (fun (s_2 : (List Int)) ρ M => ∃ j_3 : Option D, ∃ j_4 : Option D, ∃ j_5 : Option D, ∃ j_6 : Option D, ρ = [some ((eK eI).e v_script), some (.ref 0), j_3, j_4, j_5, none, j_6, none, none] ∧ M = [cl eI s_2]) (fun (e : Bool) d M => fin false 0 d M = some (eB.e e, [])) (cA := eI) (s := y_1) (i_rg1 (x_cons (x_int _) (x_nil)) (by rfl)) hs ⟨_, _, _, _, rfl, rfl⟩ (fun _ _ _ _ => chk_0) ?_ ?_ ?_
  · rintro k_7 s_2 _ _ _ h ⟨j_3, j_4, j_5, j_6, rfl, rfl⟩
    refine w_stp rfl ?_
    refine w_add ?_
    refine w_assoc ?_
    obtain ⟨x_8, h3, h⟩ := bnd h
    obtain ⟨y_9, h4, h⟩ := bnd h
    obtain ⟨y_10, h5, h⟩ := bnd h
    refine w_set (c := (eV eI)) (x_callS (x_cons (x_var rfl) (x_cons (x_var rfl) (x_cons (x_callS (x_cons (x_var rfl) (x_cons (x_f2 (x_fz (c := eI) (x_lst (c := eI) [(6 : Int), (26 : Int), (14 : Int)] (x_cons (x_int _) (x_cons (x_int _) (x_cons (x_int _) (x_nil)))) rfl rfl)) (x_var rfl) (g_at (c := eI) s_L h3)) (x_nil))) (p_s (cR := eI) (c := eI) rfl rfl (av_c eN () (av_c _ _ (av_nil))) (r_law_take h4) rfl)) (x_cons (x_f2 (x_var rfl) (x_int _) (g_B (c_eq (c := eI) (v_ec _ _) (v_ec _ _)))) (x_nil))))) (p_s (cR := (eV eI)) (c := eI) rfl rfl (av_c eN () (av_c _ _ (av_c _ _ (av_c _ _ (av_nil))))) (r_law_times h5) rfl)) ?_
    refine w_assoc ?_
    obtain ⟨r_11, h6, h⟩ := bnd h
    obtain ⟨l_15, h9, h⟩ := bnd h
    obtain ⟨w_16, h10, h⟩ := bnd h
    refine w_set (c := (eL eI)) (x_f2 (x_fz (c := eI) (x_lst (c := eI) [(0 : Int)] (x_cons (x_int _) (x_nil)) rfl rfl)) (x_fz (c := eI) (x_lcM (cB := eI) (i_rg2 (x_cons (x_int _) (x_cons (x_b (x_cons (x_var rfl) (x_nil)) (b_len (c := eI) s_V)) (x_nil))) h6) chk_0 h9 (fun at_12 => ⟨_, rfl, fun _ h => by obtain ⟨x_13, h7, h⟩ := bnd h; obtain ⟨x_14, h8, h⟩ := bnd h; obtain rfl := Option.some.inj h; exact x_f2 (x_f2 (x_var rfl) (x_var rfl) (g_at (c := eI) s_V h7)) (x_f2 (x_var rfl) (x_f2 (x_var rfl) (x_int _) (g_sub _ _)) (g_at (c := eI) s_V h8)) (g_sub _ _)⟩))) (g_catL (c := eI) t_L t_L h10)) ?_
    obtain ⟨y_17, h11, h⟩ := bnd h
    obtain ⟨y_18, h12, h⟩ := bnd h
    obtain ⟨y_19, h13, h⟩ := bnd h
    obtain ⟨x_20, h14, h⟩ := bnd h
    obtain ⟨max_21, h15, h⟩ := bnd h
    obtain ⟨r_31, hs, h16⟩ := bnd h
    refine w_forr (fun (s_22 : (List Int)) ρ M => ∃ j_23 : Option D, ρ = [some ((eK eI).e v_script), some (.ref 0), some (eI.e k_7), some ((eV eI).e y_10.1), some ((eL eI).e w_16), none, j_23, none, none] ∧ M = [cl eI s_22]) (fun (e : Bool) d M => fin false 0 d M = some (eB.e e, [])) (cA := eI) (s := y_19.2) (i_sq (c := eI) (x_fz (c := eI) (x_lst (c := eI) [y_17.1, y_18.1, x_20, max_21] (x_cons (x_callS (x_cons (x_var rfl) (x_cons (x_int _) (x_nil))) (p_s (cR := eI) (c := eI) rfl rfl (av_c eN () (av_c _ _ (av_nil))) (r_law_take h11) rfl)) (x_cons (x_callS (x_cons (x_var rfl) (x_cons (x_int _) (x_nil))) (p_s (cR := eI) (c := eI) rfl rfl (av_c eN () (av_c _ _ (av_nil))) (r_law_take h12) rfl)) (x_cons (x_f2 (x_var rfl) (x_callS (x_cons (x_var rfl) (x_cons (x_b (x_cons (x_var rfl) (x_nil)) (b_len (c := eI) s_L)) (x_nil))) (p_s (cR := eI) (c := eI) rfl rfl (av_c eN () (av_c _ _ (av_nil))) (r_law_take h13) rfl)) (g_at (c := eI) s_L h14)) (x_cons (x_b (x_cons (x_var rfl) (x_nil)) (b_max (c := eI) s_L h15)) (x_nil))))) rfl rfl)) s_L rfl) hs ⟨_, rfl, rfl⟩ (fun _ _ _ _ => chk_0) ?_ ?_ ?_
    · rintro minutes_24 s_22 _ _ _ h ⟨j_23, rfl, rfl⟩
      refine w_stp rfl ?_
      refine w_add ?_
      obtain ⟨y_25, h17, h⟩ := bnd h
      obtain ⟨w_28, h19, h⟩ := bnd h
      refine w_ifT (k_orS (S := (List Int)) (s0 := y_25.2) (r := w_28) (fun (s_27 : (List Int)) => [cl eI s_27]) (k_not (k_tru (x_callS (x_cons (x_var rfl) (x_cons (x_var rfl) (x_cons (x_var rfl) (x_nil)))) (p_s (cR := eB) (c := eI) rfl rfl (av_c eN () (av_c _ _ (av_c _ _ (av_nil)))) (r_law_one_right h17) rfl)) (tr_B _))) h19 (fun h => by obtain ⟨y_26, h18, h⟩ := bnd h; obtain rfl := Option.some.inj h; exact k_not (k_tru (x_callS (x_cons (x_var rfl) (x_cons (x_var rfl) (x_cons (x_var rfl) (x_nil)))) (p_s (cR := eB) (c := eI) rfl rfl (av_c eN () (av_c _ _ (av_c _ _ (av_nil)))) (r_law_two_right h18) rfl)) (tr_B _)))) h (fun h => ?_) (fun h => ?_)
      · obtain rfl := Option.some.inj h
        refine w_ret (x_bl _) ?_
        exact r_r (f_v0 eB _)
      · refine w_next ?_
        obtain rfl := Option.some.inj h
        exact w_end (e_r _ ⟨_, rfl, rfl⟩)
    · rintro e _ _ rfl hq
      obtain rfl := Option.some.inj h16
      exact r_r (hq)
    · rintro s_29 _ _ rfl ⟨j_30, rfl, rfl⟩
      have h := h16
      rw [cas_go] at h
      obtain rfl := Option.some.inj h
      exact w_end (e_r _ ⟨_, _, _, _, rfl, rfl⟩)
  · rintro e _ _ rfl hq
    obtain rfl := Option.some.inj h2
    exact hq
  · rintro s_32 _ _ rfl ⟨j_33, j_34, j_35, j_36, rfl, rfl⟩
    have h := h2
    rw [cas_go] at h
    refine w_assoc ?_
    obtain ⟨times_37, h20, h⟩ := lbnd h
    refine w_setE (c := (e5 eI eI eI eI eI)) (x_tup5 (x_cons (x_int _) (x_cons (x_int _) (x_cons (x_int _) (x_cons (x_int _) (x_cons (x_int _) (x_nil))))))) h20 ?_
    refine w_assoc ?_
    obtain ⟨catalog_39, h21, h⟩ := lbnd h
    refine w_setE (c := (eV (e3 eI (e2 eI eI) eI))) (x_b (x_cons (x_fz (c := (e3 eI (e2 eI eI) eI)) (x_lc0 (cB := (e3 eI (e2 eI eI) eI)) (g := fun (time_38 : Int) => (time_38, ((0 : Int), (0 : Int)), (2 : Int))) (i_sq (c := eI) (x_co (x_var rfl) (show (eV eI).e ([times_37.1, times_37.2.1, times_37.2.2.1, times_37.2.2.2.1, times_37.2.2.2.2]) = (e5 eI eI eI eI eI).e times_37 from (fun _ => rfl) times_37)) s_V rfl) chk_0 (fun time_38 => ⟨_, rfl, x_tup3 (x_cons (x_var rfl) (x_cons (x_tup2 (x_cons (x_int _) (x_cons (x_int _) (x_nil)))) (x_cons (x_int _) (x_nil))))⟩))) (x_nil)) (b_tuple (c := (e3 eI (e2 eI eI) eI)) s_L)) h21 ?_
    refine w_assoc ?_
    obtain ⟨y_40, h22, h⟩ := bnd h
    obtain ⟨q_41, h23, h⟩ := bnd h
    obtain ⟨w_46, h28, h⟩ := bnd h
    refine w_ifT (k_orM (k_not (k_tru (x_call (x_cons (x_call (x_cons (x_var rfl) (x_cons (x_int _) (x_cons (x_int _) (x_nil)))) (p_v (cR := (eV (eV eI))) (av_c _ _ (av_c _ _ (av_c _ _ (av_nil)))) (r_clusters_of h22))) (x_cons (x_co (x_tup2 (x_cons (x_tup3 (x_cons (x_int _) (x_cons (x_int _) (x_cons (x_int _) (x_nil))))) (x_cons (x_tup2 (x_cons (x_int _) (x_cons (x_int _) (x_nil)))) (x_nil)))) (show (eV (eV eI)).e ([[(((((0 : Int), (1 : Int), (2 : Int)), ((3 : Int), (4 : Int)))).1).1, (((((0 : Int), (1 : Int), (2 : Int)), ((3 : Int), (4 : Int)))).1).2.1, (((((0 : Int), (1 : Int), (2 : Int)), ((3 : Int), (4 : Int)))).1).2.2], [(((((0 : Int), (1 : Int), (2 : Int)), ((3 : Int), (4 : Int)))).2).1, (((((0 : Int), (1 : Int), (2 : Int)), ((3 : Int), (4 : Int)))).2).2]]) = (e2 (e3 eI eI eI) (e2 eI eI)).e ((((0 : Int), (1 : Int), (2 : Int)), ((3 : Int), (4 : Int)))) from (fun _ => rfl) ((((0 : Int), (1 : Int), (2 : Int)), ((3 : Int), (4 : Int)))))) (x_nil))) (p_sameT (c := (eV (eV eI))) h23)) (tr_B _))) h28 (fun h => by obtain ⟨y_42, h24, h⟩ := bnd h; obtain ⟨w_45, h27, h⟩ := bnd h; obtain rfl := Option.some.inj h; exact k_orM (k_not (k_tru (x_call (x_cons (x_call (x_cons (x_var rfl) (x_cons (x_int _) (x_nil))) (p_v (cR := (eO eI)) (av_c _ _ (av_c _ _ (av_nil))) (r_least_minutes h24))) (x_cons (x_co (x_int _) (show (eO eI).e ((some ((5 : Int)))) = eI.e ((5 : Int)) from (fun _ => rfl) ((5 : Int)))) (x_nil))) (p_same (c := (eO eI)) _ _)) (tr_B _))) h27 (fun h => by obtain ⟨y_43, h25, h⟩ := bnd h; obtain ⟨q_44, h26, h⟩ := bnd h; obtain rfl := Option.some.inj h; exact k_not (k_tru (x_call (x_cons (x_call (x_cons (x_co (x_var rfl) (show (eV eI).e ([times_37.1, times_37.2.1, times_37.2.2.1, times_37.2.2.2.1, times_37.2.2.2.2]) = (e5 eI eI eI eI eI).e times_37 from (fun _ => rfl) times_37)) (x_cons (x_int _) (x_nil))) (p_v (cR := (eV eI)) (av_c _ _ (av_c _ _ (av_nil))) (r_thinned_times h25))) (x_cons (x_co (x_tup2 (x_cons (x_int _) (x_cons (x_int _) (x_nil)))) (show (eV eI).e ([(((1 : Int), (8 : Int))).1, (((1 : Int), (8 : Int))).2]) = (e2 eI eI).e (((1 : Int), (8 : Int))) from (fun _ => rfl) (((1 : Int), (8 : Int))))) (x_nil))) (p_sameT (c := (eV eI)) h26)) (tr_B _))))) h (fun h => ?_) (fun h => ?_)
    · obtain rfl := Option.some.inj h
      refine w_ret (x_bl _) ?_
      exact f_v0 eB _
    · refine w_next ?_
      obtain ⟨y_47, h29, h⟩ := bnd h
      obtain ⟨q_48, h30, h⟩ := bnd h
      obtain ⟨w_51, h32, h⟩ := bnd h
      obtain rfl := Option.some.inj h
      refine w_ret (x_andZ (S := (List Int)) (s0 := s_32) (r := w_51) (fun (s_50 : (List Int)) => [cl eI s_50]) (x_call (x_cons (x_call (x_cons (x_co (x_var rfl) (show (eV eI).e ([times_37.1, times_37.2.1, times_37.2.2.1, times_37.2.2.2.1, times_37.2.2.2.2]) = (e5 eI eI eI eI eI).e times_37 from (fun _ => rfl) times_37)) (x_cons (x_int _) (x_nil))) (p_v (cR := (eV (eV eI))) (av_c _ _ (av_c _ _ (av_nil))) (r_steps_of h29))) (x_cons (x_co (x_tup3 (x_cons (x_tup1 (x_cons (x_int _) (x_nil))) (x_cons (x_tup2 (x_cons (x_int _) (x_cons (x_int _) (x_nil)))) (x_cons (x_tup2 (x_cons (x_int _) (x_cons (x_int _) (x_nil)))) (x_nil))))) (show (eV (eV eI)).e ([[((((1 : Int), ((3 : Int), (3 : Int)), ((8 : Int), (9 : Int)))).1)], [((((1 : Int), ((3 : Int), (3 : Int)), ((8 : Int), (9 : Int)))).2.1).1, ((((1 : Int), ((3 : Int), (3 : Int)), ((8 : Int), (9 : Int)))).2.1).2], [((((1 : Int), ((3 : Int), (3 : Int)), ((8 : Int), (9 : Int)))).2.2).1, ((((1 : Int), ((3 : Int), (3 : Int)), ((8 : Int), (9 : Int)))).2.2).2]]) = (e3 (e1 eI) (e2 eI eI) (e2 eI eI)).e (((1 : Int), ((3 : Int), (3 : Int)), ((8 : Int), (9 : Int)))) from (fun _ => rfl) (((1 : Int), ((3 : Int), (3 : Int)), ((8 : Int), (9 : Int)))))) (x_nil))) (p_sameT (c := (eV (eV eI))) h30)) h32 (fun h => by obtain ⟨y_49, h31, h⟩ := bnd h; obtain rfl := Option.some.inj h; exact x_callS (x_cons (x_var rfl) (x_cons (x_co (x_tup0 (x_nil)) (show (eV eI).e (([] : (List Int))) = e0.e (()) from (fun _ => rfl) (()))) (x_cons (x_int _) (x_nil)))) (p_s (cR := eB) (c := eI) rfl rfl (av_c eN () (av_c _ _ (av_c _ _ (av_nil)))) (r_law_one_right h31) rfl))) ?_
      exact f_v0 eB _
end LP
namespace LP
open PySem PySem.Spec PyProof.Rows L2 PF TL
theorem take_sp {ds : List Int} {m : Int} (hm : 0 < m) : Post (t_law_take ds m) fun r => 0 ≤ r.1 ∧ r.1 < m := by
  unfold t_law_take
  refine Post.ite (fun _ => Post.pure ⟨Int.le_refl _, hm⟩) fun h => ?_
  have hl : ds.length - 1 < ds.length := by
    have : ds.length ≠ 0 := fun z => h (by simp [z])
    omega
  refine Post.bind (P := fun _ => True) ⟨_, by unfold tpop; rw [List.getElem?_eq_getElem hl]; rfl, trivial⟩ fun p _ => ?_
  refine Post.eqb (tmod_ok (by omega)) (Post.pure ?_)
  exact fmod_pos hm
theorem draws_sp (ns : List Int) {many : Int} (h0 : 0 ≤ many) (h1 : many ≤ 100000) (hn : ns.length ≤ 1000) : Post (t_law_draws ns many) fun _ => True := by
  unfold t_law_draws
  refine Post.let ?_
  refine Post.bind (P := fun s : List Int => 0 < s.length) ?_ fun s3 hs => ?_
  · refine Post.ite (fun h => ?_) fun h => Post.pure ?_
    · refine Post.eqb (tapp_ok (by rw [List.length_map]; omega)) (Post.pure ?_)
      simp
    · have : ns ≠ [] := fun z => h (by simp [z])
      have := List.length_pos_iff.mpr this
      simpa using this
  refine Post.eqb (trg_of (by omega) (by omega) (by omega) (by omega)) ?_
  refine Post.bind (P := fun _ => True) ?_ fun s _ => Post.pure trivial
  refine Post.imp (tfold_post (fun pre (s : List Int × List Int) => s.1.length = s3.length ∧ s.2.length ≤ pre.length) ⟨rfl, Nat.le_refl _⟩ ?_) fun _ _ => trivial
  rintro pre k suf ⟨rest, draws⟩ hxs ⟨i1, i2⟩
  have hp : pre.length < 100000 := by
    have := congrArg List.length hxs
    simp only [len_upto, List.length_append, List.length_cons] at this
    omega
  have hk : 0 ≤ k := by
    have : k ∈ upto 0 (many - 0).toNat := by rw [hxs]; simp
    exact (mem_upto.mp this).1
  dsimp only at i1 i2 ⊢
  have hm := fmod_pos (a := k) (b := s3.length) (by omega)
  refine Post.eqb (tmod_ok (by omega)) ?_
  obtain ⟨x, hx, _, _⟩ := tat_in (xs := s3) hm.1 hm.2
  obtain ⟨y, hy, _, _⟩ := tat_in (xs := rest) (i := k.fmod s3.length) hm.1 (by omega)
  rw [hx, Option.bind_some]
  refine Post.bind (P := fun _ => True) ?_ fun b _ => ?_
  · refine Post.ite (fun _ => ?_) fun _ => Post.pure trivial
    rw [hy]; exact Post.pure trivial
  refine Post.bind (P := fun s : List Int × List Int => s.1.length = s3.length ∧ s.2.length ≤ pre.length + 1) ?_ fun s h => Post.pure (by simpa using h)
  refine Post.ite (fun _ => ?_) fun _ => ?_
  · rw [hy, Option.bind_some, tapp_ok (by omega), Option.bind_some, Option.bind_some]
    have e : tset rest (k.fmod s3.length) (y.fdiv 1000) = some (rest.set (k.fmod s3.length).toNat (y.fdiv 1000)) := by
      unfold tset L2.ixN
      rw [if_pos hm.1, if_pos (by omega)]; rfl
    rw [e]
    exact Post.pure ⟨by simp [i1], by simp; omega⟩
  · rw [Option.bind_some]
    refine Post.let ?_
    have hv := fmod_pos (a := x * 48271 + k * 69621 + 11) (b := 2147483647) (by decide)
    refine Post.eqb (tmul_r (by omega)) (Post.eqb (tapp_ok (by omega)) (Post.pure ⟨i1, by simp; omega⟩))
/-! what hangs together -/
inductive Cn (n : Nat) (lk : Nat → Nat → Bool) : Nat → Nat → Prop
  | refl (i : Nat) : Cn n lk i i
  | step {i j k : Nat} : Cn n lk i j → j < n → k < n → lk j k = true → Cn n lk i k
theorem Cn.trans {n : Nat} {lk : Nat → Nat → Bool} {i j k : Nat} (h : Cn n lk i j) (h2 : Cn n lk j k) : Cn n lk i k := by
  induction h2 with
  | refl => exact h
  | step _ a b c ih => exact ih.step a b c
theorem Cn.symm {n : Nat} {lk : Nat → Nat → Bool} (hs : ∀ i j, lk i j = true → lk j i = true) {i j : Nat} (h : Cn n lk i j) : Cn n lk j i := by
  induction h with
  | refl => exact .refl _
  | step _ a b c ih => exact ((Cn.refl _).step b a (hs _ _ c)).trans ih
theorem Cn.mono {n : Nat} {lk lk' : Nat → Nat → Bool} (hs : ∀ i j, i < n → j < n → lk i j = true → Cn n lk' i j) {i j : Nat} (h : Cn n lk i j) : Cn n lk' i j := by
  induction h with
  | refl => exact .refl _
  | step _ a b c ih => exact ih.trans (hs _ _ a b c)
theorem Cn.lt {n : Nat} {lk : Nat → Nat → Bool} {i j : Nat} (h : Cn n lk i j) (hi : i < n) : j < n := by
  cases h with
  | refl => exact hi
  | step _ a b c => exact b
/-- T tells of each its least companion -/
structure Top (n : Nat) (lk : Nat → Nat → Bool) (T : Nat → Nat) : Prop where
  le : ∀ i, i < n → T i ≤ i
  cn : ∀ i, i < n → Cn n lk i (T i)
  eq : ∀ i j, i < n → j < n → lk i j = true → T i = T j
theorem Top.of_cn {n : Nat} {lk : Nat → Nat → Bool} {T : Nat → Nat} (h : Top n lk T) {i j : Nat} (c : Cn n lk i j) : T i = T j := by
  induction c with
  | refl => rfl
  | step _ a b e ih => exact ih.trans (h.eq _ _ a b e)
theorem Top.iff {n : Nat} {lk : Nat → Nat → Bool} {T : Nat → Nat} (h : Top n lk T) (hs : ∀ i j, lk i j = true → lk j i = true) {i j : Nat} (hi : i < n) (hj : j < n) : T i = T j ↔ Cn n lk i j := by
  refine ⟨fun e => ?_, h.of_cn⟩
  have a := h.cn i hi
  rw [e] at a
  exact a.trans ((h.cn j hj).symm hs)
theorem Top.idem {n : Nat} {lk : Nat → Nat → Bool} {T : Nat → Nat} (h : Top n lk T) {i : Nat} (hi : i < n) : T (T i) = T i := (h.of_cn (h.cn i hi)).symm
theorem top_id (n : Nat) : Top n (fun _ _ => false) id := ⟨fun i _ => Nat.le_refl _, fun i _ => .refl _, fun _ _ _ _ h => by cases h⟩
def putT (T : Nat → Nat) (a b : Nat) (i : Nat) : Nat := if T i = max (T a) (T b) then min (T a) (T b) else T i
/-- one link more -/
theorem Top.put {n : Nat} {lk lk' : Nat → Nat → Bool} {T : Nat → Nat} (h : Top n lk T) (hs : ∀ i j, lk i j = true → lk j i = true) {a b : Nat} (ha : a < n) (hb : b < n) (e : ∀ i j, lk' i j = true ↔ lk i j = true ∨ (i = a ∧ j = b) ∨ (i = b ∧ j = a)) : Top n lk' (putT T a b) := by
  have mono : ∀ {i j}, Cn n lk i j → Cn n lk' i j := fun c => c.mono fun i j hi hj q => (Cn.refl i).step hi hj ((e i j).mpr (.inl q))
  have lab : Cn n lk' a b := (Cn.refl a).step ha hb ((e a b).mpr (.inr (.inl ⟨rfl, rfl⟩)))
  have lba : Cn n lk' b a := (Cn.refl b).step hb ha ((e b a).mpr (.inr (.inr ⟨rfl, rfl⟩)))
  have ca := mono (h.cn a ha); have cb := mono (h.cn b hb)
  have ca' := mono ((h.cn a ha).symm hs); have cb' := mono ((h.cn b hb).symm hs)
  refine ⟨fun i hi => ?_, fun i hi => ?_, fun i j hi hj q => ?_⟩
  · have := h.le i hi
    unfold putT; split <;> omega
  · have ci := mono (h.cn i hi)
    unfold putT
    split
    · rename_i q
      rw [q] at ci
      rcases Nat.le_total (T a) (T b) with z | z
      · rw [Nat.max_eq_right z] at ci
        rw [Nat.min_eq_left z]
        exact ci.trans (cb'.trans (lba.trans ca))
      · rw [Nat.max_eq_left z] at ci
        rw [Nat.min_eq_right z]
        exact ci.trans (ca'.trans (lab.trans cb))
    · exact ci
  · rcases (e i j).mp q with q | ⟨rfl, rfl⟩ | ⟨rfl, rfl⟩
    · unfold putT; rw [h.eq i j hi hj q]
    · unfold putT; split <;> split <;> omega
    · unfold putT; split <;> split <;> omega
theorem Top.same {n : Nat} {lk lk' : Nat → Nat → Bool} {T : Nat → Nat} (h : Top n lk T) {a b : Nat} (hab : T a = T b) (e : ∀ i j, lk' i j = true ↔ lk i j = true ∨ (i = a ∧ j = b) ∨ (i = b ∧ j = a)) : Top n lk' T := by
  refine ⟨h.le, fun i hi => (h.cn i hi).mono fun i j hi hj q => (Cn.refl i).step hi hj ((e i j).mpr (.inl q)), fun i j hi hj q => ?_⟩
  rcases (e i j).mp q with q | ⟨rfl, rfl⟩ | ⟨rfl, rfl⟩
  · exact h.eq i j hi hj q
  · exact hab
  · exact hab.symm
theorem Top.congr {n : Nat} {lk lk' : Nat → Nat → Bool} {T : Nat → Nat} (h : Top n lk T) (e : ∀ i j, i < n → j < n → (lk i j = true ↔ lk' i j = true)) : Top n lk' T :=
  ⟨h.le, fun i hi => (h.cn i hi).mono fun i j hi hj q => (Cn.refl i).step hi hj ((e i j hi hj).mp q), fun i j hi hj q => h.eq i j hi hj ((e i j hi hj).mpr q)⟩
/-- .. as numbers of the program's -/
def tlist (n : Nat) (T : Nat → Nat) : List Int := (List.range n).map fun i => ((T i : Nat) : Int)
theorem tlist_at {n : Nat} {T : Nat → Nat} {i : Nat} (h : i < n) : tat (tlist n T) (i : Int) = some (T i : Int) := tat_n (by simp [tlist, h])
theorem tlist_id (n : Nat) : tlist n id = upto 0 n := by unfold tlist upto; exact List.map_congr_left fun i _ => by simp
@[simp] theorem tlist_len (n : Nat) (T : Nat → Nat) : (tlist n T).length = n := by simp [tlist]
theorem put_sp {n a b : Nat} {T : Nat → Nat} (ha : a < n) (hb : b < n) : t_put_together (tlist n T) a b = some (tlist n (putT T a b)) := by
  unfold t_put_together
  rw [tlist_at ha, tlist_at hb]
  simp only [Option.bind_some, tlet_eq]
  unfold tlist putT
  rw [List.map_map]
  congr 1
  refine List.map_congr_left fun i _ => ?_
  show (if decide (((T i : Nat) : Int) = max (T a : Int) (T b : Int)) = true then min (T a : Int) (T b : Int) else (T i : Int)) = _
  by_cases h : T i = max (T a) (T b)
  · rw [if_pos h, if_pos (decide_eq_true (by omega))]; omega
  · rw [if_neg h, if_neg (by simp; omega)]
/-- the groups: ascending, by their least ones -/
def natI (xs : List Nat) : List Int := xs.map fun (i : Nat) => (i : Int)
def grpL (n : Nat) (T : Nat → Nat) (t : Nat) : List Nat := (List.range n).filter fun i => T i == t
def tops (n : Nat) (T : Nat → Nat) : List Nat := (List.range n).filter fun i => T i == i
def clI (n : Nat) (T : Nat → Nat) : List (List Int) := (tops n T).map fun t => natI (grpL n T t)
theorem natI_range (n : Nat) : upto 0 n = natI (List.range n) := by unfold upto natI; exact List.map_congr_left fun i _ => by simp
theorem natI_lt {xs : List Nat} (h : xs.Pairwise (· < ·)) : (natI xs).Pairwise (· < ·) := List.Pairwise.map _ (fun a b (q : a < b) => by omega) h
theorem range_lt (n : Nat) : (List.range n).Pairwise (· < ·) := List.pairwise_lt_range
theorem sortU_tops {n : Nat} {lk : Nat → Nat → Bool} {T : Nat → Nat} (h : Top n lk T) (hn : n < 64) : tsortU (tlist n T) = some (natI (tops n T)) := by
  unfold tsortU
  rw [if_pos (by simpa using hn)]
  congr 1
  refine lt_uniq (sortU_lt _) (natI_lt ((range_lt n).filter _)) fun k => ?_
  rw [sortU_mem]
  unfold tlist natI tops
  simp only [List.mem_map, List.mem_filter, List.mem_range, beq_iff_eq]
  constructor
  · rintro ⟨i, hi, rfl⟩
    exact ⟨T i, ⟨Nat.lt_of_le_of_lt (h.le i hi) hi, h.idem hi⟩, rfl⟩
  · rintro ⟨i, ⟨hi, e⟩, rfl⟩
    exact ⟨i, hi, by rw [e]⟩
theorem natI_filter (p : Int → Bool) (xs : List Nat) : (natI xs).filter p = natI (xs.filter fun i => p i) := by
  unfold natI
  rw [List.filter_map]; rfl
theorem groups_sp {n : Nat} {lk : Nat → Nat → Bool} {T : Nat → Nat} (h : Top n lk T) (hn : n < 64) : (Option.bind (tsortU (tlist n T)) fun u_23 =>
  Option.bind (tmap (fun (top_24 : Int) => Option.bind (trg ((0 : Int)) ((List.length (tlist n T) : Int))) fun r_25 => Option.bind (tfilt (fun (at_26 : Int) => Option.bind (tat (tlist n T) at_26) fun x_27 => some ((decide (x_27 = top_24)))) r_25) fun z_28 => some ((List.map (fun (at_26 : Int) => at_26) z_28))) u_23) fun l_29 =>
  some l_29) = some (clI n T) := by
  rw [sortU_tops h hn, Option.bind_some]
  rw [tmap_eq (g := fun t => natI (grpL n T t.toNat)) fun t ht => ?_]
  · rw [Option.bind_some]
    congr 1
    unfold natI clI
    rw [List.map_map]
    exact List.map_congr_left fun i _ => by simp [natI]
  · obtain ⟨i, _, rfl⟩ := List.mem_map.mp ht
    rw [tlist_len, trg_0 (by omega), Option.bind_some]
    rw [tfilt_eq (q := fun k => T k.toNat == i) fun k hk => by
      have := mem_upto.mp hk
      obtain ⟨k', rfl⟩ := Int.eq_ofNat_of_zero_le this.1
      rw [tlist_at (by omega), Option.bind_some]
      congr 1
      by_cases e : T k' = i
      · simp [e]
      · have e2 : ¬ ((T k' : Int) = (i : Int)) := by omega
        simp [e, e2]]
    rw [Option.bind_some, List.map_id', natI_range, natI_filter]
    simp [grpL]
abbrev Q := Int × (Int × Int) × Int
theorem upto_split {lo : Int} {n : Nat} {pre suf : List Int} {x : Int} (h : upto lo n = pre ++ x :: suf) : pre.length < n ∧ x = lo + pre.length := by
  have hl := congrArg List.length h
  rw [len_upto] at hl
  simp only [List.length_append, List.length_cons] at hl
  have hx : (upto lo n)[pre.length]? = some x := by rw [h]; simp
  rw [get_upto (by omega)] at hx
  exact ⟨by omega, by simpa using hx.symm⟩
def ev (cat : List Q) (i : Nat) : Q := cat.getD i (0, (0, 0), 0)
theorem ev_at {cat : List Q} {i : Nat} (h : i < cat.length) : tat cat (i : Int) = some (ev cat i) := tat_n (by simp [ev, List.getD, List.getElem?_eq_getElem h])
def lk (cat : List Q) (far m : Int) (i j : Nat) : Bool := decide (i ≠ j) && p_are_linked (ev cat i) (ev cat j) far m
theorem abs_swap (a b : Int) : (a - b).natAbs = (b - a).natAbs := by omega
theorem linked_symm (a b : Q) (far m : Int) : p_are_linked a b far m = p_are_linked b a far m := by
  unfold p_are_linked p_how_far
  rw [abs_swap a.1 b.1, abs_swap a.2.1.1 b.2.1.1, abs_swap a.2.1.2 b.2.1.2]
theorem lk_symm (cat : List Q) (far m : Int) (i j : Nat) : lk cat far m i j = true → lk cat far m j i = true := by
  unfold lk
  rw [linked_symm (ev cat i)]
  simp only [Bool.and_eq_true, decide_eq_true_eq]
  exact fun h => ⟨fun e => h.1 e.symm, h.2⟩
def lkp (cat : List Q) (far m : Int) (k l : Nat) (i j : Nat) : Bool := lk cat far m i j && decide (max i j < k ∨ (max i j = k ∧ min i j < l))
theorem lkp_iff {cat : List Q} {far m : Int} {k l i j : Nat} : lkp cat far m k l i j = true ↔ lk cat far m i j = true ∧ (max i j < k ∨ (max i j = k ∧ min i j < l)) := by
  unfold lkp; rw [Bool.and_eq_true, decide_eq_true_eq]
theorem lkp_symm (cat : List Q) (far m : Int) (k l i j : Nat) : lkp cat far m k l i j = true → lkp cat far m k l j i = true := by
  rw [lkp_iff, lkp_iff, Nat.max_comm j i, Nat.min_comm j i]
  exact fun h => ⟨lk_symm cat far m i j h.1, h.2⟩
theorem lk_ne {cat : List Q} {far m : Int} {i j : Nat} (h : lk cat far m i j = true) : i ≠ j := by
  unfold lk at h
  rw [Bool.and_eq_true, decide_eq_true_eq] at h
  exact h.1
theorem lkp_step {cat : List Q} {far m : Int} {k l : Nat} (hl : l < k) (h : lk cat far m k l = true) (i j : Nat) : lkp cat far m k (l + 1) i j = true ↔ lkp cat far m k l i j = true ∨ (i = k ∧ j = l) ∨ (i = l ∧ j = k) := by
  rw [lkp_iff, lkp_iff]
  constructor
  · rintro ⟨a, b⟩
    by_cases e : min i j = l ∧ max i j = k
    · right; omega
    · left; exact ⟨a, by omega⟩
  · rintro (⟨a, b⟩ | ⟨rfl, rfl⟩ | ⟨rfl, rfl⟩)
    · exact ⟨a, by omega⟩
    · exact ⟨h, by omega⟩
    · exact ⟨lk_symm _ _ _ _ _ h, by omega⟩
theorem lkp_skip {cat : List Q} {far m : Int} {k l : Nat} (hl : l < k) (h : ¬ lk cat far m k l = true) (i j : Nat) : lkp cat far m k l i j = true ↔ lkp cat far m k (l + 1) i j = true := by
  rw [lkp_iff, lkp_iff]
  constructor
  · rintro ⟨a, b⟩; exact ⟨a, by omega⟩
  · rintro ⟨a, b⟩
    refine ⟨a, ?_⟩
    by_cases e : min i j = l ∧ max i j = k
    · exfalso
      rcases Nat.le_total i j with z | z
      · have e1 : i = l := by omega
        have e2 : j = k := by omega
        subst e1 e2
        exact h (lk_symm _ _ _ _ _ a)
      · have e1 : j = l := by omega
        have e2 : i = k := by omega
        subst e1 e2
        exact h a
    · omega
theorem clusters_sp {cat : List Q} (far m : Int) (hn : cat.length < 64) : ∃ T, Top cat.length (lk cat far m) T ∧ t_clusters_of cat far m = some (clI cat.length T) := by
  suffices h : Post (t_clusters_of cat far m) fun r => ∃ T, Top cat.length (lk cat far m) T ∧ r = clI cat.length T by
    obtain ⟨r, e, T, hT, rfl⟩ := h; exact ⟨T, hT, e⟩
  unfold t_clusters_of
  rw [trg_0 (by omega), Option.bind_some, Option.bind_some]
  refine Post.bind (tfold_post (fun pre s => ∃ T, Top cat.length (lkp cat far m pre.length 0) T ∧ s = tlist cat.length T) ⟨id, ?_, (tlist_id _).symm⟩ ?_) ?_
  · refine (top_id _).congr fun i j _ _ => ?_
    rw [lkp_iff]
    simp
  · rintro pre x suf s hx ⟨T, hT, rfl⟩
    obtain ⟨hk, rfl⟩ := upto_split hx
    rw [show (0 : Int) + (pre.length : Int) = (pre.length : Int) by omega, trg_0 (by omega), Option.bind_some]
    rw [bind_some']
    refine (tfold_post (fun pr s => ∃ T, Top cat.length (lkp cat far m pre.length pr.length) T ∧ s = tlist cat.length T) ⟨T, hT, rfl⟩ ?_).imp ?_
    · rintro pr y sf s hy ⟨T, hT, rfl⟩
      obtain ⟨hl, rfl⟩ := upto_split hy
      rw [show (0 : Int) + (pr.length : Int) = (pr.length : Int) by omega, tlist_at hk, tlist_at (by omega), Option.bind_some, Option.bind_some]
      rw [List.length_append, List.length_singleton]
      by_cases e : T pre.length = T pr.length
      · rw [if_neg (by simp [e]), Option.bind_some, bind_some']
        refine Post.iff (by simp) (Post.pure ⟨T, ?_, rfl⟩)
        by_cases q : lk cat far m pre.length pr.length = true
        · exact hT.same e (lkp_step hl q)
        · exact hT.congr fun i j _ _ => lkp_skip hl q i j
      · rw [if_pos (by simp; omega), ev_at hk, ev_at (by omega), Option.bind_some, Option.bind_some, Option.bind_some, bind_some']
        by_cases q : lk cat far m pre.length pr.length = true
        · have q2 : p_are_linked (ev cat pre.length) (ev cat pr.length) far m = true := by
            unfold lk at q; rw [Bool.and_eq_true] at q; exact q.2
          refine Post.ift q2 ?_
          rw [put_sp hk (by omega), Option.bind_some]
          exact Post.pure ⟨_, hT.put (lkp_symm cat far m _ _) hk (by omega) (lkp_step hl q), rfl⟩
        · have q2 : ¬ p_are_linked (ev cat pre.length) (ev cat pr.length) far m = true := fun z => by
            apply q; unfold lk; rw [Bool.and_eq_true]
            exact ⟨decide_eq_true (by omega), z⟩
          exact Post.iff q2 (Post.pure ⟨T, hT.congr fun i j _ _ => lkp_skip hl q i j, rfl⟩)
    · rintro s ⟨T, hT, rfl⟩
      refine ⟨T, hT.congr fun i j hi hj => ?_, rfl⟩
      rw [len_upto, lkp_iff, lkp_iff, List.length_append, List.length_singleton]
      constructor
      · rintro ⟨a, b⟩; exact ⟨a, by omega⟩
      · rintro ⟨a, b⟩
        have := lk_ne a
        exact ⟨a, by omega⟩
  · rintro s ⟨T, hT, rfl⟩
    rw [len_upto] at hT
    have hT' : Top cat.length (lk cat far m) T := hT.congr fun i j hi hj => by
      rw [lkp_iff]
      exact ⟨fun h => h.1, fun h => ⟨h, by omega⟩⟩
    refine Post.of ?_ ⟨T, hT', rfl⟩
    exact groups_sp hT' hn
theorem Post.eta2 {A B : Type} {t : Option (A × B)} {P : A × B → Prop} (h : Post t P) : Post (t.bind fun s => some (s.1, s.2)) P := by
  obtain ⟨a, e, p⟩ := h
  exact ⟨a, by rw [e]; rfl, p⟩
theorem pair_and {A : Type} {R S : A → A → Prop} {xs : List A} (h1 : xs.Pairwise R) (h2 : xs.Pairwise S) : xs.Pairwise fun a b => R a b ∧ S a b := by
  induction xs with
  | nil => exact .nil
  | cons x xs ih =>
    cases h1 with | cons a b =>
    cases h2 with | cons c d =>
    exact .cons (fun y hy => ⟨a y hy, c y hy⟩) (ih b d)
/-- no one twice, all known: the ascending list -/
theorem srt_nodup {n : Nat} {g : List Int} (hd : g.Nodup) (p : Nat → Bool) (hm : ∀ k : Int, k ∈ g ↔ ∃ i : Nat, i < n ∧ p i = true ∧ k = i) : tsort (fun a b : Int => decide (a < b)) g = natI ((List.range n).filter p) := by
  refine lt_uniq ?_ (natI_lt ((range_lt n).filter _)) fun k => ?_
  · have h1 := srt_le g
    have h2 : (tsort (fun a b : Int => decide (a < b)) g).Nodup := (srt_perm g).nodup_iff.mpr hd
    exact (pair_and h1 h2).imp fun {a b} (h : a ≤ b ∧ a ≠ b) => by omega
  · rw [srt_mem, hm]
    unfold natI
    simp only [List.mem_map, List.mem_filter, List.mem_range]
    exact ⟨fun ⟨i, a, b, c⟩ => ⟨i, ⟨a, b⟩, c.symm⟩, fun ⟨i, ⟨a, b⟩, c⟩ => ⟨i, a, b, c.symm⟩⟩
theorem natI_len (xs : List Nat) : (natI xs).length = xs.length := by simp [natI]
theorem nodup_len {n : Nat} {g : List Int} (hd : g.Nodup) (hm : ∀ k ∈ g, ∃ i : Nat, i < n ∧ k = i) : g.length ≤ n := by
  have e := srt_nodup (n := n) hd (fun i => decide ((i : Int) ∈ g)) fun k => ⟨fun h => by
    obtain ⟨i, a, rfl⟩ := hm k h
    exact ⟨i, a, decide_eq_true h, rfl⟩, fun ⟨i, a, b, c⟩ => by rw [c]; exact of_decide_eq_true b⟩
  have := congrArg List.length e
  rw [srt_len, natI_len] at this
  have h2 := List.length_filter_le (fun i : Nat => decide ((i : Int) ∈ g)) (List.range n)
  rw [List.length_range] at h2
  omega
theorem natI_nodup {xs : List Nat} (h : xs.Pairwise (· < ·)) : (natI xs).Nodup := (natI_lt h).imp fun {a b} (h : a < b) => by omega
theorem foldl_pick {A : Type} {lt : A → A → Bool} : ∀ (xs : List A) (x : A), xs.foldl (fun a y => if lt y a = true then y else a) x ∈ x :: xs
  | [], x => by simp
  | y :: ys, x => by
    rw [List.foldl_cons]
    have := foldl_pick (lt := lt) ys (if lt y x = true then y else x)
    rcases List.mem_cons.mp this with e | e
    · rw [e]; split <;> simp
    · exact List.mem_cons_of_mem _ (List.mem_cons_of_mem _ e)
theorem tmin_mem {A : Type} {lt : A → A → Bool} {xs : List A} (h : xs ≠ []) : Post (tmin lt xs) (· ∈ xs) := by
  cases xs with
  | nil => exact absurd rfl h
  | cons x xs => exact ⟨_, rfl, foldl_pick xs x⟩
theorem okV_of {A : Type} {f : A → Bool} {xs : List A} (h : xs.length ≤ 1000000) (h2 : ∀ x ∈ xs, f x = true) : okV f xs = true := by
  unfold okV
  rw [Bool.and_eq_true, List.all_eq_true]
  exact ⟨Nat.ble_eq.mpr h, h2⟩
theorem tsame_ok {A : Type} [DecidableEq A] {ok : A → Bool} {a : A} (h : ok a = true) : tsame ok a a = some true := by
  unfold tsame
  rw [h]; simp
abbrev E3 := Int × Int × Int
abbrev lx3 := lx (fun a b : Int => decide (a < b)) (lx (fun a b : Int => decide (a < b)) (fun a b : Int => decide (a < b)))
theorem lx3_iff (x y : E3) : lx3 x y = true ↔ x.1 < y.1 ∨ (x.1 = y.1 ∧ (x.2.1 < y.2.1 ∨ (x.2.1 = y.2.1 ∧ x.2.2 < y.2.2))) := by
  unfold lx3 lx
  dsimp only
  split
  · split
    · rw [decide_eq_true_eq]; omega
    · rw [decide_eq_true_eq]; omega
  · rw [decide_eq_true_eq]; omega
theorem sort3_perm (xs : List E3) : (tsort lx3 xs).Perm xs := List.mergeSort_perm _ _
theorem sort3_le (xs : List E3) : (tsort lx3 xs).Pairwise fun a b => a.1 ≤ b.1 := by
  have h : (tsort lx3 xs).Pairwise fun a b => (!lx3 b a) = true := by
    refine List.pairwise_mergeSort ?_ ?_ xs
    · intro a b c
      simp only [Bool.not_eq_true', ← Bool.not_eq_true, lx3_iff]
      omega
    · intro a b
      rw [Bool.or_eq_true]
      simp only [Bool.not_eq_true', ← Bool.not_eq_true, lx3_iff]
      omega
  refine h.imp fun {a b} h => ?_
  simp only [Bool.not_eq_true', ← Bool.not_eq_true, lx3_iff] at h
  omega
def dif (cat : List Q) (i j : Nat) : Int := (((ev cat i).1 - (ev cat j).1).natAbs : Int)
def near (cat : List Q) (far : Int) (i j : Nat) : Bool := decide (p_how_far (ev cat i).2.1 (ev cat j).2.1 ≤ far)
theorem lk_iff {cat : List Q} {far m : Int} {i j : Nat} : lk cat far m i j = true ↔ i ≠ j ∧ near cat far i j = true ∧ dif cat i j ≤ m := by
  unfold lk p_are_linked near dif
  simp only [Bool.and_eq_true, decide_eq_true_eq]
theorem dif_symm (cat : List Q) (i j : Nat) : dif cat i j = dif cat j i := by unfold dif; rw [abs_swap]
theorem near_symm (cat : List Q) (far : Int) (i j : Nat) : near cat far i j = near cat far j i := by
  unfold near p_how_far
  rw [abs_swap (ev cat i).2.1.1, abs_swap (ev cat i).2.1.2]
def IsL (cat : List Q) (far : Int) (e : E3) (i j : Nat) : Prop := near cat far i j = true ∧ e = (dif cat i j, (i : Int), (j : Int))
/-- the links -/
theorem links_sp {cat : List Q} (far : Int) (hn : cat.length < 64) : Post (tfold (fun (one_5 : Int) (s_2 : (List (Int × Int × Int))) => Option.bind (trg ((0 : Int)) one_5) fun r_6 => Option.bind (α := (List (Int × Int × Int))) (tfold (fun (other_9 : Int) (s_7 : (List (Int × Int × Int))) => Option.bind (tat cat one_5) fun x_10 => Option.bind (tat cat other_9) fun x_11 => Option.bind (α := (List (Int × Int × Int))) (if (decide ((p_how_far x_10.2.1 x_11.2.1) ≤ far)) = true then (Option.bind (tat cat one_5) fun x_13 => Option.bind (tat cat other_9) fun x_14 => Option.bind (tapp s_7 (((Int.natAbs ((x_13.1 - x_14.1)) : Int), one_5, other_9))) fun links_15 => some links_15) else (some s_7)) fun s_12 => some s_12) r_6 s_2) fun s_16 => some s_16) (upto 0 cat.length) (([] : (List (Int × Int × Int))))) fun s => ∀ e, e ∈ s ↔ ∃ i j : Nat, i < cat.length ∧ j < i ∧ IsL cat far e i j := by
  refine (tfold_post (fun pre s => s.length ≤ 64 * pre.length ∧ ∀ e, e ∈ s ↔ ∃ i j : Nat, i < pre.length ∧ j < i ∧ IsL cat far e i j) ⟨by simp, fun e => ⟨fun h => by (cases h), fun ⟨i, j, a, _⟩ => by (exact absurd a (Nat.not_lt_zero _))⟩⟩ ?_).imp ?_
  · rintro pre x suf s hx ⟨hl, hs⟩
    obtain ⟨hk, rfl⟩ := upto_split hx
    rw [show (0 : Int) + (pre.length : Int) = (pre.length : Int) by omega, List.length_append, List.length_singleton]
    refine Post.eqb (trg_0 (by omega)) ?_
    rw [bind_some']
    refine (tfold_post (fun pr s => s.length ≤ 64 * pre.length + pr.length ∧ ∀ e, e ∈ s ↔ ∃ i j : Nat, (i < pre.length ∨ (i = pre.length ∧ j < pr.length)) ∧ j < i ∧ IsL cat far e i j) ⟨by simpa using hl, fun e => by
      rw [hs]
      constructor
      · rintro ⟨i, j, a, b⟩; exact ⟨i, j, .inl a, b⟩
      · rintro ⟨i, j, a | ⟨_, a⟩, b⟩
        · exact ⟨i, j, a, b⟩
        · exact absurd a (Nat.not_lt_zero _)⟩ ?_).imp ?_
    · rintro pr y sf s hy ⟨hl, hs⟩
      obtain ⟨hj, rfl⟩ := upto_split hy
      rw [show (0 : Int) + (pr.length : Int) = (pr.length : Int) by omega, List.length_append, List.length_singleton]
      refine Post.eqb (ev_at hk) (Post.eqb (ev_at (by omega)) ?_)
      rw [bind_some']
      refine Post.ite (fun h => ?_) (fun h => ?_)
      · refine Post.eqb (ev_at hk) (Post.eqb (ev_at (by omega)) ?_)
        rw [tapp_ok (by omega), Option.bind_some]
        refine Post.pure ⟨by rw [List.length_append, List.length_singleton]; omega, fun e => ?_⟩
        rw [List.mem_append, List.mem_singleton, hs]
        constructor
        · rintro (⟨i, j, a, b⟩ | rfl)
          · exact ⟨i, j, by omega, b⟩
          · exact ⟨pre.length, pr.length, by omega, by omega, h, rfl⟩
        · rintro ⟨i, j, a, b, c⟩
          by_cases z : i = pre.length ∧ j = pr.length
          · obtain ⟨rfl, rfl⟩ := z
            exact .inr c.2
          · exact .inl ⟨i, j, by omega, b, c⟩
      · refine Post.pure ⟨by omega, fun e => ?_⟩
        rw [hs]
        constructor
        · rintro ⟨i, j, a, b⟩; exact ⟨i, j, by omega, b⟩
        · rintro ⟨i, j, a, b, c⟩
          by_cases z : i = pre.length ∧ j = pr.length
          · obtain ⟨rfl, rfl⟩ := z
            exact absurd c.1 h
          · exact ⟨i, j, by omega, b, c⟩
    · rintro s ⟨hl, hs⟩
      rw [len_upto] at hl hs
      refine ⟨by omega, fun e => ?_⟩
      rw [hs]
      constructor
      · rintro ⟨i, j, a, b⟩; exact ⟨i, j, by omega, b⟩
      · rintro ⟨i, j, a, b, c⟩; exact ⟨i, j, by omega, b, c⟩
  · rintro s ⟨_, hs⟩ e
    rw [len_upto] at hs
    rw [hs]
/-- who is linked by a list of links -/
def lkL (P : List E3) (i j : Nat) : Bool := P.any fun e => decide ((e.2.1 = (i : Int) ∧ e.2.2 = (j : Int)) ∨ (e.2.1 = (j : Int) ∧ e.2.2 = (i : Int)))
theorem lkL_iff {P : List E3} {i j : Nat} : lkL P i j = true ↔ ∃ e ∈ P, (e.2.1 = (i : Int) ∧ e.2.2 = (j : Int)) ∨ (e.2.1 = (j : Int) ∧ e.2.2 = (i : Int)) := by
  unfold lkL
  rw [List.any_eq_true]
  simp only [decide_eq_true_eq]
theorem lkL_symm (P : List E3) (i j : Nat) : lkL P i j = true → lkL P j i = true := by
  rw [lkL_iff, lkL_iff]
  rintro ⟨e, h, z⟩
  exact ⟨e, h, z.symm⟩
theorem lkL_step {P : List E3} {m : Int} {a b : Nat} (i j : Nat) : lkL (P ++ [(m, (a : Int), (b : Int))]) i j = true ↔ lkL P i j = true ∨ (i = a ∧ j = b) ∨ (i = b ∧ j = a) := by
  rw [lkL_iff, lkL_iff]
  constructor
  · rintro ⟨e, h, z⟩
    rcases List.mem_append.mp h with h | h
    · exact .inl ⟨e, h, z⟩
    · rw [List.mem_singleton] at h
      subst h
      dsimp only at z
      right; omega
  · rintro (⟨e, h, z⟩ | z)
    · exact ⟨e, List.mem_append_left _ h, z⟩
    · refine ⟨_, List.mem_append_right _ (List.mem_singleton.mpr rfl), ?_⟩
      dsimp only; omega
/-- all hang together -/
def Conn (n : Nat) (k : Nat → Nat → Bool) : Prop := ∀ i j, i < n → j < n → Cn n k i j
theorem conn_iff {n : Nat} {k : Nat → Nat → Bool} {T : Nat → Nat} (hs : ∀ i j, k i j = true → k j i = true) (h : Top n k T) : (tops n T).length < 2 ↔ Conn n k := by
  constructor
  · intro hl i j hi hj
    rw [← h.iff hs hi hj]
    have mem : ∀ i, i < n → T i ∈ tops n T := fun i hi => List.mem_filter.mpr ⟨List.mem_range.mpr (Nat.lt_of_le_of_lt (h.le i hi) hi), by rw [beq_iff_eq]; exact h.idem hi⟩
    have a := mem i hi; have b := mem j hj
    match tops n T, hl, a, b with
    | [], _, a, _ => cases a
    | [x], _, a, b => rw [List.mem_singleton] at a b; rw [a, b]
    | x :: y :: r, hl, _, _ => simp at hl; omega
  · intro hc
    have hp : (tops n T).Pairwise (· < ·) := (range_lt n).filter _
    have hall : ∀ x ∈ tops n T, x < n ∧ T x = x := fun x hx => by
      unfold tops at hx
      rw [List.mem_filter, List.mem_range, beq_iff_eq] at hx; exact hx
    match tops n T, hp, hall with
    | [], _, _ => simp
    | [x], _, _ => simp
    | x :: y :: r, hp, hall =>
      exfalso
      obtain ⟨hx, ex⟩ := hall x (by simp)
      obtain ⟨hy, ey⟩ := hall y (by simp)
      have e := h.of_cn (hc x y hx hy)
      rw [ex, ey] at e
      cases hp with | cons a _ => have := a y (by simp); omega
/-- what the links so far tell -/
structure KI (cat : List Q) (far : Int) (P : List E3) (s : List Int × Int) : Prop where
  tp : ∃ T, s.1 = tlist cat.length T ∧ Top cat.length (lkL P) T
  la : s.2 = 0 ∨ ∃ e ∈ P, e.1 = s.2
  cn : ∀ i j, Cn cat.length (lkL P) i j → Cn cat.length (lk cat far s.2) i j
  mi : s.2 = 0 ∨ ∃ i j, i < cat.length ∧ j < cat.length ∧ ∀ m, m < s.2 → ¬ Cn cat.length (lk cat far m) i j
theorem lk_mono {cat : List Q} {far m m' : Int} (h : m ≤ m') {i j : Nat} (c : Cn cat.length (lk cat far m) i j) : Cn cat.length (lk cat far m') i j :=
  c.mono fun i j hi hj q => (Cn.refl i).step hi hj (by rw [lk_iff] at q ⊢; exact ⟨q.1, q.2.1, by omega⟩)
theorem isL_lk {cat : List Q} {far m : Int} {i j : Nat} (hi : j < i) (h : near cat far i j = true) (hm : dif cat i j ≤ m) : lk cat far m i j = true := lk_iff.mpr ⟨by omega, h, hm⟩
theorem kruskal_sp {cat : List Q} (far : Int) {L : List E3} (hL : ∀ e, e ∈ L ↔ ∃ i j : Nat, i < cat.length ∧ j < i ∧ IsL cat far e i j) : Post (tfold (fun (e_26 : (Int × Int × Int)) (s_22 : ((List Int) × Int)) => Option.bind (tat s_22.1 e_26.2.1) fun x_27 => Option.bind (tat s_22.1 e_26.2.2) fun x_28 => Option.bind (α := ((List Int) × Int)) (if (!(decide (x_27 = x_28))) = true then (Option.bind (t_put_together s_22.1 e_26.2.1 e_26.2.2) fun y_30 => some ((y_30, e_26.1))) else (some ((s_22.1, s_22.2)))) fun s_29 => some ((s_29.1, s_29.2))) (tsort lx3 L) (upto 0 cat.length, (0 : Int))) (KI cat far (tsort lx3 L)) := by
  refine tfold_post (KI cat far) ⟨⟨id, (tlist_id _).symm, (top_id _).congr fun i j _ _ => by simp [lkL]⟩, .inl rfl, fun i j c => ?_, .inl rfl⟩ ?_
  · induction c with
    | refl => exact .refl _
    | step _ _ _ e => cases e
  · rintro pre x suf ⟨tl, last⟩ hx ⟨⟨T, e1, hT⟩, hla, hcn, hmi⟩
    dsimp only at e1 hla hcn hmi ⊢
    subst e1
    have hsrt := sort3_le L
    rw [hx, List.pairwise_append] at hsrt
    obtain ⟨_, hs2, hs3⟩ := hsrt
    have hmem : ∀ e, e ∈ pre ++ x :: suf ↔ ∃ i j : Nat, i < cat.length ∧ j < i ∧ IsL cat far e i j := fun e => by rw [← hx, (sort3_perm L).mem_iff, hL]
    obtain ⟨a, b, ha, hb, hnr, rfl⟩ := (hmem x).mp (by simp)
    have hd : 0 ≤ dif cat a b := by unfold dif; omega
    have hle : last ≤ dif cat a b := by
      rcases hla with z | ⟨e, he, z⟩
      · omega
      · have := hs3 e he _ (List.mem_cons_self ..)
        dsimp only at this; omega
    refine Post.eqb (tlist_at ha) (Post.eqb (tlist_at (by omega)) (Post.eta2 ?_))
    by_cases e : T a = T b
    · refine Post.iff (by simp [e]) (Post.pure ⟨⟨T, rfl, hT.same e lkL_step⟩, ?_, fun i j c => ?_, hmi⟩)
      · rcases hla with z | ⟨e, he, z⟩
        · exact .inl z
        · exact .inr ⟨e, List.mem_append_left _ he, z⟩
      · refine hcn i j (c.mono fun i j hi hj q => ?_)
        rcases (lkL_step i j).mp q with q | ⟨rfl, rfl⟩ | ⟨rfl, rfl⟩
        · exact (Cn.refl i).step hi hj q
        · exact (hT.iff (lkL_symm pre) hi hj).mp e
        · exact (hT.iff (lkL_symm pre) hi hj).mp e.symm
    · refine Post.ift (by simp; omega) ?_
      rw [put_sp ha (by omega), Option.bind_some]
      refine Post.pure ⟨⟨_, rfl, hT.put (lkL_symm pre) ha (by omega) lkL_step⟩, .inr ⟨_, List.mem_append_right _ (List.mem_singleton.mpr rfl), rfl⟩, fun i j c => ?_, .inr ⟨a, b, ha, by omega, fun m hm c => ?_⟩⟩
      · dsimp only
        have key : ∀ i j, i < cat.length → j < cat.length → lkL (pre ++ [(dif cat a b, (a : Int), (b : Int))]) i j = true → Cn cat.length (lk cat far (dif cat a b)) i j := fun i j hi hj q => by
          have lab := isL_lk hb hnr (Int.le_refl _)
          rcases (lkL_step i j).mp q with q | ⟨rfl, rfl⟩ | ⟨rfl, rfl⟩
          · exact lk_mono hle (hcn i j ((Cn.refl i).step hi hj q))
          · exact (Cn.refl _).step hi hj lab
          · exact (Cn.refl _).step hi hj (lk_symm _ _ _ _ _ lab)
        exact c.mono key
      · dsimp only at hm
        refine e (hT.of_cn (c.mono fun i j hi hj q => (Cn.refl i).step hi hj ?_))
        have inpre : ∀ i j : Nat, i < cat.length → j < i → near cat far i j = true → dif cat i j ≤ m → (dif cat i j, (i : Int), (j : Int)) ∈ pre := fun i j hi hj hn hdm => by
          have := (hmem (dif cat i j, (i : Int), (j : Int))).mpr ⟨i, j, hi, hj, hn, rfl⟩
          rcases List.mem_append.mp this with h | h
          · exact h
          · exfalso
            rcases List.mem_cons.mp h with h | h
            · have := congrArg Prod.fst h
              dsimp only at this; omega
            · cases hs2 with | cons h1 _ =>
              have := h1 _ h
              dsimp only at this; omega
        obtain ⟨q1, q2, q3⟩ := lk_iff.mp q
        rw [lkL_iff]
        rcases Nat.lt_or_ge j i with z | z
        · exact ⟨_, inpre i j hi z q2 q3, .inl ⟨rfl, rfl⟩⟩
        · exact ⟨_, inpre j i hj (by omega) (near_symm cat far i j ▸ q2) (dif_symm cat i j ▸ q3), .inr ⟨rfl, rfl⟩⟩
theorem lenU_tops {n : Nat} {k : Nat → Nat → Bool} {T : Nat → Nat} (h : Top n k T) (hn : n < 64) : tlenU (tlist n T) = some ((tops n T).length : Int) := by
  have e := sortU_tops h hn
  unfold tsortU at e
  rw [if_pos (by simpa using hn)] at e
  have e := Option.some.inj e
  unfold tlenU
  rw [if_pos (by rw [tlist_len]; omega), e, natI_len]
/-- what both say of the least minutes -/
def LM (cat : List Q) (far : Int) (r : Option Int) : Prop := match r with
  | none => ∀ m, ¬ Conn cat.length (lk cat far m)
  | some m => Conn cat.length (lk cat far m) ∧ (∀ m', 0 ≤ m' → m' < m → ¬ Conn cat.length (lk cat far m')) ∧ (m = 0 ∨ ∃ i j, i < cat.length ∧ j < cat.length ∧ m = dif cat i j)
theorem least_sp {cat : List Q} (far : Int) (hn : cat.length < 64) : Post (t_least_minutes cat far) (LM cat far) := by
  unfold t_least_minutes
  refine Post.eqb (trg_0 (by omega)) (Post.bind (links_sp far hn) fun L hL => Post.eqb (trg_0 (by omega)) (Post.bind (kruskal_sp far hL) ?_))
  rintro ⟨tl, last⟩ ⟨⟨T, e1, hT⟩, hla, hcn, hmi⟩
  dsimp only at e1 hla hcn hmi ⊢
  subst e1
  refine Post.eqb (lenU_tops hT hn) (Post.pure ?_)
  have hci := conn_iff (lkL_symm _) hT
  have hsub : ∀ m i j, Cn cat.length (lk cat far m) i j → Cn cat.length (lkL (tsort lx3 L)) i j := fun m i j c => c.mono fun i j hi hj q => (Cn.refl i).step hi hj (by
    obtain ⟨q1, q2, q3⟩ := lk_iff.mp q
    rw [lkL_iff]
    rcases Nat.lt_or_ge j i with z | z
    · exact ⟨_, ((sort3_perm L).mem_iff.trans (hL _)).mpr ⟨i, j, hi, z, q2, rfl⟩, .inl ⟨rfl, rfl⟩⟩
    · exact ⟨_, ((sort3_perm L).mem_iff.trans (hL _)).mpr ⟨j, i, hj, by omega, near_symm cat far i j ▸ q2, rfl⟩, .inr ⟨rfl, rfl⟩⟩)
  by_cases h : (tops cat.length T).length < 2
  · rw [if_pos (decide_eq_true (by omega))]
    refine ⟨fun i j hi hj => hcn i j (hci.mp h i j hi hj), fun m h0 hm c => ?_, ?_⟩
    · rcases hmi with z | ⟨i, j, hi, hj, z⟩
      · omega
      · exact z m hm (c i j hi hj)
    · rcases hla with z | ⟨e, he, z⟩
      · exact .inl z
      · obtain ⟨i, j, hi, hj, _, rfl⟩ := ((sort3_perm L).mem_iff.trans (hL e)).mp he
        exact .inr ⟨i, j, hi, by omega, z.symm⟩
  · rw [if_neg (by rw [decide_eq_true_eq]; omega)]
    exact fun m c => h (hci.mpr fun i j hi hj => hsub m i j (c i j hi hj))
end LP
namespace LP
open PySem PySem.Spec PyProof.Rows L2 PF TL
theorem none_len {A : Type} {p : A → Bool} {xs : List A} (h : ∀ x ∈ xs, p x = false) : ((List.map (fun (x : A) => x) (List.filter p xs)).length : Int) = 0 := by
  rw [List.filter_eq_nil_iff.mpr fun x hx => by rw [h x hx]; simp]
  rfl
theorem grp_head {n : Nat} {k : Nat → Nat → Bool} {T : Nat → Nat} (hT : Top n k T) {t : Nat} (ht : t < n) (e : T t = t) : ∃ r, grpL n T t = t :: r := by
  have hp : (grpL n T t).Pairwise (· < ·) := (range_lt n).filter _
  have hm : t ∈ grpL n T t := List.mem_filter.mpr ⟨List.mem_range.mpr ht, by rw [beq_iff_eq]; exact e⟩
  have hg : ∀ x ∈ grpL n T t, t ≤ x := fun x hx => by
    unfold grpL at hx
    rw [List.mem_filter, List.mem_range, beq_iff_eq] at hx
    have := hT.le x hx.1
    omega
  cases hc : grpL n T t with
  | nil => rw [hc] at hm; cases hm
  | cons x r =>
    rw [hc] at hm hp hg
    have a := hg x (by simp)
    rcases List.mem_cons.mp hm with z | z
    · exact ⟨r, by rw [← z]⟩
    · cases hp with | cons h1 _ => have := h1 t z; omega
theorem mem_tops {n : Nat} {T : Nat → Nat} {t : Nat} : t ∈ tops n T ↔ t < n ∧ T t = t := by
  unfold tops
  rw [List.mem_filter, List.mem_range, beq_iff_eq]
theorem mem_cl {n : Nat} {T : Nat → Nat} {c : List Int} : c ∈ clI n T ↔ ∃ t, t < n ∧ T t = t ∧ c = natI (grpL n T t) := by
  unfold clI
  rw [List.mem_map]
  exact ⟨fun ⟨t, a, b⟩ => ⟨t, (mem_tops.mp a).1, (mem_tops.mp a).2, b.symm⟩, fun ⟨t, a, b, c⟩ => ⟨t, mem_tops.mpr ⟨a, b⟩, c.symm⟩⟩
theorem mem_grp {n : Nat} {T : Nat → Nat} {t : Nat} {x : Int} : x ∈ natI (grpL n T t) ↔ ∃ i : Nat, i < n ∧ T i = t ∧ x = i := by
  unfold natI grpL
  rw [List.mem_map]
  constructor
  · rintro ⟨i, hi, e⟩
    rw [List.mem_filter, List.mem_range, beq_iff_eq] at hi
    exact ⟨i, hi.1, hi.2, e.symm⟩
  · rintro ⟨i, a, b, e⟩
    exact ⟨i, by rw [List.mem_filter, List.mem_range, beq_iff_eq]; exact ⟨a, b⟩, e.symm⟩
theorem cl_nodup {n : Nat} {T : Nat → Nat} {c : List Int} (h : c ∈ clI n T) : c.Nodup ∧ c.Pairwise (· < ·) := by
  obtain ⟨t, _, _, rfl⟩ := mem_cl.mp h
  exact ⟨natI_nodup ((range_lt n).filter _), natI_lt ((range_lt n).filter _)⟩
theorem flat_nodup (n : Nat) (T : Nat → Nat) : (clI n T).flatten.Nodup := by
  unfold List.Nodup
  rw [List.pairwise_flatten]
  refine ⟨fun c hc => (cl_nodup hc).1, ?_⟩
  unfold clI
  rw [List.pairwise_map]
  refine ((range_lt n).filter _).imp fun {a b} (h : a < b) x hx y hy e => ?_
  obtain ⟨i, _, h1, rfl⟩ := mem_grp.mp hx
  obtain ⟨j, _, h2, e2⟩ := mem_grp.mp hy
  have : i = j := by omega
  subst this
  omega
theorem flat_srt {n : Nat} {k : Nat → Nat → Bool} {T : Nat → Nat} (hT : Top n k T) : tsort (fun a b : Int => decide (a < b)) (clI n T).flatten = upto 0 n := by
  rw [srt_nodup (n := n) (flat_nodup n T) (fun _ => true) fun x => ?_]
  · rw [natI_range, List.filter_eq_self.mpr fun _ _ => rfl]
  · rw [List.mem_flatten]
    constructor
    · rintro ⟨c, hc, hx⟩
      obtain ⟨t, _, _, rfl⟩ := mem_cl.mp hc
      obtain ⟨i, a, _, b⟩ := mem_grp.mp hx
      exact ⟨i, a, rfl, b⟩
    · rintro ⟨i, hi, _, rfl⟩
      exact ⟨_, mem_cl.mpr ⟨T i, Nat.lt_of_le_of_lt (hT.le i hi) hi, hT.idem hi, rfl⟩, mem_grp.mpr ⟨i, hi, rfl, rfl⟩⟩
theorem cl_sorted {n : Nat} {k : Nat → Nat → Bool} {T : Nat → Nat} (hT : Top n k T) : tsort (ltV (fun a b : Int => decide (a < b))) (clI n T) = clI n T := by
  refine List.mergeSort_of_pairwise ?_
  unfold clI
  rw [List.pairwise_map]
  have : (tops n T).Pairwise (· < ·) := (range_lt n).filter _
  refine this.imp_of_mem fun {a b} ha hb (h : a < b) => ?_
  obtain ⟨r, e⟩ := grp_head hT (mem_tops.mp ha).1 (mem_tops.mp ha).2
  obtain ⟨r2, e2⟩ := grp_head hT (mem_tops.mp hb).1 (mem_tops.mp hb).2
  rw [e, e2]
  show (!ltV _ ((b : Int) :: natI r2) ((a : Int) :: natI r)) = true
  rw [ltV, if_neg (by omega), Bool.not_eq_true', decide_eq_false_iff_not]
  omega
theorem foldl_least {A : Type} {lt : A → A → Bool} (h : Lin lt) : ∀ (xs : List A) (x : A), ∀ y ∈ x :: xs, lt y (xs.foldl (fun a y => if lt y a = true then y else a) x) = false
  | [], x, y, hy => by
    rw [List.mem_singleton] at hy
    rw [hy]
    rcases h.to x x with e | e <;> exact e
  | z :: zs, x, y, hy => by
    rw [List.foldl_cons]
    have ih := foldl_least h zs (if lt z x = true then z else x)
    by_cases e : lt z x = true
    · rw [if_pos e] at ih ⊢
      rcases List.mem_cons.mp hy with rfl | hy
      · refine h.tr _ z _ (ih z (by simp)) ?_
        rcases h.to z y with q | q
        · rw [e] at q; cases q
        · exact q
      · exact ih y hy
    · rw [if_neg e] at ih ⊢
      rcases List.mem_cons.mp hy with rfl | hy
      · exact ih y (by simp)
      · rcases List.mem_cons.mp hy with rfl | hy
        · exact h.tr _ x _ (ih x (by simp)) (Bool.eq_false_iff.mpr e)
        · exact ih y (List.mem_cons_of_mem _ hy)
theorem tmin_least {A : Type} {lt : A → A → Bool} (h : Lin lt) {xs : List A} (hne : xs ≠ []) : Post (tmin lt xs) fun m => m ∈ xs ∧ ∀ y ∈ xs, lt y m = false := by
  cases xs with
  | nil => exact absurd rfl hne
  | cons x xs => exact ⟨_, rfl, foldl_pick xs x, foldl_least h xs x⟩
theorem tminG_is {A : Type} {lt : A → A → Bool} (h : Lin lt) {xs : List A} {m : A} (hm : m ∈ xs) (hl : ∀ y ∈ xs, lt y m = false) : tmin lt xs = some m := by
  have hne : xs ≠ [] := fun e => by rw [e] at hm; cases hm
  obtain ⟨k, e, h1, h2⟩ := tmin_least h hne
  rw [e, h.an k m (hl k h1) (h2 m hm)]
abbrev lxM := lx (fun a b : Int => decide (a < b)) (lx (fun a b : Int => decide (a < b)) (lx (lx (fun a b : Int => decide (a < b)) (fun a b : Int => decide (a < b))) (fun a b : Int => decide (a < b))))
theorem linM : Lin lxM := lin_lx lin_int (lin_lx lin_int (lin_lx lin2 lin_int))
def key (cat : List Q) (x : Int) : Int × Int × (Int × Int) × Int := (-(ev cat x.toNat).2.2, (ev cat x.toNat).1, (ev cat x.toNat).2.1, x)
theorem key_le {cat : List Q} {x m : Int} (h : lxM (key cat x) (key cat m) = false) : (ev cat x.toNat).2.2 ≤ (ev cat m.toNat).2.2 ∧ ((ev cat x.toNat).2.2 = (ev cat m.toNat).2.2 → (ev cat m.toNat).1 ≤ (ev cat x.toNat).1 ∧ ((ev cat x.toNat).1 = (ev cat m.toNat).1 → lx (fun a b : Int => decide (a < b)) (fun a b : Int => decide (a < b)) (ev cat x.toNat).2.1 (ev cat m.toNat).2.1 = false)) := by
  unfold lxM at h
  generalize hlx2 : lx (fun a b : Int => decide (a < b)) (fun a b : Int => decide (a < b)) = L at h ⊢
  unfold lx key at h
  dsimp only at h
  split at h
  · split at h
    · split at h
      · rename_i a b c
        refine ⟨by omega, fun _ => ⟨by omega, fun _ => ?_⟩⟩
        rw [c]
        rw [← hlx2]
        rcases lin2.to (ev cat m.toNat).2.1 (ev cat m.toNat).2.1 with q | q <;> exact q
      · rename_i a b c
        exact ⟨by omega, fun _ => ⟨by omega, fun _ => h⟩⟩
    · rw [decide_eq_false_iff_not] at h
      exact ⟨by omega, fun _ => ⟨by omega, fun _ => by omega⟩⟩
  · rw [decide_eq_false_iff_not] at h
    exact ⟨by omega, fun _ => by omega⟩
def InC (cat : List Q) (c : List Int) : Prop := c ≠ [] ∧ c.length ≤ cat.length ∧ ∀ x ∈ c, ∃ i : Nat, i < cat.length ∧ x = i
theorem main_eq {cat : List Q} {c : List Int} (h : InC cat c) : t_main_of cat c = (tmin lxM (c.map (key cat))).bind fun y => some y.2.2.2 := by
  unfold t_main_of
  rw [tmap_eq (g := key cat) fun x hx => by
    obtain ⟨i, hi, rfl⟩ := h.2.2 x hx
    rw [ev_at hi]; rfl]
  rfl
def mn (cat : List Q) (c : List Int) : Int := (t_main_of cat c).getD 0
theorem mn_sp {cat : List Q} {c : List Int} (h : InC cat c) : t_main_of cat c = some (mn cat c) ∧ mn cat c ∈ c ∧ ∀ x ∈ c, lxM (key cat x) (key cat (mn cat c)) = false := by
  obtain ⟨y, e, h1, h2⟩ := tmin_least linM (xs := c.map (key cat)) (by simpa using h.1)
  obtain ⟨x, hx, rfl⟩ := List.mem_map.mp h1
  have e2 := main_eq h
  rw [e, Option.bind_some] at e2
  have : mn cat c = x := by unfold mn; rw [e2]; rfl
  rw [this]
  exact ⟨e2, hx, fun z hz => h2 _ (List.mem_map.mpr ⟨z, hz, rfl⟩)⟩
theorem cl_in {cat : List Q} {T : Nat → Nat} {c : List Int} (h : c ∈ clI cat.length T) : InC cat c := by
  obtain ⟨t, ht, e, rfl⟩ := mem_cl.mp h
  refine ⟨fun z => ?_, ?_, fun x hx => ?_⟩
  · have : (t : Int) ∈ natI (grpL cat.length T t) := mem_grp.mpr ⟨t, ht, e, rfl⟩
    rw [z] at this; cases this
  · rw [natI_len]
    have := List.length_filter_le (fun i => T i == t) (List.range cat.length)
    rw [List.length_range] at this; exact this
  · obtain ⟨i, a, _, b⟩ := mem_grp.mp hx
    exact ⟨i, a, b⟩
theorem cl_len (n : Nat) (T : Nat → Nat) : (clI n T).length ≤ n := by
  unfold clI tops
  rw [List.length_map]
  have := List.length_filter_le (fun i => T i == i) (List.range n)
  rw [List.length_range] at this; exact this
theorem shocks_sp {cat : List Q} {far m : Int} {T : Nat → Nat} (h : t_clusters_of cat far m = some (clI cat.length T)) : t_main_shocks cat far m = some ((clI cat.length T).map (mn cat)) := by
  unfold t_main_shocks
  rw [h, Option.bind_some, tmap_eq (g := mn cat) fun c hc => by rw [(mn_sp (cl_in hc)).1]; rfl]
  rfl
def tm (cat : List Q) (x : Int) : Int := (ev cat x.toNat).1
def pr (cat : List Q) (c : List Int) : Int × Int := (((c.filter fun x => decide (tm cat x < tm cat (mn cat c))).length : Int), ((c.filter fun x => decide (tm cat x > tm cat (mn cat c))).length : Int))
theorem tm_at {cat : List Q} {x : Int} (h : ∃ i : Nat, i < cat.length ∧ x = i) : ∃ q, tat cat x = some q ∧ q.1 = tm cat x ∧ q = ev cat x.toNat := by
  obtain ⟨i, hi, rfl⟩ := h
  exact ⟨_, ev_at hi, rfl, rfl⟩
theorem baa_sp {cat : List Q} {far m : Int} {T : Nat → Nat} (hn : cat.length < 64) (h : t_clusters_of cat far m = some (clI cat.length T)) : t_before_and_after cat far m = some ((clI cat.length T).map (pr cat)) := by
  suffices h : Post (t_before_and_after cat far m) fun r => r = (clI cat.length T).map (pr cat) by
    obtain ⟨r, e, rfl⟩ := h; exact e
  unfold t_before_and_after
  refine Post.eqb h ?_
  rw [bind_some']
  refine tfold_post (fun pre s => s = pre.map (pr cat)) rfl ?_
  rintro pre c suf _ hx rfl
  have hl := congrArg List.length hx
  have hcl := cl_len cat.length T
  simp only [List.length_append, List.length_cons] at hl
  have hin : InC cat c := cl_in (T := T) (by rw [hx]; simp)
  obtain ⟨e, hm, _⟩ := mn_sp hin
  obtain ⟨q, hq, hq1, _⟩ := tm_at (hin.2.2 _ hm)
  refine Post.eqb e (Post.eqb hq ?_)
  rw [tfilt_eq (q := fun x => decide (tm cat x < tm cat (mn cat c))) fun x hx => by
    obtain ⟨z, hz, hz1, _⟩ := tm_at (hin.2.2 _ hx)
    rw [hz, Option.bind_some, hz1, hq1]]
  rw [Option.bind_some, tlet_eq]
  rw [tfilt_eq (q := fun x => decide (tm cat x > tm cat (mn cat c))) fun x hx => by
    obtain ⟨z, hz, hz1, _⟩ := tm_at (hin.2.2 _ hx)
    rw [hz, Option.bind_some, hz1, hq1]]
  rw [Option.bind_some, tapp_ok (by rw [List.length_map]; omega), Option.bind_some]
  refine Post.pure ?_
  rw [List.map_append, List.length_map, List.length_map]
  rfl
theorem filt_lenB {A B : Type} (c : List A) (f : A → B) (p : B → Bool) (q : A → Bool) (h : ∀ x, p (f x) = q x) : (((c.map f).filter p).map fun t => t).length = (c.filter q).length := by
  rw [List.length_map, List.filter_map, List.length_map]
  congr 2
  funext x; exact h x
def thin (cat : List Q) (T : Nat → Nat) : List Q := tsort (lx (fun a b : Int => decide (a < b)) (lx (lx (fun a b : Int => decide (a < b)) (fun a b : Int => decide (a < b))) (fun a b : Int => decide (a < b)))) (((clI cat.length T).map (mn cat)).map fun x => ev cat x.toNat)
theorem thin_sp {cat : List Q} {far m : Int} {T : Nat → Nat} (h : t_clusters_of cat far m = some (clI cat.length T)) : t_thinned cat far m = some (thin cat T) := by
  unfold t_thinned
  rw [shocks_sp h, Option.bind_some, tmap_eq (g := fun x => ev cat x.toNat) fun x hx => by
    obtain ⟨c, hc, rfl⟩ := List.mem_map.mp hx
    obtain ⟨q, hq, _, e⟩ := tm_at ((cl_in hc).2.2 _ (mn_sp (cl_in hc)).2.1)
    rw [hq, e]; rfl]
  rfl
theorem Top.uniq {n : Nat} {k : Nat → Nat → Bool} {T T' : Nat → Nat} (h : Top n k T) (h' : Top n k T') {i : Nat} (hi : i < n) : T i = T' i := by
  have a := h'.of_cn (h.cn i hi)
  have b := h.of_cn (h'.cn i hi)
  have c := h'.le (T i) (Nat.lt_of_le_of_lt (h.le i hi) hi)
  have d := h.le (T' i) (Nat.lt_of_le_of_lt (h'.le i hi) hi)
  omega
theorem clI_congr {n : Nat} {T T' : Nat → Nat} (h : ∀ i, i < n → T i = T' i) : clI n T = clI n T' := by
  have e1 : tops n T = tops n T' := List.filter_congr fun i hi => by rw [h i (List.mem_range.mp hi)]
  have e2 : ∀ t, grpL n T t = grpL n T' t := fun t => List.filter_congr fun i hi => by rw [h i (List.mem_range.mp hi)]
  unfold clI
  rw [e1]
  exact List.map_congr_left fun t _ => by rw [e2]
end LP
namespace LP
open PySem PySem.Spec PyProof.Rows L2 PF TL
theorem tat_last {A : Type} (xs : List A) (l : A) : tat (xs ++ [l]) (-1) = some l := by
  obtain ⟨a, h, h2, _⟩ := tat_neg (xs := xs ++ [l]) (i := -1) (by decide) (by simp; omega)
  have e : (((xs ++ [l]).length : Int) + -1).toNat = xs.length := by simp; omega
  rw [e, List.getElem?_append_right (Nat.le_refl _), Nat.sub_self] at h2
  have : l = a := by simpa using h2
  subst this
  exact h
theorem tset_last {A : Type} (xs : List A) (l w : A) : tset (xs ++ [l]) (-1) w = some (xs ++ [w]) := by
  unfold tset L2.ixN
  rw [if_neg (by decide), if_pos (by simp; omega)]
  have e : (-1 + (((xs ++ [l]).length : Nat) : Int)).toNat = xs.length := by simp; omega
  rw [Option.map_some]
  congr 1
  show (xs ++ [l]).set _ w = _
  rw [e, List.set_append_right _ _ (Nat.le_refl _), Nat.sub_self]; rfl
/-- the i-th of a row -/
def ax (xs : List Int) (i : Nat) : Int := xs.getD i 0
theorem ax_at {xs : List Int} {i : Nat} (h : i < xs.length) : tat xs (i : Int) = some (ax xs i) := tat_n (by simp [ax, List.getD, List.getElem?_eq_getElem h])
theorem ax_get {xs : List Int} {i : Nat} (h : i < xs.length) : xs[i]? = some (ax xs i) := by simp [ax, List.getD, List.getElem?_eq_getElem h]
theorem ax_mem {xs : List Int} {i : Nat} (h : i < xs.length) : ax xs i ∈ xs := List.mem_of_getElem? (ax_get h)
theorem mem_ax {xs : List Int} {x : Int} (h : x ∈ xs) : ∃ i, i < xs.length ∧ x = ax xs i := by
  obtain ⟨i, hi, e⟩ := List.mem_iff_getElem.mp h
  exact ⟨i, hi, by simp [ax, List.getD, List.getElem?_eq_getElem hi, e]⟩
theorem ax_le {xs : List Int} (hs : xs.Pairwise (· ≤ ·)) {i j : Nat} (hij : i ≤ j) (hj : j < xs.length) : ax xs i ≤ ax xs j := by
  rcases Nat.lt_or_eq_of_le hij with h | rfl
  · have := List.pairwise_iff_getElem.mp hs i j (by omega) hj h
    simpa [ax, List.getD, List.getElem?_eq_getElem hj, List.getElem?_eq_getElem (show i < xs.length by omega)] using this
  · exact Int.le_refl _
def TT (ok : Nat → Bool) : Nat → Nat
  | 0 => 0
  | k + 1 => if ok (k + 1) = true then TT ok k else k + 1
theorem TT_le (ok : Nat → Bool) : ∀ k, TT ok k ≤ k
  | 0 => Nat.le_refl _
  | k + 1 => by
    unfold TT
    have := TT_le ok k
    split <;> omega
theorem TT_no {ok : Nat → Bool} {k : Nat} (h : k = 0 ∨ ok k = false) : TT ok k = k := by
  cases k with
  | zero => rfl
  | succ k =>
    rcases h with h | h
    · omega
    · unfold TT; rw [h]; rfl
theorem TT_ok {ok : Nat → Bool} {k : Nat} (h : ok (k + 1) = true) : TT ok (k + 1) = TT ok k := by
  rw [TT, if_pos h]
theorem TT_self {ok : Nat → Bool} {k : Nat} (h : TT ok k = k) : k = 0 ∨ ok k = false := by
  cases k with
  | zero => exact .inl rfl
  | succ k =>
    cases c : ok (k + 1)
    · exact .inr rfl
    · rw [TT_ok c] at h
      have := TT_le ok k
      omega
theorem TT_iff {ok : Nat → Bool} {i : Nat} : ∀ {j : Nat}, i ≤ j → (TT ok i = TT ok j ↔ ∀ k, i < k → k ≤ j → ok k = true)
  | 0, h => by
    have : i = 0 := by omega
    subst this
    exact ⟨fun _ k h1 h2 => by omega, fun _ => rfl⟩
  | j + 1, h => by
    rcases Nat.lt_or_eq_of_le h with h | rfl
    · have ih := TT_iff (ok := ok) (i := i) (j := j) (by omega)
      constructor
      · intro e
        have hok : ok (j + 1) = true := by
          cases c : ok (j + 1)
          · rw [TT_no (.inr c)] at e
            have := TT_le ok i
            omega
          · rfl
        intro k h1 h2
        rcases Nat.lt_or_eq_of_le h2 with h2 | rfl
        · exact (ih.mp (by rw [e, TT_ok hok])) k h1 (by omega)
        · exact hok
      · intro q
        rw [TT_ok (q (j + 1) h (Nat.le_refl _))]
        exact ih.mpr fun k h1 h2 => q k h1 (by omega)
    · exact ⟨fun _ k h1 h2 => by omega, fun _ => rfl⟩
theorem TT_cn {n : Nat} {lk : Nat → Nat → Bool} {ok : Nat → Bool} (h : ∀ k, k + 1 < n → ok (k + 1) = true → lk k (k + 1) = true) : ∀ i, i < n → Cn n lk (TT ok i) i
  | 0, _ => .refl _
  | k + 1, hk => by
    cases c : ok (k + 1)
    · rw [TT_no (.inr c)]; exact .refl _
    · rw [TT_ok c]
      exact (TT_cn h k (by omega)).step (by omega) hk (h k hk c)
theorem tops_new {T : Nat → Nat} {k : Nat} : tops (k + 1) T = tops k T ++ (if T k = k then [k] else []) := by
  unfold tops
  rw [List.range_succ, List.filter_append]
  congr 1
  by_cases h : T k = k
  · rw [if_pos h, List.filter_cons_of_pos (by simpa using h)]; rfl
  · rw [if_neg h, List.filter_cons_of_neg (by simpa using h)]; rfl
theorem grpL_new {T : Nat → Nat} {k t : Nat} : grpL (k + 1) T t = grpL k T t ++ (if T k = t then [k] else []) := by
  unfold grpL
  rw [List.range_succ, List.filter_append]
  congr 1
  by_cases h : T k = t
  · rw [if_pos h, List.filter_cons_of_pos (by simpa using h)]; rfl
  · rw [if_neg h, List.filter_cons_of_neg (by simpa using h)]; rfl
theorem natI_app (xs ys : List Nat) : natI (xs ++ ys) = natI xs ++ natI ys := by unfold natI; rw [List.map_append]
theorem clI_new {T : Nat → Nat} (hle : ∀ i, T i ≤ i) {k : Nat} (h : T k = k) : clI (k + 1) T = clI k T ++ [[(k : Int)]] := by
  unfold clI
  rw [tops_new, if_pos h, List.map_append]
  congr 1
  · refine List.map_congr_left fun t ht => ?_
    have := (mem_tops.mp ht).1
    rw [grpL_new, if_neg (by omega), List.append_nil]
  · rw [List.map_cons, List.map_nil, grpL_new, if_pos h]
    have : grpL k T k = [] := by
      unfold grpL
      rw [List.filter_eq_nil_iff]
      intro i hi
      have h1 := List.mem_range.mp hi
      have h2 := hle i
      simp only [beq_iff_eq]
      omega
    rw [this]; rfl
theorem tops_last {ok : Nat → Bool} : ∀ j, ∃ A, tops (j + 1) (TT ok) = A ++ [TT ok j]
  | 0 => ⟨[], rfl⟩
  | j + 1 => by
    by_cases h : TT ok (j + 1) = j + 1
    · exact ⟨tops (j + 1) (TT ok), by rw [tops_new, if_pos h, h]⟩
    · obtain ⟨A, hA⟩ := tops_last (ok := ok) j
      refine ⟨A, ?_⟩
      have hok : ok (j + 1) = true := by
        cases c : ok (j + 1)
        · exact absurd (TT_no (.inr c)) h
        · rfl
      rw [tops_new, if_neg h, List.append_nil, hA, TT_ok hok]
/-- the last group grows -/
theorem clI_more {ok : Nat → Bool} {j : Nat} (h : ok (j + 1) = true) : ∃ A l, clI (j + 1) (TT ok) = A ++ [l ++ [(j : Int)]] ∧ clI (j + 2) (TT ok) = A ++ [l ++ [(j : Int)] ++ [((j + 1 : Nat) : Int)]] := by
  obtain ⟨A, hA⟩ := tops_last (ok := ok) j
  have hnd : (tops (j + 1) (TT ok)).Nodup := ((range_lt (j + 1)).imp fun {a b} (h : a < b) => by omega).sublist List.filter_sublist
  have hT := TT_ok h
  have hle := TT_le ok j
  refine ⟨A.map fun t => natI (grpL (j + 1) (TT ok) t), natI (grpL j (TT ok) (TT ok j)), ?_, ?_⟩
  · unfold clI
    rw [hA, List.map_append]
    congr 1
    rw [List.map_cons, List.map_nil, grpL_new, if_pos rfl, natI_app]; rfl
  · unfold clI
    rw [tops_new, if_neg (by omega), List.append_nil, hA, List.map_append]
    congr 1
    · refine List.map_congr_left fun t ht => ?_
      rw [grpL_new, if_neg, List.append_nil]
      rw [hT]
      rintro rfl
      rw [hA, List.nodup_append] at hnd
      exact hnd.2.2 _ ht _ (by simp) rfl
    · rw [List.map_cons, List.map_nil, grpL_new, if_pos hT, natI_app, grpL_new, if_pos rfl, natI_app]; rfl
/-- near enough to the one before -/
def okx (xs : List Int) (m : Int) (k : Nat) : Bool := decide (ax xs k - ax xs (k - 1) ≤ m)
abbrev TX (xs : List Int) (m : Int) : Nat → Nat := TT (okx xs m)
/-- a catalog at places that are all near -/
structure Line (cat : List Q) (xs : List Int) (far : Int) : Prop where
  len : cat.length = xs.length
  t : ∀ i, i < xs.length → (ev cat i).1 = ax xs i
  near : ∀ i j, i < xs.length → j < xs.length → near cat far i j = true
theorem gaps_sum {xs : List Int} {m : Int} (hs : xs.Pairwise (· ≤ ·)) {i j : Nat} (hij : i ≤ j) (hj : j < xs.length) (h : ax xs j - ax xs i ≤ m) : ∀ k, i < k → k ≤ j → okx xs m k = true := by
  intro k h1 h2
  unfold okx
  rw [decide_eq_true_eq]
  have a := ax_le hs (show i ≤ k - 1 by omega) (by omega)
  have b := ax_le hs h2 hj
  omega
theorem line_top {cat : List Q} {xs : List Int} {far m : Int} (h : Line cat xs far) (hs : xs.Pairwise (· ≤ ·)) : Top cat.length (lk cat far m) (TX xs m) := by
  rw [h.len]
  refine ⟨fun i _ => TT_le _ i, fun i hi => Cn.symm (lk_symm cat far m) (TT_cn (fun k hk hok => ?_) i hi), fun i j hi hj hl => ?_⟩
  · refine lk_iff.mpr ⟨by omega, h.near _ _ (by omega) hk, ?_⟩
    unfold dif
    rw [h.t k (by omega), h.t (k + 1) hk]
    have := ax_le hs (show k ≤ k + 1 by omega) hk
    unfold okx at hok
    rw [decide_eq_true_eq, Nat.add_sub_cancel] at hok
    omega
  · obtain ⟨_, _, hd⟩ := lk_iff.mp hl
    unfold dif at hd
    rw [h.t i hi, h.t j hj] at hd
    rcases Nat.le_total i j with q | q
    · exact (TT_iff q).mpr (gaps_sum hs q hj (by omega))
    · exact ((TT_iff q).mpr (gaps_sum hs q hi (by omega))).symm
theorem cl_line {cat : List Q} {xs : List Int} {far m : Int} (h : Line cat xs far) (hs : xs.Pairwise (· ≤ ·)) (hn : xs.length < 64) : t_clusters_of cat far m = some (clI cat.length (TX xs m)) := by
  obtain ⟨T, hT, e⟩ := clusters_sp (cat := cat) far m (by rw [h.len]; exact hn)
  rw [e, clI_congr fun i hi => hT.uniq (line_top h hs) hi]
theorem lgroups_sp {xs : List Int} {m : Int} (hn : xs.length < 64) : t_law_groups xs m = some (clI xs.length (TX xs m)) := by
  suffices h : Post (t_law_groups xs m) (fun r => r = clI xs.length (TX xs m)) by
    obtain ⟨r, e, rfl⟩ := h
    exact e
  unfold t_law_groups
  rw [trg_0 (by omega), Option.bind_some]
  refine Post.bind (P := fun s => s = clI xs.length (TX xs m)) ?_ fun s hs => Post.pure hs
  refine Post.imp (tfold_post (fun pre (s : List (List Int)) => s = clI pre.length (TX xs m)) rfl ?_) fun s hs => by rw [hs, len_upto]
  rintro pre k suf s hxs hI
  subst hI
  obtain ⟨h1, rfl⟩ := upto_split hxs
  rw [Int.zero_add, List.length_append, List.length_singleton]
  generalize pre.length = k at h1 ⊢
  have hcl : (clI k (TX xs m)).length ≤ k := cl_len _ _
  cases k with
  | zero =>
    refine Post.eqb (a := false) (by rw [if_neg (by simp)]) ?_
    rw [if_neg (by simp), tapp_ok (by omega), Option.bind_some, Option.bind_some]
    exact Post.pure (clI_new (TT_le _) rfl).symm
  | succ j =>
    rw [if_pos (by simp), ax_at h1, Option.bind_some, show ((j + 1 : Nat) : Int) - 1 = (j : Int) by omega, ax_at (show j < xs.length by omega), Option.bind_some, Option.bind_some]
    have e : decide (ax xs (j + 1) - ax xs j ≤ m) = okx xs m (j + 1) := rfl
    rw [e]
    cases c : okx xs m (j + 1)
    · rw [if_neg (by simp), tapp_ok (by omega), Option.bind_some, Option.bind_some]
      exact Post.pure (clI_new (TT_le _) (TT_no (.inr c))).symm
    · obtain ⟨A, l, e1, e2⟩ := clI_more c
      have hl : l.length ≤ 64 := by
        have : l ++ [(j : Int)] ∈ clI (j + 1) (TX xs m) := by rw [e1]; simp
        obtain ⟨t, _, _, e⟩ := mem_cl.mp this
        have h2 := congrArg List.length e
        have h3 : (natI (grpL (j + 1) (TX xs m) t)).length ≤ j + 1 := by
          rw [natI_len]
          unfold grpL
          refine Nat.le_trans (List.length_filter_le _ _) ?_
          rw [List.length_range]; exact Nat.le_refl _
        rw [List.length_append] at h2
        omega
      rw [if_pos rfl, e1, tat_last, Option.bind_some, tcat_of (by simp; omega), Option.bind_some, tset_last, Option.bind_some, Option.bind_some]
      exact Post.pure e2.symm
/-- the times of a group -/
def tg (xs : List Int) (g : List Int) : List Int := g.map fun k => ax xs k.toNat
theorem tg_app (xs g h : List Int) : tg xs (g ++ h) = tg xs g ++ tg xs h := by unfold tg; rw [List.map_append]
theorem steps_sp {xs : List Int} {m : Int} (hs : xs.Pairwise (· ≤ ·)) (hn : xs.length < 64) : t_steps_of xs m = some ((clI xs.length (TX xs m)).map (tg xs)) := by
  suffices h : Post (t_steps_of xs m) (fun r => r = (clI xs.length (TX xs m)).map (tg xs)) by
    obtain ⟨r, e, rfl⟩ := h
    exact e
  unfold t_steps_of
  rw [srt_of hs]
  refine Post.bind (P := fun s => s = (clI xs.length (TX xs m)).map (tg xs)) ?_ fun s hs => Post.pure hs
  refine tfold_post (fun pre (s : List (List Int)) => s = (clI pre.length (TX xs m)).map (tg xs)) rfl ?_
  rintro pre x suf s hxs hI
  subst hI
  have h1 : pre.length < xs.length := by
    have := congrArg List.length hxs
    simp only [List.length_append, List.length_cons] at this
    omega
  have hx : x = ax xs pre.length := by
    have := ax_get h1
    rw [hxs, List.getElem?_append_right (Nat.le_refl _), Nat.sub_self] at this
    have h2 : x = ax (pre ++ x :: suf) pre.length := by simpa using this
    rw [h2, ← hxs]
  rw [List.length_append, List.length_singleton, hx]
  clear hxs hx
  generalize pre.length = k at h1 ⊢
  have hcl : (clI k (TX xs m)).length ≤ k := cl_len _ _
  have hnew : ∀ k : Nat, [ax xs k] = tg xs [(k : Int)] := fun k => by unfold tg; simp
  cases k with
  | zero =>
    refine Post.eqb (a := false) rfl ?_
    rw [if_neg (by simp), tapp_ok (by rw [List.length_map]; omega), Option.bind_some, Option.bind_some]
    refine Post.pure ?_
    rw [clI_new (TT_le _) rfl, List.map_append, hnew]; rfl
  | succ j =>
    obtain ⟨A, l, e1⟩ : ∃ A l, clI (j + 1) (TX xs m) = A ++ [l ++ [(j : Int)]] := by
      cases c : okx xs m j with
      | false =>
        rw [clI_new (TT_le _) (TT_no (.inr c))]
        exact ⟨_, [], rfl⟩
      | true =>
        cases j with
        | zero => exact ⟨[], [], rfl⟩
        | succ i =>
          obtain ⟨A, l, _, e2⟩ := clI_more c
          exact ⟨A, _, e2⟩
    have hmap : (A ++ [l ++ [(j : Int)]]).map (tg xs) = A.map (tg xs) ++ [tg xs l ++ [ax xs j]] := by rw [List.map_append, List.map_cons, tg_app, hnew]; rfl
    have hl : l.length ≤ 64 ∧ A.length ≤ 64 := by
      have : l ++ [(j : Int)] ∈ clI (j + 1) (TX xs m) := by rw [e1]; simp
      obtain ⟨t, _, _, e⟩ := mem_cl.mp this
      have h2 := congrArg List.length e
      have h3 : (natI (grpL (j + 1) (TX xs m) t)).length ≤ j + 1 := by
        rw [natI_len]
        unfold grpL
        refine Nat.le_trans (List.length_filter_le _ _) ?_
        rw [List.length_range]; exact Nat.le_refl _
      rw [List.length_append] at h2
      have h4 := congrArg List.length e1
      rw [List.length_append] at h4
      omega
    rw [e1, hmap, if_pos (by simp), tat_last, Option.bind_some, tat_last, Option.bind_some, Option.bind_some]
    have e : decide (ax xs (j + 1) - ax xs j ≤ m) = okx xs m (j + 1) := rfl
    rw [e]
    cases c : okx xs m (j + 1)
    · rw [if_neg (by simp), tapp_ok (by simp; omega), Option.bind_some, Option.bind_some]
      refine Post.pure ?_
      rw [clI_new (TT_le _) (TT_no (.inr c)), List.map_append, e1, hmap, hnew]; rfl
    · obtain ⟨A', l', e1', e2⟩ := clI_more c
      have eq := e1.symm.trans e1'
      obtain ⟨hA, hll⟩ := List.append_inj' eq rfl
      have hll2 : l ++ [(j : Int)] = l' ++ [(j : Int)] := by simpa using hll
      obtain ⟨hl2, _⟩ := List.append_inj' hll2 rfl
      subst hA; subst hl2
      rw [if_pos rfl, Option.bind_some, tcat_of (by simp [tg]; omega), Option.bind_some, tset_last, Option.bind_some, Option.bind_some]
      refine Post.pure ?_
      rw [e2, List.map_append, List.map_cons, tg_app, tg_app, hnew, hnew]; rfl
end LP
namespace LP
open PySem PySem.Spec PyProof.Rows L2 PF TL
theorem key_same {cat : List Q} {x m : Int} (hp : (ev cat x.toNat).2.1 = (ev cat m.toNat).2.1) : lxM (key cat x) (key cat m) = lx3 (-(ev cat x.toNat).2.2, (ev cat x.toNat).1, x) (-(ev cat m.toNat).2.2, (ev cat m.toNat).1, m) := by
  unfold lxM lx3 key lx
  simp only [hp, if_true]
/-- all at one place -/
def One (cat : List Q) : Prop := ∀ i j, i < cat.length → j < cat.length → (ev cat i).2.1 = (ev cat j).2.1
theorem mn_best {cat : List Q} (h1 : One cat) {c : List Int} (h : InC cat c) : ∀ x ∈ c, lx3 (-(ev cat x.toNat).2.2, (ev cat x.toNat).1, x) (-(ev cat (mn cat c).toNat).2.2, (ev cat (mn cat c).toNat).1, mn cat c) = false := by
  obtain ⟨_, hm, hl⟩ := mn_sp h
  intro x hx
  have := hl x hx
  rwa [key_same] at this
  obtain ⟨i, hi, e1⟩ := h.2.2 x hx
  obtain ⟨j, hj, e2⟩ := h.2.2 _ hm
  rw [e1, e2, Int.toNat_natCast, Int.toNat_natCast]
  exact h1 i j hi hj
theorem lx3_no {x y : E3} : lx3 x y = false ↔ ¬ (x.1 < y.1 ∨ (x.1 = y.1 ∧ (x.2.1 < y.2.1 ∨ (x.2.1 = y.2.1 ∧ x.2.2 < y.2.2)))) := by
  rw [← lx3_iff, Bool.not_eq_true]
/-- the head of a group of equal sizes is its main -/
theorem mn_head {cat : List Q} {xs : List Int} (hs : xs.Pairwise (· ≤ ·)) (hlen : cat.length = xs.length) (ht : ∀ i, i < xs.length → (ev cat i).1 = ax xs i) (h1 : One cat) (hz : ∀ i j, i < cat.length → j < cat.length → (ev cat i).2.2 = (ev cat j).2.2) {k : Nat → Nat → Bool} {T : Nat → Nat} (hT : Top cat.length k T) {c : List Int} (hc : c ∈ clI cat.length T) : tat c 0 = some (mn cat c) := by
  have hin := cl_in hc
  obtain ⟨t, ht1, ht2, rfl⟩ := mem_cl.mp hc
  obtain ⟨r, hr⟩ := grp_head hT ht1 ht2
  have hb := mn_best h1 hin
  obtain ⟨_, hm, _⟩ := mn_sp hin
  generalize hmm : mn cat (natI (grpL cat.length T t)) = m at hb hm ⊢
  have htm : (t : Int) ∈ natI (grpL cat.length T t) := mem_grp.mpr ⟨t, ht1, ht2, rfl⟩
  have hb2 := hb _ htm
  obtain ⟨i, hi, hiT, rfl⟩ := mem_grp.mp hm
  rw [lx3_no] at hb2
  dsimp only at hb2
  rw [Int.toNat_natCast, Int.toNat_natCast, hz t i ht1 hi, ht t (by omega), ht i (by omega)] at hb2
  have hle : t ≤ i := by rw [← hiT]; exact hT.le i hi
  have := ax_le hs hle (by omega)
  have e : t = i := by
    rcases Nat.lt_or_eq_of_le hle with q | q
    · exact absurd (.inr ⟨rfl, by omega⟩) hb2
    · exact q
  subst e
  rw [hr]
  exact tat_n (n := 0) rfl
def gapL (xs : List Int) (k : Nat) : List Int := (upto 0 k).map fun i => ax xs (i.toNat + 1) - ax xs i.toNat
theorem gaps_sp {xs : List Int} (hn : xs.length ≤ 1000) : t_gaps_of xs = some (gapL xs (xs.length - 1)) := by
  unfold t_gaps_of
  rw [trg_of (by decide) (by omega) (by decide) (by omega), show ((xs.length : Int) - 1 - 0).toNat = xs.length - 1 by omega, Option.bind_some, tmap_eq (g := fun i => ax xs (i.toNat + 1) - ax xs i.toNat) fun i hi => ?_]
  · rfl
  obtain ⟨a, b⟩ := mem_upto.mp hi
  obtain ⟨j, rfl⟩ := Int.eq_ofNat_of_zero_le a
  rw [show (j : Int) + 1 = ((j + 1 : Nat) : Int) from rfl, ax_at (by omega), Option.bind_some, ax_at (by omega), Option.bind_some, Int.toNat_natCast]
theorem gapL_len (xs : List Int) (k : Nat) : (gapL xs k).length = k := by unfold gapL; rw [List.length_map, len_upto]
theorem mem_gap {xs : List Int} {k : Nat} {g : Int} : g ∈ gapL xs k ↔ ∃ i, i < k ∧ g = ax xs (i + 1) - ax xs i := by
  unfold gapL
  rw [List.mem_map]
  constructor
  · rintro ⟨i, hi, rfl⟩
    obtain ⟨a, b⟩ := mem_upto.mp hi
    exact ⟨i.toNat, by omega, rfl⟩
  · rintro ⟨i, hi, rfl⟩
    exact ⟨(i : Int), mem_upto.mpr (by omega), by rw [Int.toNat_natCast]⟩
theorem gap_nn {xs : List Int} (hs : xs.Pairwise (· ≤ ·)) {g : Int} (h : g ∈ gapL xs (xs.length - 1)) : 0 ≤ g := by
  obtain ⟨i, hi, rfl⟩ := mem_gap.mp h
  have := ax_le hs (show i ≤ i + 1 by omega) (by omega)
  omega
/-- one group more for each gap that is too wide -/
theorem tops_len (xs : List Int) (m : Int) : ∀ k, (tops (k + 1) (TX xs m)).length = 1 + ((gapL xs k).filter fun g => decide (g > m)).length
  | 0 => rfl
  | k + 1 => by
    rw [tops_new, List.length_append, tops_len xs m k]
    have e : gapL xs (k + 1) = gapL xs k ++ [ax xs (k + 1) - ax xs k] := by
      unfold gapL
      rw [upto_succ, List.map_append]
      simp
    rw [e, List.filter_append, List.length_append]
    by_cases c : ax xs (k + 1) - ax xs k > m
    · have : okx xs m (k + 1) = false := by unfold okx; rw [decide_eq_false_iff_not, Nat.add_sub_cancel]; omega
      rw [if_pos (TT_no (.inr this)), List.filter_cons_of_pos (by simpa using c)]; rfl
    · have : okx xs m (k + 1) = true := by unfold okx; rw [decide_eq_true_eq, Nat.add_sub_cancel]; omega
      rw [if_neg, List.filter_cons_of_neg (by simpa using c)]; · rfl
      show TT (okx xs m) (k + 1) ≠ k + 1
      rw [TT_ok this]
      have := TT_le (okx xs m) k
      omega
theorem conn_gap {cat : List Q} {xs : List Int} {far m : Int} (h : Line cat xs far) (hs : xs.Pairwise (· ≤ ·)) : Conn cat.length (lk cat far m) ↔ ∀ g ∈ gapL xs (xs.length - 1), g ≤ m := by
  rw [← conn_iff (lk_symm cat far m) (line_top h hs), h.len]
  cases hx : xs.length with
  | zero => simp [tops, gapL, upto]
  | succ k =>
    rw [tops_len, Nat.add_sub_cancel]
    constructor
    · intro q g hg
      have : ((gapL xs k).filter fun g => decide (g > m)) = [] := List.eq_nil_of_length_eq_zero (by omega)
      have := List.filter_eq_nil_iff.mp this g hg
      simp only [decide_eq_true_eq] at this
      omega
    · intro q
      rw [List.filter_eq_nil_iff.mpr fun g hg => by have := q g hg; simp only [decide_eq_true_eq]; omega]
      simp
theorem least_line {cat : List Q} {xs : List Int} {far M : Int} (h : Line cat xs far) (hs : xs.Pairwise (· ≤ ·)) (hn : xs.length < 64) (hM : M ∈ [0] ++ gapL xs (xs.length - 1)) (hM2 : ∀ g ∈ [0] ++ gapL xs (xs.length - 1), g ≤ M) : t_least_minutes cat far = some (some M) := by
  obtain ⟨r, e, hr⟩ := least_sp (cat := cat) far (by rw [h.len]; exact hn)
  rw [e]
  have hM0 : 0 ≤ M := hM2 0 (by simp)
  have hc : Conn cat.length (lk cat far M) := (conn_gap h hs).mpr fun g hg => hM2 g (by simp [hg])
  cases r with
  | none => exact absurd hc (hr M)
  | some m =>
    obtain ⟨h1, h2, h3⟩ := hr
    have a : m ≤ M := by
      rcases Int.lt_or_le M m with q | q
      · exact absurd hc (h2 M hM0 q)
      · exact q
    have b : M ≤ m := by
      rcases List.mem_append.mp hM with q | q
      · have : M = 0 := by simpa using q
        rcases h3 with h3 | ⟨i, j, _, _, h3⟩
        · omega
        · unfold dif at h3; omega
      · exact (conn_gap h hs).mp h1 M q
    rw [show m = M by omega]
theorem thinned_sp {xs : List Int} {m : Int} (hs : xs.Pairwise (· ≤ ·)) (hm : 0 ≤ m) (hn : xs.length ≤ 1000) : Post (t_thinned_times xs m) fun s => s.length ≤ 1000 ∧ s.Pairwise (fun a b => b - a > m) ∧ ∀ i, i < xs.length → TX xs m i = i → ax xs i ∈ s := by
  unfold t_thinned_times
  refine Post.bind (P := fun s : List Int => s.length ≤ 1000 ∧ s.Pairwise (fun a b => b - a > m) ∧ ∀ i, i < xs.length → TX xs m i = i → ax xs i ∈ s) ?_ fun s h => Post.pure h
  refine Post.imp (tfold_post (fun pre (s : List Int) => s.length ≤ pre.length ∧ (pre ≠ [] → s ≠ []) ∧ s.Pairwise (fun a b => b - a > m) ∧ (∀ y ∈ s, ∃ i, i < pre.length ∧ y = ax xs i) ∧ ∀ i, i < pre.length → TX xs m i = i → ax xs i ∈ s) (s := []) ⟨Nat.le_refl _, fun h => absurd rfl h, .nil, (by simp), (by simp)⟩ ?_) fun s h => ⟨by omega, h.2.2.1, h.2.2.2.2⟩
  rintro pre x suf s hxs ⟨i1, i2, i3, i4, i5⟩
  have h1 : pre.length < xs.length := by
    have := congrArg List.length hxs
    simp only [List.length_append, List.length_cons] at this
    omega
  have hx : x = ax xs pre.length := by
    have := ax_get h1
    rw [hxs, List.getElem?_append_right (Nat.le_refl _), Nat.sub_self] at this
    have h2 : x = ax (pre ++ x :: suf) pre.length := by simpa using this
    rw [h2, ← hxs]
  have hpre : pre = [] ∨ 0 < pre.length := by cases pre <;> simp
  rw [List.length_append, List.length_singleton]
  rcases List.eq_nil_or_concat s with rfl | ⟨s', z, rfl⟩
  · have hp0 : pre = [] := by
      cases pre with
      | nil => rfl
      | cons a l => exact absurd rfl (i2 (by simp))
    refine Post.eqb (a := true) rfl ?_
    rw [if_pos rfl, tcat_of (by simp), Option.bind_some, Option.bind_some]
    refine Post.pure ⟨by simp, fun _ => by simp, by simp, ?_, ?_⟩
    · intro y hy
      have : y = x := by simpa using hy
      exact ⟨pre.length, by omega, by rw [this, hx]⟩
    · intro i hi _
      rw [hp0] at hi hx
      have : i = 0 := by simpa using hi
      subst this
      rw [hx]; simp
  · rw [List.concat_eq_append] at i1 i2 i3 i4 i5 ⊢
    obtain ⟨p1, p2, p3⟩ := List.pairwise_append.mp i3
    obtain ⟨jz, hjz, ez⟩ := i4 z (by simp)
    have hzx := ax_le hs (show jz ≤ pre.length - 1 by omega) (by omega)
    rw [List.length_append, List.length_singleton] at i1
    rw [if_neg (by simp; omega), tat_last, Option.bind_some, Option.bind_some]
    by_cases c : x - z > m
    · rw [if_pos (decide_eq_true c), tcat_of (by simp; omega), Option.bind_some, Option.bind_some]
      refine Post.pure ⟨by simp; omega, fun _ => by simp, ?_, ?_, ?_⟩
      · refine List.pairwise_append.mpr ⟨i3, by simp, fun a ha b hb => ?_⟩
        have hb : b = x := by simpa using hb
        subst hb
        rcases List.mem_append.mp ha with q | q
        · have := p3 a q z (by simp)
          omega
        · have : a = z := by simpa using q
          omega
      · intro y hy
        rcases List.mem_append.mp hy with q | q
        · obtain ⟨i, hi, e⟩ := i4 y q
          exact ⟨i, by omega, e⟩
        · have : y = x := by simpa using q
          exact ⟨pre.length, by omega, by rw [this, hx]⟩
      · intro i hi hT
        rcases Nat.lt_or_eq_of_le (Nat.lt_succ_iff.mp hi) with q | rfl
        · exact List.mem_append_left _ (i5 i q hT)
        · rw [hx]; simp
    · rw [if_neg (by simpa using c), Option.bind_some]
      refine Post.pure ⟨by simp; omega, fun _ => by simp, i3, ?_, ?_⟩
      · intro y hy
        obtain ⟨i, hi, e⟩ := i4 y hy
        exact ⟨i, by omega, e⟩
      · intro i hi hT
        rcases Nat.lt_or_eq_of_le (Nat.lt_succ_iff.mp hi) with q | rfl
        · exact i5 i q hT
        · exfalso
          rcases TT_self hT with q | q
          · omega
          · unfold okx at q
            rw [decide_eq_false_iff_not] at q
            omega
theorem len_filter_le {A : Type} {p q : A → Bool} : ∀ {xs : List A}, (∀ x ∈ xs, p x = true → q x = true) → (xs.filter p).length ≤ (xs.filter q).length
  | [], _ => by simp
  | x :: xs, h => by
    have ih := len_filter_le (xs := xs) fun y hy => h y (List.mem_cons_of_mem _ hy)
    by_cases c : p x = true
    · rw [List.filter_cons_of_pos c, List.filter_cons_of_pos (h x (by simp) c)]; simp; omega
    · rw [List.filter_cons_of_neg c]
      by_cases c' : q x = true
      · rw [List.filter_cons_of_pos c']; simp; omega
      · rw [List.filter_cons_of_neg c']; exact ih
theorem xs_range (xs : List Int) : xs = (List.range xs.length).map (ax xs) := by
  apply List.ext_getElem?
  intro k
  rw [List.getElem?_map]
  by_cases hk : k < xs.length
  · rw [ax_get hk, List.getElem?_range hk]; rfl
  · rw [List.getElem?_eq_none (by omega), List.getElem?_eq_none (by simp; omega)]; rfl
theorem count_le {xs : List Int} {m : Int} (hs : xs.Pairwise (· ≤ ·)) {t : Int} (ht : t ∈ xs) : ∃ c ∈ clI xs.length (TX xs m), p_count_in xs t (t + (m + 1)) ≤ (c.length : Int) := by
  obtain ⟨i, hi, rfl⟩ := mem_ax ht
  have hTi : TX xs m i ≤ i := TT_le _ i
  have hid : TX xs m (TX xs m i) = TX xs m i := by
    have : ∀ i, TT (okx xs m) (TT (okx xs m) i) = TT (okx xs m) i := fun i => by
      induction i with
      | zero => rfl
      | succ k ih =>
        cases c : okx xs m (k + 1)
        · rw [TT_no (.inr c), TT_no (.inr c)]
        · rw [TT_ok c, ih]
    exact this i
  refine ⟨_, mem_cl.mpr ⟨TX xs m i, by omega, hid, rfl⟩, ?_⟩
  unfold p_count_in
  rw [List.length_map, natI_len]
  have e : (xs.filter fun time_1 => decide (ax xs i ≤ time_1) && decide (time_1 < ax xs i + (m + 1))).length = ((List.range xs.length).filter fun j => decide (ax xs i ≤ ax xs j) && decide (ax xs j < ax xs i + (m + 1))).length := by
    have h2 : ∀ ys : List Int, ys = (List.range xs.length).map (ax xs) → (ys.filter fun time_1 => decide (ax xs i ≤ time_1) && decide (time_1 < ax xs i + (m + 1))).length = ((List.range xs.length).filter fun j => decide (ax xs i ≤ ax xs j) && decide (ax xs j < ax xs i + (m + 1))).length := by
      rintro ys rfl
      rw [List.filter_map, List.length_map]; rfl
    exact h2 xs (xs_range xs)
  rw [e]
  unfold grpL
  refine Int.ofNat_le.mpr (len_filter_le fun j hj hc => ?_)
  have hj := List.mem_range.mp hj
  rw [Bool.and_eq_true, decide_eq_true_eq, decide_eq_true_eq] at hc
  rw [beq_iff_eq]
  rcases Nat.le_total i j with q | q
  · exact ((TT_iff q).mpr (gaps_sum hs q hj (by omega))).symm
  · exact (TT_iff q).mpr (gaps_sum hs q hi (by omega))
theorem quiet_sp {xs : List Int} {M : Int} (hs : xs.Pairwise (· ≤ ·)) (h0 : 0 < xs.length) (hn : xs.length ≤ 1000) (hM : M ∈ [0] ++ (gapL xs (xs.length - 1)).map fun g => g - 1) (hM2 : ∀ g ∈ [0] ++ (gapL xs (xs.length - 1)).map fun g => g - 1, g ≤ M) : Post (t_longest_quiet xs (ax xs 0) (ax xs (xs.length - 1) + 1)) fun r => r.2 - r.1 = M := by
  unfold t_longest_quiet
  rw [tlet_eq, List.map_id', List.filter_eq_self.mpr fun x hx => by
    obtain ⟨i, hi, rfl⟩ := mem_ax hx
    have a := ax_le hs (Nat.zero_le i) hi
    have b := ax_le hs (show i ≤ xs.length - 1 by omega) (by omega)
    rw [Bool.and_eq_true, decide_eq_true_eq, decide_eq_true_eq]
    omega]
  rw [tcat_of (by simp; omega), Option.bind_some]
  refine Post.bind (P := fun s : (Int × Int) × Int => s.1.2 - s.1.1 = M) ?_ fun s h => Post.pure h
  refine Post.imp (tfold_post (fun pre (s : (Int × Int) × Int) => s.2 = (if pre.length = 0 then ax xs 0 else (if pre.length ≤ xs.length then ax xs (pre.length - 1) + 1 else s.2)) ∧ 0 ≤ s.1.2 - s.1.1 ∧ (s.1.2 - s.1.1 = 0 ∨ ∃ i, i + 1 < pre.length ∧ i + 1 < xs.length ∧ s.1.2 - s.1.1 = ax xs (i + 1) - ax xs i - 1) ∧ ∀ i, i + 1 < pre.length → i + 1 < xs.length → ax xs (i + 1) - ax xs i - 1 ≤ s.1.2 - s.1.1) (s := ((ax xs 0, ax xs 0), ax xs 0)) ⟨rfl, by simp, .inl (by simp), (by simp)⟩ ?_) ?_
  · rintro pre x suf ⟨⟨b1, b2⟩, here⟩ hxs ⟨i1, i2, i3, i4⟩
    dsimp only at i1 i2 i3 i4 ⊢
    have h1 : pre.length ≤ xs.length := by
      have := congrArg List.length hxs
      simp only [List.length_append, List.length_cons, List.length_nil] at this
      omega
    have hx : x = if pre.length < xs.length then ax xs pre.length else ax xs (xs.length - 1) + 1 := by
      have h2 : (xs ++ [ax xs (xs.length - 1) + 1])[pre.length]? = some x := by rw [hxs]; simp
      by_cases c : pre.length < xs.length
      · rw [List.getElem?_append_left c, ax_get c] at h2
        rw [if_pos c]; exact (Option.some.inj h2).symm
      · have e : pre.length = xs.length := by omega
        rw [e, List.getElem?_append_right (Nat.le_refl _), Nat.sub_self] at h2
        rw [if_neg c]
        simpa using h2.symm
    rw [List.length_append, List.length_singleton]
    have key : x - here > b2 - b1 → ∃ i, i + 1 = pre.length ∧ i + 1 < xs.length ∧ x - here = ax xs (i + 1) - ax xs i - 1 := by
      intro q
      by_cases c0 : pre.length = 0
      · rw [if_pos c0] at i1
        rw [if_pos (by omega), c0] at hx
        omega
      · rw [if_neg c0, if_pos h1] at i1
        by_cases c : pre.length < xs.length
        · rw [if_pos c] at hx
          refine ⟨pre.length - 1, by omega, by omega, ?_⟩
          rw [show pre.length - 1 + 1 = pre.length by omega]
          omega
        · rw [if_neg c] at hx
          have : pre.length = xs.length := by omega
          rw [this] at i1
          omega
    have key2 : ∀ i, i + 1 = pre.length → i + 1 < xs.length → ax xs (i + 1) - ax xs i - 1 = x - here := by
      intro i e1 e2
      rw [if_neg (by omega), if_pos h1] at i1
      rw [if_pos (by omega)] at hx
      rw [e1, show i = pre.length - 1 by omega]
      omega
    have hhere : max here (x + 1) = (if pre.length + 1 = 0 then ax xs 0 else (if pre.length + 1 ≤ xs.length then ax xs (pre.length + 1 - 1) + 1 else max here (x + 1))) := by
      rw [if_neg (by omega)]
      by_cases c : pre.length + 1 ≤ xs.length
      · rw [if_pos c, Nat.add_sub_cancel]
        rw [if_pos (by omega)] at hx
        by_cases c0 : pre.length = 0
        · rw [if_pos c0] at i1
          rw [c0] at hx ⊢
          omega
        · rw [if_neg c0, if_pos h1] at i1
          have := ax_le hs (show pre.length - 1 ≤ pre.length by omega) (by omega)
          omega
      · rw [if_neg c]
    by_cases q : x - here > b2 - b1
    · rw [if_pos (decide_eq_true q), tlet_eq, Option.bind_some]
      refine Post.let (Post.pure ⟨hhere, by dsimp only; omega, ?_, ?_⟩)
      · obtain ⟨i, e1, e2, e3⟩ := key q
        exact .inr ⟨i, by omega, e2, e3⟩
      · intro i e1 e2
        dsimp only
        rcases Nat.lt_or_eq_of_le (show i + 1 ≤ pre.length by omega) with z | z
        · have := i4 i z e2
          omega
        · rw [key2 i z e2]
          exact Int.le_refl _
    · rw [if_neg (by simpa using q), Option.bind_some]
      refine Post.let (Post.pure ⟨hhere, i2, ?_, ?_⟩)
      · rcases i3 with z | ⟨i, e1, e2, e3⟩
        · exact .inl z
        · exact .inr ⟨i, by omega, e2, e3⟩
      · intro i e1 e2
        dsimp only
        rcases Nat.lt_or_eq_of_le (show i + 1 ≤ pre.length by omega) with z | z
        · exact i4 i z e2
        · rw [key2 i z e2]; omega
  · rintro ⟨⟨b1, b2⟩, here⟩ ⟨_, i2, i3, i4⟩
    dsimp only at i2 i3 i4 ⊢
    rw [List.length_append, List.length_singleton] at i3 i4
    have a : b2 - b1 ≤ M := by
      rcases i3 with z | ⟨i, _, e2, e3⟩
      · have := hM2 0 (by simp)
        omega
      · rw [e3]
        exact hM2 _ (List.mem_append_right _ (List.mem_map.mpr ⟨_, mem_gap.mpr ⟨i, by omega, rfl⟩, rfl⟩))
    have b : M ≤ b2 - b1 := by
      rcases List.mem_append.mp hM with z | z
      · have : M = 0 := by simpa using z
        omega
      · obtain ⟨g, hg, rfl⟩ := List.mem_map.mp z
        obtain ⟨i, hi, rfl⟩ := mem_gap.mp hg
        exact i4 i (by omega) (by omega)
    omega
end LP
namespace LP
open PySem PySem.Spec PyProof.Rows L2 PF TL
def ctA (xs : List Int) : List Q := xs.map fun t => (t, ((3, 4), 5))
theorem ev_ctA {xs : List Int} {i : Nat} (h : i < xs.length) : ev (ctA xs) i = (ax xs i, ((3, 4), 5)) := by
  unfold ev ctA
  rw [List.getD, List.getElem?_map, ax_get h]; rfl
theorem near_same {cat : List Q} {far : Int} (hf : 0 ≤ far) {i j : Nat} (h : (ev cat i).2.1 = (ev cat j).2.1) : near cat far i j = true := by
  unfold near
  rw [h, decide_eq_true_eq]
  unfold p_how_far
  omega
theorem line_of {cat : List Q} {xs : List Int} {far : Int} (hf : 0 ≤ far) (hlen : cat.length = xs.length) (ht : ∀ i, i < xs.length → (ev cat i).1 = ax xs i) (h1 : One cat) : Line cat xs far :=
  ⟨hlen, ht, fun i j hi hj => near_same hf (h1 i j (by omega) (by omega))⟩
def sz (zs : List Int) (i : Nat) : Int := zs.getD i 0
def ctB (xs zs : List Int) : List Q := (upto 0 xs.length).map fun k => (ax xs k.toNat, ((0, 0), ax zs k.toNat))
theorem ctB_len (xs zs : List Int) : (ctB xs zs).length = xs.length := by unfold ctB; rw [List.length_map, len_upto]
theorem ev_ctB {xs zs : List Int} {i : Nat} (h : i < xs.length) : ev (ctB xs zs) i = (ax xs i, ((0, 0), ax zs i)) := by
  unfold ev ctB
  rw [List.getD, List.getElem?_map, get_upto h]; simp
theorem head_at {n : Nat} {k : Nat → Nat → Bool} {T : Nat → Nat} (hT : Top n k T) {c : List Int} (hc : c ∈ clI n T) : ∃ t, t < n ∧ T t = t ∧ tat c 0 = some (t : Int) := by
  obtain ⟨t, ht1, ht2, rfl⟩ := mem_cl.mp hc
  obtain ⟨r, hr⟩ := grp_head hT ht1 ht2
  exact ⟨t, ht1, ht2, by rw [hr]; exact tat_n (n := 0) rfl⟩
theorem clI_small {n : Nat} {T : Nat → Nat} (hn : n < 64) : okV (okV okA) (clI n T) = true := by
  refine okV_of (by have := cl_len n T; omega) fun c hc => okV_of ?_ fun _ _ => rfl
  obtain ⟨t, _, _, rfl⟩ := mem_cl.mp hc
  rw [natI_len]
  unfold grpL
  refine Nat.le_trans (List.length_filter_le _ _) ?_
  rw [List.length_range]; omega
theorem one_right_sp {xs : List Int} {m : Int} (hs : xs.Pairwise (· ≤ ·)) (hm : 0 ≤ m) (hn : xs.length < 64) (ds : List Int) : Post (t_law_one_right ds xs m) fun r => r.1 = true := by
  unfold t_law_one_right
  refine Post.let ?_
  refine Post.eqb (lgroups_sp hn) ?_
  refine Post.bind (take_sp (by decide)) fun y4 h4 => ?_
  have hlA : (ctA xs).length = xs.length := by unfold ctA; rw [List.length_map]
  have oneA : One (ctA xs) := fun i j hi hj => by rw [ev_ctA (by omega), ev_ctA (by omega)]
  have lineA : Line (ctA xs) xs y4.1 := line_of h4.1 hlA (fun i hi => by rw [ev_ctA hi]) oneA
  have clA := cl_line lineA hs hn (m := m)
  have topA := line_top lineA hs (m := m)
  have hcl64 := cl_len xs.length (TX xs m)
  show Post (Option.bind (t_clusters_of (ctA xs) y4.1 m) _) _
  refine Post.eqb clA ?_
  rw [hlA, tsame_ok (ok := okV (okV okA)) (clI_small hn), Option.bind_some]
  refine Post.eqb (a := false) ?_ (Post.iff (by simp) ?_)
  · rw [if_neg (by simp)]
    show Option.bind (t_main_shocks (ctA xs) y4.1 m) _ = _
    rw [shocks_sp clA, Option.bind_some, tmap_eq (g := mn (ctA xs)) fun c hc => by
      rw [mn_head hs hlA (fun i hi => by rw [ev_ctA hi]) oneA (fun i j hi hj => by rw [ev_ctA (by omega), ev_ctA (by omega)]) topA (by rw [hlA]; exact hc)]; rfl]
    rw [Option.bind_some, hlA, tsame_ok (ok := okV okA) (okV_of (by rw [List.length_map]; omega) fun _ _ => rfl)]; rfl
  refine Post.eqb (gaps_sp (by omega)) (Post.iff ?_ ?_)
  · rw [gapL_len]
    simp; omega
  refine Post.iff ?_ ?_
  · rw [List.map_id']
    intro h
    rw [Bool.and_eq_true, decide_eq_true_eq] at h
    obtain ⟨h1, h2⟩ := h
    have e : xs.length = xs.length - 1 + 1 := by omega
    have := tops_len xs m (xs.length - 1)
    rw [← e] at this
    have e2 : (clI xs.length (TX xs m)).length = (tops xs.length (TX xs m)).length := by unfold clI; rw [List.length_map]
    rw [e2, this] at h2
    simp at h2
  obtain ⟨M, hM, hM1, hM2⟩ := tmax_post (xs := [0] ++ gapL xs (xs.length - 1)) (by simp)
  have hgl := gapL_len xs (xs.length - 1)
  show Post (Option.bind (t_least_minutes (ctA xs) y4.1) _) _
  refine Post.eqb (least_line lineA hs hn hM1 hM2) ?_
  rw [tcat_of (by simp; omega), Option.bind_some, hM, Option.bind_some]
  refine Post.iff (by simp) (Post.eqb (steps_sp hs hn) ?_)
  rw [tmap_eq (g := tg xs) fun c hc => by
    rw [tmap_eq (g := fun k => ax xs k.toNat) fun k hk => by
      obtain ⟨t, _, _, rfl⟩ := mem_cl.mp hc
      obtain ⟨i, hi, _, rfl⟩ := mem_grp.mp hk
      rw [ax_at hi, Option.bind_some, Int.toNat_natCast]]
    rfl]
  rw [Option.bind_some, tsame_ok (ok := okV (okV okA)) (okV_of (by rw [List.length_map]; omega) fun c hc => by
    obtain ⟨g, hg, rfl⟩ := List.mem_map.mp hc
    refine okV_of ?_ fun _ _ => rfl
    obtain ⟨t, _, _, rfl⟩ := mem_cl.mp hg
    unfold tg
    rw [List.length_map, natI_len]
    unfold grpL
    refine Nat.le_trans (List.length_filter_le _ _) ?_
    rw [List.length_range]; omega), Option.bind_some]
  refine Post.iff (by simp) ?_
  have topX : Top xs.length (lk (ctA xs) y4.1 m) (TX xs m) := by rw [← hlA]; exact topA
  refine Post.bind (thinned_sp hs hm (by omega)) fun y25 h25 => ?_
  obtain ⟨hk1, hk2, hk3⟩ := h25
  refine Post.eqb (a := false) ?_ (Post.iff (by simp) ?_)
  · rw [if_neg (by simp), tfilt_eq (q := fun _ => false) fun c hc => by
      obtain ⟨t, ht1, ht2, e⟩ := head_at topX hc
      rw [e, Option.bind_some, ax_at ht1, Option.bind_some, tin_mem.mpr (hk3 t ht1 ht2)]; rfl]
    rw [Option.bind_some, List.filter_eq_nil_iff.mpr (by simp)]; rfl
  rw [trg_of (by decide) (by omega) (by decide) (by omega), Option.bind_some]
  rw [tfilt_eq (q := fun _ => false) fun k hk => by
    obtain ⟨a, b⟩ := mem_upto.mp hk
    obtain ⟨j, rfl⟩ := Int.eq_ofNat_of_zero_le (show 0 ≤ k by omega)
    rw [ax_at (by omega), Option.bind_some, show ((j : Int) - 1) = ((j - 1 : Nat) : Int) by omega, ax_at (by omega), Option.bind_some]
    have := List.pairwise_iff_getElem.mp hk2 (j - 1) j (by omega) (by omega) (by omega)
    rw [show ax y25 j = y25[j]'(by omega) from by simp [ax, List.getD, List.getElem?_eq_getElem (show j < y25.length by omega)], show ax y25 (j - 1) = y25[j - 1]'(by omega) from by simp [ax, List.getD, List.getElem?_eq_getElem (show j - 1 < y25.length by omega)], decide_eq_false (by omega)]]
  rw [Option.bind_some, List.filter_eq_nil_iff.mpr (by simp)]
  refine Post.iff (by simp) ?_
  refine Post.go (P := fun _ => True) ?_ fun _ _ => ?_
  · refine Post.ite (fun h => ?_) fun _ => ⟨_, rfl, _, rfl, trivial⟩
    have hpos : 0 < xs.length := by simpa using h
    have hne : xs ≠ [] := List.length_pos_iff.mp hpos
    obtain ⟨mx, hmx, _, hmx2⟩ := tmax_post (xs := List.map (fun (group_41 : (List Int)) => (List.length group_41 : Int)) (clI xs.length (TX xs m))) (by
      obtain ⟨c, hc, _⟩ := count_le (m := m) hs (ax_mem hpos)
      simp only [ne_eq, List.map_eq_nil_iff]
      exact List.ne_nil_of_mem hc)
    have hmost : ∃ w, t_most_in xs (m + 1) = some (some w) ∧ w.1 ≤ mx := by
      unfold t_most_in
      rw [tlet_eq, if_neg (by simp; omega)]
      cases hx : xs with
      | nil => exact absurd hx hne
      | cons a r =>
        obtain ⟨z, hz, hzm⟩ := tmin_mem (lt := lx (fun a b : Int => decide (a < b)) (fun a b : Int => decide (a < b))) (xs := List.map (fun (time_1 : Int) => ((-((p_count_in (a :: r) time_1 ((time_1 + (m + 1)))))), time_1)) (a :: r)) (by simp)
        rw [hz, Option.bind_some]
        refine ⟨_, rfl, ?_⟩
        obtain ⟨t, ht, rfl⟩ := List.mem_map.mp hzm
        dsimp only
        rw [← hx] at ht ⊢
        obtain ⟨c, hc, hle⟩ := count_le (m := m) hs ht
        have := hmx2 _ (List.mem_map.mpr ⟨c, hc, rfl⟩)
        omega
    obtain ⟨w, hw, hwle⟩ := hmost
    rw [hw, Option.bind_some, Option.isSome_some, if_neg (by simp), Option.bind_some, hmx, Option.bind_some, Option.bind_some]
    refine Post.iff (by simp; omega) ?_
    have a0 : tat xs 0 = some (ax xs 0) := ax_at (i := 0) hpos
    have a1 : tat xs (-1) = some (ax xs (xs.length - 1)) := by
      obtain ⟨a, h1, h2, _⟩ := tat_neg (xs := xs) (i := -1) (by decide) (by omega)
      rw [h1, ← h2, show ((xs.length : Int) + -1).toNat = xs.length - 1 by omega, ax_get (by omega)]
    rw [a0, Option.bind_some, a1, Option.bind_some]
    obtain ⟨N, hN, hN1, hN2⟩ := tmax_post (xs := [0] ++ (gapL xs (xs.length - 1)).map fun g => g - 1) (by simp)
    refine Post.bind (quiet_sp hs hpos (by omega) hN1 hN2) fun y46 h46 => ?_
    refine Post.eqb (a := false) ?_ (Post.iff (by simp) ⟨_, rfl, _, rfl, trivial⟩)
    rw [if_neg (by simp), if_neg (by simp), tcat_of (by simp; omega), Option.bind_some, hN, Option.bind_some, h46]
    simp
  refine Post.bind (tmapS_post (I := fun _ => True) (P := fun _ => True) (fun x s _ => Post.bind (take_sp (by decide)) fun y _ => Post.pure ⟨trivial, trivial⟩) xs y4.2 trivial) fun l56 h56 => ?_
  have hzl : l56.1.length = xs.length := h56.1
  generalize l56.1 = zs at hzl ⊢
  rw [trg_0 (by omega), Option.bind_some, tmap_eq (g := fun k => (ax xs k.toNat, ((0, 0), ax zs k.toNat))) fun k hk => by
    obtain ⟨a, b⟩ := mem_upto.mp hk
    obtain ⟨j, rfl⟩ := Int.eq_ofNat_of_zero_le a
    rw [ax_at (by omega), Option.bind_some, ax_at (by omega), Option.bind_some, Int.toNat_natCast]]
  rw [Option.bind_some]
  show Post (Option.bind _ fun s_83 => Option.bind (t_main_shocks (ctB xs zs) y4.1 m) _) _
  have hlB := ctB_len xs zs
  have oneB : One (ctB xs zs) := fun i j hi hj => by rw [ev_ctB (by omega), ev_ctB (by omega)]
  have tB : ∀ i, i < xs.length → (ev (ctB xs zs) i).1 = ax xs i := fun i hi => by rw [ev_ctB hi]
  have lineB : Line (ctB xs zs) xs y4.1 := line_of h4.1 hlB tB oneB
  have clB := cl_line lineB hs hn (m := m)
  have topB := line_top lineB hs (m := m)
  have tmB : ∀ x ∈ upto 0 xs.length, tat xs x = some (tm (ctB xs zs) x) := fun x hx => by
    obtain ⟨a, b⟩ := mem_upto.mp hx
    obtain ⟨j, rfl⟩ := Int.eq_ofNat_of_zero_le a
    unfold tm
    rw [Int.toNat_natCast, tB j (by omega), ax_at (by omega)]
  have inU : ∀ c ∈ clI xs.length (TX xs m), ∀ x ∈ c, x ∈ upto 0 xs.length := fun c hc x hx => by
    obtain ⟨t, _, _, rfl⟩ := mem_cl.mp hc
    obtain ⟨i, hi, _, rfl⟩ := mem_grp.mp hx
    exact mem_upto.mpr (by omega)
  refine Post.bind (P := fun s : List Int × List (Int × Int) => s = ((clI xs.length (TX xs m)).map (mn (ctB xs zs)), (clI xs.length (TX xs m)).map (pr (ctB xs zs)))) ?_ fun s hs83 => ?_
  · refine tfold_post (fun pre (s : List Int × List (Int × Int)) => s = (pre.map (mn (ctB xs zs)), pre.map (pr (ctB xs zs)))) rfl ?_
    rintro pre c suf s hxs rfl
    dsimp only
    have hpl : pre.length < 64 := by
      have := congrArg List.length hxs
      simp only [List.length_append, List.length_cons] at this
      omega
    have hc : c ∈ clI xs.length (TX xs m) := by rw [hxs]; simp
    have hin : InC (ctB xs zs) c := cl_in (T := TX xs m) (by rw [hlB]; exact hc)
    obtain ⟨_, hmm, _⟩ := mn_sp hin
    have hbest := mn_best oneB hin
    rw [tmap_eq (g := fun x => (-(ev (ctB xs zs) x.toNat).2.2, (ev (ctB xs zs) x.toNat).1, x)) fun x hx => by
      obtain ⟨a, b⟩ := mem_upto.mp (inU c hc x hx)
      obtain ⟨j, rfl⟩ := Int.eq_ofNat_of_zero_le a
      rw [ax_at (by omega), Option.bind_some, ax_at (by omega), Option.bind_some, Int.toNat_natCast, ev_ctB (by omega)]]
    rw [Option.bind_some, tminG_is lin3 (m := (-(ev (ctB xs zs) (mn (ctB xs zs) c).toNat).2.2, (ev (ctB xs zs) (mn (ctB xs zs) c).toNat).1, mn (ctB xs zs) c)) (List.mem_map.mpr ⟨_, hmm, rfl⟩) fun y hy => by
      obtain ⟨x, hx, rfl⟩ := List.mem_map.mp hy
      exact hbest x hx]
    rw [Option.bind_some]
    dsimp only
    rw [tapp_ok (by rw [List.length_map]; omega), Option.bind_some]
    rw [tfilt_eq (q := fun x => decide (tm (ctB xs zs) x < tm (ctB xs zs) (mn (ctB xs zs) c))) fun x hx => by rw [tmB x (inU c hc x hx), Option.bind_some, tmB _ (inU c hc _ hmm)]; rfl]
    rw [Option.bind_some]
    rw [tfilt_eq (q := fun x => decide (tm (ctB xs zs) x > tm (ctB xs zs) (mn (ctB xs zs) c))) fun x hx => by rw [tmB x (inU c hc x hx), Option.bind_some, tmB _ (inU c hc _ hmm)]; rfl]
    rw [Option.bind_some, List.map_id', List.map_id', tapp_ok (by rw [List.length_map]; omega), Option.bind_some]
    refine Post.pure ?_
    rw [List.map_append, List.map_append]; rfl
  subst hs83
  dsimp only
  refine Post.eqb (shocks_sp clB) ?_
  rw [hlB, tsame_ok (ok := okV okA) (okV_of (by rw [List.length_map]; omega) fun _ _ => rfl), Option.bind_some]
  refine Post.eqb (a := false) ?_ (Post.iff (by simp) ?_)
  · rw [if_neg (by simp)]
    show Option.bind (t_before_and_after (ctB xs zs) y4.1 m) _ = _
    rw [baa_sp (by omega) clB, Option.bind_some, hlB, tsame_ok (ok := okV (okP okA okA)) (okV_of (by rw [List.length_map]; omega) fun _ _ => rfl)]; rfl
  show Post (Option.bind (t_thinned (ctB xs zs) y4.1 m) _) _
  refine Post.eqb (thin_sp clB) ?_
  show Post (Option.bind (tmap (fun (k_92 : Int) => Option.bind (tat (ctB xs zs) k_92) fun x_93 => some (x_93)) _) _) _
  rw [tmap_eq (g := fun x => ev (ctB xs zs) x.toNat) fun x hx => by
    obtain ⟨c, hc, rfl⟩ := List.mem_map.mp hx
    obtain ⟨_, hmm, _⟩ := mn_sp (cl_in (T := TX xs m) (cat := ctB xs zs) (by rw [hlB]; exact hc))
    obtain ⟨a, b⟩ := mem_upto.mp (inU c hc _ hmm)
    obtain ⟨j, hj⟩ := Int.eq_ofNat_of_zero_le a
    rw [hj] at b ⊢
    rw [ev_at (by omega), Int.toNat_natCast]; rfl]
  rw [Option.bind_some]
  have e : thin (ctB xs zs) (TX xs m) = tsort (lx (fun a b : Int => decide (a < b)) (lx (lx (fun a b : Int => decide (a < b)) (fun a b : Int => decide (a < b))) (fun a b : Int => decide (a < b)))) (((clI xs.length (TX xs m)).map (mn (ctB xs zs))).map fun x => ev (ctB xs zs) x.toNat) := by unfold thin; rw [hlB]
  rw [e, tsame_ok (ok := okV (okP okA (okP (okP okA okA) okA))) (okV_of (by rw [tsort_len, List.length_map, List.length_map]; omega) fun _ _ => rfl), Option.bind_some]
  exact Post.pure rfl
end LP
namespace LP
open PySem PySem.Spec PyProof.Rows L2 PF TL
theorem lin_ltV {A : Type} [DecidableEq A] {l : A → A → Bool} (h : Lin l) : Lin (ltV l) := by
  have irr : ∀ x, l x x = false := fun x => by rcases h.to x x with e | e <;> exact e
  refine ⟨?_, ?_, ?_⟩
  · intro a
    induction a with
    | nil =>
      intro b c p q
      cases c <;> cases b <;> simp_all [ltV]
    | cons x xs ih =>
      intro b c p q
      cases b with
      | nil => simp [ltV] at p
      | cons y ys =>
        cases c with
        | nil => simp [ltV] at q
        | cons z zs =>
          rw [ltV] at p q ⊢
          by_cases e1 : y = x
          · rw [if_pos e1] at p
            by_cases e2 : z = y
            · rw [if_pos e2] at q
              rw [if_pos (e2.trans e1)]
              exact ih _ _ p q
            · rw [if_neg e2] at q
              rw [if_neg fun w => e2 (w.trans e1.symm), ← e1]
              exact q
          · rw [if_neg e1] at p
            by_cases e2 : z = y
            · rw [if_neg fun w => e1 (e2.symm.trans w), e2]
              exact p
            · rw [if_neg e2] at q
              by_cases e3 : z = x
              · exfalso
                rw [e3] at q
                exact e1 (h.an _ _ p q)
              · rw [if_neg e3]
                exact h.tr _ _ _ p q
  · intro a
    induction a with
    | nil => intro b; cases b <;> simp [ltV]
    | cons x xs ih =>
      intro b
      cases b with
      | nil => simp [ltV]
      | cons y ys =>
        rw [ltV, ltV]
        by_cases e : x = y
        · rw [if_pos e, if_pos e.symm]; exact ih ys
        · rw [if_neg e, if_neg fun w => e w.symm]; exact h.to _ _
  · intro a
    induction a with
    | nil => intro b p q; cases b with
      | nil => rfl
      | cons y ys => simp [ltV] at p
    | cons x xs ih =>
      intro b p q
      cases b with
      | nil => simp [ltV] at q
      | cons y ys =>
        rw [ltV] at p q
        by_cases e : x = y
        · rw [if_pos e] at p
          rw [if_pos e.symm] at q
          rw [e, ih ys p q]
        · rw [if_neg e] at p
          rw [if_neg fun w => e w.symm] at q
          exact absurd (h.an _ _ p q) e
theorem nodup_of_flat {A : Type} : ∀ {L : List (List A)}, (∀ l ∈ L, l ≠ []) → L.flatten.Nodup → L.Nodup
  | [], _, _ => .nil
  | l :: L, h, hf => by
    rw [List.flatten_cons, List.nodup_append] at hf
    refine List.nodup_cons.mpr ⟨fun hm => ?_, nodup_of_flat (fun x hx => h x (List.mem_cons_of_mem _ hx)) hf.2.1⟩
    cases l with
    | nil => exact h [] (by simp) rfl
    | cons a l => exact hf.2.2 a (by simp) a (List.mem_flatten.mpr ⟨_, hm, by simp⟩) rfl
theorem asc_eq {xs ys : List Int} (hx : xs.Pairwise (· < ·)) (hy : ys.Pairwise (· < ·)) (h : ∀ z, z ∈ xs ↔ z ∈ ys) : xs = ys := by
  have nx : xs.Nodup := hx.imp fun {a b} (h : a < b) => by omega
  have ny : ys.Nodup := hy.imp fun {a b} (h : a < b) => by omega
  refine sort_uniq ((List.perm_ext_iff_of_nodup nx ny).mpr h) ?_ ?_
  · exact hx.imp fun {a b} (h : a < b) => by omega
  · exact hy.imp fun {a b} (h : a < b) => by omega
def ctC (xs zs : List Int) : List Q := (upto 0 xs.length).map fun k => (ax xs k.toNat, ((20 * ax zs k.toNat, 0), 1))
theorem ctC_len (xs zs : List Int) : (ctC xs zs).length = xs.length := by unfold ctC; rw [List.length_map, len_upto]
theorem ev_ctC {xs zs : List Int} {i : Nat} (h : i < xs.length) : ev (ctC xs zs) i = (ax xs i, ((20 * ax zs i, 0), 1)) := by
  unfold ev ctC
  rw [List.getD, List.getElem?_map, get_upto h]; simp
/-- the indices of a place -/
def ownN (xs zs : List Int) (p : Int) : List Nat := (List.range xs.length).filter fun i => decide (ax zs i = p)
def on (xs zs : List Int) (p : Int) (k : Nat) : Nat := (ownN xs zs p).getD k 0
section
variable {xs zs : List Int} {m : Int}
theorem own_lt (p : Int) : (ownN xs zs p).Pairwise (· < ·) := (range_lt _).sublist List.filter_sublist
theorem on_get {p : Int} {k : Nat} (h : k < (ownN xs zs p).length) : (ownN xs zs p)[k]? = some (on xs zs p k) := by simp [on, List.getD, List.getElem?_eq_getElem h]
theorem on_mem {p : Int} {k : Nat} (h : k < (ownN xs zs p).length) : on xs zs p k < xs.length ∧ ax zs (on xs zs p k) = p := by
  have := List.mem_of_getElem? (on_get h)
  unfold ownN at this
  rw [List.mem_filter, List.mem_range, decide_eq_true_eq] at this
  exact this
theorem on_ex {p : Int} {i : Nat} (h : i < xs.length) (h2 : ax zs i = p) : ∃ k, k < (ownN xs zs p).length ∧ on xs zs p k = i := by
  have : i ∈ ownN xs zs p := by unfold ownN; rw [List.mem_filter, List.mem_range, decide_eq_true_eq]; exact ⟨h, h2⟩
  obtain ⟨k, hk, e⟩ := List.mem_iff_getElem.mp this
  exact ⟨k, hk, by simp [on, List.getD, List.getElem?_eq_getElem hk, e]⟩
theorem on_lt {p : Int} {i j : Nat} (hij : i < j) (hj : j < (ownN xs zs p).length) : on xs zs p i < on xs zs p j := by
  have := List.pairwise_iff_getElem.mp (own_lt (xs := xs) (zs := zs) p) i j (by omega) hj hij
  simpa [on, List.getD, List.getElem?_eq_getElem hj, List.getElem?_eq_getElem (show i < (ownN xs zs p).length by omega)] using this
theorem on_inj {p : Int} {i j : Nat} (hi : i < (ownN xs zs p).length) (hj : j < (ownN xs zs p).length) (h : on xs zs p i = on xs zs p j) : i = j := by
  rcases Nat.lt_trichotomy i j with q | q | q
  · have := on_lt q hj; omega
  · exact q
  · have := on_lt q hi; omega
/-- the times of a place -/
def ysO (xs zs : List Int) (p : Int) : List Int := (ownN xs zs p).map (ax xs)
theorem ys_len (p : Int) : (ysO xs zs p).length = (ownN xs zs p).length := by unfold ysO; rw [List.length_map]
theorem ys_at {p : Int} {k : Nat} (h : k < (ownN xs zs p).length) : ax (ysO xs zs p) k = ax xs (on xs zs p k) := by
  unfold ax ysO
  rw [List.getD, List.getElem?_map, on_get h]; rfl
theorem ys_le (hs : xs.Pairwise (· ≤ ·)) (p : Int) : (ysO xs zs p).Pairwise (· ≤ ·) := by
  unfold ysO
  rw [List.pairwise_map]
  refine List.Pairwise.imp_of_mem ?_ (own_lt (xs := xs) (zs := zs) p)
  intro a b _ hb hab
  refine ax_le hs (Nat.le_of_lt hab) ?_
  unfold ownN at hb
  rw [List.mem_filter, List.mem_range] at hb
  exact hb.1
theorem lk_C {i j : Nat} (hi : i < xs.length) (hj : j < xs.length) (h01 : ∀ i, i < xs.length → 0 ≤ ax zs i ∧ ax zs i < 2) : lk (ctC xs zs) 19 m i j = true ↔ i ≠ j ∧ ax zs i = ax zs j ∧ ((ax xs i - ax xs j).natAbs : Int) ≤ m := by
  rw [lk_iff]
  unfold near dif p_how_far
  rw [ev_ctC hi, ev_ctC hj, decide_eq_true_eq]
  dsimp only
  have a := h01 i hi
  have b := h01 j hj
  constructor
  · rintro ⟨c1, c2, c3⟩
    exact ⟨c1, by omega, c3⟩
  · rintro ⟨c1, c2, c3⟩
    exact ⟨c1, by omega, c3⟩
abbrev TP (xs zs : List Int) (m p : Int) : Nat → Nat := TX (ysO xs zs p) m
theorem TP_cn (hs : xs.Pairwise (· ≤ ·)) (h01 : ∀ i, i < xs.length → 0 ≤ ax zs i ∧ ax zs i < 2) {p : Int} {a : Nat} (ha : a < (ownN xs zs p).length) : Cn xs.length (lk (ctC xs zs) 19 m) (on xs zs p (TP xs zs m p a)) (on xs zs p a) := by
  have h1 : Cn (ownN xs zs p).length (fun i j => lk (ctC xs zs) 19 m (on xs zs p i) (on xs zs p j)) (TP xs zs m p a) a := by
    refine TT_cn (fun k hk hok => ?_) a ha
    have b1 := on_mem (xs := xs) (zs := zs) (p := p) (k := k) (by omega)
    have b2 := on_mem (xs := xs) (zs := zs) (p := p) (k := k + 1) hk
    have b3 := on_lt (xs := xs) (zs := zs) (p := p) (show k < k + 1 by omega) hk
    refine (lk_C b1.1 b2.1 h01).mpr ⟨by omega, by rw [b1.2, b2.2], ?_⟩
    unfold okx at hok
    rw [decide_eq_true_eq, Nat.add_sub_cancel, ys_at hk, ys_at (by omega)] at hok
    have := ax_le hs (Nat.le_of_lt b3) b2.1
    omega
  generalize TP xs zs m p a = t at h1 ⊢
  induction h1 with
  | refl => exact .refl _
  | step _ h2 h3 h4 ih => exact (ih h2).step (on_mem h2).1 (on_mem h3).1 h4
theorem cn_TP (hs : xs.Pairwise (· ≤ ·)) (h01 : ∀ i, i < xs.length → 0 ≤ ax zs i ∧ ax zs i < 2) {p : Int} {a i : Nat} (ha : a < (ownN xs zs p).length) (h : Cn xs.length (lk (ctC xs zs) 19 m) (on xs zs p a) i) : ∃ c, c < (ownN xs zs p).length ∧ on xs zs p c = i ∧ TP xs zs m p c = TP xs zs m p a := by
  generalize hj : on xs zs p a = j at h
  induction h with
  | refl => exact ⟨a, ha, hj, rfl⟩
  | step _ h2 h3 h4 ih =>
    obtain ⟨c, c1, c2, c3⟩ := ih
    obtain ⟨l1, l2, l3⟩ := (lk_C h2 h3 h01).mp h4
    subst c2
    obtain ⟨d, d1, d2⟩ := on_ex (xs := xs) (zs := zs) (p := p) h3 (by rw [← l2, (on_mem c1).2])
    subst d2
    refine ⟨d, d1, rfl, ?_⟩
    rw [← c3]
    have hsy := ys_le (zs := zs) hs p
    rcases Nat.le_total c d with q | q
    · refine ((TT_iff q).mpr (gaps_sum hsy q (by rw [ys_len]; exact d1) ?_)).symm
      rw [ys_at d1, ys_at c1]; omega
    · refine (TT_iff q).mpr (gaps_sum hsy q (by rw [ys_len]; exact c1) ?_)
      rw [ys_at d1, ys_at c1]; omega
theorem TP_idem (p : Int) (a : Nat) : TP xs zs m p (TP xs zs m p a) = TP xs zs m p a := by
  have : ∀ (ok : Nat → Bool) (i : Nat), TT ok (TT ok i) = TT ok i := fun ok i => by
    induction i with
    | zero => rfl
    | succ k ih =>
      cases c : ok (k + 1)
      · rw [TT_no (.inr c), TT_no (.inr c)]
      · rw [TT_ok c, ih]
  exact this _ a
/-- a group of a place, in the indices of all -/
def up (xs zs : List Int) (p : Int) (g : List Int) : List Int := g.map fun k => ((on xs zs p k.toNat : Nat) : Int)
theorem up_grp (hs : xs.Pairwise (· ≤ ·)) (h01 : ∀ i, i < xs.length → 0 ≤ ax zs i ∧ ax zs i < 2) {T : Nat → Nat} (hT : Top xs.length (lk (ctC xs zs) 19 m) T) {p : Int} {t : Nat} (ht : t < (ownN xs zs p).length) (ht2 : TP xs zs m p t = t) : up xs zs p (natI (grpL (ownN xs zs p).length (TP xs zs m p) t)) = natI (grpL xs.length T (T (on xs zs p t))) := by
  refine asc_eq ?_ (natI_lt ((range_lt _).filter _)) fun z => ?_
  · unfold up natI
    rw [List.map_map, List.pairwise_map]
    refine List.Pairwise.imp_of_mem ?_ ((range_lt (ownN xs zs p).length).sublist (List.filter_sublist (p := fun i => TP xs zs m p i == t)))
    intro a b _ hb hab
    have hb := (List.mem_filter.mp hb).1
    have := on_lt (xs := xs) (zs := zs) (p := p) hab (List.mem_range.mp hb)
    simp only [Function.comp_apply, Int.toNat_natCast]
    omega
  · rw [mem_grp]
    unfold up
    rw [List.mem_map]
    constructor
    · rintro ⟨k, hk, rfl⟩
      obtain ⟨a, a1, a2, rfl⟩ := mem_grp.mp hk
      rw [Int.toNat_natCast]
      refine ⟨_, (on_mem a1).1, ?_, rfl⟩
      have := hT.of_cn (TP_cn (m := m) hs h01 a1)
      rw [a2] at this
      exact this.symm
    · rintro ⟨i, i1, i2, rfl⟩
      have hc := (hT.iff (lk_symm _ _ _) (on_mem ht).1 i1).mp i2.symm
      obtain ⟨c, c1, c2, c3⟩ := cn_TP hs h01 ht hc
      refine ⟨(c : Int), mem_grp.mpr ⟨c, c1, by rw [c3, ht2], rfl⟩, by rw [Int.toNat_natCast, c2]⟩
/-- the groups of a place -/
def part (xs zs : List Int) (m p : Int) : List (List Int) := (clI (ownN xs zs p).length (TP xs zs m p)).map (up xs zs p)
theorem mem_part (hs : xs.Pairwise (· ≤ ·)) (h01 : ∀ i, i < xs.length → 0 ≤ ax zs i ∧ ax zs i < 2) {T : Nat → Nat} (hT : Top xs.length (lk (ctC xs zs) 19 m) T) {p : Int} {c : List Int} (h : c ∈ part xs zs m p) : c ∈ clI xs.length T ∧ c ≠ [] ∧ ∀ x ∈ c, ax zs x.toNat = p := by
  unfold part at h
  obtain ⟨g, hg, rfl⟩ := List.mem_map.mp h
  obtain ⟨t, t1, t2, rfl⟩ := mem_cl.mp hg
  have hl := (on_mem (xs := xs) (zs := zs) t1).1
  refine ⟨?_, ?_, ?_⟩
  · rw [up_grp hs h01 hT t1 t2]
    exact mem_cl.mpr ⟨T (on xs zs p t), Nat.lt_of_le_of_lt (hT.le _ hl) hl, hT.idem hl, rfl⟩
  · have : (t : Int) ∈ natI (grpL (ownN xs zs p).length (TP xs zs m p) t) := mem_grp.mpr ⟨t, t1, t2, rfl⟩
    unfold up
    intro e
    rw [List.map_eq_nil_iff] at e
    rw [e] at this
    cases this
  · intro x hx
    unfold up at hx
    obtain ⟨k, hk, rfl⟩ := List.mem_map.mp hx
    obtain ⟨a, a1, _, rfl⟩ := mem_grp.mp hk
    rw [Int.toNat_natCast, Int.toNat_natCast]
    exact (on_mem a1).2
theorem part_mem (hs : xs.Pairwise (· ≤ ·)) (h01 : ∀ i, i < xs.length → 0 ≤ ax zs i ∧ ax zs i < 2) {T : Nat → Nat} (hT : Top xs.length (lk (ctC xs zs) 19 m) T) {c : List Int} (h : c ∈ clI xs.length T) : c ∈ part xs zs m 0 ++ part xs zs m 1 := by
  obtain ⟨t, t1, t2, rfl⟩ := mem_cl.mp h
  have key : ∀ p, ax zs t = p → natI (grpL xs.length T t) ∈ part xs zs m p := by
    intro p hp
    obtain ⟨a, a1, a2⟩ := on_ex (xs := xs) (zs := zs) (p := p) t1 hp
    have a3 : TP xs zs m p a ≤ a := TT_le _ a
    have e := up_grp hs h01 hT (p := p) (t := TP xs zs m p a) (by omega) (TP_idem p a)
    have e2 := hT.of_cn (TP_cn (m := m) hs h01 a1)
    rw [a2, t2] at e2
    rw [e2] at e
    rw [← e]
    unfold part
    exact List.mem_map.mpr ⟨_, mem_cl.mpr ⟨_, by omega, TP_idem p a, rfl⟩, rfl⟩
  have := h01 t t1
  rcases (show ax zs t = 0 ∨ ax zs t = 1 by omega) with q | q
  · exact List.mem_append_left _ (key 0 q)
  · exact List.mem_append_right _ (key 1 q)
theorem part_nodup (p : Int) : (part xs zs m p).flatten.Nodup := by
  unfold part
  have e : ((clI (ownN xs zs p).length (TP xs zs m p)).map (up xs zs p)).flatten = (clI (ownN xs zs p).length (TP xs zs m p)).flatten.map fun k => ((on xs zs p k.toNat : Nat) : Int) := by
    rw [List.map_flatten]; rfl
  rw [e]
  unfold List.Nodup
  rw [List.pairwise_map]
  refine List.Pairwise.imp_of_mem ?_ (flat_nodup (ownN xs zs p).length (TP xs zs m p))
  intro a b ha hb hab e
  have hin : ∀ x ∈ (clI (ownN xs zs p).length (TP xs zs m p)).flatten, ∃ i : Nat, i < (ownN xs zs p).length ∧ x = i := by
    intro x hx
    obtain ⟨c, hc, hx⟩ := List.mem_flatten.mp hx
    obtain ⟨t, _, _, rfl⟩ := mem_cl.mp hc
    obtain ⟨i, i1, _, i2⟩ := mem_grp.mp hx
    exact ⟨i, i1, i2⟩
  obtain ⟨i, i1, rfl⟩ := hin a ha
  obtain ⟨j, j1, rfl⟩ := hin b hb
  rw [Int.toNat_natCast, Int.toNat_natCast] at e
  exact hab (by rw [on_inj i1 j1 (by omega)])
theorem parts_perm (hs : xs.Pairwise (· ≤ ·)) (h01 : ∀ i, i < xs.length → 0 ≤ ax zs i ∧ ax zs i < 2) {T : Nat → Nat} (hT : Top xs.length (lk (ctC xs zs) 19 m) T) : (part xs zs m 0 ++ part xs zs m 1).Perm (clI xs.length T) := by
  have ne : ∀ l ∈ part xs zs m 0 ++ part xs zs m 1, l ≠ [] := fun l hl => by
    rcases List.mem_append.mp hl with q | q
    · exact (mem_part hs h01 hT q).2.1
    · exact (mem_part hs h01 hT q).2.1
  refine (List.perm_ext_iff_of_nodup (nodup_of_flat ne ?_) (nodup_of_flat ?_ (flat_nodup xs.length T))).mpr fun c => ⟨fun h => ?_, part_mem hs h01 hT⟩
  · rw [List.flatten_append, List.nodup_append]
    refine ⟨part_nodup 0, part_nodup 1, fun a ha b hb e => ?_⟩
    subst e
    obtain ⟨c, hc, hx⟩ := List.mem_flatten.mp ha
    obtain ⟨d, hd, hy⟩ := List.mem_flatten.mp hb
    have h0 := (mem_part hs h01 hT hc).2.2 a hx
    have h1 := (mem_part hs h01 hT hd).2.2 a hy
    omega
  · intro l hl
    obtain ⟨t, t1, t2, rfl⟩ := mem_cl.mp hl
    have : (t : Int) ∈ natI (grpL xs.length T t) := mem_grp.mpr ⟨t, t1, t2, rfl⟩
    exact List.ne_nil_of_mem this
  · rcases List.mem_append.mp h with q | q
    · exact (mem_part hs h01 hT q).1
    · exact (mem_part hs h01 hT q).1
end
theorem tfold_app {f : List Int → List (List Int) → Option (List (List Int))} {g : List Int → List Int} : ∀ (xs : List (List Int)) (acc : List (List Int)), (∀ x ∈ xs, ∀ s : List (List Int), s.length < 1000 → f x s = some (s ++ [g x])) → acc.length + xs.length ≤ 1000 → tfold f xs acc = some (acc ++ xs.map g)
  | [], acc, _, _ => by simp [tfold]
  | x :: xs, acc, h, hl => by
    rw [List.length_cons] at hl
    rw [tfold, h x (by simp) acc (by omega), Option.bind_some, tfold_app xs _ (fun y hy => h y (List.mem_cons_of_mem _ hy)) (by simp; omega), List.map_cons, List.append_assoc]; rfl
theorem two_right_sp {xs : List Int} {m : Int} (hs : xs.Pairwise (· ≤ ·)) (hn : xs.length < 64) (ds : List Int) : Post (t_law_two_right ds xs m) fun r => r.1 = true := by
  unfold t_law_two_right
  refine Post.bind (tmapS_post (I := fun _ => True) (P := fun z => 0 ≤ z ∧ z < 2) (fun x s _ => Post.bind (take_sp (by decide)) fun y hy => Post.pure ⟨hy, trivial⟩) xs ds trivial) fun l5 h5 => ?_
  have hzl : l5.1.length = xs.length := h5.1
  have hz := h5.2.1
  generalize l5.1 = zs at hzl hz ⊢
  have h01 : ∀ i, i < xs.length → 0 ≤ ax zs i ∧ ax zs i < 2 := fun i hi => hz _ (ax_mem (by omega))
  rw [trg_0 (by omega), Option.bind_some, tmap_eq (g := fun k => (ax xs k.toNat, ((20 * ax zs k.toNat, 0), 1))) fun k hk => by
    obtain ⟨a, b⟩ := mem_upto.mp hk
    obtain ⟨j, rfl⟩ := Int.eq_ofNat_of_zero_le a
    rw [ax_at (by omega), Option.bind_some, ax_at (by omega), Option.bind_some, Int.toNat_natCast]]
  rw [Option.bind_some]
  have hown : ∀ p, (ownN xs zs p).length ≤ xs.length := fun p => by
    unfold ownN
    refine Nat.le_trans (List.length_filter_le _ _) ?_
    rw [List.length_range]; exact Nat.le_refl _
  have hpl : ∀ p, (part xs zs m p).length ≤ 64 := fun p => by
    unfold part
    rw [List.length_map]
    have := cl_len (ownN xs zs p).length (TP xs zs m p)
    have := hown p
    omega
  have hstep : ∀ (p : Int) (s : List (List Int)), s.length ≤ 64 → (Option.bind (some (upto 0 xs.length)) fun r_18 => Option.bind (tfilt (fun (k_19 : Int) => Option.bind (tat zs k_19) fun x_20 => some ((decide (x_20 = p)))) r_18) fun z_21 => tlet ((List.map (fun (k_19 : Int) => k_19) z_21)) fun own_22 => Option.bind (tmap (fun (k_23 : Int) => Option.bind (tat xs k_23) fun x_24 => some (x_24)) own_22) fun l_25 => Option.bind (t_law_groups_1 l_25 m) fun y_26 => Option.bind (α := (List (List Int))) (tfold (fun (group_29 : (List Int)) (s_27 : (List (List Int))) => Option.bind (tmap (fun (k_30 : Int) => Option.bind (tat own_22 k_30) fun x_31 => some (x_31)) group_29) fun l_32 => Option.bind (tapp s_27 l_32) fun due_33 => some due_33) y_26 s) fun s_34 => some s_34) = some (s ++ part xs zs m p) := by
    intro p s hsl
    rw [Option.bind_some, tfilt_eq (q := fun k => decide (ax zs k.toNat = p)) fun k hk => by
      obtain ⟨a, b⟩ := mem_upto.mp hk
      obtain ⟨j, rfl⟩ := Int.eq_ofNat_of_zero_le a
      rw [ax_at (by omega), Option.bind_some, Int.toNat_natCast]]
    rw [Option.bind_some, tlet_eq, List.map_id']
    have eo : (upto 0 xs.length).filter (fun k => decide (ax zs k.toNat = p)) = natI (ownN xs zs p) := by
      rw [natI_range, natI_filter]; rfl
    rw [eo, tmap_eq (g := fun k => ax xs k.toNat) fun k hk => by
      unfold natI at hk
      obtain ⟨i, hi, rfl⟩ := List.mem_map.mp hk
      unfold ownN at hi
      rw [List.mem_filter, List.mem_range] at hi
      rw [ax_at hi.1, Option.bind_some, Int.toNat_natCast]]
    have ey : (natI (ownN xs zs p)).map (fun k => ax xs k.toNat) = ysO xs zs p := by
      unfold natI ysO
      rw [List.map_map]
      exact List.map_congr_left fun i _ => by simp
    rw [ey, Option.bind_some]
    have := hown p
    rw [show t_law_groups_1 (ysO xs zs p) m = _ from lgroups_sp (xs := ysO xs zs p) (m := m) (by rw [ys_len]; omega), Option.bind_some, ys_len]
    rw [tfold_app (g := up xs zs p) _ _ (fun g hg s hsl => ?_) ?_]
    · rfl
    · have := cl_len (ownN xs zs p).length (TX (ysO xs zs p) m)
      omega
    · rw [tmap_eq (g := fun k => ((on xs zs p k.toNat : Nat) : Int)) fun k hk => by
        obtain ⟨t, _, _, rfl⟩ := mem_cl.mp hg
        obtain ⟨i, hi, _, rfl⟩ := mem_grp.mp hk
        rw [tat_n (n := i) (a := ((on xs zs p i : Nat) : Int)) (by unfold natI; rw [List.getElem?_map, on_get hi]; rfl), Option.bind_some, Int.toNat_natCast]]
      rw [Option.bind_some, tapp_ok (by omega)]; rfl
  refine Post.bind (P := fun s => s = part xs zs m 0 ++ part xs zs m 1) ?_ fun s hs36 => ?_
  · show Post (tfold _ [0, 1] []) _
    rw [tfold, hstep 0 [] (by simp), Option.bind_some, tfold, hstep 1 _ (by simpa using hpl 0), Option.bind_some, tfold]
    exact Post.pure rfl
  subst hs36
  have hlC := ctC_len xs zs
  obtain ⟨T, hT, e⟩ := clusters_sp (cat := ctC xs zs) 19 m (by omega)
  rw [hlC] at hT e
  show Post (Option.bind (t_clusters_of (ctC xs zs) 19 m) _) _
  refine Post.eqb e ?_
  have hpm := parts_perm hs h01 hT
  have hso : tsortN (ltV (fun a b : Int => decide (a < b))) (part xs zs m 0 ++ part xs zs m 1) = some (clI xs.length T) := by
    unfold tsortN
    rw [if_pos]
    · rw [tsort_eq (lin_ltV lin_int) hpm, cl_sorted hT]
    · rw [List.all_eq_true]
      intro c hc
      have : c ≠ [] := by
        rcases List.mem_append.mp hc with q | q
        · exact (mem_part hs h01 hT q).2.1
        · exact (mem_part hs h01 hT q).2.1
      cases c with
      | nil => exact absurd rfl this
      | cons a r => rfl
  rw [hso, Option.bind_some, tsame_ok (ok := okV (okV okA)) (clI_small hn), Option.bind_some]
  refine Post.iff (by simp) ?_
  have lineC : Line (ctC xs zs) xs 20 := ⟨hlC, fun i hi => by rw [ev_ctC hi], fun i j hi hj => by
    unfold near p_how_far
    rw [ev_ctC hi, ev_ctC hj, decide_eq_true_eq]
    have a := h01 i hi
    have b := h01 j hj
    dsimp only
    omega⟩
  show Post (Option.bind (t_clusters_of (ctC xs zs) 20 m) _) _
  refine Post.eqb (cl_line lineC hs hn) (Post.eqb (lgroups_sp hn) ?_)
  rw [hlC, tsame_ok (ok := okV (okV okA)) (clI_small hn), Option.bind_some]
  exact Post.pure rfl
end LP
namespace LP
open PySem PySem.Spec PyProof.Rows L2 PF TL
theorem size_sp (ds ns : List Int) : Post (t_law_size ds ns) fun _ => True := by
  unfold t_law_size
  refine Post.bind (take_sp (by decide)) fun y1 h1 => Post.bind (take_sp (by decide)) fun y2 h2 => ?_
  refine Post.bind (P := fun _ => True) ?_ fun s3 _ => ?_
  · refine Post.ite (fun _ => ?_) fun _ => Post.pure trivial
    exact Post.bind (take_sp (by decide)) fun y4 h4 => Post.let (Post.pure trivial)
  refine Post.bind (P := fun _ => True) ?_ fun s6 _ => ?_
  · refine Post.ite (fun h => ?_) fun _ => Post.pure trivial
    rw [Bool.and_eq_true, decide_eq_true_eq, decide_eq_true_eq] at h
    refine Post.bind (take_sp h.2) fun y7 h7 => ?_
    obtain ⟨x, hx, _, _⟩ := tat_in h7.1 h7.2
    rw [hx, Option.bind_some]
    exact Post.let (Post.pure trivial)
  refine Post.bind (P := fun _ => True) ?_ fun s10 _ => Post.pure trivial
  refine Post.ite (fun _ => ?_) fun _ => Post.pure trivial
  exact Post.bind (take_sp (by decide)) fun y4 h4 => Post.let (Post.pure trivial)
theorem times_sp (ds ns : List Int) {many : Int} (h0 : 0 ≤ many) (h1 : many < 64) (g : Bool) : Post (t_law_times ds ns many g) fun r => (r.1.length : Int) = many ∧ r.1.Pairwise (· ≤ ·) := by
  unfold t_law_times
  refine Post.bind (take_sp (by decide)) fun y1 hy1 => Post.let ?_
  rw [trg_of (by decide) (by omega) (by decide) (by omega), Option.bind_some]
  refine Post.bind (P := fun s : Int × List Int × List Int => (s.2.2.length : Int) = many ∧ s.2.2.Pairwise (· ≤ ·)) ?_ fun s hs => Post.pure hs
  refine Post.imp (tfold_post (fun pre (s : Int × List Int × List Int) => s.2.2.length = pre.length ∧ s.2.2.Pairwise (· ≤ ·) ∧ ∀ x ∈ s.2.2, x ≤ s.1) (s := (y1.1 - 20, y1.2, ([] : List Int))) ⟨rfl, .nil, by simp⟩ ?_) fun s hs => ⟨by rw [hs.1, len_upto]; omega, hs.2.1⟩
  rintro pre k suf ⟨at_, d, fs⟩ hxs ⟨i1, i2, i3⟩
  dsimp only at i1 i2 i3 ⊢
  have hpl : pre.length < 64 := by
    have := congrArg List.length hxs
    simp only [len_upto, List.length_append, List.length_cons] at this
    omega
  refine Post.bind (take_sp (by decide)) fun y7 h7 => Post.bind (take_sp (by decide)) fun y8 h8 => Post.bind (take_sp (by decide)) fun y9 h9 => ?_
  obtain ⟨x, hx, _, hxm⟩ := tat_in (xs := [(0 : Int), y7.1, y8.1]) h9.1 (by simpa using h9.2)
  have hx0 : 0 ≤ x := by
    simp only [List.mem_cons, List.not_mem_nil, or_false] at hxm
    omega
  rw [hx, Option.bind_some]
  refine Post.bind (P := fun _ => True) ?_ fun w13 _ => ?_
  · refine Post.ite (fun _ => ?_) fun _ => Post.pure trivial
    exact Post.bind (take_sp (by decide)) fun y _ => Post.pure trivial
  refine Post.bind (size_sp _ _) fun y14 _ => ?_
  have hv := fmod_pos (a := y14.1) (b := (10 : Int) ^ 26) (by decide)
  rw [tmul_l (by split <;> decide), Option.bind_some]
  refine Post.let ?_
  have hp : 0 ≤ (if w13.1 = true then (1 : Int) else 0) * y14.1.fmod (10 ^ 26) := Int.mul_nonneg (by split <;> decide) hv.1
  rw [tapp_ok (by omega), Option.bind_some]
  refine Post.pure ⟨by simp [i1], ?_, ?_⟩
  · refine List.pairwise_append.mpr ⟨i2, by simp, fun a ha b hb => ?_⟩
    obtain rfl := List.mem_singleton.mp hb
    have := i3 a ha
    omega
  · intro z hz
    dsimp only
    rcases List.mem_append.mp hz with q | q
    · have := i3 z q
      omega
    · obtain rfl := List.mem_singleton.mp q
      exact Int.le_refl _
abbrev RW0 : List Q := [(1, ((0, 0), 2)), (3, ((0, 0), 2)), (3, ((0, 0), 2)), (8, ((0, 0), 2)), (9, ((0, 0), 2))]
theorem ev0 : ∀ i, i < 5 → (ev RW0 i).2.1 = (0, 0) := by
  intro i hi
  match i, hi with
  | 0, _ => rfl
  | 1, _ => rfl
  | 2, _ => rfl
  | 3, _ => rfl
  | 4, _ => rfl
theorem line0 : Line RW0 [1, 3, 3, 8, 9] 0 := by
  refine line_of (by decide) rfl ?_ ?_
  · intro i hi
    match i, hi with
    | 0, _ => rfl
    | 1, _ => rfl
    | 2, _ => rfl
    | 3, _ => rfl
    | 4, _ => rfl
  · intro i j hi hj
    rw [ev0 i hi, ev0 j hj]
theorem fixB : t_thinned_times [1, 3, 3, 8, 9] 2 = some [1, 8] := by decide +kernel
theorem fixA : t_clusters_of RW0 0 2 = some [[0, 1, 2], [3, 4]] := by
  rw [cl_line line0 (by decide) (by decide)]
  decide +kernel
theorem law_t (ns : List Int) (hn : ns.length ≤ 63) : t_law ns = some true := by
  suffices h : Post (t_law ns) (fun r => r = true) by
    obtain ⟨r, e, rfl⟩ := h
    exact e
  unfold t_law
  refine Post.bind (draws_sp ns (by decide) (by decide) (by omega)) fun y1 _ => ?_
  refine Post.go (P := fun _ => True) (tforr_go (fun _ => True) trivial fun k hk s _ => ?_) fun s32 _ => ?_
  · obtain ⟨k0, k1⟩ := mem_upto.mp hk
    obtain ⟨x, hx, _, hxm⟩ := tat_in (xs := [(6 : Int), 26, 14]) k0 (by simpa using k1)
    have hxb : 1 ≤ x ∧ x ≤ 26 := by
      simp only [List.mem_cons, List.not_mem_nil, or_false] at hxm
      omega
    rw [hx, Option.bind_some]
    refine Post.bind (take_sp (by omega)) fun y9 h9 => ?_
    refine Post.bind (times_sp _ _ h9.1 (by omega) _) fun y10 h10 => ?_
    obtain ⟨hl, hs⟩ := h10
    generalize y10.1 = xs at hl hs ⊢
    rw [trg_of (by decide) (by omega) (by decide) (by omega), Option.bind_some, tmap_eq (g := fun k => ax xs k.toNat - ax xs (k.toNat - 1)) fun k hk => by
      obtain ⟨a, b⟩ := mem_upto.mp hk
      obtain ⟨j, rfl⟩ := Int.eq_ofNat_of_zero_le (show 0 ≤ k by omega)
      rw [ax_at (by omega), Option.bind_some, show ((j : Int) - 1) = ((j - 1 : Nat) : Int) by omega, ax_at (by omega), Option.bind_some, Int.toNat_natCast]]
    rw [Option.bind_some, tcat_of (by simp; omega), Option.bind_some]
    generalize hW : [0] ++ List.map (fun k : Int => ax xs k.toNat - ax xs (k.toNat - 1)) (upto 1 ((xs.length : Int) - 1).toNat) = w
    have hw0 : ∀ g ∈ w, 0 ≤ g := by
      intro g hg
      rw [← hW] at hg
      rcases List.mem_append.mp hg with q | q
      · have : g = 0 := by simpa using q
        omega
      · obtain ⟨k, hk, rfl⟩ := List.mem_map.mp q
        obtain ⟨a, b⟩ := mem_upto.mp hk
        have := ax_le hs (show k.toNat - 1 ≤ k.toNat by omega) (by omega)
        omega
    have hwne : w ≠ [] := by rw [← hW]; simp
    refine Post.bind (take_sp (by decide)) fun y17 h17 => Post.bind (take_sp (by decide)) fun y18 h18 => Post.bind (take_sp (by have := List.length_pos_iff.mpr hwne; omega)) fun y19 h19 => ?_
    obtain ⟨z, hz, _, hzm⟩ := tat_in h19.1 h19.2
    obtain ⟨mx, hmx, hmx1, _⟩ := tmax_post hwne
    rw [hz, Option.bind_some, hmx, Option.bind_some]
    refine Post.go (P := fun _ => True) (tforr_go (fun _ => True) trivial fun m hm s _ => ?_) fun _ _ => ⟨_, rfl, _, rfl, trivial⟩
    have hm0 : 0 ≤ m := by
      simp only [List.mem_cons, List.not_mem_nil, or_false] at hm
      rcases hm with rfl | rfl | rfl | rfl
      · exact h17.1
      · exact h18.1
      · exact hw0 _ hzm
      · exact hw0 _ hmx1
    refine Post.bind (one_right_sp hs hm0 (by omega) s) fun y25 h25 => ?_
    refine Post.bind (P := fun w => w.1 = false) ?_ fun w28 h28 => Post.iff (by rw [h28]; simp) (Post.pure ⟨_, rfl, trivial⟩)
    refine Post.iff (by rw [h25]; simp) (Post.bind (two_right_sp hs (by omega) y25.2) fun y26 h26 => Post.pure ?_)
    dsimp only
    rw [h26]; rfl
  refine Post.let (Post.let ?_)
  have f1 := fixA
  have f2 := fixB
  have ls : t_least_minutes RW0 0 = some (some 5) := least_line line0 (by decide) (by decide) (by decide) (by decide)
  refine Post.eqb f1 (Post.eqb (a := true) (by decide +kernel) (Post.eqb (a := false) ?_ (Post.iff (by simp) ?_)))
  · rw [if_neg (by simp)]
    refine Eq.trans (congrArg (fun z => Option.bind z _) ls) ?_
    rw [Option.bind_some, if_neg (by simp)]
    refine Eq.trans (congrArg (fun z => Option.bind z _) (congrArg (fun z => Option.bind z _) f2)) ?_
    rfl
  have st : t_steps_of [1, 3, 3, 8, 9] 1 = some [[1], [3, 3], [8, 9]] := by
    rw [steps_sp (by decide) (by decide)]
    decide +kernel
  refine Post.eqb st (Post.eqb (a := true) (by decide +kernel) ?_)
  rw [if_pos rfl]
  refine Post.bind (P := fun w => w.1 = true) ?_ fun w hw => Post.pure hw
  exact Post.bind (one_right_sp (xs := []) .nil (by decide) (by decide) s32) fun y hy => Post.pure hy
theorem law_data (ns : List Int) (hn : ns.length ≤ 63) : claw [.kst (ns.map .int)] [] = some (.bl true, []) := r_law (law_t ns hn)
end LP
namespace LP
open PySem PySem.Spec PyProof.Rows L2 PF
def topS (i : Nat) : Stmt := PySem.Challenge.pw_shocksknown_k95_whole_times_as_clusters.main.body.getD i (.Pass ⟨0, 0, 0, 0⟩)
section
variable {P : Program} {w : World} {K : PySem.W.Frag} {mg : Str → Option Value} {base : Heap}
abbrev stcount_in : Stmt := topS 1
theorem sccount_in : FnScope ["times", "begin", "end", "time"] ["times", "begin", "end"] (defScope stcount_in) := ⟨rfl, rfl, rfl, by decide +kernel, rfl, by decide +kernel, by decide +kernel⟩
theorem okcount_in {f : Addr} {fd : FuncData} (F : FunD K "count_in" "count_in" (defArgs stcount_in) (defBody stcount_in) (defScope stcount_in) [] [] f fd) (g : mg "count_in" = some (.ref f)) (B : Bn mg)  : Cal P w K mg base 1 "count_in" ccount_in 3 := by
  have nd := sccount_in.nd
  refine cal_of (ps := ["times", "begin", "end"]) g F.kp (F.bindsN fun _ _ _ _ _ _ us hl => match us, hl with | [_, _, _], _ => rfl) (fn_ok (k := 0) F sccount_in fun cdv A outer s H E hr => ?_)
  exact pfs_one (pfs_ret (pf_b call_len o_len (by rfl) B.len boot_len (pfa_cons (pf_fz (pfn_lc (own := [("time", 3)]) rfl nd (pfi_sq (pf_var 0)) (blkOk_by (own := [("time", 3)]) (N := ["times", "begin", "end", "time"]) (by with_unfolding_all rfl)) (fun _ _ _ _ _ => pfg_name (i := 3) nd rfl (by first | exact Or.inl rfl | exact Or.inr rfl)) (fun _ _ _ _ _ => pfts_one (pft_chain op_le o_cmp op_lt o_cmp (pf_var 1) (pf_var 3) (pf_var 2))) (fun _ _ _ _ _ => pf_int))) (pfa_nil))))
abbrev stmost_in : Stmt := topS 2
theorem scmost_in : FnScope ["times", "wide", "told", "time", "many"] ["times", "wide"] (defScope stmost_in) := ⟨rfl, rfl, rfl, by decide +kernel, rfl, by decide +kernel, by decide +kernel⟩
theorem okmost_in {f : Addr} {fd : FuncData} (F : FunD K "most_in" "most_in" (defArgs stmost_in) (defBody stmost_in) (defScope stmost_in) [] [] f fd) (g : mg "most_in" = some (.ref f)) (B : Bn mg) (Ccount_in : Cal P w K mg base 1 "count_in" qcount_in 3) : Cal P w K mg base 2 "most_in" cmost_in 2 := by
  have nd := scmost_in.nd
  refine cal_of (ps := ["times", "wide"]) g F.kp (F.bindsN fun _ _ _ _ _ _ us hl => match us, hl with | [_, _], _ => rfl) (fn_ok (k := 1) F scmost_in fun cdv A outer s H E hr => ?_)
  exact pfs_cons (pfs_setLcF (own := [("time", 3)]) (i := 2) rfl nd rfl rfl (sw_true rfl rfl rfl (by decide +kernel)) (pfi_sq (pf_var 0)) (blkOk_by (own := [("time", 3)]) (N := ["times", "wide", "told", "time", "many"]) (by with_unfolding_all rfl)) (fun _ _ _ _ _ => pfg_name (i := 3) nd rfl (by first | exact Or.inl rfl | exact Or.inr rfl)) (fun _ _ _ _ _ => pfts_nil) (fun _ _ _ _ _ => pf_tup (pfa_cons (pf_un un_neg o_neg (pf_callC Ccount_in (hr.mono (by decide)) (by rfl) (pfa_cons (pf_var 0) (pfa_cons (pf_var 3) (pfa_cons (pf_bin op_addA o_add (pf_var 3) (pf_var 1)) (pfa_nil)))) (len_cons (len_cons (len_cons len_nil))))) (pfa_cons (pf_var 3) (pfa_nil)))))
      (pfs_cons (pfs_if (pft_cmp (op_eqD hr.units) o_eq (pf_b call_len o_len (by rfl) B.len boot_len (pfa_cons (pf_var 2) (pfa_nil))) (pf_int) (nomark _))
      (pfs_one (pfs_ret (pf_non)))
      (pfs_nil))
      (pfs_cons (pfs_asg (vs := [4, 3]) (pf_b (cr_minDt rfl hr.units) o_min1 (by rfl) B.min boot_min (pfa_cons (pf_var 2) (pfa_nil))) (pfg_any rfl (pfgs_cons (pfg_name (i := 4) nd rfl (by first | exact Or.inl rfl | exact Or.inr rfl)) (pfgs_cons (pfg_name (i := 3) nd rfl (by first | exact Or.inl rfl | exact Or.inr rfl)) (pfgs_nil)))))
      (pfs_one (pfs_ret (pf_tup (pfa_cons (pf_un un_neg o_neg (pf_var 4)) (pfa_cons (pf_var 3) (pfa_nil))))))))
abbrev stgaps_of : Stmt := topS 3
theorem scgaps_of : FnScope ["times", "at"] ["times"] (defScope stgaps_of) := ⟨rfl, rfl, rfl, by decide +kernel, rfl, by decide +kernel, by decide +kernel⟩
theorem okgaps_of {f : Addr} {fd : FuncData} (F : FunD K "gaps_of" "gaps_of" (defArgs stgaps_of) (defBody stgaps_of) (defScope stgaps_of) [] [] f fd) (g : mg "gaps_of" = some (.ref f)) (B : Bn mg)  : Cal P w K mg base 1 "gaps_of" cgaps_of 1 := by
  have nd := scgaps_of.nd
  refine cal_of (ps := ["times"]) g F.kp (F.bindsN fun _ _ _ _ _ _ us hl => match us, hl with | [_], _ => rfl) (fn_ok (k := 0) F scgaps_of fun cdv A outer s H E hr => ?_)
  exact pfs_one (pfs_ret (pf_ty call_tuple_of o_tuple (by rfl) B.tuple boot_tuple (pfa_cons (pf_fz (pfn_lc (own := [("at", 1)]) rfl nd (pfi_rg1 (by rfl) B.range (pfa_cons (pf_bin op_sub o_sub (pf_b call_len o_len (by rfl) B.len boot_len (pfa_cons (pf_var 0) (pfa_nil))) (pf_int)) (pfa_nil))) (blkOk_by (own := [("at", 1)]) (N := ["times", "at"]) (by with_unfolding_all rfl)) (fun _ _ _ _ _ => pfg_name (i := 1) nd rfl (by first | exact Or.inl rfl | exact Or.inr rfl)) (fun _ _ _ _ _ => pfts_nil) (fun _ _ _ _ _ => pf_bin op_sub o_sub (pf_ix ix_seq o_ix (pf_var 0) (pf_bin op_addA o_add (pf_var 1) (pf_int)) (fun _ _ => rfl)) (pf_ix ix_seq o_ix (pf_var 0) (pf_var 1) (fun _ _ => rfl))))) (pfa_nil))))
abbrev stlongest_quiet : Stmt := topS 4
theorem sclongest_quiet : FnScope ["times", "begin", "end", "best", "here", "time", "own"] ["times", "begin", "end"] (defScope stlongest_quiet) := ⟨rfl, rfl, rfl, by decide +kernel, rfl, by decide +kernel, by decide +kernel⟩
theorem oklongest_quiet {f : Addr} {fd : FuncData} (F : FunD K "longest_quiet" "longest_quiet" (defArgs stlongest_quiet) (defBody stlongest_quiet) (defScope stlongest_quiet) [] [] f fd) (g : mg "longest_quiet" = some (.ref f)) (B : Bn mg)  : Cal P w K mg base 1 "longest_quiet" clongest_quiet 3 := by
  have nd := sclongest_quiet.nd
  refine cal_of (ps := ["times", "begin", "end"]) g F.kp (F.bindsN fun _ _ _ _ _ _ us hl => match us, hl with | [_, _, _], _ => rfl) (fn_ok (k := 0) F sclongest_quiet fun cdv A outer s H E hr => ?_)
  exact pfs_cons (pfs_set (i := 3) nd rfl (by first | exact Or.inl rfl | exact Or.inr rfl) (pf_tup (pfa_cons (pf_var 1) (pfa_cons (pf_var 1) (pfa_nil)))))
      (pfs_cons (pfs_set (i := 4) nd rfl (by first | exact Or.inl rfl | exact Or.inr rfl) (pf_var 1))
      (pfs_cons (pfs_for (vs := [5]) PassesOwn.never rfl (pfi_sq (pf_bin op_addA o_add (pf_fz (pfn_lc (own := [("own", 6)]) rfl nd (pfi_sq (pf_var 0)) (blkOk_by (own := [("own", 6)]) (N := ["times", "begin", "end", "best", "here", "time", "own"]) (by with_unfolding_all rfl)) (fun _ _ _ _ _ => pfg_name (i := 6) nd rfl (by first | exact Or.inl rfl | exact Or.inr rfl)) (fun _ _ _ _ _ => pfts_one (pft_chain op_le o_cmp op_lt o_cmp (pf_var 1) (pf_var 6) (pf_var 2))) (fun _ _ _ _ _ => pf_var 6))) (pf_fz (pfn_lst (pfa_cons (pf_var 2) (pfa_nil)))))) (pfg_name (i := 5) nd rfl (by first | exact Or.inl rfl | exact Or.inr rfl))
      (pfs_cons (pfs_if (pft_cmp op_gt o_cmp (pf_bin op_sub o_sub (pf_var 5) (pf_var 4)) (pf_bin op_sub o_sub (pf_ix ix_seq o_ix (pf_var 3) (pf_int) (fun _ _ => rfl)) (pf_ix ix_seq o_ix (pf_var 3) (pf_int) (fun _ _ => rfl))) (nomark _))
      (pfs_one (pfs_set (i := 3) nd rfl (by first | exact Or.inl rfl | exact Or.inr rfl) (pf_tup (pfa_cons (pf_var 4) (pfa_cons (pf_var 5) (pfa_nil))))))
      (pfs_nil))
      (pfs_one (pfs_set (i := 4) nd rfl (by first | exact Or.inl rfl | exact Or.inr rfl) (pf_b (call_max2 rfl) o_i2 (by rfl) B.max boot_max (pfa_cons (pf_var 4) (pfa_cons (pf_bin op_addA o_add (pf_var 5) (pf_int)) (pfa_nil))))))))
      (pfs_one (pfs_ret (pf_var 3)))))
abbrev stthinned_times : Stmt := topS 5
theorem scthinned_times : FnScope ["times", "dead", "found", "time"] ["times", "dead"] (defScope stthinned_times) := ⟨rfl, rfl, rfl, by decide +kernel, rfl, by decide +kernel, by decide +kernel⟩
theorem okthinned_times {f : Addr} {fd : FuncData} (F : FunD K "thinned_times" "thinned_times" (defArgs stthinned_times) (defBody stthinned_times) (defScope stthinned_times) [] [] f fd) (g : mg "thinned_times" = some (.ref f)) (B : Bn mg)  : Cal P w K mg base 1 "thinned_times" cthinned_times 2 := by
  have nd := scthinned_times.nd
  refine cal_of (ps := ["times", "dead"]) g F.kp (F.bindsN fun _ _ _ _ _ _ us hl => match us, hl with | [_, _], _ => rfl) (fn_ok (k := 0) F scthinned_times fun cdv A outer s H E hr => ?_)
  exact pfs_cons (pfs_set (i := 2) nd rfl (by first | exact Or.inl rfl | exact Or.inr rfl) (pf_tup (pfa_nil)))
      (pfs_cons (pfs_for (vs := [3]) PassesOwn.never rfl (pfi_sq (pf_var 0)) (pfg_name (i := 3) nd rfl (by first | exact Or.inl rfl | exact Or.inr rfl))
      (pfs_one (pfs_if (PW.pt (pfw_or (pft_cmp (op_eqD hr.units) o_eq (pf_b call_len o_len (by rfl) B.len boot_len (pfa_cons (pf_var 2) (pfa_nil))) (pf_int) (nomark _)) (pfw_or1 (pft_cmp op_gt o_cmp (pf_bin op_sub o_sub (pf_var 3) (pf_ix ix_seq o_ix (pf_var 2) (pf_un un_neg o_neg (pf_int)) (fun _ _ => rfl))) (pf_var 1) (nomark _)))))
      (pfs_one (pfs_aug (i := 2) nd rfl (by first | exact Or.inl rfl | exact Or.inr rfl) (pf_tup (pfa_cons (pf_var 3) (pfa_nil))) iop_addA o_iaddA))
      (pfs_nil))))
      (pfs_one (pfs_ret (pf_var 2))))
abbrev sthow_far : Stmt := topS 7
theorem schow_far : FnScope ["one", "other"] ["one", "other"] (defScope sthow_far) := ⟨rfl, rfl, rfl, by decide +kernel, rfl, by decide +kernel, by decide +kernel⟩
theorem okhow_far {f : Addr} {fd : FuncData} (F : FunD K "how_far" "how_far" (defArgs sthow_far) (defBody sthow_far) (defScope sthow_far) [] [] f fd) (g : mg "how_far" = some (.ref f)) (B : Bn mg)  : Cal P w K mg base 1 "how_far" chow_far 2 := by
  have nd := schow_far.nd
  refine cal_of (ps := ["one", "other"]) g F.kp (F.bindsN fun _ _ _ _ _ _ us hl => match us, hl with | [_, _], _ => rfl) (fn_ok (k := 0) F schow_far fun cdv A outer s H E hr => ?_)
  exact pfs_one (pfs_ret (pf_bin op_addA o_add (pf_b call_abs o_i1 (by rfl) B.abs boot_abs (pfa_cons (pf_bin op_sub o_sub (pf_ix ix_seq o_ix (pf_var 0) (pf_int) (fun _ _ => rfl)) (pf_ix ix_seq o_ix (pf_var 1) (pf_int) (fun _ _ => rfl))) (pfa_nil))) (pf_b call_abs o_i1 (by rfl) B.abs boot_abs (pfa_cons (pf_bin op_sub o_sub (pf_ix ix_seq o_ix (pf_var 0) (pf_int) (fun _ _ => rfl)) (pf_ix ix_seq o_ix (pf_var 1) (pf_int) (fun _ _ => rfl))) (pfa_nil)))))
abbrev stare_linked : Stmt := topS 9
theorem scare_linked : FnScope ["one", "other", "far", "minutes"] ["one", "other", "far", "minutes"] (defScope stare_linked) := ⟨rfl, rfl, rfl, by decide +kernel, rfl, by decide +kernel, by decide +kernel⟩
theorem okare_linked {f : Addr} {fd : FuncData} (F : FunD K "are_linked" "are_linked" (defArgs stare_linked) (defBody stare_linked) (defScope stare_linked) [] [] f fd) (g : mg "are_linked" = some (.ref f)) (B : Bn mg) (Chow_far : Cal P w K mg base 1 "how_far" qhow_far 2) : Cal P w K mg base 2 "are_linked" care_linked 4 := by
  have nd := scare_linked.nd
  refine cal_of (ps := ["one", "other", "far", "minutes"]) g F.kp (F.bindsN fun _ _ _ _ _ _ us hl => match us, hl with | [_, _, _, _], _ => rfl) (fn_ok (k := 1) F scare_linked fun cdv A outer s H E hr => ?_)
  exact pfs_one (pfs_ret (pf_and (pf_cmp op_le o_cmp (pf_callC Chow_far (hr.mono (by decide)) (by rfl) (pfa_cons (pf_ix ix_seq o_ix (pf_var 0) (pf_int) (fun _ _ => rfl)) (pfa_cons (pf_ix ix_seq o_ix (pf_var 1) (pf_int) (fun _ _ => rfl)) (pfa_nil))) (len_cons (len_cons len_nil))) (pf_var 2) (nomark _)) (pf_one (pf_cmp op_le o_cmp (pf_b call_abs o_i1 (by rfl) B.abs boot_abs (pfa_cons (pf_bin op_sub o_sub (pf_ix ix_seq o_ix (pf_var 0) (pf_int) (fun _ _ => rfl)) (pf_ix ix_seq o_ix (pf_var 1) (pf_int) (fun _ _ => rfl))) (pfa_nil))) (pf_var 3) (nomark _)))))
abbrev stput_together : Stmt := topS 10
theorem scput_together : FnScope ["tops", "one", "other", "low", "high", "top"] ["tops", "one", "other"] (defScope stput_together) := ⟨rfl, rfl, rfl, by decide +kernel, rfl, by decide +kernel, by decide +kernel⟩
theorem okput_together {f : Addr} {fd : FuncData} (F : FunD K "put_together" "put_together" (defArgs stput_together) (defBody stput_together) (defScope stput_together) [] [] f fd) (g : mg "put_together" = some (.ref f)) (B : Bn mg)  : Cal P w K mg base 1 "put_together" cput_together 3 := by
  have nd := scput_together.nd
  refine cal_of (ps := ["tops", "one", "other"]) g F.kp (F.bindsN fun _ _ _ _ _ _ us hl => match us, hl with | [_, _, _], _ => rfl) (fn_ok (k := 0) F scput_together fun cdv A outer s H E hr => ?_)
  exact pfs_cons (pfs_asg (vs := [3, 4]) (pf_tup (pfa_cons (pf_b (call_min2 rfl) o_i2 (by rfl) B.min boot_min (pfa_cons (pf_ix ix_seq o_ix (pf_var 0) (pf_var 1) (fun _ _ => rfl)) (pfa_cons (pf_ix ix_seq o_ix (pf_var 0) (pf_var 2) (fun _ _ => rfl)) (pfa_nil)))) (pfa_cons (pf_b (call_max2 rfl) o_i2 (by rfl) B.max boot_max (pfa_cons (pf_ix ix_seq o_ix (pf_var 0) (pf_var 1) (fun _ _ => rfl)) (pfa_cons (pf_ix ix_seq o_ix (pf_var 0) (pf_var 2) (fun _ _ => rfl)) (pfa_nil)))) (pfa_nil)))) (pfg_any rfl (pfgs_cons (pfg_name (i := 3) nd rfl (by first | exact Or.inl rfl | exact Or.inr rfl)) (pfgs_cons (pfg_name (i := 4) nd rfl (by first | exact Or.inl rfl | exact Or.inr rfl)) (pfgs_nil)))))
      (pfs_one (pfs_ret (pf_fz (pfn_lc (own := [("top", 5)]) rfl nd (pfi_sq (pf_var 0)) (blkOk_by (own := [("top", 5)]) (N := ["tops", "one", "other", "low", "high", "top"]) (by with_unfolding_all rfl)) (fun _ _ _ _ _ => pfg_name (i := 5) nd rfl (by first | exact Or.inl rfl | exact Or.inr rfl)) (fun _ _ _ _ _ => pfts_nil) (fun _ _ _ _ _ => pf_if (pft_cmp (op_eqD hr.units) o_eq (pf_var 5) (pf_var 4) (nomark _)) (pf_var 3) (pf_var 5))))))
abbrev stclusters_of : Stmt := topS 11
theorem scclusters_of : FnScope ["catalog", "far", "minutes", "tops", "one", "other", "top", "at"] ["catalog", "far", "minutes"] (defScope stclusters_of) := ⟨rfl, rfl, rfl, by decide +kernel, rfl, by decide +kernel, by decide +kernel⟩
theorem okclusters_of {f : Addr} {fd : FuncData} (F : FunD K "clusters_of" "clusters_of" (defArgs stclusters_of) (defBody stclusters_of) (defScope stclusters_of) [] [] f fd) (g : mg "clusters_of" = some (.ref f)) (B : Bn mg) (Care_linked : Cal P w K mg base 2 "are_linked" qare_linked 4) (Cput_together : Cal P w K mg base 1 "put_together" qput_together 3) : Cal P w K mg base 3 "clusters_of" cclusters_of 3 := by
  have nd := scclusters_of.nd
  refine cal_of (ps := ["catalog", "far", "minutes"]) g F.kp (F.bindsN fun _ _ _ _ _ _ us hl => match us, hl with | [_, _, _], _ => rfl) (fn_ok (k := 2) F scclusters_of fun cdv A outer s H E hr => ?_)
  exact pfs_cons (pfs_set (i := 3) nd rfl (by first | exact Or.inl rfl | exact Or.inr rfl) (pf_fz (pfn_listRg1 rfl (by rfl) B.list (by rfl) B.range (pfa_cons (pf_b call_len o_len (by rfl) B.len boot_len (pfa_cons (pf_var 0) (pfa_nil))) (pfa_nil)))))
      (pfs_cons (pfs_for (vs := [4]) PassesOwn.never rfl (pfi_rg1 (by rfl) B.range (pfa_cons (pf_b call_len o_len (by rfl) B.len boot_len (pfa_cons (pf_var 0) (pfa_nil))) (pfa_nil))) (pfg_name (i := 4) nd rfl (by first | exact Or.inl rfl | exact Or.inr rfl))
      (pfs_one (pfs_for (vs := [5]) PassesOwn.never rfl (pfi_rg1 (by rfl) B.range (pfa_cons (pf_var 4) (pfa_nil))) (pfg_name (i := 5) nd rfl (by first | exact Or.inl rfl | exact Or.inr rfl))
      (pfs_one (pfs_if (PW.pt (pfw_and (pft_cmp (op_neD hr.units) o_ne (pf_ix ix_seq o_ix (pf_var 3) (pf_var 4) (fun _ _ => rfl)) (pf_ix ix_seq o_ix (pf_var 3) (pf_var 5) (fun _ _ => rfl)) (nomark _)) (pfw_and1 (pft_tru (pf_callC Care_linked (hr.mono (by decide)) (by rfl) (pfa_cons (pf_ix ix_seq o_ix (pf_var 0) (pf_var 4) (fun _ _ => rfl)) (pfa_cons (pf_ix ix_seq o_ix (pf_var 0) (pf_var 5) (fun _ _ => rfl)) (pfa_cons (pf_var 1) (pfa_cons (pf_var 2) (pfa_nil))))) (len_cons (len_cons (len_cons (len_cons len_nil)))))))))
      (pfs_one (pfs_set (i := 3) nd rfl (by first | exact Or.inl rfl | exact Or.inr rfl) (pf_callC Cput_together (hr.mono (by decide)) (by rfl) (pfa_cons (pf_var 3) (pfa_cons (pf_var 4) (pfa_cons (pf_var 5) (pfa_nil)))) (len_cons (len_cons (len_cons len_nil))))))
      (pfs_nil))))))
      (pfs_one (pfs_ret (pf_ty call_tuple_of o_tuple (by rfl) B.tuple boot_tuple (pfa_cons (pf_fz (pfn_lc (own := [("top", 6)]) rfl nd (pfi_sq (pf_fz (pfn_sortU (by rfl) B.sorted (by rfl) B.set (pfa_cons (pf_var 3) (pfa_nil))))) (blkOk_by (own := [("top", 6)]) (N := ["catalog", "far", "minutes", "tops", "one", "other", "top", "at"]) (by with_unfolding_all rfl)) (fun _ _ _ _ _ => pfg_name (i := 6) nd rfl (by first | exact Or.inl rfl | exact Or.inr rfl)) (fun _ _ _ _ _ => pfts_nil) (fun _ _ _ _ _ => pf_ty call_tuple_of o_tuple (by rfl) B.tuple boot_tuple (pfa_cons (pf_fz (pfn_lc (own := [("at", 7)]) rfl nd (pfi_rg1 (by rfl) B.range (pfa_cons (pf_b call_len o_len (by rfl) B.len boot_len (pfa_cons (pf_var 3) (pfa_nil))) (pfa_nil))) (blkOk_by (own := [("at", 7)]) (N := ["catalog", "far", "minutes", "tops", "one", "other", "top", "at"]) (by with_unfolding_all rfl)) (fun _ _ _ _ _ => pfg_name (i := 7) nd rfl (by first | exact Or.inl rfl | exact Or.inr rfl)) (fun _ _ _ _ _ => pfts_one (pft_cmp (op_eqD hr.units) o_eq (pf_ix ix_seq o_ix (pf_var 3) (pf_var 7) (fun _ _ => rfl)) (pf_var 6) (nomark _))) (fun _ _ _ _ _ => pf_var 7))) (pfa_nil))))) (pfa_nil))))))
abbrev stmain_of : Stmt := topS 12
theorem scmain_of : FnScope ["catalog", "cluster", "at"] ["catalog", "cluster"] (defScope stmain_of) := ⟨rfl, rfl, rfl, by decide +kernel, rfl, by decide +kernel, by decide +kernel⟩
theorem okmain_of {f : Addr} {fd : FuncData} (F : FunD K "main_of" "main_of" (defArgs stmain_of) (defBody stmain_of) (defScope stmain_of) [] [] f fd) (g : mg "main_of" = some (.ref f)) (B : Bn mg)  : Cal P w K mg base 1 "main_of" cmain_of 2 := by
  have nd := scmain_of.nd
  refine cal_of (ps := ["catalog", "cluster"]) g F.kp (F.bindsN fun _ _ _ _ _ _ us hl => match us, hl with | [_, _], _ => rfl) (fn_ok (k := 0) F scmain_of fun cdv A outer s H E hr => ?_)
  exact pfs_one (pfs_ret (pf_ix ix_seq o_ix (pf_b (cr_minDt rfl hr.units) o_min1 (by rfl) B.min boot_min (pfa_cons (pf_fz (pfn_lc (own := [("at", 2)]) rfl nd (pfi_sq (pf_var 1)) (blkOk_by (own := [("at", 2)]) (N := ["catalog", "cluster", "at"]) (by with_unfolding_all rfl)) (fun _ _ _ _ _ => pfg_name (i := 2) nd rfl (by first | exact Or.inl rfl | exact Or.inr rfl)) (fun _ _ _ _ _ => pfts_nil) (fun _ _ _ _ _ => pf_tup (pfa_cons (pf_un un_neg o_neg (pf_ix ix_seq o_ix (pf_ix ix_seq o_ix (pf_var 0) (pf_var 2) (fun _ _ => rfl)) (pf_int) (fun _ _ => rfl))) (pfa_cons (pf_ix ix_seq o_ix (pf_ix ix_seq o_ix (pf_var 0) (pf_var 2) (fun _ _ => rfl)) (pf_int) (fun _ _ => rfl)) (pfa_cons (pf_ix ix_seq o_ix (pf_ix ix_seq o_ix (pf_var 0) (pf_var 2) (fun _ _ => rfl)) (pf_int) (fun _ _ => rfl)) (pfa_cons (pf_var 2) (pfa_nil)))))))) (pfa_nil))) (pf_int) (fun _ _ => rfl)))
abbrev stmain_shocks : Stmt := topS 13
theorem scmain_shocks : FnScope ["catalog", "far", "minutes", "cluster"] ["catalog", "far", "minutes"] (defScope stmain_shocks) := ⟨rfl, rfl, rfl, by decide +kernel, rfl, by decide +kernel, by decide +kernel⟩
theorem okmain_shocks {f : Addr} {fd : FuncData} (F : FunD K "main_shocks" "main_shocks" (defArgs stmain_shocks) (defBody stmain_shocks) (defScope stmain_shocks) [] [] f fd) (g : mg "main_shocks" = some (.ref f)) (B : Bn mg) (Cclusters_of : Cal P w K mg base 3 "clusters_of" qclusters_of 3) (Cmain_of : Cal P w K mg base 1 "main_of" qmain_of 2) : Cal P w K mg base 4 "main_shocks" cmain_shocks 3 := by
  have nd := scmain_shocks.nd
  refine cal_of (ps := ["catalog", "far", "minutes"]) g F.kp (F.bindsN fun _ _ _ _ _ _ us hl => match us, hl with | [_, _, _], _ => rfl) (fn_ok (k := 3) F scmain_shocks fun cdv A outer s H E hr => ?_)
  exact pfs_one (pfs_ret (pf_ty call_tuple_of o_tuple (by rfl) B.tuple boot_tuple (pfa_cons (pf_fz (pfn_lc (own := [("cluster", 3)]) rfl nd (pfi_sq (pf_callC Cclusters_of (hr.mono (by decide)) (by rfl) (pfa_cons (pf_var 0) (pfa_cons (pf_var 1) (pfa_cons (pf_var 2) (pfa_nil)))) (len_cons (len_cons (len_cons len_nil))))) (blkOk_by (own := [("cluster", 3)]) (N := ["catalog", "far", "minutes", "cluster"]) (by with_unfolding_all rfl)) (fun _ _ _ _ _ => pfg_name (i := 3) nd rfl (by first | exact Or.inl rfl | exact Or.inr rfl)) (fun _ _ _ _ _ => pfts_nil) (fun _ _ _ _ _ => pf_callC Cmain_of (hr.mono (by decide)) (by rfl) (pfa_cons (pf_var 0) (pfa_cons (pf_var 3) (pfa_nil))) (len_cons (len_cons len_nil))))) (pfa_nil))))
abbrev stthinned : Stmt := topS 14
theorem scthinned : FnScope ["catalog", "far", "minutes", "at"] ["catalog", "far", "minutes"] (defScope stthinned) := ⟨rfl, rfl, rfl, by decide +kernel, rfl, by decide +kernel, by decide +kernel⟩
theorem okthinned {f : Addr} {fd : FuncData} (F : FunD K "thinned" "thinned" (defArgs stthinned) (defBody stthinned) (defScope stthinned) [] [] f fd) (g : mg "thinned" = some (.ref f)) (B : Bn mg) (Cmain_shocks : Cal P w K mg base 4 "main_shocks" qmain_shocks 3) : Cal P w K mg base 5 "thinned" cthinned 3 := by
  have nd := scthinned.nd
  refine cal_of (ps := ["catalog", "far", "minutes"]) g F.kp (F.bindsN fun _ _ _ _ _ _ us hl => match us, hl with | [_, _, _], _ => rfl) (fn_ok (k := 4) F scthinned fun cdv A outer s H E hr => ?_)
  exact pfs_one (pfs_ret (pf_ty call_tuple_of o_tuple (by rfl) B.tuple boot_tuple (pfa_cons (pf_fz (pfn_b (cr_sortedA hr.units) o_sortA (by rfl) B.sorted boot_sorted (pfa_cons (pf_fz (pfn_lc (own := [("at", 3)]) rfl nd (pfi_sq (pf_callC Cmain_shocks (hr.mono (by decide)) (by rfl) (pfa_cons (pf_var 0) (pfa_cons (pf_var 1) (pfa_cons (pf_var 2) (pfa_nil)))) (len_cons (len_cons (len_cons len_nil))))) (blkOk_by (own := [("at", 3)]) (N := ["catalog", "far", "minutes", "at"]) (by with_unfolding_all rfl)) (fun _ _ _ _ _ => pfg_name (i := 3) nd rfl (by first | exact Or.inl rfl | exact Or.inr rfl)) (fun _ _ _ _ _ => pfts_nil) (fun _ _ _ _ _ => pf_ix ix_seq o_ix (pf_var 0) (pf_var 3) (fun _ _ => rfl)))) (pfa_nil)))) (pfa_nil))))
abbrev stbefore_and_after : Stmt := topS 15
theorem scbefore_and_after : FnScope ["catalog", "far", "minutes", "found", "cluster", "time", "before", "at"] ["catalog", "far", "minutes"] (defScope stbefore_and_after) := ⟨rfl, rfl, rfl, by decide +kernel, rfl, by decide +kernel, by decide +kernel⟩
theorem okbefore_and_after {f : Addr} {fd : FuncData} (F : FunD K "before_and_after" "before_and_after" (defArgs stbefore_and_after) (defBody stbefore_and_after) (defScope stbefore_and_after) [] [] f fd) (g : mg "before_and_after" = some (.ref f)) (B : Bn mg) (Cclusters_of : Cal P w K mg base 3 "clusters_of" qclusters_of 3) (Cmain_of : Cal P w K mg base 1 "main_of" qmain_of 2) : Cal P w K mg base 4 "before_and_after" cbefore_and_after 3 := by
  have nd := scbefore_and_after.nd
  refine cal_of (ps := ["catalog", "far", "minutes"]) g F.kp (F.bindsN fun _ _ _ _ _ _ us hl => match us, hl with | [_, _, _], _ => rfl) (fn_ok (k := 3) F scbefore_and_after fun cdv A outer s H E hr => ?_)
  exact pfs_cons (pfs_set (i := 3) nd rfl (by first | exact Or.inl rfl | exact Or.inr rfl) (pf_mut (pfn_lst (pfa_nil))))
      (pfs_cons (pfs_for (vs := [4]) PassesOwn.never rfl (pfi_sq (pf_callC Cclusters_of (hr.mono (by decide)) (by rfl) (pfa_cons (pf_var 0) (pfa_cons (pf_var 1) (pfa_cons (pf_var 2) (pfa_nil)))) (len_cons (len_cons (len_cons len_nil))))) (pfg_name (i := 4) nd rfl (by first | exact Or.inl rfl | exact Or.inr rfl))
      (pfs_cons (pfs_set (i := 5) nd rfl (by first | exact Or.inl rfl | exact Or.inr rfl) (pf_ix ix_seq o_ix (pf_ix ix_seq o_ix (pf_var 0) (pf_callC Cmain_of (hr.mono (by decide)) (by rfl) (pfa_cons (pf_var 0) (pfa_cons (pf_var 4) (pfa_nil))) (len_cons (len_cons len_nil))) (fun _ _ => rfl)) (pf_int) (fun _ _ => rfl)))
      (pfs_cons (pfs_set (i := 6) nd rfl (by first | exact Or.inl rfl | exact Or.inr rfl) (pf_b call_len o_len (by rfl) B.len boot_len (pfa_cons (pf_fz (pfn_lc (own := [("at", 7)]) rfl nd (pfi_sq (pf_var 4)) (blkOk_by (own := [("at", 7)]) (N := ["catalog", "far", "minutes", "found", "cluster", "time", "before", "at"]) (by with_unfolding_all rfl)) (fun _ _ _ _ _ => pfg_name (i := 7) nd rfl (by first | exact Or.inl rfl | exact Or.inr rfl)) (fun _ _ _ _ _ => pfts_one (pft_cmp op_lt o_cmp (pf_ix ix_seq o_ix (pf_ix ix_seq o_ix (pf_var 0) (pf_var 7) (fun _ _ => rfl)) (pf_int) (fun _ _ => rfl)) (pf_var 5) (nomark _))) (fun _ _ _ _ _ => pf_int))) (pfa_nil))))
      (pfs_one (pfs_expr (pf_m PySem.F.plainAttrs_list PySem.F.slot_list_append PySem.F.type_list_append mt_append o_append (pf_var 3) (pfa_cons (pf_tup (pfa_cons (pf_var 6) (pfa_cons (pf_b call_len o_len (by rfl) B.len boot_len (pfa_cons (pf_fz (pfn_lc (own := [("at", 7)]) rfl nd (pfi_sq (pf_var 4)) (blkOk_by (own := [("at", 7)]) (N := ["catalog", "far", "minutes", "found", "cluster", "time", "before", "at"]) (by with_unfolding_all rfl)) (fun _ _ _ _ _ => pfg_name (i := 7) nd rfl (by first | exact Or.inl rfl | exact Or.inr rfl)) (fun _ _ _ _ _ => pfts_one (pft_cmp op_gt o_cmp (pf_ix ix_seq o_ix (pf_ix ix_seq o_ix (pf_var 0) (pf_var 7) (fun _ _ => rfl)) (pf_int) (fun _ _ => rfl)) (pf_var 5) (nomark _))) (fun _ _ _ _ _ => pf_int))) (pfa_nil))) (pfa_nil)))) (pfa_nil))))))))
      (pfs_one (pfs_ret (pf_ty call_tuple_of o_tuple (by rfl) B.tuple boot_tuple (pfa_cons (pf_var 3) (pfa_nil))))))
abbrev stleast_minutes : Stmt := topS 16
theorem scleast_minutes : FnScope ["catalog", "far", "links", "one", "other", "tops", "last", "minutes"] ["catalog", "far"] (defScope stleast_minutes) := ⟨rfl, rfl, rfl, by decide +kernel, rfl, by decide +kernel, by decide +kernel⟩
theorem okleast_minutes {f : Addr} {fd : FuncData} (F : FunD K "least_minutes" "least_minutes" (defArgs stleast_minutes) (defBody stleast_minutes) (defScope stleast_minutes) [] [] f fd) (g : mg "least_minutes" = some (.ref f)) (B : Bn mg) (Chow_far : Cal P w K mg base 1 "how_far" qhow_far 2) (Cput_together : Cal P w K mg base 1 "put_together" qput_together 3) : Cal P w K mg base 2 "least_minutes" cleast_minutes 2 := by
  have nd := scleast_minutes.nd
  refine cal_of (ps := ["catalog", "far"]) g F.kp (F.bindsN fun _ _ _ _ _ _ us hl => match us, hl with | [_, _], _ => rfl) (fn_ok (k := 1) F scleast_minutes fun cdv A outer s H E hr => ?_)
  exact pfs_cons (pfs_set (i := 2) nd rfl (by first | exact Or.inl rfl | exact Or.inr rfl) (pf_mut (pfn_lst (pfa_nil))))
      (pfs_cons (pfs_for (vs := [3]) PassesOwn.never rfl (pfi_rg1 (by rfl) B.range (pfa_cons (pf_b call_len o_len (by rfl) B.len boot_len (pfa_cons (pf_var 0) (pfa_nil))) (pfa_nil))) (pfg_name (i := 3) nd rfl (by first | exact Or.inl rfl | exact Or.inr rfl))
      (pfs_one (pfs_for (vs := [4]) PassesOwn.never rfl (pfi_rg1 (by rfl) B.range (pfa_cons (pf_var 3) (pfa_nil))) (pfg_name (i := 4) nd rfl (by first | exact Or.inl rfl | exact Or.inr rfl))
      (pfs_one (pfs_if (pft_cmp op_le o_cmp (pf_callC Chow_far (hr.mono (by decide)) (by rfl) (pfa_cons (pf_ix ix_seq o_ix (pf_ix ix_seq o_ix (pf_var 0) (pf_var 3) (fun _ _ => rfl)) (pf_int) (fun _ _ => rfl)) (pfa_cons (pf_ix ix_seq o_ix (pf_ix ix_seq o_ix (pf_var 0) (pf_var 4) (fun _ _ => rfl)) (pf_int) (fun _ _ => rfl)) (pfa_nil))) (len_cons (len_cons len_nil))) (pf_var 1) (nomark _))
      (pfs_one (pfs_expr (pf_m PySem.F.plainAttrs_list PySem.F.slot_list_append PySem.F.type_list_append mt_append o_append (pf_var 2) (pfa_cons (pf_tup (pfa_cons (pf_b call_abs o_i1 (by rfl) B.abs boot_abs (pfa_cons (pf_bin op_sub o_sub (pf_ix ix_seq o_ix (pf_ix ix_seq o_ix (pf_var 0) (pf_var 3) (fun _ _ => rfl)) (pf_int) (fun _ _ => rfl)) (pf_ix ix_seq o_ix (pf_ix ix_seq o_ix (pf_var 0) (pf_var 4) (fun _ _ => rfl)) (pf_int) (fun _ _ => rfl))) (pfa_nil))) (pfa_cons (pf_var 3) (pfa_cons (pf_var 4) (pfa_nil))))) (pfa_nil)))))
      (pfs_nil))))))
      (pfs_cons (pfs_set (i := 5) nd rfl (by first | exact Or.inl rfl | exact Or.inr rfl) (pf_fz (pfn_listRg1 rfl (by rfl) B.list (by rfl) B.range (pfa_cons (pf_b call_len o_len (by rfl) B.len boot_len (pfa_cons (pf_var 0) (pfa_nil))) (pfa_nil)))))
      (pfs_cons (pfs_set (i := 6) nd rfl (by first | exact Or.inl rfl | exact Or.inr rfl) (pf_int))
      (pfs_cons (pfs_for (vs := [7, 3, 4]) PassesOwn.never rfl (pfi_sq (pf_fz (pfn_b (cr_sortedA hr.units) o_sortA (by rfl) B.sorted boot_sorted (pfa_cons (pf_var 2) (pfa_nil))))) (pfg_any rfl (pfgs_cons (pfg_name (i := 7) nd rfl (by first | exact Or.inl rfl | exact Or.inr rfl)) (pfgs_cons (pfg_name (i := 3) nd rfl (by first | exact Or.inl rfl | exact Or.inr rfl)) (pfgs_cons (pfg_name (i := 4) nd rfl (by first | exact Or.inl rfl | exact Or.inr rfl)) (pfgs_nil)))))
      (pfs_one (pfs_if (pft_cmp (op_neD hr.units) o_ne (pf_ix ix_seq o_ix (pf_var 5) (pf_var 3) (fun _ _ => rfl)) (pf_ix ix_seq o_ix (pf_var 5) (pf_var 4) (fun _ _ => rfl)) (nomark _))
      (pfs_cons (pfs_set (i := 5) nd rfl (by first | exact Or.inl rfl | exact Or.inr rfl) (pf_callC Cput_together (hr.mono (by decide)) (by rfl) (pfa_cons (pf_var 5) (pfa_cons (pf_var 3) (pfa_cons (pf_var 4) (pfa_nil)))) (len_cons (len_cons (len_cons len_nil)))))
      (pfs_one (pfs_set (i := 6) nd rfl (by first | exact Or.inl rfl | exact Or.inr rfl) (pf_var 7))))
      (pfs_nil))))
      (pfs_one (pfs_ret (pf_if (pft_cmp op_lt o_cmp (pf_lenU (by rfl) B.len (by rfl) B.set (pfa_cons (pf_var 5) (pfa_nil))) (pf_int) (nomark _)) (pf_var 6) (pf_non))))))))
abbrev ststeps_of : Stmt := topS 18
theorem scsteps_of : FnScope ["minutes", "wide", "found", "minute"] ["minutes", "wide"] (defScope ststeps_of) := ⟨rfl, rfl, rfl, by decide +kernel, rfl, by decide +kernel, by decide +kernel⟩
theorem oksteps_of {f : Addr} {fd : FuncData} (F : FunD K "steps_of" "steps_of" (defArgs ststeps_of) (defBody ststeps_of) (defScope ststeps_of) [] [] f fd) (g : mg "steps_of" = some (.ref f)) (B : Bn mg)  : Cal P w K mg base 1 "steps_of" csteps_of 2 := by
  have nd := scsteps_of.nd
  refine cal_of (ps := ["minutes", "wide"]) g F.kp (F.bindsN fun _ _ _ _ _ _ us hl => match us, hl with | [_, _], _ => rfl) (fn_ok (k := 0) F scsteps_of fun cdv A outer s H E hr => ?_)
  exact pfs_cons (pfs_set (i := 2) nd rfl (by first | exact Or.inl rfl | exact Or.inr rfl) (pf_mut (pfn_lst (pfa_nil))))
      (pfs_cons (pfs_for (vs := [3]) PassesOwn.never rfl (pfi_sq (pf_fz (pfn_b (cr_sortedA hr.units) o_sortA (by rfl) B.sorted boot_sorted (pfa_cons (pf_var 0) (pfa_nil))))) (pfg_name (i := 3) nd rfl (by first | exact Or.inl rfl | exact Or.inr rfl))
      (pfs_one (pfs_if (PW.pt (pfw_and (pft_cmp op_gt o_cmp (pf_b call_len o_len (by rfl) B.len boot_len (pfa_cons (pf_var 2) (pfa_nil))) (pf_int) (nomark _)) (pfw_and1 (pft_cmp op_le o_cmp (pf_bin op_sub o_sub (pf_var 3) (pf_ix ix_seq o_ix (pf_ix ix_seq o_ix (pf_var 2) (pf_un un_neg o_neg (pf_int)) (fun _ _ => rfl)) (pf_un un_neg o_neg (pf_int)) (fun _ _ => rfl))) (pf_var 1) (nomark _)))))
      (pfs_one (pfs_augIx (pf_tup (pfa_cons (pf_var 3) (pfa_nil))) (pf_var 2) (pf_un un_neg o_neg (pf_int)) iop_addA o_iaddA))
      (pfs_one (pfs_expr (pf_m PySem.F.plainAttrs_list PySem.F.slot_list_append PySem.F.type_list_append mt_append o_append (pf_var 2) (pfa_cons (pf_tup (pfa_cons (pf_var 3) (pfa_nil))) (pfa_nil))))))))
      (pfs_one (pfs_ret (pf_ty call_tuple_of o_tuple (by rfl) B.tuple boot_tuple (pfa_cons (pf_var 2) (pfa_nil))))))
abbrev st_law_draws : Stmt := topS 20
theorem sc_law_draws : FnScope ["script", "many", "cells", "cell", "rest", "draws", "k", "at", "once"] ["script", "many"] (defScope st_law_draws) := ⟨rfl, rfl, rfl, by decide +kernel, rfl, by decide +kernel, by decide +kernel⟩
theorem ok_law_draws {f : Addr} {fd : FuncData} (F : FunD K "_law_draws" "_law_draws" (defArgs st_law_draws) (defBody st_law_draws) (defScope st_law_draws) [] [] f fd) (g : mg "_law_draws" = some (.ref f)) (B : Bn mg)  : Cal P w K mg base 1 "_law_draws" c_law_draws 2 := by
  have nd := sc_law_draws.nd
  refine cal_of (ps := ["script", "many"]) g F.kp (F.bindsN fun _ _ _ _ _ _ us hl => match us, hl with | [_, _], _ => rfl) (fn_ok (k := 0) F sc_law_draws fun cdv A outer s H E hr => ?_)
  exact pfs_cons (pfs_setLcM (own := [("cell", 3)]) (i := 2) rfl nd rfl rfl (sw_true rfl rfl rfl (by decide +kernel)) (pfi_sq (pf_var 0)) (blkOk_by (own := [("cell", 3)]) (N := ["script", "many", "cells", "cell", "rest", "draws", "k", "at", "once"]) (by with_unfolding_all rfl)) (fun _ _ _ _ _ => pfg_name (i := 3) nd rfl (by first | exact Or.inl rfl | exact Or.inr rfl)) (fun _ _ _ _ _ => pfts_nil) (fun _ _ _ _ _ => pf_ty call_int1 o_int (by rfl) B.int boot_int (pfa_cons (pf_var 3) (pfa_nil))))
      (pfs_cons (pfs_if (pft_cmp (op_eqD hr.units) o_eq (pf_b call_len o_len (by rfl) B.len boot_len (pfa_cons (pf_var 2) (pfa_nil))) (pf_int) (nomark _))
      (pfs_one (pfs_expr (pf_m PySem.F.plainAttrs_list PySem.F.slot_list_append PySem.F.type_list_append mt_append o_append (pf_var 2) (pfa_cons (pf_int) (pfa_nil)))))
      (pfs_nil))
      (pfs_cons (pfs_set (i := 4) nd rfl (by first | exact Or.inl rfl | exact Or.inr rfl) (pf_mut (pfn_ty call_list_of o_list (by rfl) B.list boot_list (pfa_cons (pf_var 2) (pfa_nil)))))
      (pfs_cons (pfs_set (i := 5) nd rfl (by first | exact Or.inl rfl | exact Or.inr rfl) (pf_mut (pfn_lst (pfa_nil))))
      (pfs_cons (pfs_for (vs := [6]) PassesOwn.never rfl (pfi_rg1 (by rfl) B.range (pfa_cons (pf_var 1) (pfa_nil))) (pfg_name (i := 6) nd rfl (by first | exact Or.inl rfl | exact Or.inr rfl))
      (pfs_cons (pfs_set (i := 7) nd rfl (by first | exact Or.inl rfl | exact Or.inr rfl) (pf_bin op_modN o_mod (pf_var 6) (pf_b call_len o_len (by rfl) B.len boot_len (pfa_cons (pf_var 2) (pfa_nil)))))
      (pfs_one (pfs_if (PW.pt (pfw_and (pft_cmp op_ge o_cmp (pf_ix ix_seq o_ix (pf_var 2) (pf_var 7) (fun _ _ => rfl)) (pf_bin op_pow o_pow (pf_int) (pf_int)) (nomark _)) (pfw_and1 (pft_cmp op_gt o_cmp (pf_ix ix_seq o_ix (pf_var 4) (pf_var 7) (fun _ _ => rfl)) (pf_int) (nomark _)))))
      (pfs_cons (pfs_expr (pf_m PySem.F.plainAttrs_list PySem.F.slot_list_append PySem.F.type_list_append mt_append o_append (pf_var 5) (pfa_cons (pf_bin op_modN o_mod (pf_ty call_int1 o_int (by rfl) B.int boot_int (pfa_cons (pf_ix ix_seq o_ix (pf_var 4) (pf_var 7) (fun _ _ => rfl)) (pfa_nil))) (pf_int)) (pfa_nil))))
      (pfs_one (pfs_setIx (pf_bin op_fdivA o_fdiv (pf_ix ix_seq o_ix (pf_var 4) (pf_var 7) (fun _ _ => rfl)) (pf_int)) (pf_var 4) (pf_var 7))))
      (pfs_cons (pfs_set (i := 8) nd rfl (by first | exact Or.inl rfl | exact Or.inr rfl) (pf_bin op_modN o_mod (pf_ty call_int1 o_int (by rfl) B.int boot_int (pfa_cons (pf_bin op_addA o_add (pf_bin op_addA o_add (pf_bin op_mulA o_mul (pf_ix ix_seq o_ix (pf_var 2) (pf_var 7) (fun _ _ => rfl)) (pf_int)) (pf_bin op_mulA o_mul (pf_var 6) (pf_int))) (pf_int)) (pfa_nil))) (pf_int)))
      (pfs_one (pfs_expr (pf_m PySem.F.plainAttrs_list PySem.F.slot_list_append PySem.F.type_list_append mt_append o_append (pf_var 5) (pfa_cons (pf_bin op_modN o_mod (pf_ty call_int1 o_int (by rfl) B.int boot_int (pfa_cons (pf_bin op_addA o_add (pf_bin op_addA o_add (pf_bin op_mulA o_mul (pf_var 8) (pf_var 8)) (pf_bin op_mulA o_mul (pf_int) (pf_var 8))) (pf_var 6)) (pfa_nil))) (pf_int)) (pfa_nil))))))))))
      (pfs_cons (pfs_expr (pf_m0 PySem.F.plainAttrs_list PySem.F.slot_list_reverse PySem.F.type_list_reverse mt_reverse o_reverse (pf_var 5)))
      (pfs_one (pfs_ret (pf_var 5))))))))
abbrev st_law_take : Stmt := topS 21
theorem sc_law_take : FnScope ["draws", "many"] ["draws", "many"] (defScope st_law_take) := ⟨rfl, rfl, rfl, by decide +kernel, rfl, by decide +kernel, by decide +kernel⟩
theorem ok_law_take {f : Addr} {fd : FuncData} (F : FunD K "_law_take" "_law_take" (defArgs st_law_take) (defBody st_law_take) (defScope st_law_take) [] [] f fd) (g : mg "_law_take" = some (.ref f)) (B : Bn mg)  : Cal P w K mg base 1 "_law_take" c_law_take 2 := by
  have nd := sc_law_take.nd
  refine cal_of (ps := ["draws", "many"]) g F.kp (F.bindsN fun _ _ _ _ _ _ us hl => match us, hl with | [_, _], _ => rfl) (fn_ok (k := 0) F sc_law_take fun cdv A outer s H E hr => ?_)
  exact pfs_cons (pfs_if (pft_cmp (op_eqD hr.units) o_eq (pf_b call_len o_len (by rfl) B.len boot_len (pfa_cons (pf_var 0) (pfa_nil))) (pf_int) (nomark _))
      (pfs_one (pfs_ret (pf_int)))
      (pfs_nil))
      (pfs_one (pfs_ret (pf_bin op_modN o_mod (pf_ty call_int1 o_int (by rfl) B.int boot_int (pfa_cons (pf_m0 PySem.F.plainAttrs_list PySem.F.slot_list_pop PySem.F.type_list_pop mt_pop o_pop (pf_var 0)) (pfa_nil))) (pf_var 1))))
abbrev st_law_same : Stmt := topS 22
theorem sc_law_same : FnScope ["actual", "due", "k"] ["actual", "due"] (defScope st_law_same) := ⟨rfl, rfl, rfl, by decide +kernel, rfl, by decide +kernel, by decide +kernel⟩
theorem ok_law_same {f : Addr} {fd : FuncData} (F : FunD K "_law_same" "_law_same" (defArgs st_law_same) (defBody st_law_same) (defScope st_law_same) [] [] f fd) (g : mg "_law_same" = some (.ref f)) (B : Bn mg)  : ∀ n, Cal P w K mg base (1 + n) "_law_same" (c_law_same n) 2 := by
  have nd := sc_law_same.nd
  intro n
  induction n with
  | zero => exact cal_none (ps := ["actual", "due"]) g F.kp (F.bindsN fun _ _ _ _ _ _ us hl => match us, hl with | [_, _], _ => rfl) F (fun _ _ => rfl)
  | succ n ih =>
    refine cal_of (ps := ["actual", "due"]) g F.kp (F.bindsN fun _ _ _ _ _ _ us hl => match us, hl with | [_, _], _ => rfl) (fn_ok (k := 1 + n) F sc_law_same fun cdv A outer s H E hr => ?_)
    exact pfs_cons (pfs_if (pft_tru (pf_isi .bl (by decide) (by rfl) B.isinstance (pf_var 1) (by rfl) B.bool boot_bool))
      (pfs_one (pfs_ret (pf_and (pf_isi .bl (by decide) (by rfl) B.isinstance (pf_var 0) (by rfl) B.bool boot_bool) (pf_one (pf_cmp (op_eqD hr.units) o_eq (pf_var 0) (pf_var 1) (nomark _))))))
      (pfs_nil))
      (pfs_cons (pfs_if (pft_tru (pf_isi .int (by decide) (by rfl) B.isinstance (pf_var 1) (by rfl) B.int boot_int))
      (pfs_one (pfs_ret (pf_and (pf_isi .int (by decide) (by rfl) B.isinstance (pf_var 0) (by rfl) B.int boot_int) (pf_and (pf_not (pf_isi .bl (by decide) (by rfl) B.isinstance (pf_var 0) (by rfl) B.bool boot_bool)) (pf_one (pf_cmp (op_eqD hr.units) o_eq (pf_var 0) (pf_var 1) (nomark _)))))))
      (pfs_nil))
      (pfs_cons (pfs_if (pft_tru (pf_isi .str (by decide) (by rfl) B.isinstance (pf_var 1) (by rfl) B.str boot_str))
      (pfs_one (pfs_ret (pf_and (pf_isi .str (by decide) (by rfl) B.isinstance (pf_var 0) (by rfl) B.str boot_str) (pf_one (pf_cmp (op_eqD hr.units) o_eq (pf_var 0) (pf_var 1) (nomark _))))))
      (pfs_nil))
      (pfs_cons (pfs_if (pft_cmp op_isA o_is (pf_var 1) (pf_non) (nomark _))
      (pfs_one (pfs_ret (pf_cmp op_isA o_is (pf_var 0) (pf_non) (nomark _))))
      (pfs_nil))
      (pfs_cons (pfs_if (PW.pt (pfw_or (pft_not (pft_tru (pf_isi .tup (by decide) (by rfl) B.isinstance (pf_var 0) (by rfl) B.tuple boot_tuple))) (pfw_or1 (pft_cmp (op_neD hr.units) o_ne (pf_b call_len o_len (by rfl) B.len boot_len (pfa_cons (pf_var 0) (pfa_nil))) (pf_b call_len o_len (by rfl) B.len boot_len (pfa_cons (pf_var 1) (pfa_nil))) (nomark _)))))
      (pfs_one (pfs_ret (pf_bl)))
      (pfs_nil))
      (pfs_cons (pfs_for (vs := [2]) PassesOwn.never rfl (pfi_rg1 (by rfl) B.range (pfa_cons (pf_b call_len o_len (by rfl) B.len boot_len (pfa_cons (pf_var 1) (pfa_nil))) (pfa_nil))) (pfg_name (i := 2) nd rfl (by first | exact Or.inl rfl | exact Or.inr rfl))
      (pfs_one (pfs_if (pft_not (pft_tru (pf_callC ih (hr.mono (Nat.le_refl _)) (by rfl) (pfa_cons (pf_ix ix_seq o_ix (pf_var 0) (pf_var 2) (fun _ _ => rfl)) (pfa_cons (pf_ix ix_seq o_ix (pf_var 1) (pf_var 2) (fun _ _ => rfl)) (pfa_nil))) (len_cons (len_cons len_nil)))))
      (pfs_one (pfs_ret (pf_bl)))
      (pfs_nil))))
      (pfs_one (pfs_ret (pf_bl))))))))
abbrev st_law_size : Stmt := topS 23
theorem sc_law_size : FnScope ["draws", "script", "kind", "number"] ["draws", "script"] (defScope st_law_size) := ⟨rfl, rfl, rfl, by decide +kernel, rfl, by decide +kernel, by decide +kernel⟩
theorem ok_law_size {f : Addr} {fd : FuncData} (F : FunD K "_law_size" "_law_size" (defArgs st_law_size) (defBody st_law_size) (defScope st_law_size) [] [] f fd) (g : mg "_law_size" = some (.ref f)) (B : Bn mg) (C_law_take : Cal P w K mg base 1 "_law_take" q_law_take 2) : Cal P w K mg base 2 "_law_size" c_law_size 2 := by
  have nd := sc_law_size.nd
  refine cal_of (ps := ["draws", "script"]) g F.kp (F.bindsN fun _ _ _ _ _ _ us hl => match us, hl with | [_, _], _ => rfl) (fn_ok (k := 1) F sc_law_size fun cdv A outer s H E hr => ?_)
  exact pfs_cons (pfs_set (i := 2) nd rfl (by first | exact Or.inl rfl | exact Or.inr rfl) (pf_callCS 0 C_law_take (hr.mono (by decide)) (by rfl) (pfa_cons (pf_var 0) (pfa_cons (pf_int) (pfa_nil))) (len_cons (len_cons len_nil))))
      (pfs_cons (pfs_set (i := 3) nd rfl (by first | exact Or.inl rfl | exact Or.inr rfl) (pf_callCS 0 C_law_take (hr.mono (by decide)) (by rfl) (pfa_cons (pf_var 0) (pfa_cons (pf_int) (pfa_nil))) (len_cons (len_cons len_nil))))
      (pfs_cons (pfs_if (pft_cmp (op_eqD hr.units) o_eq (pf_var 2) (pf_int) (nomark _))
      (pfs_one (pfs_set (i := 3) nd rfl (by first | exact Or.inl rfl | exact Or.inr rfl) (pf_bin op_addA o_add (pf_var 3) (pf_bin op_mulA o_mul (pf_bin op_addA o_add (pf_int) (pf_callCS 0 C_law_take (hr.mono (by decide)) (by rfl) (pfa_cons (pf_var 0) (pfa_cons (pf_int) (pfa_nil))) (len_cons (len_cons len_nil)))) (pf_bin op_pow o_pow (pf_int) (pf_int))))))
      (pfs_nil))
      (pfs_cons (pfs_if (PW.pt (pfw_and (pft_cmp (op_eqD hr.units) o_eq (pf_var 2) (pf_int) (nomark _)) (pfw_and1 (pft_cmp op_gt o_cmp (pf_b call_len o_len (by rfl) B.len boot_len (pfa_cons (pf_var 1) (pfa_nil))) (pf_int) (nomark _)))))
      (pfs_one (pfs_set (i := 3) nd rfl (by first | exact Or.inl rfl | exact Or.inr rfl) (pf_bin op_addA o_add (pf_var 3) (pf_bin op_modN o_mod (pf_ty call_int1 o_int (by rfl) B.int boot_int (pfa_cons (pf_b call_abs o_i1 (by rfl) B.abs boot_abs (pfa_cons (pf_ty call_int1 o_int (by rfl) B.int boot_int (pfa_cons (pf_ix ix_seq o_ix (pf_var 1) (pf_callCS 0 C_law_take (hr.mono (by decide)) (by rfl) (pfa_cons (pf_var 0) (pfa_cons (pf_b call_len o_len (by rfl) B.len boot_len (pfa_cons (pf_var 1) (pfa_nil))) (pfa_nil))) (len_cons (len_cons len_nil))) (fun _ _ => rfl)) (pfa_nil))) (pfa_nil))) (pfa_nil))) (pf_bin op_pow o_pow (pf_int) (pf_int))))))
      (pfs_nil))
      (pfs_cons (pfs_if (pft_cmp (op_eqD hr.units) o_eq (pf_var 2) (pf_int) (nomark _))
      (pfs_one (pfs_set (i := 3) nd rfl (by first | exact Or.inl rfl | exact Or.inr rfl) (pf_bin op_addA o_add (pf_bin op_mulA o_mul (pf_var 3) (pf_int)) (pf_callCS 0 C_law_take (hr.mono (by decide)) (by rfl) (pfa_cons (pf_var 0) (pfa_cons (pf_int) (pfa_nil))) (len_cons (len_cons len_nil))))))
      (pfs_nil))
      (pfs_one (pfs_ret (pf_var 3)))))))
abbrev st_law_times : Stmt := topS 24
theorem sc_law_times : FnScope ["draws", "script", "many", "great", "at", "found", "k"] ["draws", "script", "many", "great"] (defScope st_law_times) := ⟨rfl, rfl, rfl, by decide +kernel, rfl, by decide +kernel, by decide +kernel⟩
theorem ok_law_times {f : Addr} {fd : FuncData} (F : FunD K "_law_times" "_law_times" (defArgs st_law_times) (defBody st_law_times) (defScope st_law_times) [] [] f fd) (g : mg "_law_times" = some (.ref f)) (B : Bn mg) (C_law_take : Cal P w K mg base 1 "_law_take" q_law_take 2) (C_law_size : Cal P w K mg base 2 "_law_size" q_law_size 2) : Cal P w K mg base 3 "_law_times" c_law_times 4 := by
  have nd := sc_law_times.nd
  refine cal_of (ps := ["draws", "script", "many", "great"]) g F.kp (F.bindsN fun _ _ _ _ _ _ us hl => match us, hl with | [_, _, _, _], _ => rfl) (fn_ok (k := 2) F sc_law_times fun cdv A outer s H E hr => ?_)
  exact pfs_cons (pfs_set (i := 4) nd rfl (by first | exact Or.inl rfl | exact Or.inr rfl) (pf_bin op_sub o_sub (pf_callCS 0 C_law_take (hr.mono (by decide)) (by rfl) (pfa_cons (pf_var 0) (pfa_cons (pf_int) (pfa_nil))) (len_cons (len_cons len_nil))) (pf_int)))
      (pfs_cons (pfs_set (i := 5) nd rfl (by first | exact Or.inl rfl | exact Or.inr rfl) (pf_mut (pfn_lst (pfa_nil))))
      (pfs_cons (pfs_for (vs := [6]) PassesOwn.never rfl (pfi_rg1 (by rfl) B.range (pfa_cons (pf_var 2) (pfa_nil))) (pfg_name (i := 6) nd rfl (by first | exact Or.inl rfl | exact Or.inr rfl))
      (pfs_cons (pfs_set (i := 4) nd rfl (by first | exact Or.inl rfl | exact Or.inr rfl) (pf_bin op_addA o_add (pf_bin op_addA o_add (pf_var 4) (pf_ix ix_seq o_ix (pf_fz (pfn_lst (pfa_cons (pf_int) (pfa_cons (pf_callCS 0 C_law_take (hr.mono (by decide)) (by rfl) (pfa_cons (pf_var 0) (pfa_cons (pf_int) (pfa_nil))) (len_cons (len_cons len_nil))) (pfa_cons (pf_callCS 0 C_law_take (hr.mono (by decide)) (by rfl) (pfa_cons (pf_var 0) (pfa_cons (pf_int) (pfa_nil))) (len_cons (len_cons len_nil))) (pfa_nil)))))) (pf_callCS 0 C_law_take (hr.mono (by decide)) (by rfl) (pfa_cons (pf_var 0) (pfa_cons (pf_int) (pfa_nil))) (len_cons (len_cons len_nil))) (fun _ _ => rfl))) (pf_bin op_mulA o_mul (pf_ty call_int1 o_int (by rfl) B.int boot_int (pfa_cons (pf_and (pf_var 3) (pf_one (pf_cmp (op_eqD hr.units) o_eq (pf_callCS 0 C_law_take (hr.mono (by decide)) (by rfl) (pfa_cons (pf_var 0) (pfa_cons (pf_int) (pfa_nil))) (len_cons (len_cons len_nil))) (pf_int) (nomark _)))) (pfa_nil))) (pf_bin op_modN o_mod (pf_callCS 0 C_law_size (hr.mono (by decide)) (by rfl) (pfa_cons (pf_var 0) (pfa_cons (pf_var 1) (pfa_nil))) (len_cons (len_cons len_nil))) (pf_bin op_pow o_pow (pf_int) (pf_int))))))
      (pfs_one (pfs_expr (pf_m PySem.F.plainAttrs_list PySem.F.slot_list_append PySem.F.type_list_append mt_append o_append (pf_var 5) (pfa_cons (pf_var 4) (pfa_nil)))))))
      (pfs_one (pfs_ret (pf_ty call_tuple_of o_tuple (by rfl) B.tuple boot_tuple (pfa_cons (pf_var 5) (pfa_nil)))))))
abbrev st_law_in : Stmt := topS 25
theorem sc_law_in : FnScope ["times", "begin", "end", "time"] ["times", "begin", "end"] (defScope st_law_in) := ⟨rfl, rfl, rfl, by decide +kernel, rfl, by decide +kernel, by decide +kernel⟩
theorem ok_law_in {f : Addr} {fd : FuncData} (F : FunD K "_law_in" "_law_in" (defArgs st_law_in) (defBody st_law_in) (defScope st_law_in) [] [] f fd) (g : mg "_law_in" = some (.ref f)) (B : Bn mg)  : Cal P w K mg base 1 "_law_in" c_law_in 3 := by
  have nd := sc_law_in.nd
  refine cal_of (ps := ["times", "begin", "end"]) g F.kp (F.bindsN fun _ _ _ _ _ _ us hl => match us, hl with | [_, _, _], _ => rfl) (fn_ok (k := 0) F sc_law_in fun cdv A outer s H E hr => ?_)
  exact pfs_one (pfs_ret (pf_b call_len o_len (by rfl) B.len boot_len (pfa_cons (pf_fz (pfn_lc (own := [("time", 3)]) rfl nd (pfi_sq (pf_var 0)) (blkOk_by (own := [("time", 3)]) (N := ["times", "begin", "end", "time"]) (by with_unfolding_all rfl)) (fun _ _ _ _ _ => pfg_name (i := 3) nd rfl (by first | exact Or.inl rfl | exact Or.inr rfl)) (fun _ _ _ _ _ => pfts_one (PW.pt (pfw_and (pft_cmp op_le o_cmp (pf_var 1) (pf_var 3) (nomark _)) (pfw_and1 (pft_cmp op_lt o_cmp (pf_var 3) (pf_var 2) (nomark _)))))) (fun _ _ _ _ _ => pf_var 3))) (pfa_nil))))
abbrev st_law_groups : Stmt := topS 26
theorem sc_law_groups : FnScope ["times", "minutes", "found", "k"] ["times", "minutes"] (defScope st_law_groups) := ⟨rfl, rfl, rfl, by decide +kernel, rfl, by decide +kernel, by decide +kernel⟩
theorem ok_law_groups {f : Addr} {fd : FuncData} (F : FunD K "_law_groups" "_law_groups" (defArgs st_law_groups) (defBody st_law_groups) (defScope st_law_groups) [] [] f fd) (g : mg "_law_groups" = some (.ref f)) (B : Bn mg)  : Cal P w K mg base 1 "_law_groups" c_law_groups 2 := by
  have nd := sc_law_groups.nd
  refine cal_of (ps := ["times", "minutes"]) g F.kp (F.bindsN fun _ _ _ _ _ _ us hl => match us, hl with | [_, _], _ => rfl) (fn_ok (k := 0) F sc_law_groups fun cdv A outer s H E hr => ?_)
  exact pfs_cons (pfs_set (i := 2) nd rfl (by first | exact Or.inl rfl | exact Or.inr rfl) (pf_mut (pfn_lst (pfa_nil))))
      (pfs_cons (pfs_for (vs := [3]) PassesOwn.never rfl (pfi_rg1 (by rfl) B.range (pfa_cons (pf_b call_len o_len (by rfl) B.len boot_len (pfa_cons (pf_var 0) (pfa_nil))) (pfa_nil))) (pfg_name (i := 3) nd rfl (by first | exact Or.inl rfl | exact Or.inr rfl))
      (pfs_one (pfs_if (PW.pt (pfw_and (pft_cmp op_gt o_cmp (pf_var 3) (pf_int) (nomark _)) (pfw_and1 (pft_cmp op_le o_cmp (pf_bin op_sub o_sub (pf_ix ix_seq o_ix (pf_var 0) (pf_var 3) (fun _ _ => rfl)) (pf_ix ix_seq o_ix (pf_var 0) (pf_bin op_sub o_sub (pf_var 3) (pf_int)) (fun _ _ => rfl))) (pf_var 1) (nomark _)))))
      (pfs_one (pfs_setIx (pf_bin op_addA o_add (pf_ix ix_seq o_ix (pf_var 2) (pf_un un_neg o_neg (pf_int)) (fun _ _ => rfl)) (pf_tup (pfa_cons (pf_var 3) (pfa_nil)))) (pf_var 2) (pf_un un_neg o_neg (pf_int))))
      (pfs_one (pfs_expr (pf_m PySem.F.plainAttrs_list PySem.F.slot_list_append PySem.F.type_list_append mt_append o_append (pf_var 2) (pfa_cons (pf_tup (pfa_cons (pf_var 3) (pfa_nil))) (pfa_nil))))))))
      (pfs_one (pfs_ret (pf_ty call_tuple_of o_tuple (by rfl) B.tuple boot_tuple (pfa_cons (pf_var 2) (pfa_nil))))))
abbrev st_law_one_right : Stmt := topS 27
theorem sc_law_one_right : FnScope ["draws", "times", "minutes", "catalog", "time", "groups", "far", "group", "gaps", "gap", "k", "kept", "most", "quiet", "sizes", "sized", "mains", "sides", "best"] ["draws", "times", "minutes"] (defScope st_law_one_right) := ⟨rfl, rfl, rfl, by decide +kernel, rfl, by decide +kernel, by decide +kernel⟩
theorem ok_law_one_right {f : Addr} {fd : FuncData} (F : FunD K "_law_one_right" "_law_one_right" (defArgs st_law_one_right) (defBody st_law_one_right) (defScope st_law_one_right) [] [] f fd) (g : mg "_law_one_right" = some (.ref f)) (B : Bn mg) (C_law_groups : Cal P w K mg base 1 "_law_groups" q_law_groups 2) (C_law_take : Cal P w K mg base 1 "_law_take" q_law_take 2) (C_law_same : Cal P w K mg base 13 "_law_same" q_law_same 2) (Cclusters_of : Cal P w K mg base 3 "clusters_of" qclusters_of 3) (Cmain_shocks : Cal P w K mg base 4 "main_shocks" qmain_shocks 3) (Cgaps_of : Cal P w K mg base 1 "gaps_of" qgaps_of 1) (Cleast_minutes : Cal P w K mg base 2 "least_minutes" qleast_minutes 2) (Csteps_of : Cal P w K mg base 1 "steps_of" qsteps_of 2) (Cthinned_times : Cal P w K mg base 1 "thinned_times" qthinned_times 2) (Cmost_in : Cal P w K mg base 2 "most_in" qmost_in 2) (Clongest_quiet : Cal P w K mg base 1 "longest_quiet" qlongest_quiet 3) (Cbefore_and_after : Cal P w K mg base 4 "before_and_after" qbefore_and_after 3) (Cthinned : Cal P w K mg base 5 "thinned" qthinned 3) : Cal P w K mg base 14 "_law_one_right" c_law_one_right 3 := by
  have nd := sc_law_one_right.nd
  refine cal_of (ps := ["draws", "times", "minutes"]) g F.kp (F.bindsN fun _ _ _ _ _ _ us hl => match us, hl with | [_, _, _], _ => rfl) (fn_ok (k := 13) F sc_law_one_right fun cdv A outer s H E hr => ?_)
  exact pfs_cons (pfs_set (i := 3) nd rfl (by first | exact Or.inl rfl | exact Or.inr rfl) (pf_ty call_tuple_of o_tuple (by rfl) B.tuple boot_tuple (pfa_cons (pf_fz (pfn_lc (own := [("time", 4)]) rfl nd (pfi_sq (pf_var 1)) (blkOk_by (own := [("time", 4)]) (N := ["draws", "times", "minutes", "catalog", "time", "groups", "far", "group", "gaps", "gap", "k", "kept", "most", "quiet", "sizes", "sized", "mains", "sides", "best"]) (by with_unfolding_all rfl)) (fun _ _ _ _ _ => pfg_name (i := 4) nd rfl (by first | exact Or.inl rfl | exact Or.inr rfl)) (fun _ _ _ _ _ => pfts_nil) (fun _ _ _ _ _ => pf_tup (pfa_cons (pf_var 4) (pfa_cons (pf_tup (pfa_cons (pf_int) (pfa_cons (pf_int) (pfa_nil)))) (pfa_cons (pf_int) (pfa_nil))))))) (pfa_nil))))
      (pfs_cons (pfs_set (i := 5) nd rfl (by first | exact Or.inl rfl | exact Or.inr rfl) (pf_callC C_law_groups (hr.mono (by decide)) (by rfl) (pfa_cons (pf_var 1) (pfa_cons (pf_var 2) (pfa_nil))) (len_cons (len_cons len_nil))))
      (pfs_cons (pfs_set (i := 6) nd rfl (by first | exact Or.inl rfl | exact Or.inr rfl) (pf_callCS 0 C_law_take (hr.mono (by decide)) (by rfl) (pfa_cons (pf_var 0) (pfa_cons (pf_int) (pfa_nil))) (len_cons (len_cons len_nil))))
      (pfs_cons (pfs_if (PW.pt (pfw_or (pft_not (pft_tru (pf_callC C_law_same (hr.mono (by decide)) (by rfl) (pfa_cons (pf_callC Cclusters_of (hr.mono (by decide)) (by rfl) (pfa_cons (pf_var 3) (pfa_cons (pf_var 6) (pfa_cons (pf_var 2) (pfa_nil)))) (len_cons (len_cons (len_cons len_nil)))) (pfa_cons (pf_var 5) (pfa_nil))) (len_cons (len_cons len_nil))))) (pfw_or1 (pft_not (pft_tru (pf_callC C_law_same (hr.mono (by decide)) (by rfl) (pfa_cons (pf_callC Cmain_shocks (hr.mono (by decide)) (by rfl) (pfa_cons (pf_var 3) (pfa_cons (pf_var 6) (pfa_cons (pf_var 2) (pfa_nil)))) (len_cons (len_cons (len_cons len_nil)))) (pfa_cons (pf_ty call_tuple_of o_tuple (by rfl) B.tuple boot_tuple (pfa_cons (pf_fz (pfn_lc (own := [("group", 7)]) rfl nd (pfi_sq (pf_var 5)) (blkOk_by (own := [("group", 7)]) (N := ["draws", "times", "minutes", "catalog", "time", "groups", "far", "group", "gaps", "gap", "k", "kept", "most", "quiet", "sizes", "sized", "mains", "sides", "best"]) (by with_unfolding_all rfl)) (fun _ _ _ _ _ => pfg_name (i := 7) nd rfl (by first | exact Or.inl rfl | exact Or.inr rfl)) (fun _ _ _ _ _ => pfts_nil) (fun _ _ _ _ _ => pf_ix ix_seq o_ix (pf_var 7) (pf_int) (fun _ _ => rfl)))) (pfa_nil))) (pfa_nil))) (len_cons (len_cons len_nil))))))))
      (pfs_one (pfs_ret (pf_bl)))
      (pfs_nil))
      (pfs_cons (pfs_set (i := 8) nd rfl (by first | exact Or.inl rfl | exact Or.inr rfl) (pf_callC Cgaps_of (hr.mono (by decide)) (by rfl) (pfa_cons (pf_var 1) (pfa_nil)) (len_cons len_nil)))
      (pfs_cons (pfs_if (PW.pt (pfw_or (pft_not (pft_tru (pf_isi .tup (by decide) (by rfl) B.isinstance (pf_var 8) (by rfl) B.tuple boot_tuple))) (pfw_or1 (pft_cmp (op_neD hr.units) o_ne (pf_b call_len o_len (by rfl) B.len boot_len (pfa_cons (pf_var 8) (pfa_nil))) (pf_b (call_max2 rfl) o_i2 (by rfl) B.max boot_max (pfa_cons (pf_int) (pfa_cons (pf_bin op_sub o_sub (pf_b call_len o_len (by rfl) B.len boot_len (pfa_cons (pf_var 1) (pfa_nil))) (pf_int)) (pfa_nil)))) (nomark _)))))
      (pfs_one (pfs_ret (pf_bl)))
      (pfs_nil))
      (pfs_cons (pfs_if (PW.pt (pfw_and (pft_cmp op_gt o_cmp (pf_b call_len o_len (by rfl) B.len boot_len (pfa_cons (pf_var 1) (pfa_nil))) (pf_int) (nomark _)) (pfw_and1 (pft_cmp (op_neD hr.units) o_ne (pf_b call_len o_len (by rfl) B.len boot_len (pfa_cons (pf_var 5) (pfa_nil))) (pf_bin op_addA o_add (pf_int) (pf_b call_len o_len (by rfl) B.len boot_len (pfa_cons (pf_fz (pfn_lc (own := [("gap", 9)]) rfl nd (pfi_sq (pf_var 8)) (blkOk_by (own := [("gap", 9)]) (N := ["draws", "times", "minutes", "catalog", "time", "groups", "far", "group", "gaps", "gap", "k", "kept", "most", "quiet", "sizes", "sized", "mains", "sides", "best"]) (by with_unfolding_all rfl)) (fun _ _ _ _ _ => pfg_name (i := 9) nd rfl (by first | exact Or.inl rfl | exact Or.inr rfl)) (fun _ _ _ _ _ => pfts_one (pft_cmp op_gt o_cmp (pf_var 9) (pf_var 2) (nomark _))) (fun _ _ _ _ _ => pf_var 9))) (pfa_nil)))) (nomark _)))))
      (pfs_one (pfs_ret (pf_bl)))
      (pfs_nil))
      (pfs_cons (pfs_if (pft_not (pft_tru (pf_callC C_law_same (hr.mono (by decide)) (by rfl) (pfa_cons (pf_callC Cleast_minutes (hr.mono (by decide)) (by rfl) (pfa_cons (pf_var 3) (pfa_cons (pf_var 6) (pfa_nil))) (len_cons (len_cons len_nil))) (pfa_cons (pf_b (cr_maxDt rfl hr.units) o_max1 (by rfl) B.max boot_max (pfa_cons (pf_bin op_addA o_add (pf_tup (pfa_cons (pf_int) (pfa_nil))) (pf_var 8)) (pfa_nil))) (pfa_nil))) (len_cons (len_cons len_nil)))))
      (pfs_one (pfs_ret (pf_bl)))
      (pfs_nil))
      (pfs_cons (pfs_if (pft_not (pft_tru (pf_callC C_law_same (hr.mono (by decide)) (by rfl) (pfa_cons (pf_callC Csteps_of (hr.mono (by decide)) (by rfl) (pfa_cons (pf_var 1) (pfa_cons (pf_var 2) (pfa_nil))) (len_cons (len_cons len_nil))) (pfa_cons (pf_ty call_tuple_of o_tuple (by rfl) B.tuple boot_tuple (pfa_cons (pf_fz (pfn_lc (own := [("group", 7)]) rfl nd (pfi_sq (pf_var 5)) (blkOk_by (own := [("group", 7)]) (N := ["draws", "times", "minutes", "catalog", "time", "groups", "far", "group", "gaps", "gap", "k", "kept", "most", "quiet", "sizes", "sized", "mains", "sides", "best"]) (by with_unfolding_all rfl)) (fun _ _ _ _ _ => pfg_name (i := 7) nd rfl (by first | exact Or.inl rfl | exact Or.inr rfl)) (fun _ _ _ _ _ => pfts_nil) (fun _ _ _ _ _ => pf_ty call_tuple_of o_tuple (by rfl) B.tuple boot_tuple (pfa_cons (pf_fz (pfn_lc (own := [("k", 10)]) rfl nd (pfi_sq (pf_var 7)) (blkOk_by (own := [("k", 10)]) (N := ["draws", "times", "minutes", "catalog", "time", "groups", "far", "group", "gaps", "gap", "k", "kept", "most", "quiet", "sizes", "sized", "mains", "sides", "best"]) (by with_unfolding_all rfl)) (fun _ _ _ _ _ => pfg_name (i := 10) nd rfl (by first | exact Or.inl rfl | exact Or.inr rfl)) (fun _ _ _ _ _ => pfts_nil) (fun _ _ _ _ _ => pf_ix ix_seq o_ix (pf_var 1) (pf_var 10) (fun _ _ => rfl)))) (pfa_nil))))) (pfa_nil))) (pfa_nil))) (len_cons (len_cons len_nil)))))
      (pfs_one (pfs_ret (pf_bl)))
      (pfs_nil))
      (pfs_cons (pfs_set (i := 11) nd rfl (by first | exact Or.inl rfl | exact Or.inr rfl) (pf_callC Cthinned_times (hr.mono (by decide)) (by rfl) (pfa_cons (pf_var 1) (pfa_cons (pf_var 2) (pfa_nil))) (len_cons (len_cons len_nil))))
      (pfs_cons (pfs_if (PW.pt (pfw_or (pft_not (pft_tru (pf_isi .tup (by decide) (by rfl) B.isinstance (pf_var 11) (by rfl) B.tuple boot_tuple))) (pfw_or1 (pft_cmp op_gt o_cmp (pf_b call_len o_len (by rfl) B.len boot_len (pfa_cons (pf_fz (pfn_lc (own := [("group", 7)]) rfl nd (pfi_sq (pf_var 5)) (blkOk_by (own := [("group", 7)]) (N := ["draws", "times", "minutes", "catalog", "time", "groups", "far", "group", "gaps", "gap", "k", "kept", "most", "quiet", "sizes", "sized", "mains", "sides", "best"]) (by with_unfolding_all rfl)) (fun _ _ _ _ _ => pfg_name (i := 7) nd rfl (by first | exact Or.inl rfl | exact Or.inr rfl)) (fun _ _ _ _ _ => pfts_one (pft_cmp (op_notInX hr.units) o_notInX (pf_ix ix_seq o_ix (pf_var 1) (pf_ix ix_seq o_ix (pf_var 7) (pf_int) (fun _ _ => rfl)) (fun _ _ => rfl)) (pf_var 11) (by with_unfolding_all rfl))) (fun _ _ _ _ _ => pf_var 7))) (pfa_nil))) (pf_int) (nomark _)))))
      (pfs_one (pfs_ret (pf_bl)))
      (pfs_nil))
      (pfs_cons (pfs_if (pft_cmp op_gt o_cmp (pf_b call_len o_len (by rfl) B.len boot_len (pfa_cons (pf_fz (pfn_lc (own := [("k", 10)]) rfl nd (pfi_rg2 (by rfl) B.range (pfa_cons (pf_int) (pfa_cons (pf_b call_len o_len (by rfl) B.len boot_len (pfa_cons (pf_var 11) (pfa_nil))) (pfa_nil)))) (blkOk_by (own := [("k", 10)]) (N := ["draws", "times", "minutes", "catalog", "time", "groups", "far", "group", "gaps", "gap", "k", "kept", "most", "quiet", "sizes", "sized", "mains", "sides", "best"]) (by with_unfolding_all rfl)) (fun _ _ _ _ _ => pfg_name (i := 10) nd rfl (by first | exact Or.inl rfl | exact Or.inr rfl)) (fun _ _ _ _ _ => pfts_one (pft_cmp op_le o_cmp (pf_bin op_sub o_sub (pf_ix ix_seq o_ix (pf_var 11) (pf_var 10) (fun _ _ => rfl)) (pf_ix ix_seq o_ix (pf_var 11) (pf_bin op_sub o_sub (pf_var 10) (pf_int)) (fun _ _ => rfl))) (pf_var 2) (nomark _))) (fun _ _ _ _ _ => pf_var 10))) (pfa_nil))) (pf_int) (nomark _))
      (pfs_one (pfs_ret (pf_bl)))
      (pfs_nil))
      (pfs_cons (pfs_if (pft_cmp op_gt o_cmp (pf_b call_len o_len (by rfl) B.len boot_len (pfa_cons (pf_var 1) (pfa_nil))) (pf_int) (nomark _))
      (pfs_cons (pfs_set (i := 12) nd rfl (by first | exact Or.inl rfl | exact Or.inr rfl) (pf_callC Cmost_in (hr.mono (by decide)) (by rfl) (pfa_cons (pf_var 1) (pfa_cons (pf_bin op_addA o_add (pf_var 2) (pf_int)) (pfa_nil))) (len_cons (len_cons len_nil))))
      (pfs_cons (pfs_if (PW.pt (pfw_or (pft_not (pft_tru (pf_isi .tup (by decide) (by rfl) B.isinstance (pf_var 12) (by rfl) B.tuple boot_tuple))) (pfw_or1 (pft_cmp op_gt o_cmp (pf_ix ix_seq o_ix (pf_var 12) (pf_int) (fun _ _ => rfl)) (pf_b (cr_maxDt rfl hr.units) o_max1 (by rfl) B.max boot_max (pfa_cons (pf_fz (pfn_lc (own := [("group", 7)]) rfl nd (pfi_sq (pf_var 5)) (blkOk_by (own := [("group", 7)]) (N := ["draws", "times", "minutes", "catalog", "time", "groups", "far", "group", "gaps", "gap", "k", "kept", "most", "quiet", "sizes", "sized", "mains", "sides", "best"]) (by with_unfolding_all rfl)) (fun _ _ _ _ _ => pfg_name (i := 7) nd rfl (by first | exact Or.inl rfl | exact Or.inr rfl)) (fun _ _ _ _ _ => pfts_nil) (fun _ _ _ _ _ => pf_b call_len o_len (by rfl) B.len boot_len (pfa_cons (pf_var 7) (pfa_nil))))) (pfa_nil))) (nomark _)))))
      (pfs_one (pfs_ret (pf_bl)))
      (pfs_nil))
      (pfs_cons (pfs_set (i := 13) nd rfl (by first | exact Or.inl rfl | exact Or.inr rfl) (pf_callC Clongest_quiet (hr.mono (by decide)) (by rfl) (pfa_cons (pf_var 1) (pfa_cons (pf_ix ix_seq o_ix (pf_var 1) (pf_int) (fun _ _ => rfl)) (pfa_cons (pf_bin op_addA o_add (pf_ix ix_seq o_ix (pf_var 1) (pf_un un_neg o_neg (pf_int)) (fun _ _ => rfl)) (pf_int)) (pfa_nil)))) (len_cons (len_cons (len_cons len_nil)))))
      (pfs_one (pfs_if (PW.pt (pfw_or (pft_not (pft_tru (pf_isi .tup (by decide) (by rfl) B.isinstance (pf_var 13) (by rfl) B.tuple boot_tuple))) (pfw_or (pft_cmp (op_neD hr.units) o_ne (pf_b call_len o_len (by rfl) B.len boot_len (pfa_cons (pf_var 13) (pfa_nil))) (pf_int) (nomark _)) (pfw_or1 (pft_cmp (op_neD hr.units) o_ne (pf_bin op_sub o_sub (pf_ix ix_seq o_ix (pf_var 13) (pf_int) (fun _ _ => rfl)) (pf_ix ix_seq o_ix (pf_var 13) (pf_int) (fun _ _ => rfl))) (pf_b (cr_maxDt rfl hr.units) o_max1 (by rfl) B.max boot_max (pfa_cons (pf_bin op_addA o_add (pf_fz (pfn_lst (pfa_cons (pf_int) (pfa_nil)))) (pf_fz (pfn_lc (own := [("gap", 9)]) rfl nd (pfi_sq (pf_var 8)) (blkOk_by (own := [("gap", 9)]) (N := ["draws", "times", "minutes", "catalog", "time", "groups", "far", "group", "gaps", "gap", "k", "kept", "most", "quiet", "sizes", "sized", "mains", "sides", "best"]) (by with_unfolding_all rfl)) (fun _ _ _ _ _ => pfg_name (i := 9) nd rfl (by first | exact Or.inl rfl | exact Or.inr rfl)) (fun _ _ _ _ _ => pfts_nil) (fun _ _ _ _ _ => pf_bin op_sub o_sub (pf_var 9) (pf_int))))) (pfa_nil))) (nomark _))))))
      (pfs_one (pfs_ret (pf_bl)))
      (pfs_nil))))))
      (pfs_nil))
      (pfs_cons (pfs_set (i := 14) nd rfl (by first | exact Or.inl rfl | exact Or.inr rfl) (pf_fz (pfn_lc (own := [("time", 4)]) rfl nd (pfi_sq (pf_var 1)) (blkOk_by (own := [("time", 4)]) (N := ["draws", "times", "minutes", "catalog", "time", "groups", "far", "group", "gaps", "gap", "k", "kept", "most", "quiet", "sizes", "sized", "mains", "sides", "best"]) (by with_unfolding_all rfl)) (fun _ _ _ _ _ => pfg_name (i := 4) nd rfl (by first | exact Or.inl rfl | exact Or.inr rfl)) (fun _ _ _ _ _ => pfts_nil) (fun _ _ _ _ _ => pf_callCS 0 C_law_take (hr.mono (by decide)) (by rfl) (pfa_cons (pf_var 0) (pfa_cons (pf_int) (pfa_nil))) (len_cons (len_cons len_nil))))))
      (pfs_cons (pfs_set (i := 15) nd rfl (by first | exact Or.inl rfl | exact Or.inr rfl) (pf_ty call_tuple_of o_tuple (by rfl) B.tuple boot_tuple (pfa_cons (pf_fz (pfn_lc (own := [("k", 10)]) rfl nd (pfi_rg1 (by rfl) B.range (pfa_cons (pf_b call_len o_len (by rfl) B.len boot_len (pfa_cons (pf_var 1) (pfa_nil))) (pfa_nil))) (blkOk_by (own := [("k", 10)]) (N := ["draws", "times", "minutes", "catalog", "time", "groups", "far", "group", "gaps", "gap", "k", "kept", "most", "quiet", "sizes", "sized", "mains", "sides", "best"]) (by with_unfolding_all rfl)) (fun _ _ _ _ _ => pfg_name (i := 10) nd rfl (by first | exact Or.inl rfl | exact Or.inr rfl)) (fun _ _ _ _ _ => pfts_nil) (fun _ _ _ _ _ => pf_tup (pfa_cons (pf_ix ix_seq o_ix (pf_var 1) (pf_var 10) (fun _ _ => rfl)) (pfa_cons (pf_tup (pfa_cons (pf_int) (pfa_cons (pf_int) (pfa_nil)))) (pfa_cons (pf_ix ix_seq o_ix (pf_var 14) (pf_var 10) (fun _ _ => rfl)) (pfa_nil))))))) (pfa_nil))))
      (pfs_cons (pfs_set (i := 16) nd rfl (by first | exact Or.inl rfl | exact Or.inr rfl) (pf_mut (pfn_lst (pfa_nil))))
      (pfs_cons (pfs_set (i := 17) nd rfl (by first | exact Or.inl rfl | exact Or.inr rfl) (pf_mut (pfn_lst (pfa_nil))))
      (pfs_cons (pfs_for (vs := [7]) PassesOwn.never rfl (pfi_sq (pf_var 5)) (pfg_name (i := 7) nd rfl (by first | exact Or.inl rfl | exact Or.inr rfl))
      (pfs_cons (pfs_set (i := 18) nd rfl (by first | exact Or.inl rfl | exact Or.inr rfl) (pf_ix ix_seq o_ix (pf_b (cr_minDt rfl hr.units) o_min1 (by rfl) B.min boot_min (pfa_cons (pf_fz (pfn_lc (own := [("k", 10)]) rfl nd (pfi_sq (pf_var 7)) (blkOk_by (own := [("k", 10)]) (N := ["draws", "times", "minutes", "catalog", "time", "groups", "far", "group", "gaps", "gap", "k", "kept", "most", "quiet", "sizes", "sized", "mains", "sides", "best"]) (by with_unfolding_all rfl)) (fun _ _ _ _ _ => pfg_name (i := 10) nd rfl (by first | exact Or.inl rfl | exact Or.inr rfl)) (fun _ _ _ _ _ => pfts_nil) (fun _ _ _ _ _ => pf_tup (pfa_cons (pf_un un_neg o_neg (pf_ix ix_seq o_ix (pf_var 14) (pf_var 10) (fun _ _ => rfl))) (pfa_cons (pf_ix ix_seq o_ix (pf_var 1) (pf_var 10) (fun _ _ => rfl)) (pfa_cons (pf_var 10) (pfa_nil))))))) (pfa_nil))) (pf_int) (fun _ _ => rfl)))
      (pfs_cons (pfs_expr (pf_m PySem.F.plainAttrs_list PySem.F.slot_list_append PySem.F.type_list_append mt_append o_append (pf_var 16) (pfa_cons (pf_var 18) (pfa_nil))))
      (pfs_one (pfs_expr (pf_m PySem.F.plainAttrs_list PySem.F.slot_list_append PySem.F.type_list_append mt_append o_append (pf_var 17) (pfa_cons (pf_tup (pfa_cons (pf_b call_len o_len (by rfl) B.len boot_len (pfa_cons (pf_fz (pfn_lc (own := [("k", 10)]) rfl nd (pfi_sq (pf_var 7)) (blkOk_by (own := [("k", 10)]) (N := ["draws", "times", "minutes", "catalog", "time", "groups", "far", "group", "gaps", "gap", "k", "kept", "most", "quiet", "sizes", "sized", "mains", "sides", "best"]) (by with_unfolding_all rfl)) (fun _ _ _ _ _ => pfg_name (i := 10) nd rfl (by first | exact Or.inl rfl | exact Or.inr rfl)) (fun _ _ _ _ _ => pfts_one (pft_cmp op_lt o_cmp (pf_ix ix_seq o_ix (pf_var 1) (pf_var 10) (fun _ _ => rfl)) (pf_ix ix_seq o_ix (pf_var 1) (pf_var 18) (fun _ _ => rfl)) (nomark _))) (fun _ _ _ _ _ => pf_var 10))) (pfa_nil))) (pfa_cons (pf_b call_len o_len (by rfl) B.len boot_len (pfa_cons (pf_fz (pfn_lc (own := [("k", 10)]) rfl nd (pfi_sq (pf_var 7)) (blkOk_by (own := [("k", 10)]) (N := ["draws", "times", "minutes", "catalog", "time", "groups", "far", "group", "gaps", "gap", "k", "kept", "most", "quiet", "sizes", "sized", "mains", "sides", "best"]) (by with_unfolding_all rfl)) (fun _ _ _ _ _ => pfg_name (i := 10) nd rfl (by first | exact Or.inl rfl | exact Or.inr rfl)) (fun _ _ _ _ _ => pfts_one (pft_cmp op_gt o_cmp (pf_ix ix_seq o_ix (pf_var 1) (pf_var 10) (fun _ _ => rfl)) (pf_ix ix_seq o_ix (pf_var 1) (pf_var 18) (fun _ _ => rfl)) (nomark _))) (fun _ _ _ _ _ => pf_var 10))) (pfa_nil))) (pfa_nil)))) (pfa_nil))))))))
      (pfs_cons (pfs_if (PW.pt (pfw_or (pft_not (pft_tru (pf_callC C_law_same (hr.mono (by decide)) (by rfl) (pfa_cons (pf_callC Cmain_shocks (hr.mono (by decide)) (by rfl) (pfa_cons (pf_var 15) (pfa_cons (pf_var 6) (pfa_cons (pf_var 2) (pfa_nil)))) (len_cons (len_cons (len_cons len_nil)))) (pfa_cons (pf_ty call_tuple_of o_tuple (by rfl) B.tuple boot_tuple (pfa_cons (pf_var 16) (pfa_nil))) (pfa_nil))) (len_cons (len_cons len_nil))))) (pfw_or1 (pft_not (pft_tru (pf_callC C_law_same (hr.mono (by decide)) (by rfl) (pfa_cons (pf_callC Cbefore_and_after (hr.mono (by decide)) (by rfl) (pfa_cons (pf_var 15) (pfa_cons (pf_var 6) (pfa_cons (pf_var 2) (pfa_nil)))) (len_cons (len_cons (len_cons len_nil)))) (pfa_cons (pf_ty call_tuple_of o_tuple (by rfl) B.tuple boot_tuple (pfa_cons (pf_var 17) (pfa_nil))) (pfa_nil))) (len_cons (len_cons len_nil))))))))
      (pfs_one (pfs_ret (pf_bl)))
      (pfs_nil))
      (pfs_one (pfs_ret (pf_callC C_law_same (hr.mono (by decide)) (by rfl) (pfa_cons (pf_callC Cthinned (hr.mono (by decide)) (by rfl) (pfa_cons (pf_var 15) (pfa_cons (pf_var 6) (pfa_cons (pf_var 2) (pfa_nil)))) (len_cons (len_cons (len_cons len_nil)))) (pfa_cons (pf_ty call_tuple_of o_tuple (by rfl) B.tuple boot_tuple (pfa_cons (pf_fz (pfn_b (cr_sortedA hr.units) o_sortA (by rfl) B.sorted boot_sorted (pfa_cons (pf_fz (pfn_lc (own := [("k", 10)]) rfl nd (pfi_sq (pf_var 16)) (blkOk_by (own := [("k", 10)]) (N := ["draws", "times", "minutes", "catalog", "time", "groups", "far", "group", "gaps", "gap", "k", "kept", "most", "quiet", "sizes", "sized", "mains", "sides", "best"]) (by with_unfolding_all rfl)) (fun _ _ _ _ _ => pfg_name (i := 10) nd rfl (by first | exact Or.inl rfl | exact Or.inr rfl)) (fun _ _ _ _ _ => pfts_nil) (fun _ _ _ _ _ => pf_ix ix_seq o_ix (pf_var 15) (pf_var 10) (fun _ _ => rfl)))) (pfa_nil)))) (pfa_nil))) (pfa_nil))) (len_cons (len_cons len_nil)))))))))))))))))))))))
abbrev st_law_two_right : Stmt := topS 28
theorem sc_law_two_right : FnScope ["draws", "times", "minutes", "here", "time", "catalog", "k", "due", "place", "own", "group"] ["draws", "times", "minutes"] (defScope st_law_two_right) := ⟨rfl, rfl, rfl, by decide +kernel, rfl, by decide +kernel, by decide +kernel⟩
theorem ok_law_two_right {f : Addr} {fd : FuncData} (F : FunD K "_law_two_right" "_law_two_right" (defArgs st_law_two_right) (defBody st_law_two_right) (defScope st_law_two_right) [] [] f fd) (g : mg "_law_two_right" = some (.ref f)) (B : Bn mg) (C_law_take : Cal P w K mg base 1 "_law_take" q_law_take 2) (C_law_groups : Cal P w K mg base 1 "_law_groups" q_law_groups 2) (C_law_same : Cal P w K mg base 13 "_law_same" q_law_same 2) (Cclusters_of : Cal P w K mg base 3 "clusters_of" qclusters_of 3) : Cal P w K mg base 14 "_law_two_right" c_law_two_right 3 := by
  have nd := sc_law_two_right.nd
  refine cal_of (ps := ["draws", "times", "minutes"]) g F.kp (F.bindsN fun _ _ _ _ _ _ us hl => match us, hl with | [_, _, _], _ => rfl) (fn_ok (k := 13) F sc_law_two_right fun cdv A outer s H E hr => ?_)
  exact pfs_cons (pfs_set (i := 3) nd rfl (by first | exact Or.inl rfl | exact Or.inr rfl) (pf_fz (pfn_lc (own := [("time", 4)]) rfl nd (pfi_sq (pf_var 1)) (blkOk_by (own := [("time", 4)]) (N := ["draws", "times", "minutes", "here", "time", "catalog", "k", "due", "place", "own", "group"]) (by with_unfolding_all rfl)) (fun _ _ _ _ _ => pfg_name (i := 4) nd rfl (by first | exact Or.inl rfl | exact Or.inr rfl)) (fun _ _ _ _ _ => pfts_nil) (fun _ _ _ _ _ => pf_callCS 0 C_law_take (hr.mono (by decide)) (by rfl) (pfa_cons (pf_var 0) (pfa_cons (pf_int) (pfa_nil))) (len_cons (len_cons len_nil))))))
      (pfs_cons (pfs_set (i := 5) nd rfl (by first | exact Or.inl rfl | exact Or.inr rfl) (pf_ty call_tuple_of o_tuple (by rfl) B.tuple boot_tuple (pfa_cons (pf_fz (pfn_lc (own := [("k", 6)]) rfl nd (pfi_rg1 (by rfl) B.range (pfa_cons (pf_b call_len o_len (by rfl) B.len boot_len (pfa_cons (pf_var 1) (pfa_nil))) (pfa_nil))) (blkOk_by (own := [("k", 6)]) (N := ["draws", "times", "minutes", "here", "time", "catalog", "k", "due", "place", "own", "group"]) (by with_unfolding_all rfl)) (fun _ _ _ _ _ => pfg_name (i := 6) nd rfl (by first | exact Or.inl rfl | exact Or.inr rfl)) (fun _ _ _ _ _ => pfts_nil) (fun _ _ _ _ _ => pf_tup (pfa_cons (pf_ix ix_seq o_ix (pf_var 1) (pf_var 6) (fun _ _ => rfl)) (pfa_cons (pf_tup (pfa_cons (pf_bin op_mulA o_mul (pf_int) (pf_ix ix_seq o_ix (pf_var 3) (pf_var 6) (fun _ _ => rfl))) (pfa_cons (pf_int) (pfa_nil)))) (pfa_cons (pf_int) (pfa_nil))))))) (pfa_nil))))
      (pfs_cons (pfs_set (i := 7) nd rfl (by first | exact Or.inl rfl | exact Or.inr rfl) (pf_mut (pfn_lst (pfa_nil))))
      (pfs_cons (pfs_for (vs := [8]) PassesOwn.never rfl (pfi_rg1 (by rfl) B.range (pfa_cons (pf_int) (pfa_nil))) (pfg_name (i := 8) nd rfl (by first | exact Or.inl rfl | exact Or.inr rfl))
      (pfs_cons (pfs_set (i := 9) nd rfl (by first | exact Or.inl rfl | exact Or.inr rfl) (pf_fz (pfn_lc (own := [("k", 6)]) rfl nd (pfi_rg1 (by rfl) B.range (pfa_cons (pf_b call_len o_len (by rfl) B.len boot_len (pfa_cons (pf_var 1) (pfa_nil))) (pfa_nil))) (blkOk_by (own := [("k", 6)]) (N := ["draws", "times", "minutes", "here", "time", "catalog", "k", "due", "place", "own", "group"]) (by with_unfolding_all rfl)) (fun _ _ _ _ _ => pfg_name (i := 6) nd rfl (by first | exact Or.inl rfl | exact Or.inr rfl)) (fun _ _ _ _ _ => pfts_one (pft_cmp (op_eqD hr.units) o_eq (pf_ix ix_seq o_ix (pf_var 3) (pf_var 6) (fun _ _ => rfl)) (pf_var 8) (nomark _))) (fun _ _ _ _ _ => pf_var 6))))
      (pfs_one (pfs_for (vs := [10]) PassesOwn.never rfl (pfi_sq (pf_callC C_law_groups (hr.mono (by decide)) (by rfl) (pfa_cons (pf_fz (pfn_lc (own := [("k", 6)]) rfl nd (pfi_sq (pf_var 9)) (blkOk_by (own := [("k", 6)]) (N := ["draws", "times", "minutes", "here", "time", "catalog", "k", "due", "place", "own", "group"]) (by with_unfolding_all rfl)) (fun _ _ _ _ _ => pfg_name (i := 6) nd rfl (by first | exact Or.inl rfl | exact Or.inr rfl)) (fun _ _ _ _ _ => pfts_nil) (fun _ _ _ _ _ => pf_ix ix_seq o_ix (pf_var 1) (pf_var 6) (fun _ _ => rfl)))) (pfa_cons (pf_var 2) (pfa_nil))) (len_cons (len_cons len_nil)))) (pfg_name (i := 10) nd rfl (by first | exact Or.inl rfl | exact Or.inr rfl))
      (pfs_one (pfs_expr (pf_m PySem.F.plainAttrs_list PySem.F.slot_list_append PySem.F.type_list_append mt_append o_append (pf_var 7) (pfa_cons (pf_ty call_tuple_of o_tuple (by rfl) B.tuple boot_tuple (pfa_cons (pf_fz (pfn_lc (own := [("k", 6)]) rfl nd (pfi_sq (pf_var 10)) (blkOk_by (own := [("k", 6)]) (N := ["draws", "times", "minutes", "here", "time", "catalog", "k", "due", "place", "own", "group"]) (by with_unfolding_all rfl)) (fun _ _ _ _ _ => pfg_name (i := 6) nd rfl (by first | exact Or.inl rfl | exact Or.inr rfl)) (fun _ _ _ _ _ => pfts_nil) (fun _ _ _ _ _ => pf_ix ix_seq o_ix (pf_var 9) (pf_var 6) (fun _ _ => rfl)))) (pfa_nil))) (pfa_nil)))))))))
      (pfs_cons (pfs_if (pft_not (pft_tru (pf_callC C_law_same (hr.mono (by decide)) (by rfl) (pfa_cons (pf_callC Cclusters_of (hr.mono (by decide)) (by rfl) (pfa_cons (pf_var 5) (pfa_cons (pf_int) (pfa_cons (pf_var 2) (pfa_nil)))) (len_cons (len_cons (len_cons len_nil)))) (pfa_cons (pf_ty call_tuple_of o_tuple (by rfl) B.tuple boot_tuple (pfa_cons (pf_fz (pfn_b (cr_sortedA hr.units) o_sortA (by rfl) B.sorted boot_sorted (pfa_cons (pf_var 7) (pfa_nil)))) (pfa_nil))) (pfa_nil))) (len_cons (len_cons len_nil)))))
      (pfs_one (pfs_ret (pf_bl)))
      (pfs_nil))
      (pfs_one (pfs_ret (pf_callC C_law_same (hr.mono (by decide)) (by rfl) (pfa_cons (pf_callC Cclusters_of (hr.mono (by decide)) (by rfl) (pfa_cons (pf_var 5) (pfa_cons (pf_int) (pfa_cons (pf_var 2) (pfa_nil)))) (len_cons (len_cons (len_cons len_nil)))) (pfa_cons (pf_callC C_law_groups (hr.mono (by decide)) (by rfl) (pfa_cons (pf_var 1) (pfa_cons (pf_var 2) (pfa_nil))) (len_cons (len_cons len_nil))) (pfa_nil))) (len_cons (len_cons len_nil)))))))))
abbrev stlaw : Stmt := topS 29
theorem sclaw : FnScope ["script", "draws", "k", "times", "gaps", "at", "minutes", "catalog", "time"] ["script"] (defScope stlaw) := ⟨rfl, rfl, rfl, by decide +kernel, rfl, by decide +kernel, by decide +kernel⟩
theorem oklaw {f : Addr} {fd : FuncData} (F : FunD K "law" "law" (defArgs stlaw) (defBody stlaw) (defScope stlaw) [] [] f fd) (g : mg "law" = some (.ref f)) (B : Bn mg) (C_law_draws : Cal P w K mg base 1 "_law_draws" q_law_draws 2) (C_law_times : Cal P w K mg base 3 "_law_times" q_law_times 4) (C_law_take : Cal P w K mg base 1 "_law_take" q_law_take 2) (C_law_one_right : Cal P w K mg base 14 "_law_one_right" q_law_one_right 3) (C_law_two_right : Cal P w K mg base 14 "_law_two_right" q_law_two_right 3) (C_law_same : Cal P w K mg base 13 "_law_same" q_law_same 2) (Cclusters_of : Cal P w K mg base 3 "clusters_of" qclusters_of 3) (Cleast_minutes : Cal P w K mg base 2 "least_minutes" qleast_minutes 2) (Cthinned_times : Cal P w K mg base 1 "thinned_times" qthinned_times 2) (Csteps_of : Cal P w K mg base 1 "steps_of" qsteps_of 2) : FnOk P w K mg base CX0 15 f fd ["script"] (spOf K claw 1) := by
  have nd := sclaw.nd
  refine (fn_ok (k := 14) F sclaw fun cdv A outer s H E hr => ?_)
  exact pfs_cons (pfs_set (i := 1) nd rfl (by first | exact Or.inl rfl | exact Or.inr rfl) (pf_callC C_law_draws (hr.mono (by decide)) (by rfl) (pfa_cons (pf_var 0) (pfa_cons (pf_int) (pfa_nil))) (len_cons (len_cons len_nil))))
      (pfs_cons (pfs_for (vs := [2]) PassesOwn.never rfl (pfi_rg1 (by rfl) B.range (pfa_cons (pf_int) (pfa_nil))) (pfg_name (i := 2) nd rfl (by first | exact Or.inl rfl | exact Or.inr rfl))
      (pfs_cons (pfs_set (i := 3) nd rfl (by first | exact Or.inl rfl | exact Or.inr rfl) (pf_callCS 0 C_law_times (hr.mono (by decide)) (by rfl) (pfa_cons (pf_var 1) (pfa_cons (pf_var 0) (pfa_cons (pf_callCS 0 C_law_take (hr.mono (by decide)) (by rfl) (pfa_cons (pf_var 1) (pfa_cons (pf_ix ix_seq o_ix (pf_fz (pfn_lst (pfa_cons (pf_int) (pfa_cons (pf_int) (pfa_cons (pf_int) (pfa_nil)))))) (pf_var 2) (fun _ _ => rfl)) (pfa_nil))) (len_cons (len_cons len_nil))) (pfa_cons (pf_cmp (op_eqD hr.units) o_eq (pf_var 2) (pf_int) (nomark _)) (pfa_nil))))) (len_cons (len_cons (len_cons (len_cons len_nil))))))
      (pfs_cons (pfs_set (i := 4) nd rfl (by first | exact Or.inl rfl | exact Or.inr rfl) (pf_bin op_addA o_add (pf_fz (pfn_lst (pfa_cons (pf_int) (pfa_nil)))) (pf_fz (pfn_lc (own := [("at", 5)]) rfl nd (pfi_rg2 (by rfl) B.range (pfa_cons (pf_int) (pfa_cons (pf_b call_len o_len (by rfl) B.len boot_len (pfa_cons (pf_var 3) (pfa_nil))) (pfa_nil)))) (blkOk_by (own := [("at", 5)]) (N := ["script", "draws", "k", "times", "gaps", "at", "minutes", "catalog", "time"]) (by with_unfolding_all rfl)) (fun _ _ _ _ _ => pfg_name (i := 5) nd rfl (by first | exact Or.inl rfl | exact Or.inr rfl)) (fun _ _ _ _ _ => pfts_nil) (fun _ _ _ _ _ => pf_bin op_sub o_sub (pf_ix ix_seq o_ix (pf_var 3) (pf_var 5) (fun _ _ => rfl)) (pf_ix ix_seq o_ix (pf_var 3) (pf_bin op_sub o_sub (pf_var 5) (pf_int)) (fun _ _ => rfl)))))))
      (pfs_one (pfs_for (vs := [6]) PassesOwn.never rfl (pfi_sq (pf_fz (pfn_lst (pfa_cons (pf_callCS 0 C_law_take (hr.mono (by decide)) (by rfl) (pfa_cons (pf_var 1) (pfa_cons (pf_int) (pfa_nil))) (len_cons (len_cons len_nil))) (pfa_cons (pf_callCS 0 C_law_take (hr.mono (by decide)) (by rfl) (pfa_cons (pf_var 1) (pfa_cons (pf_int) (pfa_nil))) (len_cons (len_cons len_nil))) (pfa_cons (pf_ix ix_seq o_ix (pf_var 4) (pf_callCS 0 C_law_take (hr.mono (by decide)) (by rfl) (pfa_cons (pf_var 1) (pfa_cons (pf_b call_len o_len (by rfl) B.len boot_len (pfa_cons (pf_var 4) (pfa_nil))) (pfa_nil))) (len_cons (len_cons len_nil))) (fun _ _ => rfl)) (pfa_cons (pf_b (cr_maxDt rfl hr.units) o_max1 (by rfl) B.max boot_max (pfa_cons (pf_var 4) (pfa_nil))) (pfa_nil)))))))) (pfg_name (i := 6) nd rfl (by first | exact Or.inl rfl | exact Or.inr rfl))
      (pfs_one (pfs_if (PW.pt (pfw_or (pft_not (pft_tru (pf_callCS 0 C_law_one_right (hr.mono (by decide)) (by rfl) (pfa_cons (pf_var 1) (pfa_cons (pf_var 3) (pfa_cons (pf_var 6) (pfa_nil)))) (len_cons (len_cons (len_cons len_nil)))))) (pfw_or1 (pft_not (pft_tru (pf_callCS 0 C_law_two_right (hr.mono (by decide)) (by rfl) (pfa_cons (pf_var 1) (pfa_cons (pf_var 3) (pfa_cons (pf_var 6) (pfa_nil)))) (len_cons (len_cons (len_cons len_nil)))))))))
      (pfs_one (pfs_ret (pf_bl)))
      (pfs_nil))))))))
      (pfs_cons (pfs_set (i := 3) nd rfl (by first | exact Or.inl rfl | exact Or.inr rfl) (pf_tup (pfa_cons (pf_int) (pfa_cons (pf_int) (pfa_cons (pf_int) (pfa_cons (pf_int) (pfa_cons (pf_int) (pfa_nil))))))))
      (pfs_cons (pfs_set (i := 7) nd rfl (by first | exact Or.inl rfl | exact Or.inr rfl) (pf_ty call_tuple_of o_tuple (by rfl) B.tuple boot_tuple (pfa_cons (pf_fz (pfn_lc (own := [("time", 8)]) rfl nd (pfi_sq (pf_var 3)) (blkOk_by (own := [("time", 8)]) (N := ["script", "draws", "k", "times", "gaps", "at", "minutes", "catalog", "time"]) (by with_unfolding_all rfl)) (fun _ _ _ _ _ => pfg_name (i := 8) nd rfl (by first | exact Or.inl rfl | exact Or.inr rfl)) (fun _ _ _ _ _ => pfts_nil) (fun _ _ _ _ _ => pf_tup (pfa_cons (pf_var 8) (pfa_cons (pf_tup (pfa_cons (pf_int) (pfa_cons (pf_int) (pfa_nil)))) (pfa_cons (pf_int) (pfa_nil))))))) (pfa_nil))))
      (pfs_cons (pfs_if (PW.pt (pfw_or (pft_not (pft_tru (pf_callC C_law_same (hr.mono (by decide)) (by rfl) (pfa_cons (pf_callC Cclusters_of (hr.mono (by decide)) (by rfl) (pfa_cons (pf_var 7) (pfa_cons (pf_int) (pfa_cons (pf_int) (pfa_nil)))) (len_cons (len_cons (len_cons len_nil)))) (pfa_cons (pf_tup (pfa_cons (pf_tup (pfa_cons (pf_int) (pfa_cons (pf_int) (pfa_cons (pf_int) (pfa_nil))))) (pfa_cons (pf_tup (pfa_cons (pf_int) (pfa_cons (pf_int) (pfa_nil)))) (pfa_nil)))) (pfa_nil))) (len_cons (len_cons len_nil))))) (pfw_or (pft_not (pft_tru (pf_callC C_law_same (hr.mono (by decide)) (by rfl) (pfa_cons (pf_callC Cleast_minutes (hr.mono (by decide)) (by rfl) (pfa_cons (pf_var 7) (pfa_cons (pf_int) (pfa_nil))) (len_cons (len_cons len_nil))) (pfa_cons (pf_int) (pfa_nil))) (len_cons (len_cons len_nil))))) (pfw_or1 (pft_not (pft_tru (pf_callC C_law_same (hr.mono (by decide)) (by rfl) (pfa_cons (pf_callC Cthinned_times (hr.mono (by decide)) (by rfl) (pfa_cons (pf_var 3) (pfa_cons (pf_int) (pfa_nil))) (len_cons (len_cons len_nil))) (pfa_cons (pf_tup (pfa_cons (pf_int) (pfa_cons (pf_int) (pfa_nil)))) (pfa_nil))) (len_cons (len_cons len_nil)))))))))
      (pfs_one (pfs_ret (pf_bl)))
      (pfs_nil))
      (pfs_one (pfs_ret (pf_and (pf_callC C_law_same (hr.mono (by decide)) (by rfl) (pfa_cons (pf_callC Csteps_of (hr.mono (by decide)) (by rfl) (pfa_cons (pf_var 3) (pfa_cons (pf_int) (pfa_nil))) (len_cons (len_cons len_nil))) (pfa_cons (pf_tup (pfa_cons (pf_tup (pfa_cons (pf_int) (pfa_nil))) (pfa_cons (pf_tup (pfa_cons (pf_int) (pfa_cons (pf_int) (pfa_nil)))) (pfa_cons (pf_tup (pfa_cons (pf_int) (pfa_cons (pf_int) (pfa_nil)))) (pfa_nil))))) (pfa_nil))) (len_cons (len_cons len_nil))) (pf_one (pf_callCS 0 C_law_one_right (hr.mono (by decide)) (by rfl) (pfa_cons (pf_var 1) (pfa_cons (pf_tup (pfa_nil)) (pfa_cons (pf_int) (pfa_nil)))) (len_cons (len_cons (len_cons len_nil))))))))))))
end
end LP
namespace LP
open PySem PySem.Spec PyProof.Rows L2 PF
section
open L2
def imL : List (Str × String) := []
def fnL : List He.DefD := [⟨("count_in", none), "count_in", "count_in", defArgs stcount_in, defBody stcount_in, defScope stcount_in, [], []⟩,
  ⟨("most_in", none), "most_in", "most_in", defArgs stmost_in, defBody stmost_in, defScope stmost_in, [], []⟩,
  ⟨("gaps_of", none), "gaps_of", "gaps_of", defArgs stgaps_of, defBody stgaps_of, defScope stgaps_of, [], []⟩,
  ⟨("longest_quiet", none), "longest_quiet", "longest_quiet", defArgs stlongest_quiet, defBody stlongest_quiet, defScope stlongest_quiet, [], []⟩,
  ⟨("thinned_times", none), "thinned_times", "thinned_times", defArgs stthinned_times, defBody stthinned_times, defScope stthinned_times, [], []⟩,
  ⟨("how_far", none), "how_far", "how_far", defArgs sthow_far, defBody sthow_far, defScope sthow_far, [], []⟩,
  ⟨("are_linked", none), "are_linked", "are_linked", defArgs stare_linked, defBody stare_linked, defScope stare_linked, [], []⟩,
  ⟨("put_together", none), "put_together", "put_together", defArgs stput_together, defBody stput_together, defScope stput_together, [], []⟩,
  ⟨("clusters_of", none), "clusters_of", "clusters_of", defArgs stclusters_of, defBody stclusters_of, defScope stclusters_of, [], []⟩,
  ⟨("main_of", none), "main_of", "main_of", defArgs stmain_of, defBody stmain_of, defScope stmain_of, [], []⟩,
  ⟨("main_shocks", none), "main_shocks", "main_shocks", defArgs stmain_shocks, defBody stmain_shocks, defScope stmain_shocks, [], []⟩,
  ⟨("thinned", none), "thinned", "thinned", defArgs stthinned, defBody stthinned, defScope stthinned, [], []⟩,
  ⟨("before_and_after", none), "before_and_after", "before_and_after", defArgs stbefore_and_after, defBody stbefore_and_after, defScope stbefore_and_after, [], []⟩,
  ⟨("least_minutes", none), "least_minutes", "least_minutes", defArgs stleast_minutes, defBody stleast_minutes, defScope stleast_minutes, [], []⟩,
  ⟨("steps_of", none), "steps_of", "steps_of", defArgs ststeps_of, defBody ststeps_of, defScope ststeps_of, [], []⟩,
  ⟨("_law_draws", none), "_law_draws", "_law_draws", defArgs st_law_draws, defBody st_law_draws, defScope st_law_draws, [], []⟩,
  ⟨("_law_take", none), "_law_take", "_law_take", defArgs st_law_take, defBody st_law_take, defScope st_law_take, [], []⟩,
  ⟨("_law_same", none), "_law_same", "_law_same", defArgs st_law_same, defBody st_law_same, defScope st_law_same, [], []⟩,
  ⟨("_law_size", none), "_law_size", "_law_size", defArgs st_law_size, defBody st_law_size, defScope st_law_size, [], []⟩,
  ⟨("_law_times", none), "_law_times", "_law_times", defArgs st_law_times, defBody st_law_times, defScope st_law_times, [], []⟩,
  ⟨("_law_in", none), "_law_in", "_law_in", defArgs st_law_in, defBody st_law_in, defScope st_law_in, [], []⟩,
  ⟨("_law_groups", none), "_law_groups", "_law_groups", defArgs st_law_groups, defBody st_law_groups, defScope st_law_groups, [], []⟩,
  ⟨("_law_one_right", none), "_law_one_right", "_law_one_right", defArgs st_law_one_right, defBody st_law_one_right, defScope st_law_one_right, [], []⟩,
  ⟨("_law_two_right", none), "_law_two_right", "_law_two_right", defArgs st_law_two_right, defBody st_law_two_right, defScope st_law_two_right, [], []⟩,
  ⟨("law", none), "law", "law", defArgs stlaw, defBody stlaw, defScope stlaw, [], []⟩]
def faL : List He.Fa := [.free "len", .free "int", .free "abs", .free "tuple", .free "list", .free "range", .free "isinstance", .free "bool", .free "str", .free "min", .free "max", .free "sum", .free "sorted", .free "any", .free "all", .free "set", .free "dict", .free "type", .glo "count_in", .glo "most_in", .glo "gaps_of", .glo "longest_quiet", .glo "thinned_times", .glo "how_far", .glo "are_linked", .glo "put_together", .glo "clusters_of", .glo "main_of", .glo "main_shocks", .glo "thinned", .glo "before_and_after", .glo "least_minutes", .glo "steps_of", .glo "_law_draws", .glo "_law_take", .glo "_law_same", .glo "_law_size", .glo "_law_times", .glo "_law_in", .glo "_law_groups", .glo "_law_one_right", .glo "_law_two_right", .glo "law"]
abbrev LR : PySem.W.OpenRow := PySem.W.OpenLaw.row PySem.Challenge.rw_shocksknown_k95_whole_times_as_clusters
abbrev hkL : PySem.W.Hook := hkX 4 imL faL fnL
def obL (s : PySem.W.SharedT) : Bool × He.AlD := obX 4 imL faL fnL (HandSHeadRun.getT s)
theorem obL_eq (s : PySem.W.SharedT) : obL s = hkL.obs s.abs := obX_eq (HandSHeadRun.getT_eq s)
theorem runL (w : World) : HandSHeadRun.RunEq LR (PySem.W.view LR.prog [29]) hkL obL 3000 [("count_in" : Str), ("most_in" : Str), ("gaps_of" : Str), ("longest_quiet" : Str), ("thinned_times" : Str), ("how_far" : Str), ("are_linked" : Str), ("put_together" : Str), ("clusters_of" : Str), ("main_of" : Str), ("main_shocks" : Str), ("thinned" : Str), ("before_and_after" : Str), ("least_minutes" : Str), ("steps_of" : Str), ("_law_draws" : Str), ("_law_take" : Str), ("_law_same" : Str), ("_law_size" : Str), ("_law_times" : Str), ("_law_in" : Str), ("_law_groups" : Str), ("_law_one_right" : Str), ("_law_two_right" : Str)] w := by
  intro os
  kernel_rfl
theorem bnL : ∀ (i : Nat) (x : Str), bnNames[i]? = some x → faL[i]? = some (He.Fa.free x) := by
  intro i x h
  match i, h with
  | 0, h => cases h; rfl
  | 1, h => cases h; rfl
  | 2, h => cases h; rfl
  | 3, h => cases h; rfl
  | 4, h => cases h; rfl
  | 5, h => cases h; rfl
  | 6, h => cases h; rfl
  | 7, h => cases h; rfl
  | 8, h => cases h; rfl
  | 9, h => cases h; rfl
  | 10, h => cases h; rfl
  | 11, h => cases h; rfl
  | 12, h => cases h; rfl
  | 13, h => cases h; rfl
  | 14, h => cases h; rfl
  | 15, h => cases h; rfl
  | 16, h => cases h; rfl
  | 17, h => cases h; rfl
  | n + 18, h => cases (show (none : Option Str) = _ from h)
theorem factsL {P : Program} {w : World} {K : PySem.W.Frag} {h : Heap} {mg : Str → Option Value} {f : Addr} (X : K.In h) (G : h.Ns mainGlobals mg) (hfa : mg ("law" : Str) = some (.ref f)) (c : SaysX imL faL fnL K) :
    ∃ fd : FuncData, (∀ (s : Shared) (v : Value), BindsTo s fd ⟨[v], []⟩ [("script", v)]) ∧ ∀ base : Heap, K.In base → base.Ns mainGlobals mg → FnOk P w K mg base CX0 15 f fd ["script"] (spLaw K) := by
  have B : Bn mg := bn_at X G c bnL
  obtain ⟨fd, F⟩ := c.d.def_ 24 rfl
  have e := hfa.symm.trans (fun_at X G c (x := "law") 42 rfl)
  cases e
  have b := FunD.bindsA (ps := ["script"]) F fun _ _ _ _ _ _ us hl => match us, hl with | [_], _ => rfl
  refine ⟨fd, fun s v => b s [v] rfl, fun base _ _ => ?_⟩
  obtain ⟨_, Fcount_in⟩ := c.d.def_ 0 rfl
  have Ccount_in : Cal P w K mg base 1 "count_in" qcount_in 3 := (okcount_in Fcount_in (fun_at X G c (x := "count_in") 18 rfl) B).as hqcount_in
  obtain ⟨_, Fmost_in⟩ := c.d.def_ 1 rfl
  have Cmost_in : Cal P w K mg base 2 "most_in" qmost_in 2 := (okmost_in Fmost_in (fun_at X G c (x := "most_in") 19 rfl) B Ccount_in).as hqmost_in
  obtain ⟨_, Fgaps_of⟩ := c.d.def_ 2 rfl
  have Cgaps_of : Cal P w K mg base 1 "gaps_of" qgaps_of 1 := (okgaps_of Fgaps_of (fun_at X G c (x := "gaps_of") 20 rfl) B).as hqgaps_of
  obtain ⟨_, Flongest_quiet⟩ := c.d.def_ 3 rfl
  have Clongest_quiet : Cal P w K mg base 1 "longest_quiet" qlongest_quiet 3 := (oklongest_quiet Flongest_quiet (fun_at X G c (x := "longest_quiet") 21 rfl) B).as hqlongest_quiet
  obtain ⟨_, Fthinned_times⟩ := c.d.def_ 4 rfl
  have Cthinned_times : Cal P w K mg base 1 "thinned_times" qthinned_times 2 := (okthinned_times Fthinned_times (fun_at X G c (x := "thinned_times") 22 rfl) B).as hqthinned_times
  obtain ⟨_, Fhow_far⟩ := c.d.def_ 5 rfl
  have Chow_far : Cal P w K mg base 1 "how_far" qhow_far 2 := (okhow_far Fhow_far (fun_at X G c (x := "how_far") 23 rfl) B).as hqhow_far
  obtain ⟨_, Fare_linked⟩ := c.d.def_ 6 rfl
  have Care_linked : Cal P w K mg base 2 "are_linked" qare_linked 4 := (okare_linked Fare_linked (fun_at X G c (x := "are_linked") 24 rfl) B Chow_far).as hqare_linked
  obtain ⟨_, Fput_together⟩ := c.d.def_ 7 rfl
  have Cput_together : Cal P w K mg base 1 "put_together" qput_together 3 := (okput_together Fput_together (fun_at X G c (x := "put_together") 25 rfl) B).as hqput_together
  obtain ⟨_, Fclusters_of⟩ := c.d.def_ 8 rfl
  have Cclusters_of : Cal P w K mg base 3 "clusters_of" qclusters_of 3 := (okclusters_of Fclusters_of (fun_at X G c (x := "clusters_of") 26 rfl) B Care_linked Cput_together).as hqclusters_of
  obtain ⟨_, Fmain_of⟩ := c.d.def_ 9 rfl
  have Cmain_of : Cal P w K mg base 1 "main_of" qmain_of 2 := (okmain_of Fmain_of (fun_at X G c (x := "main_of") 27 rfl) B).as hqmain_of
  obtain ⟨_, Fmain_shocks⟩ := c.d.def_ 10 rfl
  have Cmain_shocks : Cal P w K mg base 4 "main_shocks" qmain_shocks 3 := (okmain_shocks Fmain_shocks (fun_at X G c (x := "main_shocks") 28 rfl) B Cclusters_of Cmain_of).as hqmain_shocks
  obtain ⟨_, Fthinned⟩ := c.d.def_ 11 rfl
  have Cthinned : Cal P w K mg base 5 "thinned" qthinned 3 := (okthinned Fthinned (fun_at X G c (x := "thinned") 29 rfl) B Cmain_shocks).as hqthinned
  obtain ⟨_, Fbefore_and_after⟩ := c.d.def_ 12 rfl
  have Cbefore_and_after : Cal P w K mg base 4 "before_and_after" qbefore_and_after 3 := (okbefore_and_after Fbefore_and_after (fun_at X G c (x := "before_and_after") 30 rfl) B Cclusters_of Cmain_of).as hqbefore_and_after
  obtain ⟨_, Fleast_minutes⟩ := c.d.def_ 13 rfl
  have Cleast_minutes : Cal P w K mg base 2 "least_minutes" qleast_minutes 2 := (okleast_minutes Fleast_minutes (fun_at X G c (x := "least_minutes") 31 rfl) B Chow_far Cput_together).as hqleast_minutes
  obtain ⟨_, Fsteps_of⟩ := c.d.def_ 14 rfl
  have Csteps_of : Cal P w K mg base 1 "steps_of" qsteps_of 2 := (oksteps_of Fsteps_of (fun_at X G c (x := "steps_of") 32 rfl) B).as hqsteps_of
  obtain ⟨_, F_law_draws⟩ := c.d.def_ 15 rfl
  have C_law_draws : Cal P w K mg base 1 "_law_draws" q_law_draws 2 := (ok_law_draws F_law_draws (fun_at X G c (x := "_law_draws") 33 rfl) B).as hq_law_draws
  obtain ⟨_, F_law_take⟩ := c.d.def_ 16 rfl
  have C_law_take : Cal P w K mg base 1 "_law_take" q_law_take 2 := (ok_law_take F_law_take (fun_at X G c (x := "_law_take") 34 rfl) B).as hq_law_take
  obtain ⟨_, F_law_same⟩ := c.d.def_ 17 rfl
  have C_law_same : Cal P w K mg base 13 "_law_same" q_law_same 2 := (ok_law_same F_law_same (fun_at X G c (x := "_law_same") 35 rfl) B 12).as hq_law_same
  obtain ⟨_, F_law_size⟩ := c.d.def_ 18 rfl
  have C_law_size : Cal P w K mg base 2 "_law_size" q_law_size 2 := (ok_law_size F_law_size (fun_at X G c (x := "_law_size") 36 rfl) B C_law_take).as hq_law_size
  obtain ⟨_, F_law_times⟩ := c.d.def_ 19 rfl
  have C_law_times : Cal P w K mg base 3 "_law_times" q_law_times 4 := (ok_law_times F_law_times (fun_at X G c (x := "_law_times") 37 rfl) B C_law_take C_law_size).as hq_law_times
  obtain ⟨_, F_law_in⟩ := c.d.def_ 20 rfl
  have C_law_in : Cal P w K mg base 1 "_law_in" q_law_in 3 := (ok_law_in F_law_in (fun_at X G c (x := "_law_in") 38 rfl) B).as hq_law_in
  obtain ⟨_, F_law_groups⟩ := c.d.def_ 21 rfl
  have C_law_groups : Cal P w K mg base 1 "_law_groups" q_law_groups 2 := (ok_law_groups F_law_groups (fun_at X G c (x := "_law_groups") 39 rfl) B).as hq_law_groups
  obtain ⟨_, F_law_one_right⟩ := c.d.def_ 22 rfl
  have C_law_one_right : Cal P w K mg base 14 "_law_one_right" q_law_one_right 3 := (ok_law_one_right F_law_one_right (fun_at X G c (x := "_law_one_right") 40 rfl) B C_law_groups C_law_take C_law_same Cclusters_of Cmain_shocks Cgaps_of Cleast_minutes Csteps_of Cthinned_times Cmost_in Clongest_quiet Cbefore_and_after Cthinned).as hq_law_one_right
  obtain ⟨_, F_law_two_right⟩ := c.d.def_ 23 rfl
  have C_law_two_right : Cal P w K mg base 14 "_law_two_right" q_law_two_right 3 := (ok_law_two_right F_law_two_right (fun_at X G c (x := "_law_two_right") 41 rfl) B C_law_take C_law_groups C_law_same Cclusters_of).as hq_law_two_right
  exact (oklaw F (fun_at X G c (x := "law") 42 rfl) B C_law_draws C_law_times C_law_take C_law_one_right C_law_two_right C_law_same Cclusters_of Cleast_minutes Cthinned_times Csteps_of).imp (law_sp law_data)
end
end LP
open PySem PySem.W PySem.Calls PyProof.Rows
theorem PySem.Challenge.cw_shocksknown_k95_whole_times_as_clusters_holds : PySem.Challenge.rw_shocksknown_k95_whole_times_as_clusters.Holds := by
  w_on; o_law
  refine HandSHeadRun.head_any (r := LP.LR) (q := view LP.LR.prog [29]) (H := LP.hkL) (ob := LP.obL) (M := 3000) (loose := [("count_in" : Str), ("most_in" : Str), ("gaps_of" : Str), ("longest_quiet" : Str), ("thinned_times" : Str), ("how_far" : Str), ("are_linked" : Str), ("put_together" : Str), ("clusters_of" : Str), ("main_of" : Str), ("main_shocks" : Str), ("thinned" : Str), ("before_and_after" : Str), ("least_minutes" : Str), ("steps_of" : Str), ("_law_draws" : Str), ("_law_take" : Str), ("_law_same" : Str), ("_law_size" : Str), ("_law_times" : Str), ("_law_in" : Str), ("_law_groups" : Str), ("_law_one_right" : Str), ("_law_two_right" : Str)]) (d := HandSHeadRun.topDef LP.LR.prog 29) (kwd := []) LP.obL_eq
    (by kernel_rfl) (fun s => by kernel_rfl) LP.runL (by kernel_rfl) (by kernel_rfl) (by kernel_rfl) (by rfl) (by first | assumption | decide +kernel) (by decide +kernel) ⟨rfl, rfl, rfl, rfl, rfl, by decide +kernel⟩ ?hw ?hc
  case hw => w_witness2
  case hc =>
    refine L2.walk_ofE (l := PySem.Challenge.rw_shocksknown_k95_whole_times_as_clusters) (n := 63) (k := 15) (x := "script") (CX := L2.CX0) rfl (by decide) (by kernel_rfl) ⟨rfl, by decide, by decide⟩ ?F (fun _ _ _ _ z => z)
    intro w mg fa h Y G hmg0
    obtain ⟨K, KX, c⟩ := Y
    have hmg : mg ("law" : PySem.Str) = some (.ref fa) := by
      have e : (HandSHeadRun.topDef LP.LR.prog 29).name = ("law" : PySem.Str) := by kernel_rfl
      rw [← e]
      exact hmg0
    obtain ⟨fd, hb, hF⟩ := LP.factsL (P := (PySem.Challenge.rw_shocksknown_k95_whole_times_as_clusters).prog) (w := w) KX G hmg c
    exact ⟨K, fd, PF.spLaw K, KX, hb, fun H a ns hl hO hS => ⟨a, ns, rfl, hS, hO, hl, fun _ => rfl⟩, hF⟩
