import PyProof.Rows.All
import Wide.All
import OpenK.AllK
import Wide.FinOn
import KE.KStateDown
import HandS.ForMost
import HandS.IsInst
import HandS.Wide
import HandS.Gcd
import HandS.Style
import HandS.Flow
import HandS.TupAny
import HandS.Conv
import HandS.Comp
import HandS.HeadHook2
import HandS.HeadEnd
import HandS.Head0
import HandS.Head1
import HandS.Head2
import HandS.HeadHook1
import HandS.Head3
import HandS.Deep
import KE.DataMinMax
import HandS.TupMul
import KE.KTupSum
import KE.SortData
import HandS.SetFor
import HandS.Strs
import HandS.TupSets
import HandS.TryOnly
import PySem.Challenge.RW_shocksknown_k28_whole_places_that_statio
set_option Elab.async false
set_option linter.all false
set_option maxRecDepth 100000
set_option maxHeartbeats 0
namespace PF
open PySem PySem.Spec PyProof.Rows L2
/-- data as the proofs see it: ref n is the n-th changeable list of the state; lst: a list that nobody changes any more; kst: a list that stood before (the script) -/
inductive D where
  | non | bl (b : Bool) | int (i : Int) | str (x : Str) | tup (xs : List D) | lst (xs : List D) | kst (xs : List D) | ref (n : Nat)
inductive MO where
  | lst (xs : List D)
abbrev Mem := List MO
abbrev Rho := List (Option D)
structure Wo where
  as : List Addr
  bad : Addr → Prop
  H : Hp
abbrev LINE : Nat := 16777216
theorem line_eq : sizeLine = LINE := sizeLine_eq
section
variable (K : PySem.W.Frag) (W : Wo)
def FzL (a : Addr) (vs : List V) : Prop := (W.H a = some (.lst vs) ∧ ¬ W.bad a) ∧ vs.length ≤ LINE
def FzK (a : Addr) (vs : List V) : Prop := (((∃ o, W.H a = some (.frz o (.lst vs))) ∧ ¬ W.bad a) ∨ SqL K (fun _ => none) a vs) ∧ vs.length ≤ LINE
def FzT (a : Addr) (vs : List V) : Prop := ((W.H a = some (.tup vs) ∧ ¬ W.bad a) ∨ SqT K (fun _ => none) a vs) ∧ vs.length ≤ LINE
mutual
def Rp : D → V → Prop
  | .non, v => v = .non
  | .bl b, v => v = .bl b
  | .int i, v => v = .int i
  | .str x, v => v = .str x
  | .tup ds, v => ∃ a vs, v = .ref a ∧ FzT K W a vs ∧ RpL ds vs
  | .lst ds, v => ∃ a vs, v = .ref a ∧ FzL W a vs ∧ RpL ds vs
  | .kst ds, v => ∃ a vs, v = .ref a ∧ FzK K W a vs ∧ RpL ds vs
  | .ref n, v => ∃ a, W.as[n]? = some a ∧ v = .ref a
def RpL : List D → List V → Prop
  | [], vs => vs = []
  | d :: ds, vs => ∃ v r, vs = v :: r ∧ Rp d v ∧ RpL ds r
end
def MoOk (a : Addr) : MO → Prop
  | .lst ds => ∃ vs, (W.H a = some (.lst vs) ∧ vs.length ≤ LINE) ∧ RpL K W ds vs
structure SR (M : Mem) : Prop where
  len : W.as.length = M.length
  nd : W.as.Nodup
  sub : ∀ a ∈ W.as, W.bad a
  bt : ∀ a, W.bad a → ∃ o, W.H a = some o
  obj : ∀ (n : Nat) (a : Addr) (mo : MO), W.as[n]? = some a → M[n]? = some mo → MoOk K W a mo
structure Sl (ρ : Rho) (σ : L2.St) : Prop where
  len : ρ.length = σ.length
  at_ : ∀ (i : Nat) (d : D), ρ[i]? = some (some d) → ∃ v, σ[i]? = some (some v) ∧ Rp K W d v
end
/-- one state behind another -/
structure Ext (W W' : Wo) : Prop where
  as : ∃ new, W'.as = W.as ++ new ∧ ∀ a ∈ new, W.H a = none
  bad : ∀ a, W.bad a → W'.bad a
  new : ∀ a, W'.bad a → W.bad a ∨ W.H a = none
  keep : ∀ a o, a ∉ W.as → W.H a = some o → W'.H a = some o
  live : ∀ a o, W.H a = some o → ∃ o', W'.H a = some o'
theorem Ext.refl (W : Wo) : Ext W W := ⟨⟨[], by simp, fun _ h => by simp at h⟩, fun _ h => h, fun _ h => .inl h, fun _ _ _ h => h, fun _ o h => ⟨o, h⟩⟩
theorem none_of_live {W W' : Wo} (e : Ext W W') {a : Addr} (h : W'.H a = none) : W.H a = none := by
  cases q : W.H a with
  | none => rfl
  | some o => obtain ⟨o', h'⟩ := e.live a o q; rw [h] at h'; cases h'
theorem Ext.trans {W W1 W2 : Wo} (e : Ext W W1) (e' : Ext W1 W2) : Ext W W2 := by
  obtain ⟨n1, h1, f1⟩ := e.as
  obtain ⟨n2, h2, f2⟩ := e'.as
  refine ⟨⟨n1 ++ n2, by rw [h2, h1, List.append_assoc], fun a ha => ?_⟩, fun a h => e'.bad a (e.bad a h), fun a h => ?_, fun a o ha h => ?_, fun a o h => ?_⟩
  · rcases List.mem_append.mp ha with h | h
    · exact f1 a h
    · exact none_of_live e (f2 a h)
  · rcases e'.new a h with h | h
    · exact e.new a h
    · exact .inr (none_of_live e h)
  · refine e'.keep a o (fun z => ?_) (e.keep a o ha h)
    rw [h1] at z
    rcases List.mem_append.mp z with z | z
    · exact ha z
    · rw [f1 a z] at h; cases h
  · obtain ⟨o', h'⟩ := e.live a o h
    exact e'.live a o' h'
section
variable {K : PySem.W.Frag} {W W' : Wo}
theorem Ext.frz {a : Addr} {u : HO} (e : Ext W W') (hs : ∀ a ∈ W.as, W.bad a) (h : W.H a = some u ∧ ¬ W.bad a) : W'.H a = some u ∧ ¬ W'.bad a := by
  obtain ⟨h, nb⟩ := h
  have na : a ∉ W.as := fun z => nb (hs a z)
  refine ⟨e.keep a _ na h, fun z => ?_⟩
  rcases e.new a z with z | z
  · exact nb z
  · rw [h] at z; cases z
mutual
theorem Rp.ext (e : Ext W W') (hs : ∀ a ∈ W.as, W.bad a) : ∀ (d : D) (v : V), Rp K W d v → Rp K W' d v
  | .non, _, h => h
  | .bl _, _, h => h
  | .int _, _, h => h
  | .str _, _, h => h
  | .tup ds, v, h => by
    obtain ⟨a, vs, e1, f, r⟩ := h
    exact ⟨a, vs, e1, ⟨f.1.imp (fun q => e.frz hs q) fun q => q, f.2⟩, RpL.ext e hs ds vs r⟩
  | .lst ds, v, h => by
    obtain ⟨a, vs, e1, f, r⟩ := h
    exact ⟨a, vs, e1, ⟨e.frz hs f.1, f.2⟩, RpL.ext e hs ds vs r⟩
  | .kst ds, v, h => by
    obtain ⟨a, vs, e1, f, r⟩ := h
    refine ⟨a, vs, e1, ⟨f.1.imp (fun q => ?_) fun q => q, f.2⟩, RpL.ext e hs ds vs r⟩
    obtain ⟨⟨o, q⟩, nb⟩ := q
    obtain ⟨q', nb'⟩ := e.frz hs ⟨q, nb⟩
    exact ⟨⟨o, q'⟩, nb'⟩
  | .ref n, v, h => by
    obtain ⟨a, h1, h2⟩ := h
    obtain ⟨new, h3, _⟩ := e.as
    refine ⟨a, ?_, h2⟩
    rw [h3]
    exact (List.getElem?_append_left (List.getElem?_eq_some_iff.mp h1).1).trans h1
theorem RpL.ext (e : Ext W W') (hs : ∀ a ∈ W.as, W.bad a) : ∀ (ds : List D) (vs : List V), RpL K W ds vs → RpL K W' ds vs
  | [], _, h => h
  | d :: ds, vs, h => by
    obtain ⟨v, r, e1, h1, h2⟩ := h
    exact ⟨v, r, e1, Rp.ext e hs d v h1, RpL.ext e hs ds r h2⟩
end
theorem Sl.ext {ρ : Rho} {σ : L2.St} (e : Ext W W') (hs : ∀ a ∈ W.as, W.bad a) (h : Sl K W ρ σ) : Sl K W' ρ σ :=
  ⟨h.len, fun i d hd => let ⟨v, h1, h2⟩ := h.at_ i d hd; ⟨v, h1, h2.ext e hs⟩⟩
theorem RpL.len : ∀ {ds : List D} {vs : List V}, RpL K W ds vs → ds.length = vs.length
  | [], _, h => by cases (show _ = _ from h); rfl
  | _ :: _, _, h => by
    obtain ⟨v, r, rfl, _, h2⟩ := h
    simp [RpL.len h2]
theorem RpL.get : ∀ {ds : List D} {vs : List V} {i : Nat} {d : D}, RpL K W ds vs → ds[i]? = some d → ∃ v, vs[i]? = some v ∧ Rp K W d v
  | [], _, _, _, _, h => by simp at h
  | x :: _, _, 0, d, h, e => by
    obtain ⟨v, r, rfl, h1, _⟩ := h
    simp at e; subst e
    exact ⟨v, rfl, h1⟩
  | _ :: _, _, i + 1, d, h, e => by
    obtain ⟨v, r, rfl, _, h2⟩ := h
    obtain ⟨u, a, b⟩ := RpL.get (i := i) (d := d) h2 (by simpa using e)
    exact ⟨u, by simpa using a, b⟩
theorem RpL.append : ∀ {ds es : List D} {vs us : List V}, RpL K W ds vs → RpL K W es us → RpL K W (ds ++ es) (vs ++ us)
  | [], _, _, _, h, h' => by cases (show _ = _ from h); exact h'
  | _ :: _, _, _, _, h, h' => by
    obtain ⟨v, r, rfl, h1, h2⟩ := h
    exact ⟨v, r ++ _, rfl, h1, RpL.append h2 h'⟩
theorem RpL.one {d : D} {v : V} (h : Rp K W d v) : RpL K W [d] [v] := ⟨v, [], rfl, h, rfl⟩
theorem RpL.take : ∀ {ds : List D} {vs : List V} (n : Nat), RpL K W ds vs → RpL K W (ds.take n) (vs.take n)
  | _, _, 0, _ => rfl
  | [], _, _ + 1, h => by cases (show _ = _ from h); rfl
  | _ :: _, _, n + 1, h => by
    obtain ⟨v, r, rfl, h1, h2⟩ := h
    exact ⟨v, _, rfl, h1, RpL.take n h2⟩
theorem RpL.drop : ∀ {ds : List D} {vs : List V} (n : Nat), RpL K W ds vs → RpL K W (ds.drop n) (vs.drop n)
  | _, _, 0, h => h
  | [], _, _ + 1, h => by cases (show _ = _ from h); rfl
  | _ :: _, _, n + 1, h => by
    obtain ⟨v, r, rfl, h1, h2⟩ := h
    exact RpL.drop n h2
theorem RpL.set : ∀ {ds : List D} {vs : List V} {d : D} {v : V} (n : Nat), RpL K W ds vs → Rp K W d v → RpL K W (ds.set n d) (vs.set n v)
  | [], _, _, _, _, h, _ => by cases (show _ = _ from h); exact rfl
  | _ :: _, _, _, _, 0, h, q => by
    obtain ⟨v, r, rfl, h1, h2⟩ := h
    exact ⟨_, _, rfl, q, h2⟩
  | _ :: _, _, _, _, n + 1, h, q => by
    obtain ⟨v, r, rfl, h1, h2⟩ := h
    exact ⟨_, _, rfl, h1, RpL.set n h2 q⟩
theorem RpL.reverse : ∀ {ds : List D} {vs : List V}, RpL K W ds vs → RpL K W ds.reverse vs.reverse
  | [], _, h => by cases (show _ = _ from h); exact rfl
  | d :: ds, _, h => by
    obtain ⟨v, r, rfl, h1, h2⟩ := h
    rw [List.reverse_cons, List.reverse_cons]
    exact (RpL.reverse h2).append (.one h1)
end
/-! ### what a piece of code computes -/
inductive Out where
  | nx (ρ : Rho) | ret (d : D) | bk (ρ : Rho) | ct (ρ : Rho)
abbrev FE := Rho → Mem → Option (D × Mem)
abbrev FT := Rho → Mem → Option (Bool × Mem)
abbrev FA := Rho → Mem → Option (List D × Mem)
abbrev FS := Rho → Mem → Option (Out × Mem)
def liftE (K : PySem.W.Frag) (f : FE) : TE := fun σ H Q => ∃ W ρ M, W.H = H ∧ SR K W M ∧ Sl K W ρ σ ∧ ∃ d M', f ρ M = some (d, M') ∧
  ∀ W' v, Ext W W' → SR K W' M' → Rp K W' d v → Q v W'.H
def liftT (K : PySem.W.Frag) (f : FT) : TT := fun σ H Q => ∃ W ρ M, W.H = H ∧ SR K W M ∧ Sl K W ρ σ ∧ ∃ d M', f ρ M = some (d, M') ∧
  ∀ W', Ext W W' → SR K W' M' → Q d W'.H
def liftA (K : PySem.W.Frag) (f : FA) : TA := fun σ H Q => ∃ W ρ M, W.H = H ∧ SR K W M ∧ Sl K W ρ σ ∧ ∃ d M', f ρ M = some (d, M') ∧
  ∀ W' v, Ext W W' → SR K W' M' → RpL K W' d v → Q v W'.H
/-- a new list comes last, nothing else knows it -/
def liftN (K : PySem.W.Frag) (f : FA) : TE := fun σ H Q => ∃ W ρ M, W.H = H ∧ SR K W M ∧ Sl K W ρ σ ∧ ∃ d M', f ρ M = some (d, M') ∧
  ∀ W' p vs, Ext W W' → SR K W' M' → W'.H p = none → RpL K W' d vs → vs.length ≤ LINE → Q (.ref p) (upd W'.H p (.lst vs))
def liftS (K : PySem.W.Frag) (f : FS) : TS := fun E σ H => ∃ W ρ M, W.H = H ∧ SR K W M ∧ Sl K W ρ σ ∧ ∃ o M', f ρ M = some (o, M') ∧
  match o with
  | .nx ρ' => ∀ W' σ', Ext W W' → SR K W' M' → Sl K W' ρ' σ' → E.nx σ' W'.H
  | .bk ρ' => ∀ W' σ', Ext W W' → SR K W' M' → Sl K W' ρ' σ' → E.bk σ' W'.H
  | .ct ρ' => ∀ W' σ', Ext W W' → SR K W' M' → Sl K W' ρ' σ' → E.ct σ' W'.H
  | .ret d => ∀ W' v, Ext W W' → SR K W' M' → Rp K W' d v → E.rt v W'.H
/-! ### weakening -/
section
variable {X : Cx}
theorem pe_weak {e : Expr} {t t' : TE} (h : PE X e t) (i : ∀ σ H Q, t' σ H Q → t σ H Q) : PE X e t' := ⟨fun pins s σ H Q I q => h.run pins s σ H Q I (i σ H Q q)⟩
theorem pt_weak {e : Expr} {t t' : TT} (h : PT X e t) (i : ∀ σ H Q, t' σ H Q → t σ H Q) : PT X e t' := ⟨fun pins s σ H Q I q => h.run pins s σ H Q I (i σ H Q q)⟩
theorem pw_weak {e : Expr} {t t' : TT} (h : PW X e t) (i : ∀ σ H Q, t' σ H Q → t σ H Q) : PW X e t' := ⟨fun wh pins s σ H Q I q => h.run wh pins s σ H Q I (i σ H Q q)⟩
theorem pa_weak {e : List Expr} {t t' : TA} (h : PA X e t) (i : ∀ σ H Q, t' σ H Q → t σ H Q) : PA X e t' := ⟨fun pos pins s σ H Q I q => h.run pos pins s σ H Q I (i σ H Q q)⟩
theorem ps_weak {e : Stmt} {t t' : TS} (h : PS X e t) (i : ∀ σ H Q, t' σ H Q → t σ H Q) : PS X e t' := ⟨fun pins s σ H D I q => h.run pins s σ H D I (i D σ H q)⟩
theorem pss_weak {e : List Stmt} {t t' : TS} (h : PSs X e t) (i : ∀ σ H Q, t' σ H Q → t σ H Q) : PSs X e t' := ⟨fun pins s σ H D I q => h.run pins s σ H D I (i D σ H q)⟩
abbrev PFE (X : Cx) (e : Expr) (f : FE) : Prop := PE X e (liftE X.K f)
abbrev PFN (X : Cx) (e : Expr) (f : FA) : Prop := PE X e (liftN X.K f)
abbrev PFT (X : Cx) (e : Expr) (f : FT) : Prop := PT X e (liftT X.K f)
abbrev PFW (X : Cx) (e : Expr) (f : FT) : Prop := PW X e (liftT X.K f)
abbrev PFA (X : Cx) (e : List Expr) (f : FA) : Prop := PA X e (liftA X.K f)
abbrev PFS (X : Cx) (e : Stmt) (f : FS) : Prop := PS X e (liftS X.K f)
abbrev PFSs (X : Cx) (e : List Stmt) (f : FS) : Prop := PSs X e (liftS X.K f)
end
end PF
namespace PF
open PySem PySem.Spec PyProof.Rows L2
/-! ### the state's steps -/
section
variable {K : PySem.W.Frag} {W W' : Wo} {M : Mem}
def Wo.put (W : Wo) (p : Addr) (o : HO) : Wo := { W with H := upd W.H p o }
theorem Ext.put {p : Addr} {o : HO} (hp : W.H p = none) : Ext W (W.put p o) :=
  ⟨⟨[], by simp [Wo.put], fun _ h => by simp at h⟩, fun _ h => h, fun _ h => .inl h, fun a u _ h => (upd_ne (ne_of_none h hp)).trans h, fun a u h => ⟨u, (upd_ne (ne_of_none h hp)).trans h⟩⟩
theorem MoOk.ext {a : Addr} {mo : MO} (e : Ext W W') (hs : ∀ a ∈ W.as, W.bad a) (h : MoOk K W a mo) (ha : W'.H a = W.H a) : MoOk K W' a mo := by
  cases mo with
  | lst ds => obtain ⟨vs, h1, h2⟩ := h; exact ⟨vs, ⟨ha.trans h1.1, h1.2⟩, h2.ext e hs⟩
theorem MoOk.there {a : Addr} {mo : MO} (h : MoOk K W a mo) : ∃ o, W.H a = some o := by
  cases mo with
  | lst ds => obtain ⟨vs, h1, h2⟩ := h; exact ⟨_, h1.1⟩
theorem SR.at_ (sr : SR K W M) {n : Nat} {a : Addr} (h : W.as[n]? = some a) : ∃ mo, M[n]? = some mo ∧ MoOk K W a mo := by
  have hn : n < M.length := by rw [← sr.len]; exact (List.getElem?_eq_some_iff.mp h).1
  exact ⟨M[n], by simp [hn], sr.obj n a _ h (by simp [hn])⟩
theorem SR.addr (sr : SR K W M) {n : Nat} {mo : MO} (h : M[n]? = some mo) : ∃ a, W.as[n]? = some a ∧ MoOk K W a mo := by
  have hn : n < W.as.length := by rw [sr.len]; exact (List.getElem?_eq_some_iff.mp h).1
  exact ⟨W.as[n], by simp [hn], sr.obj n _ mo (by simp [hn]) h⟩
theorem SR.put {p : Addr} {o : HO} (sr : SR K W M) (hp : W.H p = none) : SR K (W.put p o) M := by
  refine ⟨sr.len, sr.nd, sr.sub, fun a h => ?_, fun n a mo h1 h2 => ?_⟩
  · obtain ⟨o, q⟩ := sr.bt a h
    exact (Ext.put hp).live a o q
  · have m := sr.obj n a mo h1 h2
    obtain ⟨o', q⟩ := m.there
    exact m.ext (Ext.put hp) sr.sub (upd_ne (ne_of_none q hp))
theorem SR.nb {p : Addr} (sr : SR K W M) (hp : W.H p = none) : ¬ W.bad p := fun z => by
  obtain ⟨o, q⟩ := sr.bt p z
  rw [hp] at q; cases q
theorem Rp.newTup {p : Addr} {ds : List D} {vs : List V} (sr : SR K W M) (hp : W.H p = none) (h : RpL K W ds vs) (hl : vs.length ≤ LINE) : Rp K (W.put p (.tup vs)) (.tup ds) (.ref p) :=
  ⟨p, vs, rfl, ⟨.inl ⟨upd_same, sr.nb hp⟩, hl⟩, h.ext (Ext.put hp) sr.sub⟩
theorem Rp.newLst {p : Addr} {ds : List D} {vs : List V} (sr : SR K W M) (hp : W.H p = none) (h : RpL K W ds vs) (hl : vs.length ≤ LINE) : Rp K (W.put p (.lst vs)) (.lst ds) (.ref p) :=
  ⟨p, vs, rfl, ⟨⟨upd_same, sr.nb hp⟩, hl⟩, h.ext (Ext.put hp) sr.sub⟩
/-- a new changeable list -/
def Wo.mk2 (W : Wo) (p : Addr) (o : HO) : Wo := ⟨W.as ++ [p], fun a => W.bad a ∨ a = p, upd W.H p o⟩
theorem Ext.mk2 {p : Addr} {o : HO} (hp : W.H p = none) : Ext W (W.mk2 p o) := by
  refine ⟨⟨[p], rfl, fun a h => ?_⟩, fun _ h => .inl h, fun a h => ?_, fun a u _ h => (upd_ne (ne_of_none h hp)).trans h, fun a u h => ⟨u, (upd_ne (ne_of_none h hp)).trans h⟩⟩
  · have e : a = p := by simpa using h
    rw [e]; exact hp
  · rcases h with h | h
    · exact .inl h
    · rw [h]; exact .inr hp
theorem SR.mk2 {p : Addr} {ds : List D} {vs : List V} (sr : SR K W M) (hp : W.H p = none) (h : RpL K W ds vs) (hl : vs.length ≤ LINE) : SR K (W.mk2 p (.lst vs)) (M ++ [.lst ds]) := by
  have npa : p ∉ W.as := fun z => sr.nb hp (sr.sub p z)
  have E := Ext.mk2 (W := W) (o := .lst vs) hp
  refine ⟨by simp [Wo.mk2, sr.len], ?_, fun a h => ?_, fun a h => ?_, fun n a mo h1 h2 => ?_⟩
  · show (W.as ++ [p]).Nodup
    rw [List.nodup_append]
    refine ⟨sr.nd, by simp, fun a ha b hb => ?_⟩
    have e : b = p := by simpa using hb
    rw [e]; rintro rfl; exact npa ha
  · rcases List.mem_append.mp h with h | h
    · exact .inl (sr.sub a h)
    · exact .inr (by simpa using h)
  · rcases h with h | h
    · obtain ⟨o, q⟩ := sr.bt a h
      exact E.live a o q
    · rw [h]; exact ⟨_, upd_same⟩
  · have h1' : (W.as ++ [p])[n]? = some a := h1
    by_cases hn : n < W.as.length
    · rw [List.getElem?_append_left hn] at h1'
      rw [List.getElem?_append_left (by rw [← sr.len]; exact hn)] at h2
      have m := sr.obj n a mo h1' h2
      obtain ⟨o', q⟩ := m.there
      exact m.ext E sr.sub (upd_ne (ne_of_none q hp))
    · have e : n = W.as.length := by
        have := (List.getElem?_eq_some_iff.mp h1').1
        simp at this; omega
      subst e
      have ea : p = a := by simpa using h1'
      have em : MO.lst ds = mo := by
        rw [sr.len] at h2
        simpa using h2
      subst ea em
      exact ⟨vs, ⟨upd_same, hl⟩, h.ext E sr.sub⟩
theorem Rp.mk2 {p : Addr} {o : HO} (sr : SR K W M) : Rp K (W.mk2 p o) (.ref M.length) (.ref p) := ⟨p, by show (W.as ++ [p])[M.length]? = _; rw [← sr.len]; simp, rfl⟩
/-- a changeable list is written -/
theorem Ext.wr {a : Addr} {o : HO} (ha : a ∈ W.as) : Ext W (W.put a o) := by
  refine ⟨⟨[], by simp [Wo.put], fun _ h => by simp at h⟩, fun _ h => h, fun _ h => .inl h, fun b u hb h => (upd_ne fun z => hb (by rw [z]; exact ha)).trans h, fun b u h => ?_⟩
  by_cases hb : b = a
  · subst hb; exact ⟨_, upd_same⟩
  · exact ⟨u, (upd_ne hb).trans h⟩
theorem SR.wr {n : Nat} {a : Addr} {ds : List D} {vs : List V} (sr : SR K W M) (hn : W.as[n]? = some a) (h : RpL K W ds vs) (hl : vs.length ≤ LINE) : SR K (W.put a (.lst vs)) (M.set n (.lst ds)) := by
  have ha : a ∈ W.as := List.mem_of_getElem? hn
  have E := Ext.wr (W := W) (o := .lst vs) ha
  refine ⟨by rw [List.length_set]; exact sr.len, sr.nd, sr.sub, fun b hb => ?_, fun m b mo h1 h2 => ?_⟩
  · obtain ⟨o, q⟩ := sr.bt b hb
    exact E.live b o q
  · have h1' : W.as[m]? = some b := h1
    by_cases e : m = n
    · subst e
      rw [hn] at h1'; cases h1'
      have hm : m < M.length := by rw [← sr.len]; exact (List.getElem?_eq_some_iff.mp hn).1
      rw [List.getElem?_set_self hm] at h2
      cases h2
      exact ⟨vs, ⟨upd_same, hl⟩, h.ext E sr.sub⟩
    · rw [List.getElem?_set_ne (Ne.symm e)] at h2
      refine (sr.obj m b mo h1' h2).ext E sr.sub (upd_ne fun z => e ?_)
      subst z
      obtain ⟨q1, q2⟩ := List.getElem?_eq_some_iff.mp h1'
      obtain ⟨q3, q4⟩ := List.getElem?_eq_some_iff.mp hn
      exact (List.getElem_inj sr.nd).mp (q2.trans q4.symm)
end
/-! ### lists and tuples, read -/
def lsOf : D → Mem → Option (List D)
  | .lst xs, _ => some xs
  | .kst xs, _ => some xs
  | .ref n, M => match M[n]? with | some (.lst xs) => some xs | _ => none
  | _, _ => none
def sqOf : D → Mem → Option (List D)
  | .tup xs, _ => some xs
  | d, M => lsOf d M
section
variable {K : PySem.W.Frag} {W W' : Wo} {M : Mem} {d : D} {v : V} {xs : List D}
theorem SqL.any {H : Hp} {a : Addr} {vs : List V} (h : SqL K (fun _ => none) a vs) : SqL K H a vs := by
  rcases h with (h | ⟨o, h⟩) | h
  · cases (show (none : Option HO) = _ from h)
  · cases (show (none : Option HO) = _ from h)
  · exact .inr h
theorem SqT.any {H : Hp} {a : Addr} {vs : List V} (h : SqT K (fun _ => none) a vs) : SqT K H a vs := by
  rcases h with (h | ⟨o, h⟩) | h
  · cases (show (none : Option HO) = _ from h)
  · cases (show (none : Option HO) = _ from h)
  · exact .inr h
theorem ls_sq (sr : SR K W M) (h : Rp K W d v) (e : lsOf d M = some xs) : ∃ a vs, v = .ref a ∧ SqL K W.H a vs ∧ RpL K W xs vs := by
  cases d with
  | lst ds =>
    cases e
    obtain ⟨a, vs, e1, f, r⟩ := h
    exact ⟨a, vs, e1, .of f.1.1, r⟩
  | kst ds =>
    cases e
    obtain ⟨a, vs, e1, f, r⟩ := h
    refine ⟨a, vs, e1, ?_, r⟩
    rcases f.1 with ⟨⟨o, f⟩, _⟩ | f
    · exact .inl (.inr ⟨o, f⟩)
    · exact SqL.any f
  | ref n =>
    obtain ⟨a, h1, e1⟩ := h
    obtain ⟨mo, h2, m⟩ := sr.at_ h1
    have e' : (match M[n]? with | some (.lst xs) => some xs | _ => none) = some xs := e
    rw [h2] at e'
    cases mo with
    | lst ds =>
      cases e'
      obtain ⟨vs, q1, q2⟩ := m
      exact ⟨a, vs, e1, .of q1.1, q2⟩
  | _ => cases e
theorem ls_len (sr : SR K W M) (h : Rp K W d v) (e : lsOf d M = some xs) : xs.length ≤ LINE := by
  cases d with
  | lst ds =>
    cases e
    obtain ⟨a, vs, e1, f, r⟩ := h
    rw [r.len]; exact f.2
  | kst ds =>
    cases e
    obtain ⟨a, vs, e1, f, r⟩ := h
    rw [r.len]; exact f.2
  | ref n =>
    obtain ⟨a, h1, e1⟩ := h
    obtain ⟨mo, h2, m⟩ := sr.at_ h1
    have e' : (match M[n]? with | some (.lst xs) => some xs | _ => none) = some xs := e
    rw [h2] at e'
    cases mo with
    | lst ds =>
      cases e'
      obtain ⟨vs, q1, q2⟩ := m
      rw [q2.len]; exact q1.2
  | _ => cases e
theorem tp_sq (h : Rp K W (.tup xs) v) : ∃ a vs, v = .ref a ∧ SqT K W.H a vs ∧ RpL K W xs vs := by
  obtain ⟨a, vs, e1, f, r⟩ := h
  refine ⟨a, vs, e1, ?_, r⟩
  rcases f.1 with ⟨f, _⟩ | f
  · exact .of f
  · exact SqT.any f
theorem sq_len (sr : SR K W M) (h : Rp K W d v) (e : sqOf d M = some xs) : xs.length ≤ LINE := by
  cases d with
  | tup ds =>
    cases e
    obtain ⟨a, vs, e1, f, r⟩ := h
    rw [r.len]; exact f.2
  | lst ds => exact ls_len sr h e
  | kst ds => exact ls_len sr h e
  | ref n => exact ls_len sr h e
  | _ => cases e
theorem sq_sq (sr : SR K W M) (h : Rp K W d v) (e : sqOf d M = some xs) : ∃ a vs, v = .ref a ∧ (SqL K W.H a vs ∨ SqT K W.H a vs) ∧ RpL K W xs vs := by
  have l : lsOf d M = some xs → ∃ a vs, v = .ref a ∧ (SqL K W.H a vs ∨ SqT K W.H a vs) ∧ RpL K W xs vs := fun e => by
    obtain ⟨a, vs, h1, h2, h3⟩ := ls_sq sr h e
    exact ⟨a, vs, h1, .inl h2, h3⟩
  cases d with
  | tup ds =>
    cases e
    obtain ⟨a, vs, h1, h2, h3⟩ := tp_sq h
    exact ⟨a, vs, h1, .inr h2, h3⟩
  | _ => exact l e
end
/-! ### names, constants, two-place operations -/
def fVar (i : Nat) : FE := fun ρ M => match ρ[i]? with | some (some d) => some (d, M) | _ => none
def fC (d : D) : FE := fun _ M => some (d, M)
abbrev G1 := D → Mem → Option D
abbrev G2 := D → D → Mem → Option D
abbrev G2B := D → D → Mem → Option Bool
def f1 (g : G1) (fa : FE) : FE := fun ρ M => (fa ρ M).bind fun a => (g a.1 a.2).bind fun d => some (d, a.2)
def f2 (g : G2) (fa fb : FE) : FE := fun ρ M => (fa ρ M).bind fun a => (fb ρ a.2).bind fun b => (g a.1 b.1 b.2).bind fun d => some (d, b.2)
def gB (g : G2B) : G2 := fun x y M => (g x y M).map .bl
def f2T (g : G2B) (fa fb : FE) : FT := fun ρ M => (fa ρ M).bind fun a => (fb ρ a.2).bind fun b => (g a.1 b.1 b.2).bind fun d => some (d, b.2)
/-- the operation's reading follows from what it computes -/
def Op1 (K : PySem.W.Frag) (r : V → Hp → VK → Prop) (g : G1) : Prop := ∀ (W : Wo) (M : Mem) (x d : D) (v : V) (Q : VK), SR K W M → Rp K W x v → g x M = some d →
  (∀ W' v', Ext W W' → SR K W' M → Rp K W' d v' → Q v' W'.H) → r v W.H Q
def Op2 (K : PySem.W.Frag) (r : R2) (g : G2) : Prop := ∀ (W : Wo) (M : Mem) (x y d : D) (v u : V) (Q : VK), SR K W M → Rp K W x v → Rp K W y u → g x y M = some d →
  (∀ W' v', Ext W W' → SR K W' M → Rp K W' d v' → Q v' W'.H) → r v u W.H Q
section
variable {K : PySem.W.Frag}
theorem lift1 {r : V → Hp → VK → Prop} {g : G1} {fa : FE} (op : Op1 K r g) : ∀ σ H Q, liftE K (f1 g fa) σ H Q → tUn r (liftE K fa) σ H Q := by
  rintro σ H Q ⟨W, ρ, M, rfl, sr, sl, d, M', hf, k⟩
  obtain ⟨⟨x, M1⟩, hx, hf⟩ := Option.bind_eq_some_iff.mp hf
  obtain ⟨d', hg, hf⟩ := Option.bind_eq_some_iff.mp hf
  cases hf
  exact ⟨W, ρ, M, rfl, sr, sl, x, M1, hx, fun W1 v e1 s1 r1 => op W1 _ x d v Q s1 r1 hg fun W2 v' e2 s2 r2 => k W2 v' (e1.trans e2) s2 r2⟩
theorem lift2 {r : R2} {g : G2} {fa fb : FE} (op : Op2 K r g) : ∀ σ H Q, liftE K (f2 g fa fb) σ H Q → tOp r (liftE K fa) (liftE K fb) σ H Q := by
  rintro σ H Q ⟨W, ρ, M, rfl, sr, sl, d, M', hf, k⟩
  obtain ⟨⟨x, M1⟩, hx, hf⟩ := Option.bind_eq_some_iff.mp hf
  obtain ⟨⟨y, M2⟩, hy, hf⟩ := Option.bind_eq_some_iff.mp hf
  obtain ⟨d', hg, hf⟩ := Option.bind_eq_some_iff.mp hf
  cases hf
  exact ⟨W, ρ, M, rfl, sr, sl, x, M1, hx, fun W1 v e1 s1 r1 => ⟨W1, ρ, M1, rfl, s1, sl.ext e1 sr.sub, y, M2, hy, fun W2 u e2 s2 r2 =>
    op W2 _ x y d v u Q s2 (r1.ext e2 s1.sub) r2 hg fun W3 v' e3 s3 r3 => k W3 v' ((e1.trans e2).trans e3) s3 r3⟩⟩
theorem lift2T {r : R2} {g : G2B} {fa fb : FE} (op : Op2 K r (gB g)) : ∀ σ H Q, liftT K (f2T g fa fb) σ H Q → tTest (tOp r (liftE K fa) (liftE K fb)) σ H Q := by
  rintro σ H Q ⟨W, ρ, M, rfl, sr, sl, d, M', hf, k⟩
  obtain ⟨⟨x, M1⟩, hx, hf⟩ := Option.bind_eq_some_iff.mp hf
  obtain ⟨⟨y, M2⟩, hy, hf⟩ := Option.bind_eq_some_iff.mp hf
  obtain ⟨d', hg, hf⟩ := Option.bind_eq_some_iff.mp hf
  cases hf
  exact ⟨W, ρ, M, rfl, sr, sl, x, M1, hx, fun W1 v e1 s1 r1 => ⟨W1, ρ, M1, rfl, s1, sl.ext e1 sr.sub, y, M2, hy, fun W2 u e2 s2 r2 =>
    op W2 _ x y (.bl d) v u _ s2 (r1.ext e2 s1.sub) r2 (by rw [gB, hg]; rfl) fun W3 v' e3 s3 r3 => ⟨d, r3, k W3 ((e1.trans e2).trans e3) s3⟩⟩⟩
theorem Op2.or {r r' : R2} {g g' : G2} (h : Op2 K r g) (h' : Op2 K r' g') : Op2 K (fun x y H Q => r x y H Q ∨ r' x y H Q) (fun x y M => (g x y M).orElse fun _ => g' x y M) := by
  intro W M x y d v u Q sr rx ry hg k
  cases q : g x y M with
  | some z =>
    simp only [q, Option.orElse_some, Option.some.injEq] at hg
    subst hg
    exact .inl (h W M x y z v u Q sr rx ry q k)
  | none =>
    simp only [q, Option.orElse_none] at hg
    exact .inr (h' W M x y d v u Q sr rx ry hg k)
theorem Op2.sum {r r' : R2} {g : G2} (h : ∀ (W : Wo) (M : Mem) (x y d : D) (v u : V) (Q : VK), SR K W M → Rp K W x v → Rp K W y u → g x y M = some d →
  (∀ W' v', Ext W W' → SR K W' M → Rp K W' d v' → Q v' W'.H) → r v u W.H Q ∨ r' v u W.H Q) : Op2 K (fun x y H Q => r x y H Q ∨ r' x y H Q) g := h
end
section
variable {X : Cx} {a b c : Expr} {fa fb fc : FE} {pos : Pos}
theorem pf_var (i : Nat) {x : Str} {pos : Pos} (hN : X.N[i]? = some x := by rfl) (hv : Vis X.env.scope x := by first | exact Or.inl rfl | exact Or.inr (Or.inl rfl) | exact Or.inr (Or.inr rfl)) (hd : (x == ("__debug__" : Str)) = false := by decide)
    (hcd : (x == ("__classdict__" : Str)) = false := by decide) : PFE X (.Name x pos) (fVar i) := pe_weak (pe_var hN hv hd hcd) fun σ H Q ⟨W, ρ, M, hW, sr, sl, d, M', hf, k⟩ => by
  subst hW
  unfold fVar at hf
  split at hf
  · rename_i d' hd'
    cases hf
    obtain ⟨v, h1, h2⟩ := sl.at_ i _ hd'
    exact ⟨v, h1, k W v (.refl W) sr h2⟩
  · cases hf
theorem pf_c {d : D} {v : V} {e : Expr} (h : PE X e (tC v)) (r : ∀ W, Rp X.K W d v) : PFE X e (fC d) := pe_weak h fun σ H Q ⟨W, ρ, M, hW, sr, sl, d, M', hf, k⟩ => by
  subst hW
  cases hf
  exact k W v (.refl W) sr (r W)
theorem pf_int {i : Int} {j pos} : PFE X (.Constant (.int i) j pos) (fC (.int i)) := pf_c pe_int fun _ => rfl
theorem pf_bl {i : Bool} {j pos} : PFE X (.Constant (.bool i) j pos) (fC (.bl i)) := pf_c pe_bl fun _ => rfl
theorem pf_non {j pos} : PFE X (.Constant .none j pos) (fC .non) := pf_c pe_non fun _ => rfl
theorem pf_str {i : Str} {j pos} : PFE X (.Constant (.str i) j pos) (fC (.str i)) := pf_c pe_str fun _ => rfl
theorem pf_un {op : UnaryOp} {r : V → Hp → VK → Prop} {g : G1} (ho : UnR X (unaryOp op) r) (o : Op1 X.K r g) (ha : PFE X a fa) : PFE X (.UnaryOp op a pos) (f1 g fa) := pe_weak (pe_un ho ha) (lift1 o)
theorem pf_bin {op : Operator} {r : R2} {g : G2} (ho : OpR X (binaryOp op) r) (o : Op2 X.K r g) (ha : PFE X a fa) (hb : PFE X b fb) : PFE X (.BinOp a op b pos) (f2 g fa fb) := pe_weak (pe_op ho ha hb) (lift2 o)
theorem pf_cmp {op : CmpOp} {r : R2} {g : G2B} (ho : OpR X (compareOp op) r) (o : Op2 X.K r (gB g)) (ha : PFE X a fa) (hb : PFE X b fb) (hm : behindInMarks op b = false) : PFE X (.Compare a [op] [b] pos) (f2 (gB g) fa fb) := pe_weak (pe_cmpR ho ha hb hm) (lift2 o)
theorem pft_cmp {op : CmpOp} {r : R2} {g : G2B} (ho : OpR X (compareOp op) r) (o : Op2 X.K r (gB g)) (ha : PFE X a fa) (hb : PFE X b fb) (hm : behindInMarks op b = false) : PFT X (.Compare a [op] [b] pos) (f2T g fa fb) := pt_weak (pt_cmpR ho ha hb hm) (lift2T o)
theorem pf_ix {r : R2} {g : G2} (hr : IxR X r) (o : Op2 X.K r g) (ha : PFE X a fa) (hb : PFE X b fb) (hs : PlainIx b) : PFE X (.Subscript a b pos) (f2 g fa fb) := pe_weak (pe_ix hr ha hb hs) (lift2 o)
end
end PF
namespace PF
open PySem PySem.Spec PyProof.Rows L2
/-! ### arithmetic -/
/-- lists that are tracked as they are -/
def ltOf : D → Mem → Option (List D)
  | .lst xs, _ => some xs
  | .ref n, M => match M[n]? with | some (.lst xs) => some xs | _ => none
  | _, _ => none
theorem lt_sq {K : PySem.W.Frag} {W : Wo} {M : Mem} {d : D} {v : V} {xs : List D} (sr : SR K W M) (h : Rp K W d v) (e : ltOf d M = some xs) : ∃ a vs, v = .ref a ∧ W.H a = some (.lst vs) ∧ RpL K W xs vs := by
  cases d with
  | lst ds =>
    cases e
    obtain ⟨a, vs, e1, f, r⟩ := h
    exact ⟨a, vs, e1, f.1.1, r⟩
  | ref n =>
    obtain ⟨a, h1, e1⟩ := h
    obtain ⟨mo, h2, m⟩ := sr.at_ h1
    have e' : (match M[n]? with | some (.lst xs) => some xs | _ => none) = some xs := e
    rw [h2] at e'
    cases mo with
    | lst ds =>
      cases e'
      obtain ⟨vs, q1, q2⟩ := m
      exact ⟨a, vs, e1, q1.1, q2⟩
  | _ => cases e
def gAdd : G2 := fun x y M => match x, y with
  | .int i, .int j => some (.int (i + j))
  | .str a, .str b => if a.length + b.length ≤ LINE then some (.str (a ++ b)) else none
  | .tup a, .tup b => if a.length + b.length ≤ LINE then some (.tup (a ++ b)) else none
  | x, y => match ltOf x M, ltOf y M with
    | some a, some b => if a.length + b.length ≤ LINE then some (.lst (a ++ b)) else none
    | _, _ => none
def rAddA (K : PySem.W.Frag) : R2 := fun x y H Q => rI0 (fun i j => .int (i + j)) x y H Q ∨ (∃ i j, x = .str i ∧ y = .str j ∧ i.length + j.length ≤ sizeLine ∧ Q (.str (i ++ j)) H) ∨ rCatA K x y H Q ∨ rCat x y H Q
theorem op_addA {X : Cx} : OpR X (binaryOp .Add) (rAddA X.K) := op_add.or (op_add_str.or (op_catA.or op_cat))
theorem o_add {K : PySem.W.Frag} : Op2 K (rAddA K) gAdd := by
  intro W M x y d v u Q sr rx ry hg k
  have lists : (match ltOf x M, ltOf y M with
    | some a, some b => if a.length + b.length ≤ LINE then some (D.lst (a ++ b)) else none
    | _, _ => none) = some d → rCat v u W.H Q := fun e => by
    split at e
    · rename_i a b ha hb
      split at e
      · rename_i hl
        cases e
        obtain ⟨p, vs, rfl, h1, r1⟩ := lt_sq sr rx ha
        obtain ⟨q, us, rfl, h2, r2⟩ := lt_sq sr ry hb
        exact ⟨p, q, vs, us, rfl, rfl, h1, h2, by rw [line_eq, ← r1.len, ← r2.len]; exact hl, fun t nt => k _ _ (Ext.put nt) (sr.put nt) (.newLst sr nt (r1.append r2) (by rw [List.length_append, ← r1.len, ← r2.len]; exact hl))⟩
      · cases e
    · cases e
  unfold gAdd at hg
  split at hg
  · cases hg
    cases rx; cases ry
    exact .inl ⟨_, _, rfl, rfl, k W _ (.refl W) sr rfl⟩
  · split at hg
    · rename_i hl
      cases hg
      cases rx; cases ry
      exact .inr (.inl ⟨_, _, rfl, rfl, by rw [line_eq]; exact hl, k W _ (.refl W) sr rfl⟩)
    · cases hg
  · split at hg
    · rename_i a b hl
      cases hg
      obtain ⟨p, vs, rfl, h1, r1⟩ := tp_sq rx
      obtain ⟨q, us, rfl, h2, r2⟩ := tp_sq ry
      refine .inr (.inr (.inl ⟨p, q, vs, us, rfl, rfl, h1, h2, by rw [line_eq, ← r1.len, ← r2.len]; exact hl, fun e => ?_, fun _ e => ?_, fun _ _ t nt => k _ _ (Ext.put nt) (sr.put nt) (.newTup sr nt (r1.append r2) (by rw [List.length_append, ← r1.len, ← r2.len]; exact hl))⟩))
      · subst e
        have : a = [] := List.eq_nil_of_length_eq_zero r1.len
        subst this
        exact k W _ (.refl W) sr ry
      · subst e
        have : b = [] := List.eq_nil_of_length_eq_zero r2.len
        subst this
        exact k W _ (.refl W) sr (by rw [List.append_nil]; exact rx)
    · cases hg
  · exact .inr (.inr (.inr (lists hg)))
def rInts (f : Int → Int → Int) : G2 := fun x y _ => match x, y with | .int i, .int j => some (.int (f i j)) | _, _ => none
def gInts (c : Int → Int → Bool) (f : Int → Int → Int) : G2 := fun x y _ => match x, y with | .int i, .int j => if c i j then some (.int (f i j)) else none | _, _ => none
theorem o_ints0 {K : PySem.W.Frag} {f : Int → Int → Int} : Op2 K (rI0 fun i j => .int (f i j)) (rInts f) := by
  intro W M x y d v u Q sr rx ry hg k
  unfold rInts at hg
  split at hg
  · cases hg
    cases rx; cases ry
    exact ⟨_, _, rfl, rfl, k W _ (.refl W) sr rfl⟩
  · cases hg
theorem o_ints {K : PySem.W.Frag} {C : Int → Int → Prop} {c : Int → Int → Bool} {f : Int → Int → Int} (hc : ∀ i j, c i j = true → C i j) : Op2 K (rI C fun i j => .int (f i j)) (gInts c f) := by
  intro W M x y d v u Q sr rx ry hg k
  unfold gInts at hg
  split at hg
  · split at hg
    · rename_i h
      cases hg
      cases rx; cases ry
      exact ⟨_, _, rfl, rfl, hc _ _ h, k W _ (.refl W) sr rfl⟩
    · cases hg
  · cases hg
def gSub : G2 := rInts fun i j => i - j
def okMul (i j : Int) : Bool := decide (i.natAbs < 18446744073709551616) || (decide (j.natAbs < 18446744073709551616) || decide (i.natAbs.log2 + j.natAbs.log2 < 1000000))
def okDiv (j : Int) : Bool := decide (j ≠ 0) && decide (j.natAbs.log2 < 9000)
def okPow (i j : Int) : Bool := decide (0 ≤ j) && (decide (j ≤ 1000000) && decide (i.natAbs < 18446744073709551616))
def gMul : G2 := fun x y M => match x, y with
  | .int i, .int j => if okMul i j then some (.int (i * j)) else none
  | x, .int j => match ltOf x M with
    | some xs => if decide (-(9223372036854775808) ≤ j) && (decide (j < 9223372036854775808) && decide (xs.length * j.toNat ≤ LINE)) then some (.lst (List.replicate j.toNat xs).flatten) else none
    | none => none
  | _, _ => none
def gFdiv : G2 := gInts (fun _ j => okDiv j) Int.fdiv
def gMod : G2 := gInts (fun _ j => decide (j ≠ 0)) Int.fmod
def gPow : G2 := gInts okPow fun i j => i ^ j.toNat
theorem op_fdivA {X : Cx} : OpR X (binaryOp .FloorDiv) (rI (fun _ j => j ≠ 0 ∧ j.natAbs.log2 < 9000) fun i j => .int (i.fdiv j)) := opI fun _ _ _ _ _ _ _ hc q => floordiv_int hc.1 q (.inl (PyProof.noPylong_of_log2 hc.2))
theorem o_sub {K : PySem.W.Frag} : Op2 K (rI0 fun i j => .int (i - j)) gSub := o_ints0
theorem RpL.rep {K : PySem.W.Frag} {W : Wo} {xs : List D} {vs : List V} (h : RpL K W xs vs) : ∀ n : Nat, RpL K W (List.replicate n xs).flatten (List.replicate n vs).flatten
  | 0 => rfl
  | n + 1 => by
    rw [List.replicate_succ, List.replicate_succ, List.flatten_cons, List.flatten_cons]
    exact h.append (RpL.rep h n)
theorem okMul_ok {i j : Int} (h : okMul i j = true) : IntMulOk i j := by
  unfold okMul at h
  simp only [Bool.or_eq_true, decide_eq_true_eq] at h
  rcases h with h | h | h
  · exact CMul.ok (.inl ⟨by omega, by omega⟩)
  · exact CMul.ok (.inr ⟨by omega, by omega⟩)
  · exact CMulW.ok h
def rMulA : R2 := fun x y H Q => rI IntMulOk (fun i j => .int (i * j)) x y H Q ∨ rRep x y H Q
theorem op_mulA {X : Cx} : OpR X (binaryOp .Mult) rMulA := OpR.or (opI fun _ _ _ _ _ _ _ hc q => mul_int q hc) op_rep
theorem o_mul {K : PySem.W.Frag} : Op2 K rMulA gMul := by
  intro W M x y d v u Q sr rx ry hg k
  unfold gMul at hg
  split at hg
  · split at hg
    · rename_i h
      cases hg
      cases rx; cases ry
      exact .inl ⟨_, _, rfl, rfl, okMul_ok h, k W _ (.refl W) sr rfl⟩
    · cases hg
  · split at hg
    · rename_i xs hx
      split at hg
      · rename_i h
        cases hg
        simp only [Bool.and_eq_true, decide_eq_true_eq] at h
        obtain ⟨p, vs, rfl, h1, r1⟩ := lt_sq sr rx hx
        cases ry
        exact .inr ⟨p, _, vs, rfl, rfl, h1, h.1, h.2.1, by rw [line_eq, ← r1.len]; exact h.2.2, fun t nt => k _ _ (Ext.put nt) (sr.put nt) (.newLst sr nt (r1.rep _) (by rw [← (r1.rep _).len, PyProof.Rows.lm_len_rep_flat, Nat.mul_comm]; exact h.2.2))⟩
      · cases hg
    · cases hg
  · cases hg
theorem o_fdiv {K : PySem.W.Frag} : Op2 K (rI (fun _ j => j ≠ 0 ∧ j.natAbs.log2 < 9000) fun i j => .int (i.fdiv j)) gFdiv := o_ints fun i j h => by
  unfold okDiv at h
  simp only [Bool.and_eq_true, decide_eq_true_eq] at h
  exact h
theorem o_mod {K : PySem.W.Frag} : Op2 K (rI (fun _ j => j ≠ 0) fun i j => .int (i.fmod j)) gMod := o_ints fun i j h => of_decide_eq_true h
theorem o_pow {K : PySem.W.Frag} : Op2 K (rI CPow fun i j => .int (i ^ j.toNat)) gPow := o_ints fun i j h => by
  unfold okPow at h
  simp only [Bool.and_eq_true, decide_eq_true_eq] at h
  exact ⟨h.1, h.2.1, h.2.2⟩
def gNeg : G1 := fun x _ => match x with | .int i => some (.int (-i)) | _ => none
theorem o_neg {K : PySem.W.Frag} : Op1 K (rU fun i => .int (-i)) gNeg := by
  intro W M x d v Q sr rx hg k
  unfold gNeg at hg
  split at hg
  · cases hg
    cases rx
    exact ⟨_, rfl, k W _ (.refl W) sr rfl⟩
  · cases hg
/-! ### comparisons -/
def gCmp (c : Int → Int → Bool) : G2B := fun x y _ => match x, y with | .int i, .int j => some (c i j) | _, _ => none
theorem o_cmp {K : PySem.W.Frag} {c : Int → Int → Bool} : Op2 K (rI0 fun i j => .bl (c i j)) (gB (gCmp c)) := by
  intro W M x y d v u Q sr rx ry hg k
  unfold gB gCmp at hg
  split at hg
  · cases hg
    cases rx; cases ry
    exact ⟨_, _, rfl, rfl, k W _ (.refl W) sr rfl⟩
  · cases hg
/-! Python's == -/
mutual
def D.py : D → PyData
  | .non => .none
  | .bl b => .bool b
  | .int i => .int i
  | .str x => .str x
  | .tup xs => .tuple (D.pys xs)
  | .lst xs => .list (D.pys xs)
  | .kst xs => .list (D.pys xs)
  | .ref _ => .none
def D.pys : List D → List PyData
  | [] => []
  | x :: xs => x.py :: D.pys xs
end
mutual
/-- without references, at most n deep -/
def D.dp : Nat → D → Bool
  | _, .non => true
  | _, .bl _ => true
  | _, .int _ => true
  | _, .str x => PyData.strOk x
  | n, .tup xs => decide (0 < n) && D.dps (n - 1) xs
  | n, .lst xs => decide (0 < n) && D.dps (n - 1) xs
  | n, .kst xs => decide (0 < n) && D.dps (n - 1) xs
  | _, .ref _ => false
def D.dps : Nat → List D → Bool
  | _, [] => true
  | n, x :: xs => D.dp n x && D.dps n xs
end
/-- a list that is referred to, as a list -/
def D.val (d : D) (M : Mem) : Option D := match d with
  | .ref n => match M[n]? with | some (.lst xs) => some (.lst xs) | _ => none
  | d => some d
def gEq : G2B := fun x y M => match x.val M, y.val M with
  | some a, some b => if a.dp 60 && b.dp 60 then some (PyData.eqv a.py b.py) else none
  | _, _ => none
def gNe : G2B := fun x y M => (gEq x y M).map (! ·)
section
variable {K : PySem.W.Frag} {W : Wo} {M : Mem}
mutual
theorem dp_Dp : ∀ (n : Nat) (d : D) (v : V), d.dp n = true → Rp K W d v → Dp K W.H v d.py
  | _, .non, v, _, h => by cases (show _ = _ from h); exact .non
  | _, .bl b, v, _, h => by cases (show _ = _ from h); exact .bl b
  | _, .int b, v, _, h => by cases (show _ = _ from h); exact .int b
  | _, .str b, v, _, h => by cases (show _ = _ from h); exact .str b
  | n, .tup xs, v, hd, h => by
    obtain ⟨a, vs, e, h1, r⟩ := tp_sq h
    subst e
    rw [D.dp, Bool.and_eq_true] at hd
    rw [D.py]
    exact .tup h1 (dp_Dps (n - 1) xs vs hd.2 r)
  | n, .lst xs, v, hd, h => by
    obtain ⟨a, vs, e, f, r⟩ := h
    subst e
    rw [D.dp, Bool.and_eq_true] at hd
    rw [D.py]
    exact .lst (.of f.1.1) (dp_Dps (n - 1) xs vs hd.2 r)
  | n, .kst xs, v, hd, h => by
    obtain ⟨a, vs, e, f, r⟩ := h
    subst e
    rw [D.dp, Bool.and_eq_true] at hd
    rw [D.py]
    refine .lst ?_ (dp_Dps (n - 1) xs vs hd.2 r)
    rcases f.1 with ⟨⟨o, f⟩, _⟩ | f
    · exact .inl (.inr ⟨o, f⟩)
    · exact SqL.any f
  | _, .ref _, _, hd, _ => by rw [D.dp] at hd; cases hd
theorem dp_Dps : ∀ (n : Nat) (ds : List D) (vs : List V), D.dps n ds = true → RpL K W ds vs → DpAll K W.H vs (D.pys ds)
  | _, [], vs, _, h => by cases (show _ = _ from h); rw [D.pys]; exact .nil
  | n, d :: ds, vs, hd, h => by
    obtain ⟨v, r, e, h1, h2⟩ := h
    subst e
    rw [D.dps, Bool.and_eq_true] at hd
    rw [D.pys]
    exact .cons (dp_Dp n d v hd.1 h1) (dp_Dps n ds r hd.2 h2)
end
mutual
theorem dp_can : ∀ (n : Nat) (d : D), d.dp n = true → d.py.canLay0 = true ∧ d.py.depth ≤ n
  | n, .non, _ => by rw [D.py]; exact ⟨by simp [PyData.canLay0], by simp [PyData.depth]⟩
  | n, .bl _, _ => by rw [D.py]; exact ⟨by simp [PyData.canLay0], by simp [PyData.depth]⟩
  | n, .int _, _ => by rw [D.py]; exact ⟨by simp [PyData.canLay0], by simp [PyData.depth]⟩
  | n, .str _, h => by rw [D.py]; rw [D.dp] at h; exact ⟨by simpa [PyData.canLay0] using h, by simp [PyData.depth]⟩
  | n, .tup xs, h => by
    rw [D.dp, Bool.and_eq_true, decide_eq_true_eq] at h
    obtain ⟨h1, h2⟩ := dps_can (n - 1) xs h.2
    rw [D.py]
    exact ⟨by simpa [PyData.canLay0] using h1, by simp only [PyData.depth]; omega⟩
  | n, .lst xs, h => by
    rw [D.dp, Bool.and_eq_true, decide_eq_true_eq] at h
    obtain ⟨h1, h2⟩ := dps_can (n - 1) xs h.2
    rw [D.py]
    exact ⟨by simpa [PyData.canLay0] using h1, by simp only [PyData.depth]; omega⟩
  | n, .kst xs, h => by
    rw [D.dp, Bool.and_eq_true, decide_eq_true_eq] at h
    obtain ⟨h1, h2⟩ := dps_can (n - 1) xs h.2
    rw [D.py]
    exact ⟨by simpa [PyData.canLay0] using h1, by simp only [PyData.depth]; omega⟩
  | _, .ref _, h => by rw [D.dp] at h; cases h
theorem dps_can : ∀ (n : Nat) (ds : List D), D.dps n ds = true → PyData.canLayAll0 (D.pys ds) = true ∧ PyData.depthAll (D.pys ds) ≤ n
  | n, [], _ => by rw [D.pys]; exact ⟨by simp [PyData.canLayAll0], by simp [PyData.depthAll]⟩
  | n, d :: ds, h => by
    rw [D.dps, Bool.and_eq_true] at h
    obtain ⟨h1, h2⟩ := dp_can n d h.1
    obtain ⟨h3, h4⟩ := dps_can n ds h.2
    rw [D.pys]
    exact ⟨by simp [PyData.canLayAll0, h1, h3], by simp only [PyData.depthAll]; omega⟩
end
theorem val_Rp {d d' : D} {v : V} (sr : SR K W M) (h : Rp K W d v) (e : d.val M = some d') (hp : d'.dp 60 = true) : Dp K W.H v d'.py := by
  cases d with
  | ref n =>
    obtain ⟨a, h1, e1⟩ := h
    obtain ⟨mo, h2, m⟩ := sr.at_ h1
    have e' : (match M[n]? with | some (.lst xs) => some (D.lst xs) | _ => none) = some d' := e
    rw [h2] at e'
    cases mo with
    | lst ds =>
      cases e'
      obtain ⟨vs, q1, q2⟩ := m
      subst e1
      rw [D.dp, Bool.and_eq_true] at hp
      rw [D.py]
      exact .lst (.of q1.1) (dp_Dps _ ds vs hp.2 q2)
  | _ => cases e; exact dp_Dp 60 _ v hp h
theorem shaped_of {d : D} (h : d.dp 60 = true) : SeqAt.shaped d.py = true := by
  obtain ⟨h1, h2⟩ := dp_can 60 d h
  unfold SeqAt.shaped
  rw [h1, decide_eq_true (Nat.le_trans h2 (by decide))]
  rfl
theorem o_eq : Op2 K (rEqD K) (gB gEq) := by
  intro W M x y d v u Q sr rx ry hg k
  unfold gB gEq at hg
  split at hg
  · rename_i a b ha hb
    split at hg
    · rename_i h
      cases hg
      rw [Bool.and_eq_true] at h
      exact ⟨_, _, val_Rp sr rx ha h.1, val_Rp sr ry hb h.2, shaped_of h.1, shaped_of h.2, k W _ (.refl W) sr rfl⟩
    · cases hg
  · cases hg
theorem o_ne : Op2 K (rNeD K) (gB gNe) := by
  intro W M x y d v u Q sr rx ry hg k
  unfold gB gNe gEq at hg
  split at hg
  · rename_i a b ha hb
    split at hg
    · rename_i h
      cases hg
      rw [Bool.and_eq_true] at h
      exact ⟨_, _, val_Rp sr rx ha h.1, val_Rp sr ry hb h.2, shaped_of h.1, shaped_of h.2, k W _ (.refl W) sr rfl⟩
    · cases hg
  · cases hg
/-- is None; is True, is False of a bool -/
def isNn : D → Bool
  | .non => true
  | _ => false
def gIs : G2B := fun x y _ => match y with
  | .non => some (isNn x)
  | .bl b => match x with | .bl a => some (decide (a = b)) | _ => none
  | _ => none
def gIsNot : G2B := fun x y M => (gIs x y M).map (! ·)
theorem isNon_rel {d : D} {v : V} (h : Rp K W d v) : decide (v = .non) = isNn d := by
  cases d with
  | non => cases (show _ = _ from h); rfl
  | bl _ => cases (show _ = _ from h); rfl
  | int _ => cases (show _ = _ from h); rfl
  | str _ => cases (show _ = _ from h); rfl
  | tup _ => obtain ⟨a, vs, e, _⟩ := h; subst e; rfl
  | lst _ => obtain ⟨a, vs, e, _⟩ := h; subst e; rfl
  | kst _ => obtain ⟨a, vs, e, _⟩ := h; subst e; rfl
  | ref _ => obtain ⟨a, _, e⟩ := h; subst e; rfl
end
def rIsA : R2 := fun x y H Q => (y = .non ∧ Q (.bl (decide (x = .non))) H) ∨ rIsB x y H Q
def rIsNotA : R2 := fun x y H Q => (y = .non ∧ Q (.bl (!decide (x = .non))) H) ∨ rNotB x y H Q
theorem op_isA {X : Cx} : OpR X (compareOp .Is) rIsA := op_isN.or op_isBl
theorem op_isNotA {X : Cx} : OpR X (compareOp .IsNot) rIsNotA := op_notN.or op_notBl
theorem o_is {K : PySem.W.Frag} : Op2 K rIsA (gB gIs) := by
  intro W M x y d v u Q sr rx ry hg k
  unfold gB gIs at hg
  split at hg
  · cases hg
    cases (show _ = _ from ry)
    exact .inl ⟨rfl, k W _ (.refl W) sr (by rw [isNon_rel rx]; rfl)⟩
  · split at hg
    · cases hg
      cases (show _ = _ from ry); cases (show _ = _ from rx)
      exact .inr ⟨_, _, rfl, rfl, k W _ (.refl W) sr rfl⟩
    · cases hg
  · cases hg
theorem o_isNot {K : PySem.W.Frag} : Op2 K rIsNotA (gB gIsNot) := by
  intro W M x y d v u Q sr rx ry hg k
  unfold gB gIsNot gIs at hg
  split at hg
  · cases hg
    cases (show _ = _ from ry)
    exact .inl ⟨rfl, k W _ (.refl W) sr (by rw [isNon_rel rx]; rfl)⟩
  · split at hg
    · cases hg
      cases (show _ = _ from ry); cases (show _ = _ from rx)
      exact .inr ⟨_, _, rfl, rfl, k W _ (.refl W) sr rfl⟩
    · cases hg
  · cases hg
/-! ### subscripts -/
def ixD (xs : List D) (i : Int) : Option D := atI xs i
def gIx : G2 := fun x y M => match y with
  | .int i => match x with
    | .str z => if z.length ≤ LINE then (atI z.cps.toList i).map fun c => .str ⟨#[c]⟩ else none
    | x => (sqOf x M).bind fun xs => atI xs i
  | _ => none
theorem RpL.atI {K : PySem.W.Frag} {W : Wo} {xs : List D} {vs : List V} {i : Int} {d : D} (h : RpL K W xs vs) (e : atI xs i = some d) : ∃ v, L2.atI vs i = some v ∧ Rp K W d v := by
  unfold L2.atI at e ⊢
  rw [← h.len]
  obtain ⟨j, hj, e⟩ := Option.bind_eq_some_iff.mp e
  obtain ⟨v, h1, h2⟩ := h.get e
  exact ⟨v, by rw [hj]; exact h1, h2⟩
theorem o_ix {K : PySem.W.Frag} : Op2 K (rIx K) gIx := by
  intro W M x y d v u Q sr rx ry hg k
  unfold gIx at hg
  split at hg
  · cases (show _ = _ from ry)
    split at hg
    · split at hg
      · rename_i h
        cases (show _ = _ from rx)
        obtain ⟨c, hc, hg⟩ := Option.map_eq_some_iff.mp hg
        subst hg
        exact .inr (.inr ⟨_, _, c, rfl, rfl, by rw [line_eq]; exact h, hc, k W _ (.refl W) sr rfl⟩)
      · cases hg
    · obtain ⟨xs, hx, hg⟩ := Option.bind_eq_some_iff.mp hg
      obtain ⟨p, vs, rfl, h1, r1⟩ := sq_sq sr rx hx
      obtain ⟨z, h2, r2⟩ := r1.atI hg
      rcases h1 with h1 | h1
      · exact .inl ⟨p, vs, _, z, rfl, rfl, h1, h2, k W _ (.refl W) sr r2⟩
      · exact .inr (.inl ⟨p, vs, _, z, rfl, rfl, h1, h2, k W _ (.refl W) sr r2⟩)
  · cases hg
end PF
namespace PF
open PySem PySem.Spec PyProof.Rows L2
/-! ### truth, and, or, not -/
def gTru (d : D) (M : Mem) : Option Bool := match d with
  | .non => some false
  | .bl b => some b
  | .int i => some (i != 0)
  | .str x => if x.length ≤ LINE then some ((x.length : Int) != 0) else none
  | d => (sqOf d M).map fun xs => !xs.isEmpty
section
variable {K : PySem.W.Frag} {W : Wo} {M : Mem}
theorem RpL.emp {xs : List D} {vs : List V} (h : RpL K W xs vs) : (!xs.isEmpty) = !vs.isEmpty := by
  cases xs with
  | nil => cases (show _ = _ from h); rfl
  | cons d ds => obtain ⟨v, r, e, _⟩ := h; subst e; rfl
theorem tru_of {d : D} {v : V} {k : Bool} (sr : SR K W M) (h : Rp K W d v) (e : gTru d M = some k) : TruV K v W.H k := by
  have seq : (sqOf d M).map (fun xs => !xs.isEmpty) = some k → TruV K v W.H k := fun e => by
    obtain ⟨xs, hx, e⟩ := Option.map_eq_some_iff.mp e
    obtain ⟨a, vs, e1, h1, r⟩ := sq_sq sr h hx
    subst e1
    rcases h1 with h1 | h1
    · exact .inl ⟨vs, h1, by rw [← e]; exact r.emp⟩
    · exact .inr (.inl ⟨vs, h1, by rw [← e]; exact r.emp⟩)
  cases d with
  | non => cases (show _ = _ from h); cases e; exact rfl
  | bl b => cases (show _ = _ from h); cases e; exact rfl
  | int i => cases (show _ = _ from h); cases e; exact rfl
  | str x =>
    cases (show _ = _ from h)
    have e' : (if x.length ≤ LINE then some ((x.length : Int) != 0) else none) = some k := e
    split at e'
    · rename_i hl
      cases e'
      exact ⟨by rw [line_eq]; exact hl, rfl⟩
    · cases e'
  | _ => exact seq e
end
def fTru (fa : FE) : FT := fun ρ M => (fa ρ M).bind fun a => (gTru a.1 a.2).bind fun k => some (k, a.2)
def fNot (fa : FT) : FT := fun ρ M => (fa ρ M).bind fun a => some (!a.1, a.2)
def fAnd (fa fb : FT) : FT := fun ρ M => (fa ρ M).bind fun a => if a.1 = true then fb ρ a.2 else some (false, a.2)
def fOr (fa fb : FT) : FT := fun ρ M => (fa ρ M).bind fun a => if a.1 = true then some (true, a.2) else fb ρ a.2
def fAndV (fa fb : FE) : FE := fun ρ M => (fa ρ M).bind fun a => (gTru a.1 a.2).bind fun k => if k = true then fb ρ a.2 else some a
def fOrV (fa fb : FE) : FE := fun ρ M => (fa ρ M).bind fun a => (gTru a.1 a.2).bind fun k => if k = true then some a else fb ρ a.2
def fNotV (fa : FE) : FE := fun ρ M => (fa ρ M).bind fun a => (gTru a.1 a.2).bind fun k => some (.bl (!k), a.2)
def fIfE (fc : FT) (fa fb : FE) : FE := fun ρ M => (fc ρ M).bind fun c => if c.1 = true then fa ρ c.2 else fb ρ c.2
def fChain (g g' : G2B) (fa fb fc : FE) : FE := fun ρ M => (fa ρ M).bind fun a => (fb ρ a.2).bind fun b => (g a.1 b.1 b.2).bind fun k =>
  if k = true then (fc ρ b.2).bind fun c => (g' b.1 c.1 c.2).bind fun z => some (.bl z, c.2) else some (.bl false, b.2)
def fChainT (g g' : G2B) (fa fb fc : FE) : FT := fun ρ M => (fa ρ M).bind fun a => (fb ρ a.2).bind fun b => (g a.1 b.1 b.2).bind fun k =>
  if k = true then (fc ρ b.2).bind fun c => (g' b.1 c.1 c.2).bind fun z => some (z, c.2) else some (false, b.2)
section
variable {X : Cx} {a b c : Expr} {rest : List Expr} {fa fb fc : FE} {ta tb : FT} {pos : Pos}
theorem pft_tru (ha : PFE X a fa) (he : ∀ whole, isTrue a X.env whole = (do let v ← whole; standAt a.pos; holding [v] (truthy v)) := by intro _; rfl) : PFT X a (fTru fa) := pt_weak (pt_truth ha he) fun σ H Q => by
  rintro ⟨W, ρ, M, rfl, sr, sl, d, M', hf, k⟩
  obtain ⟨⟨x, M1⟩, hx, hf⟩ := Option.bind_eq_some_iff.mp hf
  obtain ⟨t, ht, hf⟩ := Option.bind_eq_some_iff.mp hf
  cases hf
  exact ⟨W, ρ, M, rfl, sr, sl, x, _, hx, fun W1 v e1 s1 r1 => ⟨_, tru_of s1 r1 ht, k W1 e1 s1⟩⟩
theorem pft_not (ha : PFT X a ta) : PFT X (.UnaryOp .Not a pos) (fNot ta) := pt_weak (pt_not ha) fun σ H Q => by
  rintro ⟨W, ρ, M, rfl, sr, sl, d, M', hf, k⟩
  obtain ⟨⟨x, M1⟩, hx, hf⟩ := Option.bind_eq_some_iff.mp hf
  cases hf
  exact ⟨W, ρ, M, rfl, sr, sl, x, _, hx, fun W1 e1 s1 => k W1 e1 s1⟩
theorem pfw_and1 (ha : PFT X a ta) : PFW X (.BoolOp .And [a] pos) ta := pw_and1 ha
theorem pfw_or1 (ha : PFT X a ta) : PFW X (.BoolOp .Or [a] pos) ta := pw_or1 ha
theorem pfw_and (ha : PFT X a ta) (hb : PFW X (.BoolOp .And (b :: rest) pos) tb) : PFW X (.BoolOp .And (a :: b :: rest) pos) (fAnd ta tb) := pw_weak (pw_and ha hb) fun σ H Q => by
  rintro ⟨W, ρ, M, rfl, sr, sl, d, M', hf, k⟩
  obtain ⟨⟨x, M1⟩, hx, hf⟩ := Option.bind_eq_some_iff.mp hf
  refine ⟨W, ρ, M, rfl, sr, sl, x, M1, hx, fun W1 e1 s1 => ?_⟩
  cases x with
  | true =>
    rw [if_pos rfl] at hf ⊢
    exact ⟨W1, ρ, M1, rfl, s1, sl.ext e1 sr.sub, d, M', hf, fun W2 e2 s2 => k W2 (e1.trans e2) s2⟩
  | false =>
    rw [if_neg Bool.false_ne_true] at hf ⊢
    cases hf
    exact k W1 e1 s1
theorem pfw_or (ha : PFT X a ta) (hb : PFW X (.BoolOp .Or (b :: rest) pos) tb) : PFW X (.BoolOp .Or (a :: b :: rest) pos) (fOr ta tb) := pw_weak (pw_or ha hb) fun σ H Q => by
  rintro ⟨W, ρ, M, rfl, sr, sl, d, M', hf, k⟩
  obtain ⟨⟨x, M1⟩, hx, hf⟩ := Option.bind_eq_some_iff.mp hf
  refine ⟨W, ρ, M, rfl, sr, sl, x, M1, hx, fun W1 e1 s1 => ?_⟩
  cases x with
  | false =>
    rw [if_neg Bool.false_ne_true] at hf ⊢
    exact ⟨W1, ρ, M1, rfl, s1, sl.ext e1 sr.sub, d, M', hf, fun W2 e2 s2 => k W2 (e1.trans e2) s2⟩
  | true =>
    rw [if_pos rfl] at hf ⊢
    cases hf
    exact k W1 e1 s1
theorem pf_one {op} (h : PFE X a fa) : PFE X (.BoolOp op [a] pos) fa := pe_one h
theorem pf_and (ha : PFE X a fa) (hb : PFE X (.BoolOp .And (b :: rest) pos) fb) : PFE X (.BoolOp .And (a :: b :: rest) pos) (fAndV fa fb) := pe_weak (pe_andT ha hb) fun σ H Q => by
  rintro ⟨W, ρ, M, rfl, sr, sl, d, M', hf, k⟩
  obtain ⟨⟨x, M1⟩, hx, hf⟩ := Option.bind_eq_some_iff.mp hf
  obtain ⟨t, ht, hf⟩ := Option.bind_eq_some_iff.mp hf
  refine ⟨W, ρ, M, rfl, sr, sl, x, M1, hx, fun W1 v e1 s1 r1 => ⟨t, tru_of s1 r1 ht, ?_⟩⟩
  cases t with
  | true =>
    rw [if_pos rfl] at hf ⊢
    exact ⟨W1, ρ, M1, rfl, s1, sl.ext e1 sr.sub, d, M', hf, fun W2 v e2 s2 r2 => k W2 v (e1.trans e2) s2 r2⟩
  | false =>
    rw [if_neg Bool.false_ne_true] at hf ⊢
    cases hf
    exact k W1 v e1 s1 r1
theorem pf_or (ha : PFE X a fa) (hb : PFE X (.BoolOp .Or (b :: rest) pos) fb) : PFE X (.BoolOp .Or (a :: b :: rest) pos) (fOrV fa fb) := pe_weak (pe_orT ha hb) fun σ H Q => by
  rintro ⟨W, ρ, M, rfl, sr, sl, d, M', hf, k⟩
  obtain ⟨⟨x, M1⟩, hx, hf⟩ := Option.bind_eq_some_iff.mp hf
  obtain ⟨t, ht, hf⟩ := Option.bind_eq_some_iff.mp hf
  refine ⟨W, ρ, M, rfl, sr, sl, x, M1, hx, fun W1 v e1 s1 r1 => ⟨t, tru_of s1 r1 ht, ?_⟩⟩
  cases t with
  | false =>
    rw [if_neg Bool.false_ne_true] at hf ⊢
    exact ⟨W1, ρ, M1, rfl, s1, sl.ext e1 sr.sub, d, M', hf, fun W2 v e2 s2 r2 => k W2 v (e1.trans e2) s2 r2⟩
  | true =>
    rw [if_pos rfl] at hf ⊢
    cases hf
    exact k W1 v e1 s1 r1
theorem pf_not (ha : PFE X a fa) : PFE X (.UnaryOp .Not a pos) (fNotV fa) := pe_weak (pe_notT ha) fun σ H Q => by
  rintro ⟨W, ρ, M, rfl, sr, sl, d, M', hf, k⟩
  obtain ⟨⟨x, M1⟩, hx, hf⟩ := Option.bind_eq_some_iff.mp hf
  obtain ⟨t, ht, hf⟩ := Option.bind_eq_some_iff.mp hf
  cases hf
  exact ⟨W, ρ, M, rfl, sr, sl, x, _, hx, fun W1 v e1 s1 r1 => ⟨t, tru_of s1 r1 ht, k W1 _ e1 s1 rfl⟩⟩
theorem pf_if (hc : PFT X c ta) (ha : PFE X a fa) (hb : PFE X b fb) : PFE X (.IfExp c a b pos) (fIfE ta fa fb) := pe_weak (pe_ifExp hc ha hb) fun σ H Q => by
  rintro ⟨W, ρ, M, rfl, sr, sl, d, M', hf, k⟩
  obtain ⟨⟨x, M1⟩, hx, hf⟩ := Option.bind_eq_some_iff.mp hf
  refine ⟨W, ρ, M, rfl, sr, sl, x, M1, hx, fun W1 e1 s1 => ?_⟩
  cases x with
  | false =>
    rw [if_neg Bool.false_ne_true] at hf ⊢
    exact ⟨W1, ρ, M1, rfl, s1, sl.ext e1 sr.sub, d, M', hf, fun W2 v e2 s2 r2 => k W2 v (e1.trans e2) s2 r2⟩
  | true =>
    rw [if_pos rfl] at hf ⊢
    exact ⟨W1, ρ, M1, rfl, s1, sl.ext e1 sr.sub, d, M', hf, fun W2 v e2 s2 r2 => k W2 v (e1.trans e2) s2 r2⟩
theorem pf_chain {op op' : CmpOp} {r r' : R2} {g g' : G2B} (ho : OpR X (compareOp op) r) (o : Op2 X.K r (gB g)) (ho' : OpR X (compareOp op') r') (o' : Op2 X.K r' (gB g')) (ha : PFE X a fa) (hb : PFE X b fb) (hc : PFE X c fc)
    (hm : lastMarks [op, op'] [b, c] = false := by with_unfolding_all rfl) : PFE X (.Compare a [op, op'] [b, c] pos) (fChain g g' fa fb fc) := pe_weak (pe_chain ho ho' ha hb hc hm) fun σ H Q => by
  rintro ⟨W, ρ, M, rfl, sr, sl, d, M', hf, k⟩
  obtain ⟨⟨x, M1⟩, hx, hf⟩ := Option.bind_eq_some_iff.mp hf
  obtain ⟨⟨y, M2⟩, hy, hf⟩ := Option.bind_eq_some_iff.mp hf
  obtain ⟨t, ht, hf⟩ := Option.bind_eq_some_iff.mp hf
  refine ⟨W, ρ, M, rfl, sr, sl, x, M1, hx, fun W1 v e1 s1 r1 => ⟨W1, ρ, M1, rfl, s1, sl.ext e1 sr.sub, y, M2, hy, fun W2 u e2 s2 r2 => ?_⟩⟩
  refine o W2 M2 x y (.bl t) v u _ s2 (r1.ext e2 s1.sub) r2 (by rw [gB, ht]; rfl) fun W3 z e3 s3 r3 => ⟨t, r3, ?_⟩
  cases t with
  | false =>
    rw [if_neg Bool.false_ne_true] at hf ⊢
    cases hf
    exact k W3 _ ((e1.trans e2).trans e3) s3 rfl
  | true =>
    rw [if_pos rfl] at hf ⊢
    obtain ⟨⟨z', M3⟩, hz, hf⟩ := Option.bind_eq_some_iff.mp hf
    obtain ⟨t', ht', hf⟩ := Option.bind_eq_some_iff.mp hf
    cases hf
    exact ⟨W3, ρ, M2, rfl, s3, sl.ext ((e1.trans e2).trans e3) sr.sub, z', _, hz, fun W4 q e4 s4 r4 => o' W4 _ y z' (.bl t') u q _ s4 (r2.ext (e3.trans e4) s2.sub) r4 (by rw [gB, ht']; rfl) fun W5 q' e5 s5 r5 => k W5 q' (((e1.trans e2).trans e3).trans (e4.trans e5)) s5 r5⟩
theorem pft_chain {op op' : CmpOp} {r r' : R2} {g g' : G2B} (ho : OpR X (compareOp op) r) (o : Op2 X.K r (gB g)) (ho' : OpR X (compareOp op') r') (o' : Op2 X.K r' (gB g')) (ha : PFE X a fa) (hb : PFE X b fb) (hc : PFE X c fc)
    (hm : lastMarks [op, op'] [b, c] = false := by with_unfolding_all rfl) : PFT X (.Compare a [op, op'] [b, c] pos) (fChainT g g' fa fb fc) := pt_weak (pt_chain ho ho' ha hb hc hm) fun σ H Q => by
  rintro ⟨W, ρ, M, rfl, sr, sl, d, M', hf, k⟩
  obtain ⟨⟨x, M1⟩, hx, hf⟩ := Option.bind_eq_some_iff.mp hf
  obtain ⟨⟨y, M2⟩, hy, hf⟩ := Option.bind_eq_some_iff.mp hf
  obtain ⟨t, ht, hf⟩ := Option.bind_eq_some_iff.mp hf
  refine ⟨W, ρ, M, rfl, sr, sl, x, M1, hx, fun W1 v e1 s1 r1 => ⟨W1, ρ, M1, rfl, s1, sl.ext e1 sr.sub, y, M2, hy, fun W2 u e2 s2 r2 => ?_⟩⟩
  refine o W2 M2 x y (.bl t) v u _ s2 (r1.ext e2 s1.sub) r2 (by rw [gB, ht]; rfl) fun W3 z e3 s3 r3 => ⟨t, r3, ?_⟩
  cases t with
  | false =>
    rw [if_neg Bool.false_ne_true] at hf ⊢
    cases hf
    exact ⟨false, rfl, k W3 ((e1.trans e2).trans e3) s3⟩
  | true =>
    rw [if_pos rfl] at hf ⊢
    obtain ⟨⟨z', M3⟩, hz, hf⟩ := Option.bind_eq_some_iff.mp hf
    obtain ⟨t', ht', hf⟩ := Option.bind_eq_some_iff.mp hf
    cases hf
    exact ⟨W3, ρ, M2, rfl, s3, sl.ext ((e1.trans e2).trans e3) sr.sub, z', _, hz, fun W4 q e4 s4 r4 => o' W4 _ y z' (.bl _) u q _ s4 (r2.ext (e3.trans e4) s2.sub) r4 (by rw [gB, ht']; rfl) fun W5 q' e5 s5 r5 => ⟨_, r5, k W5 (((e1.trans e2).trans e3).trans (e4.trans e5)) s5⟩⟩
end
/-! ### argument lists, displays, slices -/
def fNil : FA := fun _ M => some ([], M)
def fCons (fa : FE) (fr : FA) : FA := fun ρ M => (fa ρ M).bind fun a => (fr ρ a.2).bind fun r => some (a.1 :: r.1, r.2)
def fTup (f : FA) : FE := fun ρ M => (f ρ M).bind fun a => if a.1.length ≤ LINE then some (.tup a.1, a.2) else none
def fLstD (f : FA) : FA := fun ρ M => (f ρ M).bind fun a => if a.1.length ≤ LINE then some a else none
def fFz (f : FA) : FE := fun ρ M => (f ρ M).bind fun a => some (.lst a.1, a.2)
def fMut (f : FA) : FE := fun ρ M => (f ρ M).bind fun a => some (.ref a.2.length, a.2 ++ [.lst a.1])
abbrev FO := Rho → Mem → Option (Option Int × Mem)
def liftO (K : PySem.W.Frag) (f : FO) : TO := fun σ H Q => ∃ W ρ M, W.H = H ∧ SR K W M ∧ Sl K W ρ σ ∧ ∃ d M', f ρ M = some (d, M') ∧ ∀ W', Ext W W' → SR K W' M' → Q d W'.H
abbrev PFO (X : Cx) (e : Option Expr) (f : FO) : Prop := PO X e (liftO X.K f)
def fNoPart : FO := fun _ M => some (none, M)
def fPart (fa : FE) : FO := fun ρ M => (fa ρ M).bind fun a => match a.1 with | .int i => some (some i, a.2) | _ => none
def cutD (xs : List D) (lo hi : Option Int) : List D := (xs.drop (HT.sIx xs.length 0 lo)).take (HT.sIx xs.length xs.length hi - HT.sIx xs.length 0 lo)
def gSlice (x : D) (lo hi : Option Int) (M : Mem) : Option D := match x with
  | .tup xs => some (.tup (cutD xs lo hi))
  | x => (lsOf x M).map fun xs => .lst (cutD xs lo hi)
def fSlice (fa : FE) (fl fh : FO) : FE := fun ρ M => (fa ρ M).bind fun a => (fl ρ a.2).bind fun l => (fh ρ l.2).bind fun h => (gSlice a.1 l.1 h.1 h.2).bind fun d => some (d, h.2)
def fSliceN (fa : FE) (fl fh : FO) : FA := fun ρ M => (fa ρ M).bind fun a => (fl ρ a.2).bind fun l => (fh ρ l.2).bind fun h => (lsOf a.1 h.2).bind fun d => some (cutD d l.1 h.1, h.2)
section
variable {X : Cx} {a b c : Expr} {es : List Expr} {fa fb fc : FE} {f : FA} {pos : Pos}
theorem pfa_nil : PFA X [] fNil := pa_weak pa_nil fun σ H Q => by
  rintro ⟨W, ρ, M, rfl, sr, sl, d, M', hf, k⟩
  cases hf
  exact k W [] (.refl W) sr rfl
theorem pfa_cons (ha : PFE X a fa) (hr : PFA X es f) (hs : starEach (a :: es) X.env = (false, eval a X.env) :: starEach es X.env := by rfl) : PFA X (a :: es) (fCons fa f) := pa_weak (pa_cons ha hr hs) fun σ H Q => by
  rintro ⟨W, ρ, M, rfl, sr, sl, d, M', hf, k⟩
  obtain ⟨⟨x, M1⟩, hx, hf⟩ := Option.bind_eq_some_iff.mp hf
  obtain ⟨⟨r, M2⟩, hr, hf⟩ := Option.bind_eq_some_iff.mp hf
  cases hf
  exact ⟨W, ρ, M, rfl, sr, sl, x, M1, hx, fun W1 v e1 s1 r1 => ⟨W1, ρ, M1, rfl, s1, sl.ext e1 sr.sub, r, _, hr, fun W2 vs e2 s2 r2 => k W2 (v :: vs) (e1.trans e2) s2 ⟨v, vs, rfl, r1.ext e2 s1.sub, r2⟩⟩⟩
theorem pf_tup {x1} (h : PFA X es f) : PFE X (.Tuple es x1 pos) (fTup f) := pe_weak (pe_tup h) fun σ H Q => by
  rintro ⟨W, ρ, M, rfl, sr, sl, d, M', hf, k⟩
  obtain ⟨⟨x, M1⟩, hx, hf⟩ := Option.bind_eq_some_iff.mp hf
  split at hf
  · rename_i hl
    cases hf
    exact ⟨W, ρ, M, rfl, sr, sl, x, _, hx, fun W1 vs e1 s1 r1 => ⟨by rw [line_eq, ← r1.len]; exact hl, fun p hp => k _ _ (e1.trans (Ext.put hp)) (s1.put hp) (.newTup s1 hp r1 (by rw [← r1.len]; exact hl))⟩⟩
  · cases hf
theorem pfn_lst (h : PFA X es f) : PFN X (.List es pos) (fLstD f) := pe_weak (pe_lst h) fun σ H Q => by
  rintro ⟨W, ρ, M, rfl, sr, sl, d, M', hf, k⟩
  obtain ⟨⟨x, M1⟩, hx, hf⟩ := Option.bind_eq_some_iff.mp hf
  split at hf
  · rename_i hl
    cases hf
    exact ⟨W, ρ, M, rfl, sr, sl, d, _, hx, fun W1 vs e1 s1 r1 => ⟨by rw [line_eq, ← r1.len]; exact hl, fun p hp => k W1 p vs e1 s1 hp r1 (by rw [← r1.len]; exact hl)⟩⟩
  · cases hf
theorem pf_fz (h : PFN X a f) : PFE X a (fFz f) := pe_weak h fun σ H Q => by
  rintro ⟨W, ρ, M, rfl, sr, sl, d, M', hf, k⟩
  obtain ⟨⟨x, M1⟩, hx, hf⟩ := Option.bind_eq_some_iff.mp hf
  cases hf
  exact ⟨W, ρ, M, rfl, sr, sl, x, _, hx, fun W1 p vs e1 s1 hp r1 hl => k _ _ (e1.trans (Ext.put hp)) (s1.put hp) (.newLst s1 hp r1 hl)⟩
theorem pf_mut (h : PFN X a f) : PFE X a (fMut f) := pe_weak h fun σ H Q => by
  rintro ⟨W, ρ, M, rfl, sr, sl, d, M', hf, k⟩
  obtain ⟨⟨x, M1⟩, hx, hf⟩ := Option.bind_eq_some_iff.mp hf
  cases hf
  exact ⟨W, ρ, M, rfl, sr, sl, x, _, hx, fun W1 p vs e1 s1 hp r1 hl => k _ _ (e1.trans (Ext.mk2 hp)) (s1.mk2 hp r1 hl) (.mk2 s1)⟩
theorem po_weak {e : Option Expr} {t t' : TO} (h : PO X e t) (i : ∀ σ H Q, t' σ H Q → t σ H Q) : PO X e t' := ⟨fun pins s σ H Q I q => h.run pins s σ H Q I (i σ H Q q)⟩
theorem pfo_none : PFO X none fNoPart := po_weak po_none fun σ H Q => by
  rintro ⟨W, ρ, M, rfl, sr, sl, d, M', hf, k⟩
  cases hf
  exact k W (.refl W) sr
theorem pfo_some (ha : PFE X a fa) : PFO X (some a) (fPart fa) := po_weak (po_some ha) fun σ H Q => by
  rintro ⟨W, ρ, M, rfl, sr, sl, d, M', hf, k⟩
  obtain ⟨⟨x, M1⟩, hx, hf⟩ := Option.bind_eq_some_iff.mp hf
  dsimp only at hf
  split at hf
  · cases hf
    exact ⟨W, ρ, M, rfl, sr, sl, _, _, hx, fun W1 v e1 s1 r1 => ⟨_, r1, k W1 e1 s1⟩⟩
  · cases hf
theorem RpL.cut {K : PySem.W.Frag} {W : Wo} {xs : List D} {vs : List V} (h : RpL K W xs vs) (lo hi : Option Int) : RpL K W (cutD xs lo hi) (cutV vs lo hi) := by
  unfold cutD cutV
  rw [h.len]
  exact (h.drop _).take _
theorem cut_len (vs : List V) (lo hi : Option Int) (h : vs.length ≤ LINE) : (cutV vs lo hi).length ≤ LINE := Nat.le_trans (cutV_length vs lo hi) h
def rSlice (K : PySem.W.Frag) : V → Option Int → Option Int → Hp → VK → Prop := fun x lo hi H Q => rSlA K x lo hi H Q ∨ rSlL K x lo hi H Q
theorem sl_any : SlR X (rSlice X.K) := sl_tupA.or sl_list
theorem pf_slice {lo hi : Option Expr} {fl fh : FO} {p2 : Pos} (ha : PFE X a fa) (hl : PFO X lo fl) (hh : PFO X hi fh) : PFE X (.Subscript a (.Slice lo hi none p2) pos) (fSlice fa fl fh) := pe_weak (pe_slice sl_any ha hl hh) fun σ H Q => by
  rintro ⟨W, ρ, M, rfl, sr, sl, d, M', hf, k⟩
  obtain ⟨⟨x, M1⟩, hx, hf⟩ := Option.bind_eq_some_iff.mp hf
  obtain ⟨⟨l, M2⟩, hl, hf⟩ := Option.bind_eq_some_iff.mp hf
  obtain ⟨⟨h, M3⟩, hh, hf⟩ := Option.bind_eq_some_iff.mp hf
  obtain ⟨d', hd, hf⟩ := Option.bind_eq_some_iff.mp hf
  cases hf
  refine ⟨W, ρ, M, rfl, sr, sl, x, M1, hx, fun W1 v e1 s1 r1 => ⟨W1, ρ, M1, rfl, s1, sl.ext e1 sr.sub, l, M2, hl, fun W2 e2 s2 => ⟨W2, ρ, M2, rfl, s2, sl.ext (e1.trans e2) sr.sub, h, _, hh, fun W3 e3 s3 => ?_⟩⟩⟩
  have r3 := r1.ext (e2.trans e3) s1.sub
  have e123 := e1.trans (e2.trans e3)
  have lists : (lsOf x M3).map (fun xs => D.lst (cutD xs l h)) = some d → rSlice X.K v l h W3.H Q := fun e => by
    obtain ⟨xs, hx, e⟩ := Option.map_eq_some_iff.mp e
    subst e
    obtain ⟨p, vs, rfl, h1, q1⟩ := ls_sq s3 r3 hx
    exact .inr ⟨p, vs, rfl, h1, fun t nt => k _ _ (e123.trans (Ext.put nt)) (s3.put nt) (.newLst s3 nt (q1.cut l h) (cut_len _ _ _ (by rw [← q1.len]; exact ls_len s3 r3 hx)))⟩
  cases x with
  | tup xs =>
    cases hd
    obtain ⟨p, vs, rfl, h1, q1⟩ := tp_sq r3
    refine .inl ⟨p, vs, rfl, h1, fun e => ?_, fun _ t nt => k _ _ (e123.trans (Ext.put nt)) (s3.put nt) (.newTup s3 nt (q1.cut l h) (cut_len _ _ _ (by rw [← q1.len]; exact sq_len s3 r3 rfl)))⟩
    have ec : cutD xs l h = xs := by
      unfold cutD
      rw [q1.len, e.1, e.2, ← q1.len]
      simp
    exact k W3 _ e123 s3 (by rw [ec]; exact r3)
  | _ => exact lists hd
theorem pfn_slice {lo hi : Option Expr} {fl fh : FO} {p2 : Pos} (ha : PFE X a fa) (hl : PFO X lo fl) (hh : PFO X hi fh) : PFN X (.Subscript a (.Slice lo hi none p2) pos) (fSliceN fa fl fh) := pe_weak (pe_slice sl_list ha hl hh) fun σ H Q => by
  rintro ⟨W, ρ, M, rfl, sr, sl, d, M', hf, k⟩
  obtain ⟨⟨x, M1⟩, hx, hf⟩ := Option.bind_eq_some_iff.mp hf
  obtain ⟨⟨l, M2⟩, hl, hf⟩ := Option.bind_eq_some_iff.mp hf
  obtain ⟨⟨h, M3⟩, hh, hf⟩ := Option.bind_eq_some_iff.mp hf
  obtain ⟨d', hd, hf⟩ := Option.bind_eq_some_iff.mp hf
  cases hf
  refine ⟨W, ρ, M, rfl, sr, sl, x, M1, hx, fun W1 v e1 s1 r1 => ⟨W1, ρ, M1, rfl, s1, sl.ext e1 sr.sub, l, M2, hl, fun W2 e2 s2 => ⟨W2, ρ, M2, rfl, s2, sl.ext (e1.trans e2) sr.sub, h, _, hh, fun W3 e3 s3 => ?_⟩⟩⟩
  have r3 := r1.ext (e2.trans e3) s1.sub
  have hl := ls_len s3 r3 hd
  obtain ⟨p, vs, rfl, h1, q1⟩ := ls_sq s3 r3 hd
  exact ⟨p, vs, rfl, h1, fun t nt => k W3 t _ (e1.trans (e2.trans e3)) s3 nt (q1.cut l h) (cut_len _ _ _ (by rw [← q1.len]; exact hl))⟩
/-- xs[::-1] of a list -/
def fRevN (fa : FE) : FA := fun ρ M => (fa ρ M).bind fun a => (lsOf a.1 a.2).bind fun xs => some (xs.reverse, a.2)
theorem pfn_rev {k : Nat} {p1 p2 p3 pos : Pos} (ha : PFE X a fa) : PFN X (.Subscript a (.Slice none none (some (.UnaryOp .USub (.Constant (.int 1) k p1) p2)) p3) pos) (fRevN fa) := pe_weak (pe_revL ha) fun σ H Q => by
  rintro ⟨W, ρ, M, rfl, sr, sl, d, M', hf, k⟩
  obtain ⟨⟨x, M1⟩, hx, hf⟩ := Option.bind_eq_some_iff.mp hf
  obtain ⟨xs, hl, hf⟩ := Option.bind_eq_some_iff.mp hf
  cases hf
  refine ⟨W, ρ, M, rfl, sr, sl, x, _, hx, fun W1 v e1 s1 r1 => ?_⟩
  have hz := ls_len s1 r1 hl
  obtain ⟨p, vs, rfl, h1, q1⟩ := ls_sq s1 r1 hl
  exact ⟨p, vs, rfl, h1, fun t nt => k W1 t _ e1 s1 nt q1.reverse (by rw [List.length_reverse, ← q1.len]; exact hz)⟩
end
end PF
namespace PF
open PySem PySem.Spec PyProof.Rows L2
/-! ### equality of data, as a Bool -/
mutual
def D.beq : D → D → Bool
  | .non, .non => true
  | .bl a, .bl b => a == b
  | .int a, .int b => a == b
  | .str a, .str b => decide (a = b)
  | .tup a, .tup b => D.beqs a b
  | .lst a, .lst b => D.beqs a b
  | .kst a, .kst b => D.beqs a b
  | .ref a, .ref b => a == b
  | _, _ => false
def D.beqs : List D → List D → Bool
  | [], [] => true
  | a :: as, b :: bs => D.beq a b && D.beqs as bs
  | _, _ => false
end
mutual
theorem D.beq_refl : ∀ a : D, D.beq a a = true
  | .non => by simp [D.beq]
  | .bl _ => by simp [D.beq]
  | .int _ => by simp [D.beq]
  | .str _ => by simp [D.beq]
  | .ref _ => by simp [D.beq]
  | .tup xs => by rw [D.beq]; exact D.beqs_refl xs
  | .lst xs => by rw [D.beq]; exact D.beqs_refl xs
  | .kst xs => by rw [D.beq]; exact D.beqs_refl xs
theorem D.beqs_refl : ∀ a : List D, D.beqs a a = true
  | [] => by simp [D.beqs]
  | x :: xs => by rw [D.beqs, D.beq_refl x, D.beqs_refl xs]; rfl
end
mutual
theorem D.eq_of_beq : ∀ a b : D, D.beq a b = true → a = b
  | .non, b, h => by cases b <;> simp [D.beq] at h ⊢
  | .bl _, b, h => by cases b <;> simp [D.beq] at h ⊢ <;> exact h
  | .int _, b, h => by cases b <;> simp [D.beq] at h ⊢ <;> exact h
  | .str _, b, h => by cases b <;> simp [D.beq] at h ⊢ <;> exact h
  | .ref _, b, h => by cases b <;> simp [D.beq] at h ⊢ <;> exact h
  | .tup xs, b, h => by
    cases b with
    | tup ys => rw [D.beq] at h; rw [D.eqs_of_beqs xs ys h]
    | _ => simp [D.beq] at h
  | .lst xs, b, h => by
    cases b with
    | lst ys => rw [D.beq] at h; rw [D.eqs_of_beqs xs ys h]
    | _ => simp [D.beq] at h
  | .kst xs, b, h => by
    cases b with
    | kst ys => rw [D.beq] at h; rw [D.eqs_of_beqs xs ys h]
    | _ => simp [D.beq] at h
theorem D.eqs_of_beqs : ∀ a b : List D, D.beqs a b = true → a = b
  | [], [], _ => rfl
  | [], _ :: _, h => by simp [D.beqs] at h
  | _ :: _, [], h => by simp [D.beqs] at h
  | x :: xs, y :: ys, h => by
    rw [D.beqs, Bool.and_eq_true] at h
    rw [D.eq_of_beq x y h.1, D.eqs_of_beqs xs ys h.2]
end
/-! ### what statements compute, wanted at an end -/
def OutK (K : PySem.W.Frag) (E : Ends) (W : Wo) (M' : Mem) : Out → Prop
  | .nx ρ' => ∀ W' σ', Ext W W' → SR K W' M' → Sl K W' ρ' σ' → E.nx σ' W'.H
  | .bk ρ' => ∀ W' σ', Ext W W' → SR K W' M' → Sl K W' ρ' σ' → E.bk σ' W'.H
  | .ct ρ' => ∀ W' σ', Ext W W' → SR K W' M' → Sl K W' ρ' σ' → E.ct σ' W'.H
  | .ret d => ∀ W' v, Ext W W' → SR K W' M' → Rp K W' d v → E.rt v W'.H
theorem OutK.ext {K : PySem.W.Frag} {E : Ends} {W W1 : Wo} {M' : Mem} {o : Out} (e : Ext W W1) (h : OutK K E W M' o) : OutK K E W1 M' o := by
  cases o with
  | nx ρ => exact fun W' σ' e' => h W' σ' (e.trans e')
  | bk ρ => exact fun W' σ' e' => h W' σ' (e.trans e')
  | ct ρ => exact fun W' σ' e' => h W' σ' (e.trans e')
  | ret d => exact fun W' v e' => h W' v (e.trans e')
theorem liftS_iff {K : PySem.W.Frag} {f : FS} {E : Ends} {σ : L2.St} {H : Hp} : liftS K f E σ H ↔ ∃ W ρ M, W.H = H ∧ SR K W M ∧ Sl K W ρ σ ∧ ∃ o M', f ρ M = some (o, M') ∧ OutK K E W M' o := by
  constructor
  · rintro ⟨W, ρ, M, h1, h2, h3, o, M', hf, k⟩
    refine ⟨W, ρ, M, h1, h2, h3, o, M', hf, ?_⟩
    cases o <;> exact k
  · rintro ⟨W, ρ, M, h1, h2, h3, o, M', hf, k⟩
    refine ⟨W, ρ, M, h1, h2, h3, o, M', hf, ?_⟩
    cases o <;> exact k
theorem sl_set {K : PySem.W.Frag} {W : Wo} {ρ : Rho} {σ : L2.St} {i : Nat} {d : D} {v : V} (h : Sl K W ρ σ) (r : Rp K W d v) : Sl K W (ρ.set i (some d)) (σ.set i (some v)) := by
  refine ⟨by rw [List.length_set, List.length_set]; exact h.len, fun j e hj => ?_⟩
  by_cases hji : j = i
  · subst hji
    have hl : j < ρ.length := by
      have := (List.getElem?_eq_some_iff.mp hj).1
      rw [List.length_set] at this; exact this
    rw [List.getElem?_set_self hl] at hj
    cases hj
    exact ⟨v, by rw [List.getElem?_set_self (by rw [← h.len]; exact hl)], r⟩
  · rw [List.getElem?_set_ne (Ne.symm hji)] at hj ⊢
    exact h.at_ j e hj
/-! ### targets -/
abbrev FG := D → Rho → Option Rho
abbrev FGs := List D → Rho → Option Rho
/-- vs: the slots that the target may change -/
def liftG (K : PySem.W.Frag) (vs : List Nat) (t : FG) : TG := fun v σ H Q => ∃ W ρ M d, W.H = H ∧ SR K W M ∧ Sl K W ρ σ ∧ Rp K W d v ∧ ∃ ρ', t d ρ = some ρ' ∧ ∀ W' σ', Ext W W' → SR K W' M → Sl K W' ρ' σ' → wipe σ' vs = wipe σ vs → Q σ' W'.H
def liftGs (K : PySem.W.Frag) (vs : List Nat) (t : FGs) : TGs := fun v σ H Q => ∃ W ρ M d, W.H = H ∧ SR K W M ∧ Sl K W ρ σ ∧ RpL K W d v ∧ ∃ ρ', t d ρ = some ρ' ∧ ∀ W' σ', Ext W W' → SR K W' M → Sl K W' ρ' σ' → wipe σ' vs = wipe σ vs → Q σ' W'.H
abbrev PFG (X : Cx) (vs : List Nat) (e : Expr) (t : FG) : Prop := PG X e (liftG X.K vs t)
abbrev PFGs (X : Cx) (vs : List Nat) (e : List Expr) (t : FGs) : Prop := PGs X e (liftGs X.K vs t)
def tN (i : Nat) : FG := fun d ρ => some (ρ.set i (some d))
def tT (n : Nat) (t : FGs) : FG := fun d ρ => match d with | .tup xs => if xs.length = n then t xs ρ else none | _ => none
def tsN : FGs := fun ds ρ => match ds with | [] => some ρ | _ => none
def tsC (t : FG) (u : FGs) : FGs := fun ds ρ => match ds with | d :: r => (t d ρ).bind fun ρ' => u r ρ' | [] => none
theorem wipe_set_in {i : Nat} {v : Option V} : ∀ {vs : List Nat} {σ : L2.St}, i ∈ vs → wipe (σ.set i v) vs = wipe σ vs
  | [], _, h => by simp at h
  | w :: vs, σ, h => by
    unfold wipe
    by_cases hw : i ∈ vs
    · rw [wipe_set_in hw]
    · have e : i = w := by
        rcases List.mem_cons.mp h with e | h
        · exact e
        · exact absurd h hw
      subst e
      have out : ∀ (ws : List Nat) (σ : L2.St), i ∉ ws → wipe (σ.set i v) ws = (wipe σ ws).set i v := by
        intro ws
        induction ws with
        | nil => intro σ _; rfl
        | cons z zs ih =>
          intro σ hz
          unfold wipe
          rw [ih σ fun q => hz (List.mem_cons_of_mem _ q), List.set_comm _ _ (fun q => hz (by rw [q]; exact List.mem_cons_self))]
      rw [out vs σ hw, List.set_set]
section
variable {X : Cx} {pos : Pos} {vs : List Nat}
theorem pg_weak {e : Expr} {t t' : TG} (h : PG X e t) (i : ∀ v σ H Q, t' v σ H Q → t v σ H Q) : PG X e t' := ⟨fun pins s σ H v u Q I r q => h.run pins s σ H v u Q I r (i v σ H Q q)⟩
theorem pgs_weak {e : List Expr} {t t' : TGs} (h : PGs X e t) (i : ∀ v σ H Q, t' v σ H Q → t v σ H Q) : PGs X e t' := ⟨fun pins s σ H v u Q I r q => h.run pins s σ H v u Q I r (i v σ H Q q)⟩
theorem pfg_name {i : Nat} {x : Str} (hN : X.N.Nodup) (hi : X.N[i]? = some x) (hx : Loc X.env.scope x) (hv : i ∈ vs := by decide) (hf : X.fn x = true ∨ X.env.scope.names.lookup x = some .local := by first | exact .inl rfl | exact .inr rfl | assumption) : PFG X vs (.Name x pos) (tN i) := pg_weak (pg_name hN hi hx hf) fun v σ H Q => by
  rintro ⟨W, ρ, M, d, rfl, sr, sl, r, ρ', ht, k⟩
  cases ht
  exact k W _ (.refl W) sr (sl_set sl r) (wipe_set_in hv)
theorem pfgs_nil : PFGs X vs [] tsN := pgs_weak pgs_nil fun v σ H Q => by
  rintro ⟨W, ρ, M, d, rfl, sr, sl, r, ρ', ht, k⟩
  unfold tsN at ht
  split at ht
  · cases ht
    cases (show _ = _ from r)
    exact ⟨rfl, k W _ (.refl W) sr sl rfl⟩
  · cases ht
theorem pfgs_cons {e : Expr} {es : List Expr} {t : FG} {u : FGs} (h1 : PFG X vs e t) (h2 : PFGs X vs es u) (hs : (assignEach (e :: es) X.env).map (·.2) = assign e X.env :: (assignEach es X.env).map (·.2) := by rfl) : PFGs X vs (e :: es) (tsC t u) := pgs_weak (pgs_cons h1 h2 hs) fun v σ H Q => by
  rintro ⟨W, ρ, M, d, rfl, sr, sl, r, ρ', ht, k⟩
  unfold tsC at ht
  split at ht
  · obtain ⟨ρ1, h1, h2⟩ := Option.bind_eq_some_iff.mp ht
    obtain ⟨v1, vr, rfl, q1, q2⟩ := r
    exact ⟨v1, vr, rfl, W, ρ, M, _, rfl, sr, sl, q1, ρ1, h1, fun W1 σ1 e1 s1 l1 w1 => ⟨W1, ρ1, M, _, rfl, s1, l1, q2.ext e1 sr.sub, ρ', h2, fun W2 σ2 e2 s2 l2 w2 => k W2 σ2 (e1.trans e2) s2 l2 (w2.trans w1)⟩⟩
  · cases ht
theorem pfg_tup {es : List Expr} {k : Nat} {t : FGs} {n : Nat} (hc : X.calm = true) (h : PFGs X vs es t) (hn : (assignEach es X.env).length = n := by rfl) (hst : (assignEach es X.env).findIdx? (·.1) = none := by rfl) : PFG X vs (.Tuple es k pos) (tT n t) := pg_weak (pg_tup hc h hn hst) fun v σ H Q => by
  rintro ⟨W, ρ, M, d, rfl, sr, sl, r, ρ', ht, k⟩
  unfold tT at ht
  split at ht
  · split at ht
    · rename_i hl
      obtain ⟨a, vs, rfl, h1, q1⟩ := tp_sq r
      exact ⟨a, vs, rfl, h1, by rw [← q1.len]; exact hl, W, ρ, M, _, rfl, sr, sl, q1, ρ', ht, k⟩
    · cases ht
  · cases ht
end
/-! ### statements -/
def sNext : FS := fun ρ M => some (.nx ρ, M)
def sSeq (f g : FS) : FS := fun ρ M => (f ρ M).bind fun o => match o.1 with | .nx ρ' => g ρ' o.2 | _ => some o
def sBreak : FS := fun ρ M => some (.bk ρ, M)
def sCont : FS := fun ρ M => some (.ct ρ, M)
def sDrop (f : FE) : FS := fun ρ M => (f ρ M).bind fun a => some (.nx ρ, a.2)
def sRet (f : FE) : FS := fun ρ M => (f ρ M).bind fun a => some (.ret a.1, a.2)
def sRetN : FS := fun _ M => some (.ret .non, M)
def sIf (c : FT) (f g : FS) : FS := fun ρ M => (c ρ M).bind fun a => if a.1 = true then f ρ a.2 else g ρ a.2
def sSet (i : Nat) (f : FE) : FS := fun ρ M => (f ρ M).bind fun a => some (.nx (ρ.set i (some a.1)), a.2)
def sAsg (f : FE) (t : FG) : FS := fun ρ M => (f ρ M).bind fun a => (t a.1 ρ).bind fun ρ' => some (.nx ρ', a.2)
def sPar (i j : Nat) (f : FA) : FS := fun ρ M => (f ρ M).bind fun a => match a.1 with | [x, y] => some (.nx ((ρ.set i (some x)).set j (some y)), a.2) | _ => none
def sPar3 (i j l : Nat) (f : FA) : FS := fun ρ M => (f ρ M).bind fun a => match a.1 with | [x, y, z] => some (.nx (((ρ.set i (some x)).set j (some y)).set l (some z)), a.2) | _ => none
abbrev G2M := D → D → Mem → Option (D × Mem)
def sAug (i : Nat) (g : G2M) (f : FE) : FS := fun ρ M => match ρ[i]? with | some (some x) => (f ρ M).bind fun a => (g x a.1 a.2).bind fun z => some (.nx (ρ.set i (some z.1)), z.2) | _ => none
def Op2M (K : PySem.W.Frag) (r : R2) (g : G2M) : Prop := ∀ (W : Wo) (M M' : Mem) (x y d : D) (v u : V) (Q : VK), SR K W M → Rp K W x v → Rp K W y u → g x y M = some (d, M') →
  (∀ W' v', Ext W W' → SR K W' M' → Rp K W' d v' → Q v' W'.H) → r v u W.H Q
section
variable {X : Cx} {st : Stmt} {rest : List Stmt} {f g : FS} {e : Expr} {fe : FE} {pos : Pos}
theorem pfs_nil : PFSs X [] sNext := pss_weak pss_nil fun E σ H => by
  rw [liftS_iff]
  rintro ⟨W, ρ, M, rfl, sr, sl, o, M', hf, k⟩
  cases hf
  exact k W σ (.refl W) sr sl
theorem pfs_cons (h1 : PFS X st f) (h2 : PFSs X rest g) : PFSs X (st :: rest) (sSeq f g) := pss_weak (pss_cons h1 h2) fun E σ H => by
  rw [liftS_iff]
  rintro ⟨W, ρ, M, rfl, sr, sl, o, M', hf, k⟩
  obtain ⟨⟨o1, M1⟩, h1, hf⟩ := Option.bind_eq_some_iff.mp hf
  show liftS X.K f _ σ W.H
  rw [liftS_iff]
  refine ⟨W, ρ, M, rfl, sr, sl, o1, M1, h1, ?_⟩
  cases o1 with
  | nx ρ1 =>
    intro W1 σ1 e1 s1 l1
    exact liftS_iff.mpr ⟨W1, ρ1, M1, rfl, s1, l1, o, M', hf, k.ext e1⟩
  | ret d => cases hf; exact k
  | bk d => cases hf; exact k
  | ct d => cases hf; exact k
theorem pfs_one (h1 : PFS X st f) : PFSs X [st] f := pss_one h1
theorem pfs_pass : PFS X (.Pass pos) sNext := ps_weak ps_pass fun E σ H => by
  rw [liftS_iff]
  rintro ⟨W, ρ, M, rfl, sr, sl, o, M', hf, k⟩
  cases hf
  exact k W σ (.refl W) sr sl
theorem pfs_break : PFS X (.Break pos) sBreak := ps_weak ps_break fun E σ H => by
  rw [liftS_iff]
  rintro ⟨W, ρ, M, rfl, sr, sl, o, M', hf, k⟩
  cases hf
  exact k W σ (.refl W) sr sl
theorem pfs_continue : PFS X (.Continue pos) sCont := ps_weak ps_continue fun E σ H => by
  rw [liftS_iff]
  rintro ⟨W, ρ, M, rfl, sr, sl, o, M', hf, k⟩
  cases hf
  exact k W σ (.refl W) sr sl
theorem pfs_doc {x j pos pos'} : PFS X (.Expr (.Constant (.str x) j pos) pos') sNext := ps_weak ps_doc fun E σ H => by
  rw [liftS_iff]
  rintro ⟨W, ρ, M, rfl, sr, sl, o, M', hf, k⟩
  cases hf
  exact k W σ (.refl W) sr sl
theorem pfs_expr (he : PFE X e fe) (hs : swapsWith e none pos.line X.env = pure false := by rfl) : PFS X (.Expr e pos) (sDrop fe) := ps_weak (ps_expr he hs) fun E σ H => by
  rw [liftS_iff]
  rintro ⟨W, ρ, M, rfl, sr, sl, o, M', hf, k⟩
  obtain ⟨⟨x, M1⟩, hx, hf⟩ := Option.bind_eq_some_iff.mp hf
  cases hf
  exact ⟨W, ρ, M, rfl, sr, sl, x, _, hx, fun W1 v e1 s1 r1 => k W1 σ e1 s1 (sl.ext e1 sr.sub)⟩
theorem pfs_ret (he : PFE X e fe) : PFS X (.Return (some e) pos) (sRet fe) := ps_weak (ps_ret he) fun E σ H => by
  rw [liftS_iff]
  rintro ⟨W, ρ, M, rfl, sr, sl, o, M', hf, k⟩
  obtain ⟨⟨x, M1⟩, hx, hf⟩ := Option.bind_eq_some_iff.mp hf
  cases hf
  exact ⟨W, ρ, M, rfl, sr, sl, x, _, hx, fun W1 v e1 s1 r1 => k W1 v e1 s1 r1⟩
theorem pfs_retN : PFS X (.Return none pos) sRetN := ps_weak ps_retN fun E σ H => by
  rw [liftS_iff]
  rintro ⟨W, ρ, M, rfl, sr, sl, o, M', hf, k⟩
  cases hf
  exact k W .non (.refl W) sr rfl
theorem pfs_if {c : Expr} {a b : List Stmt} {fc : FT} (hc : PFT X c fc) (ha : PFSs X a f) (hb : PFSs X b g) : PFS X (.If c a b pos) (sIf fc f g) := ps_weak (ps_if hc ha hb) fun E σ H => by
  rw [liftS_iff]
  rintro ⟨W, ρ, M, rfl, sr, sl, o, M', hf, k⟩
  obtain ⟨⟨x, M1⟩, hx, hf⟩ := Option.bind_eq_some_iff.mp hf
  refine ⟨W, ρ, M, rfl, sr, sl, x, M1, hx, fun W1 e1 s1 => ?_⟩
  cases x with
  | true =>
    rw [if_pos rfl] at hf ⊢
    exact liftS_iff.mpr ⟨W1, ρ, M1, rfl, s1, sl.ext e1 sr.sub, o, M', hf, k.ext e1⟩
  | false =>
    rw [if_neg Bool.false_ne_true] at hf ⊢
    exact liftS_iff.mpr ⟨W1, ρ, M1, rfl, s1, sl.ext e1 sr.sub, o, M', hf, k.ext e1⟩
theorem pfs_set {i : Nat} {x : Str} {pos' : Pos} (hN : X.N.Nodup) (hi : X.N[i]? = some x) (hx : Loc X.env.scope x) (he : PFE X e fe) (hs : swapsWith e (some (.Name x pos')) pos.line X.env = pure false := by rfl) (hf : X.fn x = true ∨ X.env.scope.names.lookup x = some .local := by first | exact .inl rfl | exact .inr rfl | assumption) :
    PFS X (.Assign [.Name x pos'] e pos) (sSet i fe) := ps_weak (ps_set hN hi hx he hs hf) fun E σ H => by
  rw [liftS_iff]
  rintro ⟨W, ρ, M, rfl, sr, sl, o, M', hf, k⟩
  obtain ⟨⟨x, M1⟩, hx, hf⟩ := Option.bind_eq_some_iff.mp hf
  cases hf
  exact ⟨W, ρ, M, rfl, sr, sl, x, _, hx, fun W1 v e1 s1 r1 => k W1 _ e1 s1 (sl_set (sl.ext e1 sr.sub) r1)⟩
theorem pfs_asg {tg : Expr} {t : FG} {vs : List Nat} (he : PFE X e fe) (hg : PFG X vs tg t) (hs : swapsWithSole [tg] e pos.line X.env = pure false := by rfl) (hw : swappedStores [tg] e X.env = pure none := by rfl)
    (h1 : (assignEach [tg] X.env).map (·.2) = [assign tg X.env] := by rfl) : PFS X (.Assign [tg] e pos) (sAsg fe t) := ps_weak (ps_asg he hg hs hw h1) fun E σ H => by
  rw [liftS_iff]
  rintro ⟨W, ρ, M, rfl, sr, sl, o, M', hf, k⟩
  obtain ⟨⟨x, M1⟩, hx, hf⟩ := Option.bind_eq_some_iff.mp hf
  obtain ⟨ρ', ht, hf⟩ := Option.bind_eq_some_iff.mp hf
  cases hf
  exact ⟨W, ρ, M, rfl, sr, sl, x, _, hx, fun W1 v e1 s1 r1 => ⟨W1, ρ, _, x, rfl, s1, sl.ext e1 sr.sub, r1, ρ', ht, fun W2 σ2 e2 s2 l2 _ => k W2 σ2 (e1.trans e2) s2 l2⟩⟩
theorem pfs_par {i j : Nat} {x y : Str} {a b : Expr} {fa : FA} {px py pt : Pos} {kt k2 pt2} (hc : X.calm = true) (hN : X.N.Nodup) (hi : X.N[i]? = some x) (hj : X.N[j]? = some y) (hij : i ≠ j)
    (hx : X.env.scope.names.lookup x = some .local) (hy : X.env.scope.names.lookup y = some .local) (ha : PFA X [a, b] fa)
    (hw : swappedStores [.Tuple [.Name x px, .Name y py] kt pt] (.Tuple [a, b] k2 pt2) X.env = pure (some [x, y]))
    (hs : swapsWithSole [.Tuple [.Name x px, .Name y py] kt pt] (.Tuple [a, b] k2 pt2) pos.line X.env = pure false := by rfl) :
    PFS X (.Assign [.Tuple [.Name x px, .Name y py] kt pt] (.Tuple [a, b] k2 pt2) pos) (sPar i j fa) := ps_weak (ps_par hc hN hi hj hij hx hy ha hw hs) fun E σ H => by
  rw [liftS_iff]
  rintro ⟨W, ρ, M, rfl, sr, sl, o, M', hf, k⟩
  obtain ⟨⟨x, M1⟩, hx, hf⟩ := Option.bind_eq_some_iff.mp hf
  dsimp only at hf
  split at hf
  · cases hf
    refine ⟨W, ρ, M, rfl, sr, sl, _, _, hx, fun W1 v e1 s1 r1 => ?_⟩
    obtain ⟨v1, r, rfl, q1, v2, r', rfl, q2, q3⟩ := r1
    cases (show _ = _ from q3)
    exact ⟨v1, v2, rfl, k W1 _ e1 s1 (sl_set (sl_set (sl.ext e1 sr.sub) q1) q2)⟩
  · cases hf
theorem pfs_par3 {i j l : Nat} {x y z : Str} {a b c : Expr} {fa : FA} {px py pz pt : Pos} {kt k2 pt2} (hc : X.calm = true) (hN : X.N.Nodup) (hi : X.N[i]? = some x) (hj : X.N[j]? = some y) (hl : X.N[l]? = some z) (hij : i ≠ j) (hil : i ≠ l) (hjl : j ≠ l)
    (hx : X.env.scope.names.lookup x = some .local) (hy : X.env.scope.names.lookup y = some .local) (hz : X.env.scope.names.lookup z = some .local) (ha : PFA X [a, b, c] fa)
    (hw : swappedStores [.Tuple [.Name x px, .Name y py, .Name z pz] kt pt] (.Tuple [a, b, c] k2 pt2) X.env = pure (some [x, y, z]))
    (hs : swapsWithSole [.Tuple [.Name x px, .Name y py, .Name z pz] kt pt] (.Tuple [a, b, c] k2 pt2) pos.line X.env = pure false := by rfl) :
    PFS X (.Assign [.Tuple [.Name x px, .Name y py, .Name z pz] kt pt] (.Tuple [a, b, c] k2 pt2) pos) (sPar3 i j l fa) := ps_weak (ps_par3 hc hN hi hj hl hij hil hjl hx hy hz ha hw hs) fun E σ H => by
  rw [liftS_iff]
  rintro ⟨W, ρ, M, rfl, sr, sl, o, M', hf, k⟩
  obtain ⟨⟨x, M1⟩, hx, hf⟩ := Option.bind_eq_some_iff.mp hf
  dsimp only at hf
  split at hf
  · cases hf
    refine ⟨W, ρ, M, rfl, sr, sl, _, _, hx, fun W1 v e1 s1 r1 => ?_⟩
    obtain ⟨v1, r, rfl, q1, v2, r', rfl, q2, v3, r'', rfl, q3, q4⟩ := r1
    cases (show _ = _ from q4)
    exact ⟨v1, v2, v3, rfl, k W1 _ e1 s1 (sl_set (sl_set (sl_set (sl.ext e1 sr.sub) q1) q2) q3)⟩
  · cases hf
theorem pfs_aug {i : Nat} {x : Str} {op : Operator} {r : R2} {gm : G2M} {pos' : Pos} (hN : X.N.Nodup) (hi : X.N[i]? = some x) (hx : Loc X.env.scope x) (he : PFE X e fe) (ho : OpR X (inplaceOp op) r) (o : Op2M X.K r gm) (hf : X.fn x = true ∨ X.env.scope.names.lookup x = some .local := by first | exact .inl rfl | exact .inr rfl | assumption) :
    PFS X (.AugAssign (.Name x pos') op e pos) (sAug i gm fe) := ps_weak (ps_aug (ti := r) hN hi hx he ho hf) fun E σ H => by
  rw [liftS_iff]
  rintro ⟨W, ρ, M, rfl, sr, sl, o', M', hf, k⟩
  unfold sAug at hf
  split at hf
  · rename_i d hd
    obtain ⟨⟨y, M1⟩, hy, hf⟩ := Option.bind_eq_some_iff.mp hf
    obtain ⟨⟨z, M2⟩, hz, hf⟩ := Option.bind_eq_some_iff.mp hf
    cases hf
    obtain ⟨v, h1, h2⟩ := sl.at_ i d hd
    exact ⟨v, h1, W, ρ, M, rfl, sr, sl, y, M1, hy, fun W1 u e1 s1 r1 => o W1 M1 _ d y z v u _ s1 (h2.ext e1 sr.sub) r1 hz fun W2 w e2 s2 r2 => k W2 _ (e1.trans e2) s2 (sl_set (sl.ext (e1.trans e2) sr.sub) r2)⟩
  · cases hf
end
/-! ### while -/
def sWhileN (fc : FT) (fb : FS) : Nat → FS
  | 0, _, _ => none
  | n + 1, ρ, M => (fc ρ M).bind fun c => if c.1 = true then (fb ρ c.2).bind fun o => match o.1 with
      | .nx ρ' => sWhileN fc fb n ρ' o.2
      | .ct ρ' => sWhileN fc fb n ρ' o.2
      | .bk ρ' => some (.nx ρ', o.2)
      | .ret d => some (.ret d, o.2)
    else some (.nx ρ, c.2)
def fuel (ρ : Rho) (M : Mem) : Nat := ρ.foldl (fun n d => n + match d with | some (.int i) => i.natAbs | _ => 0) 1000000
def sWhile (fc : FT) (fb : FS) : FS := fun ρ M => sWhileN fc fb (fuel ρ M) ρ M
theorem pfs_while {X : Cx} {pos : Pos} {c : Expr} {body : List Stmt} {fc : FT} {fb : FS} (hp : PassesOwn (model X.prog X.w) X.A X.env X.xe) (hc : PFT X c fc) (hb : PFSs X body fb) : PFS X (.While c body [] pos) (sWhile fc fb) := ps_weak (ps_while hp hc hb) fun E σ H => by
  rw [liftS_iff]
  rintro ⟨W, ρ, M, rfl, sr, sl, o, M', hf, k⟩
  refine ⟨fun n σ' H' => ∃ W1 ρ1 M1, W1.H = H' ∧ Ext W W1 ∧ SR X.K W1 M1 ∧ Sl X.K W1 ρ1 σ' ∧ sWhileN fc fb n ρ1 M1 = some (o, M'), ⟨_, W, ρ, M, rfl, .refl W, sr, sl, hf⟩, ?_⟩
  rintro n σ1 H1 ⟨W1, ρ1, M1, rfl, e1, s1, l1, hw⟩
  cases n with
  | zero => cases hw
  | succ n =>
    obtain ⟨⟨b, M2⟩, hcx, hw⟩ := Option.bind_eq_some_iff.mp hw
    refine ⟨W1, ρ1, M1, rfl, s1, l1, b, M2, hcx, fun W2 e2 s2 => ?_⟩
    cases b with
    | false =>
      rw [if_neg Bool.false_ne_true] at hw ⊢
      cases hw
      exact k W2 σ1 (e1.trans e2) s2 (l1.ext e2 s1.sub)
    | true =>
      rw [if_pos rfl] at hw ⊢
      obtain ⟨⟨o3, M3⟩, ho, hw⟩ := Option.bind_eq_some_iff.mp hw
      refine ⟨fun σ' H' => ∃ W3 ρ3, W3.H = H' ∧ Ext W W3 ∧ SR X.K W3 M3 ∧ Sl X.K W3 ρ3 σ' ∧ sWhileN fc fb n ρ3 M3 = some (o, M'), ?_, liftS_iff.mpr ⟨W2, ρ1, M2, rfl, s2, l1.ext e2 s1.sub, o3, M3, ho, ?_⟩⟩
      · rintro σ' H' ⟨W3, ρ3, h1, h2, h3, h4, h5⟩
        exact ⟨n, Nat.lt_succ_self n, W3, ρ3, M3, h1, h2, h3, h4, h5⟩
      · cases o3 with
        | nx ρ3 => exact fun W3 σ3 e3 s3 l3 => ⟨W3, ρ3, rfl, (e1.trans e2).trans e3, s3, l3, hw⟩
        | ct ρ3 => exact fun W3 σ3 e3 s3 l3 => ⟨W3, ρ3, rfl, (e1.trans e2).trans e3, s3, l3, hw⟩
        | bk ρ3 => cases hw; exact fun W3 σ3 e3 s3 l3 => k W3 σ3 ((e1.trans e2).trans e3) s3 l3
        | ret d => cases hw; exact fun W3 v e3 s3 r3 => k W3 v ((e1.trans e2).trans e3) s3 r3
/-! ### for -/
/-- the items, and the changeable list that they are read from, if it is one -/
abbrev FI := Rho → Mem → Option ((List D × Option Nat) × Mem)
def chk (k : Option Nat) (xs : List D) (M : Mem) : Bool := match k with
  | none => true
  | some n => match M[n]? with | some (.lst ys) => D.beqs ys xs | _ => false
def JOk (K : PySem.W.Frag) (W : Wo) (J : It) (xs : List D) (k : Option Nat) : Prop := xs.length ≤ LINE ∧ ∀ W' M', Ext W W' → SR K W' M' → chk k xs M' = true → ∀ i,
  (∀ d, xs[i]? = some d → J.go i W'.H ∧ ∀ x H', J.yld i W'.H x H' → H' = W'.H ∧ Rp K W' d x) ∧ (xs.length ≤ i → J.stop i W'.H)
def liftI (K : PySem.W.Frag) (f : FI) : TI := fun σ H R => ∃ W ρ M, W.H = H ∧ SR K W M ∧ Sl K W ρ σ ∧ ∃ xs k M', f ρ M = some ((xs, k), M') ∧
  ∀ W' J, Ext W W' → SR K W' M' → JOk K W' J xs k → R J W'.H
abbrev PFI (X : Cx) (tg e : Expr) (f : FI) : Prop := PI X tg e (liftI X.K f)
def sLoop (c : Mem → Bool) (step : D → FS) : List D → FS
  | [], ρ, M => if c M = true then some (.nx ρ, M) else none
  | d :: ds, ρ, M => if c M = true then (step d ρ M).bind fun o => match o.1 with
      | .nx ρ' => sLoop c step ds ρ' o.2
      | .ct ρ' => sLoop c step ds ρ' o.2
      | .bk ρ' => some (.nx ρ', o.2)
      | .ret d => some (.ret d, o.2)
    else none
def sStep (t : FG) (fb : FS) (d : D) : FS := fun ρ M => (t d ρ).bind fun ρ' => fb ρ' M
def sFor (fi : FI) (t : FG) (fb : FS) : FS := fun ρ M => (fi ρ M).bind fun a => sLoop (chk a.1.2 a.1.1) (sStep t fb) a.1.1 ρ a.2
theorem pfs_for {X : Cx} {pos : Pos} {tg iter : Expr} {body : List Stmt} {fi : FI} {t : FG} {vs : List Nat} {fb : FS} (hp : PassesOwn (model X.prog X.w) X.A X.env X.xe) (hc : X.calm = true) (hi : PFI X tg iter fi) (hg : PFG X vs tg t) (hb : PFSs X body fb)
    (hs : ∀ x, foldedSetIterable iter X.env x = pure x := by intro _; rfl) : PFS X (.For tg iter body [] pos) (sFor fi t fb) := ps_weak (ps_for hp hc hi hg hb hs) fun E σ H => by
  rw [liftS_iff]
  rintro ⟨W, ρ, M, rfl, sr, sl, o, M', hf, k⟩
  obtain ⟨⟨⟨xs, kk⟩, M1⟩, hi, hf⟩ := Option.bind_eq_some_iff.mp hf
  refine ⟨W, ρ, M, rfl, sr, sl, xs, kk, M1, hi, fun W1 J e1 s1 jo => ?_⟩
  refine ⟨fun i m σ' H' => ∃ W2 ρ2 M2, W2.H = H' ∧ Ext W1 W2 ∧ SR X.K W2 M2 ∧ Sl X.K W2 ρ2 σ' ∧ i ≤ xs.length ∧ m = xs.length - i ∧ sLoop (chk kk xs) (sStep t fb) (xs.drop i) ρ2 M2 = some (o, M'), ⟨xs.length, W1, ρ, M1, rfl, .refl W1, s1, sl.ext e1 sr.sub, Nat.zero_le _, rfl, hf⟩, ?_⟩
  rintro i m σ2 H2 ⟨W2, ρ2, Mt, rfl, e2, s2, l2, hil, rfl, hw⟩
  by_cases hlt : i < xs.length
  · right
    have hd : xs.drop i = xs[i] :: xs.drop (i + 1) := List.drop_eq_getElem_cons hlt
    rw [hd] at hw
    unfold sLoop at hw
    split at hw
    · rename_i hck
      obtain ⟨⟨o3, M3⟩, ho, hw⟩ := Option.bind_eq_some_iff.mp hw
      obtain ⟨hgo, hy⟩ := (jo.2 W2 Mt e2 s2 hck i).1 xs[i] (by simp [hlt])
      refine ⟨hgo, fun σ' H' => ∃ W3 ρ3, W3.H = H' ∧ Ext W1 W3 ∧ SR X.K W3 M3 ∧ Sl X.K W3 ρ3 σ' ∧ sLoop (chk kk xs) (sStep t fb) (xs.drop (i + 1)) ρ3 M3 = some (o, M'), ?_, fun x H' hx => ?_⟩
      · rintro σ' H' ⟨W3, ρ3, h1, h2, h3, h4, h5⟩
        exact ⟨xs.length - (i + 1), by omega, W3, ρ3, M3, h1, h2, h3, h4, hlt, rfl, h5⟩
      · obtain ⟨rfl, rx⟩ := hy x H' hx
        obtain ⟨ρ3, ht, ho⟩ := Option.bind_eq_some_iff.mp ho
        refine ⟨W2, ρ2, Mt, xs[i], rfl, s2, l2, rx, ρ3, ht, fun W3 σ3 e3 s3 l3 _ => liftS_iff.mpr ⟨W3, ρ3, Mt, rfl, s3, l3, o3, M3, ho, ?_⟩⟩
        cases o3 with
        | nx ρ4 => exact fun W4 σ4 e4 s4 l4 => ⟨W4, ρ4, rfl, e2.trans (e3.trans e4), s4, l4, hw⟩
        | ct ρ4 => exact fun W4 σ4 e4 s4 l4 => ⟨W4, ρ4, rfl, e2.trans (e3.trans e4), s4, l4, hw⟩
        | bk ρ4 => cases hw; exact fun W4 σ4 e4 s4 l4 => k W4 σ4 (e1.trans (e2.trans (e3.trans e4))) s4 l4
        | ret d => cases hw; exact fun W4 v e4 s4 r4 => k W4 v (e1.trans (e2.trans (e3.trans e4))) s4 r4
    · cases hw
  · left
    have e : i = xs.length := by omega
    subst e
    rw [List.drop_length] at hw
    unfold sLoop at hw
    split at hw
    · rename_i hck
      cases hw
      exact ⟨(jo.2 W2 _ e2 s2 hck xs.length).2 (Nat.le_refl _), k W2 σ2 (e1.trans e2) s2 l2⟩
    · cases hw
/-! ### what a for walks -/
def fiSq (fa : FE) : FI := fun ρ M => (fa ρ M).bind fun a => match a.1 with
  | .ref n => (lsOf a.1 a.2).bind fun xs => some ((xs, some n), a.2)
  | d => (sqOf d a.2).bind fun xs => some ((xs, none), a.2)
def rgD (lo : Int) (n : Nat) : List D := (List.range n).map fun (i : Nat) => D.int (lo + i)
def okR (i j : Int) : Bool := Nat.ble i.natAbs 1000000000 && (Nat.ble j.natAbs 1000000000 && Nat.ble (j - i).toNat 16777216)
theorem okR_ok {i j : Int} (h : okR i j = true) : (-(4611686018427387904) ≤ i ∧ i < 4611686018427387904) ∧ (-(4611686018427387904) ≤ j ∧ j < 4611686018427387904) ∧ j - i ≤ 16777216 := by
  unfold okR at h
  rw [Bool.and_eq_true, Bool.and_eq_true] at h
  have h1 := Nat.le_of_ble_eq_true h.1
  have h2 := Nat.le_of_ble_eq_true h.2.1
  have h3 := Nat.le_of_ble_eq_true h.2.2
  omega
def fiRg1 (f : FA) : FI := fun ρ M => (f ρ M).bind fun a => match a.1 with | [.int j] => if okR 0 j then some ((rgD 0 j.toNat, none), a.2) else none | _ => none
def fiRg2 (f : FA) : FI := fun ρ M => (f ρ M).bind fun a => match a.1 with | [.int i, .int j] => if okR i j then some ((rgD i (j - i).toNat, none), a.2) else none | _ => none
section
variable {X : Cx} {tg a : Expr} {fa : FE}
theorem pi_weak {e : Expr} {t t' : TI} (h : PI X tg e t) (i : ∀ σ H Q, t' σ H Q → t σ H Q) : PI X tg e t' := ⟨fun pins s σ H Q I q => h.run pins s σ H Q I (i σ H Q q)⟩
def iSeq (K : PySem.W.Frag) (tl : TE) : TI := fun σ H R => tl σ H fun x H1 => ∃ a, x = .ref a ∧ (((∃ xs, SqL K H1 a xs) ∧ R (Itl K a) H1) ∨ ((∃ xs, SqT K H1 a xs) ∧ R (Itt K a) H1))
/-- a list or a tuple is walked -/
theorem pi_seq {l : Expr} {tl : TE} (hl : PE X l tl) : PI X tg l (iSeq X.K tl) := by
  refine ⟨fun pins s σ H R I h => ?_⟩
  refine thn (hl.run pins s σ H _ I h) fun vv s1 ⟨x, H1, I1, r1, p, ex, q⟩ => ?_
  subst ex
  cases r1
  have fresh : ∀ b ∈ [s1.heap.objs.size], FpOk X pins H1 b := fun b hb => by
    obtain rfl : b = s1.heap.objs.size := by simpa using hb
    exact I1.fpOk (Nat.le_refl _) (I1.hok.fresh (Nat.le_refl _))
  rcases q with ⟨⟨xs, hq⟩, q⟩ | ⟨⟨xs, hq⟩, q⟩
  · obtain ⟨its, rv, pl, _⟩ := I1.list hq
    exact wpAny_pyIter_list pl.isList ⟨s1.heap.objs.size, [s1.heap.objs.size], _, _, H1, rfl, I1.kept (t' := s1.toks) fun b u eb => Heap.get?_push_of_some _ eb, turn_list p _, ⟨_, Heap.get?_push_size _ rfl, rfl, rfl⟩, fresh, q⟩
  · obtain ⟨its, rv, pt, _⟩ := I1.tuple hq
    exact wpAny_pyIter_tuple (show s1.heap.IsTuple p its.toArray from pt) ⟨s1.heap.objs.size, [s1.heap.objs.size], _, _, H1, rfl, I1.kept (t' := s1.toks) fun b u eb => Heap.get?_push_of_some _ eb, turn_tuple p _, ⟨_, Heap.get?_push_size _ rfl, rfl, rfl⟩, fresh, q⟩
theorem jok_of {K : PySem.W.Frag} {W : Wo} {J : It} {xs : List D} {kk : Option Nat} (hz : xs.length ≤ LINE) (h : ∀ W' M', Ext W W' → SR K W' M' → chk kk xs M' = true → ∃ vs, RpL K W' xs vs ∧ (∀ i x, vs[i]? = some x → J.go i W'.H ∧ ∀ y H', J.yld i W'.H y H' → H' = W'.H ∧ y = x) ∧ ∀ i, vs.length ≤ i → J.stop i W'.H) : JOk K W J xs kk := by
  refine ⟨hz, fun W' M' e s c i => ?_⟩
  obtain ⟨vs, r, h1, h2⟩ := h W' M' e s c
  refine ⟨fun d hd => ?_, fun hl => h2 i (by rw [← r.len]; exact hl)⟩
  obtain ⟨v, hv, rv⟩ := r.get hd
  obtain ⟨g, y⟩ := h1 i v hv
  exact ⟨g, fun x H' hx => ⟨(y x H' hx).1, by rw [(y x H' hx).2]; exact rv⟩⟩
theorem walk_l {K : PySem.W.Frag} {H : Hp} {p : Addr} {vs : List V} (h : SqL K H p vs) : (∀ i x, vs[i]? = some x → (Itl K p).go i H ∧ ∀ y H', (Itl K p).yld i H y H' → H' = H ∧ y = x) ∧ ∀ i, vs.length ≤ i → (Itl K p).stop i H :=
  ⟨fun i x hx => ⟨⟨vs, x, h, hx⟩, fun y H' q => ⟨q.1, Option.some.inj ((q.2 vs h).symm.trans hx)⟩⟩, fun i hi => ⟨vs, h, hi⟩⟩
theorem walk_t {K : PySem.W.Frag} {H : Hp} {p : Addr} {vs : List V} (h : SqT K H p vs) : (∀ i x, vs[i]? = some x → (Itt K p).go i H ∧ ∀ y H', (Itt K p).yld i H y H' → H' = H ∧ y = x) ∧ ∀ i, vs.length ≤ i → (Itt K p).stop i H :=
  ⟨fun i x hx => ⟨⟨vs, x, h, hx⟩, fun y H' q => ⟨q.1, Option.some.inj ((q.2 vs h).symm.trans hx)⟩⟩, fun i hi => ⟨vs, h, hi⟩⟩
theorem jok_sq {K : PySem.W.Frag} {W : Wo} {M : Mem} {d : D} {v : V} {xs : List D} (sr : SR K W M) (h : Rp K W d v) (hn : ∀ n, d ≠ .ref n) (e : sqOf d M = some xs) :
    ∃ p, v = .ref p ∧ (((∃ vs, SqL K W.H p vs) ∧ JOk K W (Itl K p) xs none) ∨ ((∃ vs, SqT K W.H p vs) ∧ JOk K W (Itt K p) xs none)) := by
  obtain ⟨p, vs, rfl, h1, r⟩ := sq_sq sr h e
  refine ⟨p, rfl, ?_⟩
  cases d with
  | tup ds =>
    have hz := sq_len sr h e
    cases e
    obtain ⟨p', vs', e', q, r'⟩ := tp_sq h
    cases e'
    refine .inr ⟨⟨_, q⟩, jok_of hz fun W' M' ex s _ => ?_⟩
    obtain ⟨p2, vs2, e2, q2, r2⟩ := tp_sq (h.ext ex sr.sub)
    cases e2
    exact ⟨vs2, r2, walk_t q2⟩
  | ref n => exact absurd rfl (hn n)
  | lst ds =>
    have e' : lsOf (.lst ds) M = some xs := e
    obtain ⟨p', vs', e2, q, r'⟩ := ls_sq sr h e'
    cases e2
    refine .inl ⟨⟨_, q⟩, jok_of (sq_len sr h e) fun W' M' ex s _ => ?_⟩
    obtain ⟨p2, vs2, e2, q2, r2⟩ := ls_sq s (h.ext ex sr.sub) (show lsOf (.lst ds) M' = some xs from e')
    cases e2
    exact ⟨vs2, r2, walk_l q2⟩
  | kst ds =>
    have e' : lsOf (.kst ds) M = some xs := e
    obtain ⟨p', vs', e2, q, r'⟩ := ls_sq sr h e'
    cases e2
    refine .inl ⟨⟨_, q⟩, jok_of (sq_len sr h e) fun W' M' ex s _ => ?_⟩
    obtain ⟨p2, vs2, e2, q2, r2⟩ := ls_sq s (h.ext ex sr.sub) (show lsOf (.kst ds) M' = some xs from e')
    cases e2
    exact ⟨vs2, r2, walk_l q2⟩
  | _ => cases e
theorem pfi_sq (ha : PFE X a fa) : PFI X tg a (fiSq fa) := pi_weak (pi_seq ha) fun σ H R => by
  rintro ⟨W, ρ, M, rfl, sr, sl, xs, kk, M', hf, k⟩
  obtain ⟨⟨x, M1⟩, hx, hf⟩ := Option.bind_eq_some_iff.mp hf
  refine ⟨W, ρ, M, rfl, sr, sl, x, M1, hx, fun W1 v e1 s1 r1 => ?_⟩
  have other : (∀ n, x ≠ .ref n) → (sqOf x M1).bind (fun xs => some ((xs, (none : Option Nat)), M1)) = some ((xs, kk), M') → ∃ p, v = .ref p ∧ (((∃ xs, SqL X.K W1.H p xs) ∧ R (Itl X.K p) W1.H) ∨ ((∃ xs, SqT X.K W1.H p xs) ∧ R (Itt X.K p) W1.H)) := fun hn e => by
    obtain ⟨ys, hy, e⟩ := Option.bind_eq_some_iff.mp e
    cases e
    obtain ⟨p, rfl, q⟩ := jok_sq s1 r1 hn hy
    exact ⟨p, rfl, q.imp (fun z => ⟨z.1, k W1 _ e1 s1 z.2⟩) fun z => ⟨z.1, k W1 _ e1 s1 z.2⟩⟩
  cases x with
  | ref n =>
    obtain ⟨ys, hy, hf⟩ := Option.bind_eq_some_iff.mp hf
    cases hf
    obtain ⟨p, vs, rfl, q, r⟩ := ls_sq s1 r1 hy
    refine ⟨p, rfl, .inl ⟨⟨_, q⟩, k W1 _ e1 s1 (jok_of (ls_len s1 r1 hy) fun W' M' ex s c => ?_)⟩⟩
    unfold chk at c
    dsimp only at c
    split at c
    · rename_i zs hz
      have ez := D.eqs_of_beqs _ _ c
      subst ez
      obtain ⟨p2, vs2, e2, q2, r2⟩ := ls_sq s (r1.ext ex s1.sub) (show lsOf (.ref n) M' = some zs by simp only [lsOf, hz])
      cases e2
      exact ⟨vs2, r2, walk_l q2⟩
    · cases c
  | tup _ => exact other (fun n z => nomatch z) hf
  | lst _ => exact other (fun n z => nomatch z) hf
  | kst _ => exact other (fun n z => nomatch z) hf
  | non => exact other (fun n z => nomatch z) hf
  | bl _ => exact other (fun n z => nomatch z) hf
  | int _ => exact other (fun n z => nomatch z) hf
  | str _ => exact other (fun n z => nomatch z) hf
theorem jok_rg {K : PySem.W.Frag} {W : Wo} {lo : Int} {n : Nat} (hn : n ≤ LINE) : JOk K W (Itr lo n) (rgD lo n) none := by
  have hl : (rgD lo n).length = n := by unfold rgD; simp
  refine ⟨by rw [hl]; exact hn, fun W' M' e s c i => ?_⟩
  refine ⟨fun d hd => ?_, fun h => by rw [hl] at h; exact h⟩
  have hi : i < n := by rw [← hl]; exact (List.getElem?_eq_some_iff.mp hd).1
  have hd' : d = D.int (lo + i) := by
    unfold rgD at hd
    rw [List.getElem?_map, List.getElem?_range hi] at hd
    cases hd; rfl
  subst hd'
  exact ⟨hi, fun x H' hx => ⟨hx.1, hx.2⟩⟩
theorem pfi_rg1 {f : FA} {p pos : Pos} (hg : Gl X "range") (hm : X.mg "range" = none) (ha : PFA X [a] f) (hs : starEach [a] X.env = [(false, eval a X.env)] := by rfl) : PFI X tg (.Call (.Name "range" p) [a] [] pos) (fiRg1 f) := pi_weak (pi_range1 hg hm ha hs) fun σ H R => by
  rintro ⟨W, ρ, M, rfl, sr, sl, xs, kk, M', hf, k⟩
  obtain ⟨⟨x, M1⟩, hx, hf⟩ := Option.bind_eq_some_iff.mp hf
  dsimp only at hf
  split at hf
  · split at hf
    · rename_i hr
      cases hf
      replace hr := okR_ok hr
      refine ⟨W, ρ, M, rfl, sr, sl, _, _, hx, fun W1 v e1 s1 r1 => ?_⟩
      obtain ⟨v1, r, rfl, q1, q2⟩ := r1
      cases (show _ = _ from q1); cases (show _ = _ from q2)
      exact ⟨_, rfl, hr.2.1.1, hr.2.1.2, k W1 _ e1 s1 (jok_rg (by show _ ≤ 16777216; omega))⟩
    · cases hf
  · cases hf
theorem pfi_rg2 {b : Expr} {f : FA} {p pos : Pos} (hg : Gl X "range") (hm : X.mg "range" = none) (ha : PFA X [a, b] f) (hs : starEach [a, b] X.env = [(false, eval a X.env), (false, eval b X.env)] := by rfl) (hs2 : starEach [b] X.env = [(false, eval b X.env)] := by rfl) :
    PFI X tg (.Call (.Name "range" p) [a, b] [] pos) (fiRg2 f) := pi_weak (pi_range2 hg hm ha hs hs2) fun σ H R => by
  rintro ⟨W, ρ, M, rfl, sr, sl, xs, kk, M', hf, k⟩
  obtain ⟨⟨x, M1⟩, hx, hf⟩ := Option.bind_eq_some_iff.mp hf
  dsimp only at hf
  split at hf
  · split at hf
    · rename_i hr
      cases hf
      replace hr := okR_ok hr
      refine ⟨W, ρ, M, rfl, sr, sl, _, _, hx, fun W1 v e1 s1 r1 => ?_⟩
      obtain ⟨v1, r, rfl, q1, v2, r', rfl, q2, q3⟩ := r1
      cases (show _ = _ from q1); cases (show _ = _ from q2); cases (show _ = _ from q3)
      exact ⟨_, _, rfl, ⟨hr.1.1, hr.1.2, hr.2.1.1, hr.2.1.2⟩, k W1 _ e1 s1 (jok_rg (by show _ ≤ 16777216; omega))⟩
    · cases hf
  · cases hf
end
end PF
namespace PF
open PySem PySem.Spec PyProof.Rows L2
/-! ### list comprehensions -/
/-- the state without the list that grows -/
def Wo.minus (W : Wo) (p : Addr) : Wo := ⟨W.as, fun a => W.bad a ∧ a ≠ p, fun a => if a = p then none else W.H a⟩
def Wo.plus (W : Wo) (p : Addr) (o : HO) : Wo := ⟨W.as, fun a => W.bad a ∨ a = p, upd W.H p o⟩
section
variable {K : PySem.W.Frag} {W W' W3 : Wo} {M : Mem} {p : Addr} {o : HO}
theorem minus_H {a : Addr} (h : a ≠ p) : (W.minus p).H a = W.H a := if_neg h
theorem minus_self : (W.minus p).H p = none := if_pos rfl
mutual
theorem Rp.minus (hb : W.bad p) (hn : p ∉ W.as) : ∀ (d : D) (v : V), Rp K W d v → Rp K (W.minus p) d v
  | .non, _, h => h
  | .bl _, _, h => h
  | .int _, _, h => h
  | .str _, _, h => h
  | .tup ds, v, h => by
    obtain ⟨a, vs, e1, f, r⟩ := h
    refine ⟨a, vs, e1, ⟨f.1.imp (fun q => ?_) fun q => q, f.2⟩, RpL.minus hb hn ds vs r⟩
    exact ⟨(minus_H fun z => q.2 (by rw [z]; exact hb)).trans q.1, fun z => q.2 z.1⟩
  | .lst ds, v, h => by
    obtain ⟨a, vs, e1, f, r⟩ := h
    exact ⟨a, vs, e1, ⟨⟨(minus_H fun z => f.1.2 (by rw [z]; exact hb)).trans f.1.1, fun z => f.1.2 z.1⟩, f.2⟩, RpL.minus hb hn ds vs r⟩
  | .kst ds, v, h => by
    obtain ⟨a, vs, e1, f, r⟩ := h
    refine ⟨a, vs, e1, ⟨f.1.imp (fun q => ?_) fun q => q, f.2⟩, RpL.minus hb hn ds vs r⟩
    obtain ⟨⟨o, q1⟩, q2⟩ := q
    exact ⟨⟨o, (minus_H fun z => q2 (by rw [z]; exact hb)).trans q1⟩, fun z => q2 z.1⟩
  | .ref n, v, h => h
theorem RpL.minus (hb : W.bad p) (hn : p ∉ W.as) : ∀ (ds : List D) (vs : List V), RpL K W ds vs → RpL K (W.minus p) ds vs
  | [], _, h => h
  | d :: ds, vs, h => by
    obtain ⟨v, r, e1, h1, h2⟩ := h
    exact ⟨v, r, e1, Rp.minus hb hn d v h1, RpL.minus hb hn ds r h2⟩
end
theorem SR.minus (hb : W.bad p) (hn : p ∉ W.as) (sr : SR K W M) : SR K (W.minus p) M := by
  have ne : ∀ a, a ∈ W.as → a ≠ p := fun a h z => hn (by rw [← z]; exact h)
  refine ⟨sr.len, sr.nd, fun a h => ⟨sr.sub a h, ne a h⟩, fun a h => ?_, fun n a mo h1 h2 => ?_⟩
  · obtain ⟨o, q⟩ := sr.bt a h.1
    exact ⟨o, (minus_H h.2).trans q⟩
  · have m := sr.obj n a mo h1 h2
    have na := ne a (List.mem_of_getElem? h1)
    cases mo with
    | lst ds =>
      obtain ⟨vs, q1, q2⟩ := m
      exact ⟨vs, ⟨(minus_H na).trans q1.1, q1.2⟩, q2.minus hb hn⟩
theorem Ext.plus (hp : W.H p = none) : Ext W (W.plus p o) := by
  refine ⟨⟨[], by simp [Wo.plus], fun _ h => by simp at h⟩, fun _ h => .inl h, fun a h => ?_, fun a u _ h => (upd_ne (ne_of_none h hp)).trans h, fun a u h => ⟨u, (upd_ne (ne_of_none h hp)).trans h⟩⟩
  rcases h with h | h
  · exact .inl h
  · rw [h]; exact .inr hp
theorem SR.plus (sr : SR K W M) (hp : W.H p = none) : SR K (W.plus p o) M := by
  have E := Ext.plus (W := W) (o := o) hp
  refine ⟨sr.len, sr.nd, fun a h => .inl (sr.sub a h), fun a h => ?_, fun n a mo h1 h2 => ?_⟩
  · rcases h with h | h
    · obtain ⟨u, q⟩ := sr.bt a h
      exact E.live a u q
    · rw [h]; exact ⟨o, upd_same⟩
  · have m := sr.obj n a mo h1 h2
    obtain ⟨o', q⟩ := m.there
    exact m.ext E sr.sub (upd_ne (ne_of_none q hp))
/-- behind a step from W with the list at p: W without it, and the list as it was -/
theorem Ext.unplus (sr : SR K W M) (hp : W.H p = none) (e : Ext (W.plus p o) W3) : Ext W (W3.minus p) ∧ W3.bad p ∧ p ∉ W3.as ∧ W3.H p = some o := by
  have npa : p ∉ W.as := fun z => sr.nb hp (sr.sub p z)
  have h3 : W3.H p = some o := e.keep p o npa upd_same
  have hb : W3.bad p := e.bad p (.inr rfl)
  obtain ⟨new, ea, fr⟩ := e.as
  have frW : ∀ a ∈ new, W.H a = none ∧ a ≠ p := fun a ha => by
    have q : upd W.H p o a = none := fr a ha
    by_cases z : a = p
    · rw [z, upd_same] at q; cases q
    · rw [upd_ne z] at q; exact ⟨q, z⟩
  refine ⟨⟨⟨new, ea, fun a ha => (frW a ha).1⟩, fun a h => ⟨e.bad a (.inl h), fun z => sr.nb hp (by rw [← z]; exact h)⟩, fun a h => ?_, fun a u ha hu => ?_, fun a u hu => ?_⟩, hb, fun z => ?_, h3⟩
  · rcases e.new a h.1 with q | q
    · rcases q with q | q
      · exact .inl q
      · exact absurd q h.2
    · have q' : upd W.H p o a = none := q
      rw [upd_ne h.2] at q'
      exact .inr q'
  · have na : a ≠ p := ne_of_none hu hp
    exact (minus_H na).trans (e.keep a u ha ((upd_ne na).trans hu))
  · have na : a ≠ p := ne_of_none hu hp
    obtain ⟨u', q⟩ := e.live a u ((upd_ne na).trans hu)
    exact ⟨u', (minus_H na).trans q⟩
  · have z' : p ∈ W.as ++ new := by
      have q := z
      rw [ea] at q
      exact q
    rcases List.mem_append.mp z' with z | z
    · exact npa z
    · exact (frW p z).2 rfl
end
def wipeR (ρ : Rho) : List Nat → Rho
  | [] => ρ
  | v :: vs => (wipeR ρ vs).set v none
theorem wipeR_len (ρ : Rho) : ∀ vs : List Nat, (wipeR ρ vs).length = ρ.length
  | [] => rfl
  | v :: vs => by unfold wipeR; rw [List.length_set, wipeR_len ρ vs]
theorem Sl.wipe {K : PySem.W.Frag} {W : Wo} {ρ : Rho} {σ : L2.St} (h : Sl K W ρ σ) : ∀ vs : List Nat, Sl K W (wipeR ρ vs) (L2.wipe σ vs)
  | [] => h
  | v :: vs => by
    have ih := Sl.wipe h vs
    refine ⟨by unfold wipeR L2.wipe; rw [List.length_set, List.length_set]; exact ih.len, fun i d hi => ?_⟩
    unfold wipeR at hi
    unfold L2.wipe
    by_cases e : v = i
    · subst e
      by_cases hl : v < (wipeR ρ vs).length
      · rw [List.getElem?_set_self hl] at hi; cases hi
      · rw [List.getElem?_eq_none (by rw [List.length_set]; omega)] at hi; cases hi
    · rw [List.getElem?_set_ne e] at hi ⊢
      exact ih.at_ i d hi
theorem wipe_idem (σ : L2.St) (vs : List Nat) : L2.wipe (L2.wipe σ vs) vs = L2.wipe σ vs := by
  have at_ : ∀ (vs ws : List Nat) (σ : L2.St) (i : Nat), i ∈ vs → (L2.wipe σ vs)[i]? = (if i < σ.length then some none else none) := by
    intro vs
    induction vs with
    | nil => intro ws σ i h; simp at h
    | cons v vs ih =>
      intro ws σ i h
      unfold L2.wipe
      by_cases e : v = i
      · subst e
        by_cases hl : v < σ.length
        · rw [List.getElem?_set_self (by rw [wipe_length]; exact hl), if_pos hl]
        · rw [List.getElem?_eq_none (by rw [List.length_set, wipe_length]; omega), if_neg hl]
      · rw [List.getElem?_set_ne e]
        rcases List.mem_cons.mp h with q | q
        · exact absurd q.symm e
        · exact ih ws σ i q
  apply List.ext_getElem?
  intro i
  by_cases h : i ∈ vs
  · rw [at_ vs [] _ i h, at_ vs [] _ i h, wipe_length]
  · rw [wipe_out h, wipe_out h]
def lcLoop (c : Mem → Bool) (t : FG) (ft : FT) (fe : FE) (ρ : Rho) : List D → List D → Mem → Option (List D × Mem)
  | [], acc, M => if c M = true then some (acc, M) else none
  | d :: ds, acc, M => if c M = true then (t d ρ).bind fun ρ' => (ft ρ' M).bind fun b =>
      if b.1 = true then (fe ρ' b.2).bind fun y => lcLoop c t ft fe ρ ds (acc ++ [y.1]) y.2 else lcLoop c t ft fe ρ ds acc b.2
    else none
/-- [elt for t in fi if ft] -/
def fLC (vs : List Nat) (fi : FI) (t : FG) (ft : FT) (fe : FE) : FA := fun ρ M => (fi ρ M).bind fun a => lcLoop (chk a.1.2 a.1.1) t ft fe (wipeR ρ vs) a.1.1 [] a.2
def fYes : FT := fun _ M => some (true, M)
abbrev PFTs (X : Cx) (ifs : List Expr) (f : FT) : Prop := PTs X ifs (liftT X.K f)
theorem pts_weak {X : Cx} {e : List Expr} {t t' : TT} (h : PTs X e t) (i : ∀ σ H Q, t' σ H Q → t σ H Q) : PTs X e t' := ⟨fun pins s σ H Q I q => h.run pins s σ H Q I (i σ H Q q)⟩
theorem pfts_nil {X : Cx} : PFTs X [] fYes := pts_weak pts_nil fun σ H Q => by
  rintro ⟨W, ρ, M, rfl, sr, sl, d, M', hf, k⟩
  cases hf
  exact k W (.refl W) sr
theorem pfts_one {X : Cx} {c : Expr} {f : FT} (h : PFT X c f) : PFTs X [c] f := pts_one h
theorem lc_lift {K : PySem.W.Frag} {fi : FI} {t : FG} {ft : FT} {fe : FE} {vs : List Nat} : ∀ σ H Q, liftN K (fLC vs fi t ft fe) σ H Q → tLc (liftI K fi) (liftG K vs t) (liftT K ft) (liftE K fe) vs σ H Q := by
  rintro σ H Q ⟨W, ρ, M, rfl, sr, sl, out, M', hf, k⟩
  obtain ⟨⟨⟨xs, kk⟩, M1⟩, hi, hf⟩ := Option.bind_eq_some_iff.mp hf
  refine ⟨W, ρ, M, rfl, sr, sl, xs, kk, M1, hi, fun W1 J e1 s1 jo D hD => ?_⟩
  -- the loop: W2 is the state without the growing list
  refine ⟨fun i m H' => ∃ W2 Mt acc ws, H' = upd W2.H D (.lst ws) ∧ W2.H D = none ∧ Ext W1 W2 ∧ SR K W2 Mt ∧ RpL K W2 acc ws ∧ ws.length ≤ i ∧ i ≤ xs.length ∧ m = xs.length - i ∧
    lcLoop (chk kk xs) t ft fe (wipeR ρ vs) (xs.drop i) acc Mt = some (out, M'), ⟨xs.length, W1, M1, [], [], rfl, hD, .refl W1, s1, rfl, Nat.le_refl _, Nat.zero_le _, rfl, hf⟩, ?_⟩
  rintro i m H' ⟨W2, Mt, acc, ws, rfl, hD2, e2, s2, racc, hws, hil, rfl, hw⟩
  have eP : Ext W2 (W2.plus D (.lst ws)) := Ext.plus hD2
  have sP : SR K (W2.plus D (.lst ws)) Mt := s2.plus hD2
  by_cases hlt : i < xs.length
  · right
    have hd : xs.drop i = xs[i] :: xs.drop (i + 1) := List.drop_eq_getElem_cons hlt
    rw [hd] at hw
    unfold lcLoop at hw
    split at hw
    · rename_i hck
      obtain ⟨ρ', ht, hw⟩ := Option.bind_eq_some_iff.mp hw
      obtain ⟨⟨b, M3⟩, hb, hw⟩ := Option.bind_eq_some_iff.mp hw
      obtain ⟨hgo, hy⟩ := (jo.2 _ Mt (e2.trans eP) sP hck i).1 xs[i] (by simp [hlt])
      refine ⟨hgo, fun H' => ∃ W4 Mt acc ws, H' = upd W4.H D (.lst ws) ∧ W4.H D = none ∧ Ext W1 W4 ∧ SR K W4 Mt ∧ RpL K W4 acc ws ∧ ws.length ≤ i + 1 ∧
        lcLoop (chk kk xs) t ft fe (wipeR ρ vs) (xs.drop (i + 1)) acc Mt = some (out, M'), ?_, fun x H' hx => ?_⟩
      · rintro H' ⟨W4, Mt', acc', ws', h1, h2, h3, h4, h5, h6, h7⟩
        exact ⟨xs.length - (i + 1), by omega, W4, Mt', acc', ws', h1, h2, h3, h4, h5, h6, hlt, rfl, h7⟩
      · obtain ⟨rfl, rx⟩ := hy x H' hx
        have slW : Sl K (W2.plus D (.lst ws)) (wipeR ρ vs) (L2.wipe σ vs) := (sl.ext (e1.trans (e2.trans eP)) sr.sub).wipe vs
        refine ⟨_, wipeR ρ vs, Mt, xs[i], rfl, sP, slW, rx, ρ', ht, fun W3 σ3 e3 s3 l3 w3 => ⟨by rw [w3, wipe_idem], ?_⟩⟩
        refine ⟨W3, ρ', Mt, rfl, s3, l3, b, M3, hb, fun W4 e4 s4 => ?_⟩
        cases b with
        | false =>
          rw [if_neg Bool.false_ne_true] at hw ⊢
          obtain ⟨e5, b5, n5, h5⟩ := Ext.unplus s2 hD2 (e3.trans e4)
          refine ⟨W4.minus D, M3, acc, ws, ?_, minus_self, e2.trans e5, s4.minus b5 n5, (racc.ext e5 s2.sub), by omega, hw⟩
          funext a
          by_cases z : a = D
          · subst z; rw [upd_same]; exact h5
          · rw [upd_ne z]; exact (minus_H z).symm
        | true =>
          rw [if_pos rfl] at hw ⊢
          obtain ⟨⟨y, M5⟩, hye, hw⟩ := Option.bind_eq_some_iff.mp hw
          refine ⟨W4, ρ', M3, rfl, s4, l3.ext e4 s3.sub, y, M5, hye, fun W5 v e5 s5 r5 => ?_⟩
          obtain ⟨e6, b6, n6, h6⟩ := Ext.unplus s2 hD2 ((e3.trans e4).trans e5)
          have hz : ws.length < LINE := by have := jo.1; omega
          refine ⟨ws, h6, by rw [line_eq]; exact hz, W5.minus D, M5, acc ++ [y], ws ++ [v], ?_, minus_self, e2.trans e6, s5.minus b6 n6, (racc.ext e6 s2.sub).append (.one (r5.minus b6 n6)), by rw [List.length_append, List.length_singleton]; omega, hw⟩
          funext a
          by_cases z : a = D
          · subst z; rw [upd_same, upd_same]
          · rw [upd_ne z, upd_ne z]; exact (minus_H z).symm
    · cases hw
  · left
    have e : i = xs.length := by omega
    subst e
    rw [List.drop_length] at hw
    unfold lcLoop at hw
    split at hw
    · rename_i hck
      cases hw
      refine ⟨(jo.2 _ _ (e2.trans eP) sP hck xs.length).2 (Nat.le_refl _), ?_⟩
      exact k W2 D ws (e1.trans e2) s2 hD2 racc (by have := jo.1; omega)
    · cases hw
section
variable {X : Cx} {elt tg iter : Expr} {ifs : List Expr} {scope : Scope} {own : List (Str × Nat)} {pos : Pos} {fi : FI} {t : FG} {ft : FT} {fe : FE}
theorem pfn_lc (hc : X.calm = true) (hN : X.N.Nodup) (hi : PFI X tg iter fi) (ok : BlkOk X.N X.env.scope scope own)
    (hg : ∀ (s : Shared) (H : Hp) (C : Addr) (cl : List (Str × Addr)) (fp : List Addr), PFG (X.blk s H scope (compEnvC scope cl C X.env) fp) (own.map (·.2)) tg t) (ht : ∀ (s : Shared) (H : Hp) (C : Addr) (cl : List (Str × Addr)) (fp : List Addr), PFTs (X.blk s H scope (compEnvC scope cl C X.env) fp) ifs ft)
    (he : ∀ (s : Shared) (H : Hp) (C : Addr) (cl : List (Str × Addr)) (fp : List Addr), PFE (X.blk s H scope (compEnvC scope cl C X.env) fp) elt fe) (hs : ∀ x, foldedSetIterable iter X.env x = pure x := by intro _; rfl) :
    PFN X (.ListComp elt [⟨tg, iter, ifs, 0⟩] scope pos) (fLC (own.map (·.2)) fi t ft fe) := pe_weak (pe_lc hc hN hi ok hg ht he hs) lc_lift
theorem set_fz {K : PySem.W.Frag} {i : Nat} {f : FA} : ∀ E σ H, liftS K (sSet i (fFz f)) E σ H → liftN K f σ H fun x H1 => gName i x σ H1 E.nx := fun E σ H => by
  rw [liftS_iff]
  rintro ⟨W, ρ, M, rfl, sr, sl, o, M', hf, k⟩
  obtain ⟨⟨x, M1⟩, hx, hf⟩ := Option.bind_eq_some_iff.mp hf
  obtain ⟨⟨y, M2⟩, hy, hx⟩ := Option.bind_eq_some_iff.mp hx
  cases hx; cases hf
  exact ⟨W, ρ, M, rfl, sr, sl, y, _, hy, fun W1 p vs e1 s1 hp r1 hl => k _ _ (e1.trans (Ext.put hp)) (s1.put hp) (sl_set (sl.ext (e1.trans (Ext.put hp)) sr.sub) (.newLst s1 hp r1 hl))⟩
theorem set_mut {K : PySem.W.Frag} {i : Nat} {f : FA} : ∀ E σ H, liftS K (sSet i (fMut f)) E σ H → liftN K f σ H fun x H1 => gName i x σ H1 E.nx := fun E σ H => by
  rw [liftS_iff]
  rintro ⟨W, ρ, M, rfl, sr, sl, o, M', hf, k⟩
  obtain ⟨⟨x, M1⟩, hx, hf⟩ := Option.bind_eq_some_iff.mp hf
  obtain ⟨⟨y, M2⟩, hy, hx⟩ := Option.bind_eq_some_iff.mp hx
  cases hx; cases hf
  exact ⟨W, ρ, M, rfl, sr, sl, y, _, hy, fun W1 p vs e1 s1 hp r1 hl => k _ _ (e1.trans (Ext.mk2 hp)) (s1.mk2 hp r1 hl) (sl_set (sl.ext (e1.trans (Ext.mk2 hp)) sr.sub) (.mk2 s1))⟩
theorem pfs_setLcF {i : Nat} {y : Str} {py spos : Pos} (hc : X.calm = true) (hN : X.N.Nodup) (hy : X.N[i]? = some y) (hyl : X.env.scope.names.lookup y = some .local)
    (hsw : swapsWith (.ListComp elt [⟨tg, iter, ifs, 0⟩] scope pos) (some (.Name y py)) spos.line X.env = pure true) (hi : PFI X tg iter fi) (ok : BlkOk X.N X.env.scope scope own)
    (hg : ∀ (s : Shared) (H : Hp) (C : Addr) (cl : List (Str × Addr)) (fp : List Addr), PFG (X.blk s H scope (compEnvC scope cl C X.env) fp) (own.map (·.2)) tg t) (ht : ∀ (s : Shared) (H : Hp) (C : Addr) (cl : List (Str × Addr)) (fp : List Addr), PFTs (X.blk s H scope (compEnvC scope cl C X.env) fp) ifs ft)
    (he : ∀ (s : Shared) (H : Hp) (C : Addr) (cl : List (Str × Addr)) (fp : List Addr), PFE (X.blk s H scope (compEnvC scope cl C X.env) fp) elt fe) (hs : ∀ x, foldedSetIterable iter X.env x = pure x := by intro _; rfl) :
    PFS X (.Assign [.Name y py] (.ListComp elt [⟨tg, iter, ifs, 0⟩] scope pos) spos) (sSet i (fFz (fLC (own.map (·.2)) fi t ft fe))) := ps_weak (ps_setLc hc hN hy hyl hsw hi ok hg ht he hs) fun E σ H h => lc_lift _ _ _ (set_fz E σ H h)
theorem pfs_setLcM {i : Nat} {y : Str} {py spos : Pos} (hc : X.calm = true) (hN : X.N.Nodup) (hy : X.N[i]? = some y) (hyl : X.env.scope.names.lookup y = some .local)
    (hsw : swapsWith (.ListComp elt [⟨tg, iter, ifs, 0⟩] scope pos) (some (.Name y py)) spos.line X.env = pure true) (hi : PFI X tg iter fi) (ok : BlkOk X.N X.env.scope scope own)
    (hg : ∀ (s : Shared) (H : Hp) (C : Addr) (cl : List (Str × Addr)) (fp : List Addr), PFG (X.blk s H scope (compEnvC scope cl C X.env) fp) (own.map (·.2)) tg t) (ht : ∀ (s : Shared) (H : Hp) (C : Addr) (cl : List (Str × Addr)) (fp : List Addr), PFTs (X.blk s H scope (compEnvC scope cl C X.env) fp) ifs ft)
    (he : ∀ (s : Shared) (H : Hp) (C : Addr) (cl : List (Str × Addr)) (fp : List Addr), PFE (X.blk s H scope (compEnvC scope cl C X.env) fp) elt fe) (hs : ∀ x, foldedSetIterable iter X.env x = pure x := by intro _; rfl) :
    PFS X (.Assign [.Name y py] (.ListComp elt [⟨tg, iter, ifs, 0⟩] scope pos) spos) (sSet i (fMut (fLC (own.map (·.2)) fi t ft fe))) := ps_weak (ps_setLc hc hN hy hyl hsw hi ok hg ht he hs) fun E σ H h => lc_lift _ _ _ (set_mut E σ H h)
end
end PF
namespace PF
open PySem PySem.Spec PyProof.Rows L2
/-! ### data without references; without lists -/
mutual
def D.nr : D → Bool
  | .ref _ => false
  | .tup xs => D.nrs xs
  | .lst xs => D.nrs xs
  | .kst xs => D.nrs xs
  | _ => true
def D.nrs : List D → Bool
  | [] => true
  | x :: xs => D.nr x && D.nrs xs
end
mutual
def D.nl : D → Bool
  | .ref _ => false
  | .tup xs => D.nls xs
  | .lst _ => false
  | .kst _ => false
  | _ => true
def D.nls : List D → Bool
  | [] => true
  | x :: xs => D.nl x && D.nls xs
end
section
variable {K : PySem.W.Frag} {W W' : Wo}
mutual
theorem Rp.nr (hH : W'.H = W.H) (hb : ∀ a, W'.bad a → W.bad a) : ∀ (d : D) (v : V), d.nr = true → Rp K W d v → Rp K W' d v
  | .non, _, _, h => h
  | .bl _, _, _, h => h
  | .int _, _, _, h => h
  | .str _, _, _, h => h
  | .ref _, _, hn, _ => by rw [D.nr] at hn; cases hn
  | .tup ds, v, hn, h => by
    rw [D.nr] at hn
    obtain ⟨a, vs, e1, f, r⟩ := h
    exact ⟨a, vs, e1, ⟨f.1.imp (fun q => ⟨by rw [hH]; exact q.1, fun z => q.2 (hb a z)⟩) fun q => q, f.2⟩, RpL.nr hH hb ds vs hn r⟩
  | .lst ds, v, hn, h => by
    rw [D.nr] at hn
    obtain ⟨a, vs, e1, f, r⟩ := h
    exact ⟨a, vs, e1, ⟨⟨by rw [hH]; exact f.1.1, fun z => f.1.2 (hb a z)⟩, f.2⟩, RpL.nr hH hb ds vs hn r⟩
  | .kst ds, v, hn, h => by
    rw [D.nr] at hn
    obtain ⟨a, vs, e1, f, r⟩ := h
    refine ⟨a, vs, e1, ⟨f.1.imp (fun q => ?_) fun q => q, f.2⟩, RpL.nr hH hb ds vs hn r⟩
    obtain ⟨⟨o, q1⟩, q2⟩ := q
    exact ⟨⟨o, by rw [hH]; exact q1⟩, fun z => q2 (hb a z)⟩
theorem RpL.nr (hH : W'.H = W.H) (hb : ∀ a, W'.bad a → W.bad a) : ∀ (ds : List D) (vs : List V), D.nrs ds = true → RpL K W ds vs → RpL K W' ds vs
  | [], _, _, h => h
  | d :: ds, vs, hn, h => by
    rw [D.nrs, Bool.and_eq_true] at hn
    obtain ⟨v, r, e1, h1, h2⟩ := h
    exact ⟨v, r, e1, Rp.nr hH hb d v hn.1 h1, RpL.nr hH hb ds r hn.2 h2⟩
end
/-- tuples alone: what is wrongly shut away is a list -/
def LstAt (H : Hp) (a : Addr) : Prop := ∃ vs, H a = some (.lst vs)
mutual
theorem Rp.nl (hH : W'.H = W.H) (hb : ∀ a, W'.bad a → W.bad a ∨ LstAt W.H a) : ∀ (d : D) (v : V), d.nl = true → Rp K W d v → Rp K W' d v
  | .non, _, _, h => h
  | .bl _, _, _, h => h
  | .int _, _, _, h => h
  | .str _, _, _, h => h
  | .ref _, _, hn, _ => by rw [D.nl] at hn; cases hn
  | .lst _, _, hn, _ => by rw [D.nl] at hn; cases hn
  | .kst _, _, hn, _ => by rw [D.nl] at hn; cases hn
  | .tup ds, v, hn, h => by
    rw [D.nl] at hn
    obtain ⟨a, vs, e1, f, r⟩ := h
    refine ⟨a, vs, e1, ⟨f.1.imp (fun q => ⟨by rw [hH]; exact q.1, fun z => ?_⟩) fun q => q, f.2⟩, RpL.nl hH hb ds vs hn r⟩
    rcases hb a z with z | ⟨us, z⟩
    · exact q.2 z
    · rw [q.1] at z; cases z
theorem RpL.nl (hH : W'.H = W.H) (hb : ∀ a, W'.bad a → W.bad a ∨ LstAt W.H a) : ∀ (ds : List D) (vs : List V), D.nls ds = true → RpL K W ds vs → RpL K W' ds vs
  | [], _, _, h => h
  | d :: ds, vs, hn, h => by
    rw [D.nls, Bool.and_eq_true] at hn
    obtain ⟨v, r, e1, h1, h2⟩ := h
    exact ⟨v, r, e1, Rp.nl hH hb d v hn.1 h1, RpL.nl hH hb ds r hn.2 h2⟩
end
end
/-! ### a def's promise by a function on data -/
abbrev FnC := List D → Mem → Option (D × Mem)
def spOf (K : PySem.W.Frag) (c : FnC) (n : Nat) : Sp := fun vs H Q _ => vs.length = n ∧ ∃ W M ds, W.H = H ∧ SR K W M ∧ RpL K W ds vs ∧ ∃ d M', c ds M = some (d, M') ∧
  ∀ W' v, Ext W W' → SR K W' M' → Rp K W' d v → Q v W'.H
def MO.nr : MO → Bool
  | .lst xs => D.nrs xs
def Mem.nr : Mem → Bool
  | [] => true
  | m :: ms => m.nr && Mem.nr ms
/-- what is handed back; mu: a new list stays changeable -/
def fin (mu : Bool) (k : Nat) (d : D) (M : Mem) : Option (D × Mem) :=
  if Mem.nr (M.take k) = true then (match d with
    | .ref j => if j < k then none else match M[j]? with
      | some (.lst xs) => if D.nrs xs = true then (if mu = true then some (.ref k, M.take k ++ [.lst xs]) else some (.lst xs, M.take k)) else none
      | none => none
    | d => if d.nr = true then some (d, M.take k) else none) else none
def startR (n : Nat) (ds : List D) : Rho := ds.map some ++ List.replicate (n - ds.length) none
def runFn (mu : Bool) (n : Nat) (f : FS) : FnC := fun ds M => (f (startR n ds) M).bind fun o => match o.1 with
  | .ret d => fin mu M.length d o.2
  | .nx _ => fin mu M.length .non o.2
  | _ => none
section
variable {K : PySem.W.Frag} {W W' : Wo} {M M' : Mem}
theorem sl_start {ds : List D} {vs : List V} {N : List Str} (h : RpL K W ds vs) : Sl K W (startR N.length ds) (L2.start N vs) := by
  have hl := h.len
  refine ⟨by unfold startR L2.start; simp [hl], fun i d hi => ?_⟩
  unfold startR at hi
  unfold L2.start
  by_cases hlt : i < ds.length
  · rw [List.getElem?_append_left (by rw [List.length_map]; exact hlt), List.getElem?_map, List.getElem?_eq_getElem hlt] at hi
    have e : ds[i] = d := by simpa using hi
    obtain ⟨v, h1, h2⟩ := h.get (i := i) (d := d) (by rw [List.getElem?_eq_getElem hlt, e])
    refine ⟨v, ?_, h2⟩
    rw [List.getElem?_append_left (by rw [List.length_map, ← hl]; exact hlt), List.getElem?_map, h1]
    rfl
  · rw [List.getElem?_append_right (by rw [List.length_map]; omega)] at hi
    have := List.mem_of_getElem? hi
    simp at this
theorem Mem.nr_at : ∀ {M : Mem} {n : Nat} {mo : MO}, Mem.nr M = true → M[n]? = some mo → mo.nr = true
  | [], _, _, _, h => by simp at h
  | m :: ms, 0, mo, hn, h => by
    rw [Mem.nr, Bool.and_eq_true] at hn
    simp at h; subst h; exact hn.1
  | m :: ms, n + 1, mo, hn, h => by
    rw [Mem.nr, Bool.and_eq_true] at hn
    exact Mem.nr_at hn.2 (by simpa using h)
theorem MoOk.nr {a : Addr} {mo : MO} (hH : W'.H = W.H) (hb : ∀ a, W'.bad a → W.bad a) (hn : mo.nr = true) (h : MoOk K W a mo) : MoOk K W' a mo := by
  cases mo with
  | lst xs =>
    obtain ⟨vs, h1, h2⟩ := h
    exact ⟨vs, ⟨by rw [hH]; exact h1.1, h1.2⟩, h2.nr hH hb _ _ hn⟩
theorem take_as {new : List Addr} (e : W'.as = W.as ++ new) (hl : W.as.length = M.length) : W'.as.take M.length = W.as := by
  rw [e, ← hl, List.take_left]
/-- the state when a def has come back, but for its own lists -/
theorem fin_ok {mu : Bool} {d d' : D} {v : V} {M2 : Mem} (sr : SR K W M) (ex : Ext W W') (s : SR K W' M') (r : Rp K W' d v) (e : fin mu M.length d M' = some (d', M2)) :
    ∃ W2, W2.H = W'.H ∧ Ext W W2 ∧ SR K W2 M2 ∧ Rp K W2 d' v := by
  obtain ⟨new, ea, fr⟩ := ex.as
  have hl := sr.len
  have hat : ∀ n a, W.as[n]? = some a → W'.as[n]? = some a := fun n a h => by
    rw [ea]; exact (List.getElem?_append_left (List.getElem?_eq_some_iff.mp h).1).trans h
  unfold fin at e
  split at e
  · rename_i hnr
    -- the plain end
    have plain : ∀ bad' : Addr → Prop, (∀ a, bad' a → W'.bad a) → (∀ a, W.bad a → bad' a) → SR K ⟨W.as, bad', W'.H⟩ (M'.take M.length) ∧ Ext W ⟨W.as, bad', W'.H⟩ := fun bad' hb1 hb2 => by
      refine ⟨⟨?_, sr.nd, fun a h => hb2 a (sr.sub a h), fun a h => s.bt a (hb1 a h), fun n a mo h1 h2 => ?_⟩, ⟨⟨[], by simp, fun _ h => by simp at h⟩, hb2, fun a h => ex.new a (hb1 a h), ex.keep, ex.live⟩⟩
      · rw [List.length_take, ← s.len, ea, List.length_append]
        show W.as.length = _
        omega
      · have hn : n < M.length := by rw [← hl]; exact (List.getElem?_eq_some_iff.mp h1).1
        have h2' : M'[n]? = some mo := by rw [List.getElem?_take_of_lt hn] at h2; exact h2
        exact MoOk.nr (W := W') (W' := ⟨W.as, bad', W'.H⟩) rfl hb1 (Mem.nr_at hnr h2) (s.obj n a mo (hat n a h1) h2')
    have other : (∀ j, d ≠ .ref j) → (if d.nr = true then some (d, M'.take M.length) else none) = some (d', M2) → ∃ W2, W2.H = W'.H ∧ Ext W W2 ∧ SR K W2 M2 ∧ Rp K W2 d' v := fun _ e => by
      split at e
      · rename_i hn
        cases e
        obtain ⟨p1, p2⟩ := plain W'.bad (fun _ h => h) ex.bad
        exact ⟨⟨W.as, W'.bad, W'.H⟩, rfl, p2, p1, Rp.nr (W := W') (W' := ⟨W.as, W'.bad, W'.H⟩) rfl (fun _ h => h) _ _ hn r⟩
      · cases e
    cases d with
    | ref j =>
      dsimp only at e
      split at e
      · cases e
      · rename_i hj
        split at e
        · rename_i xs hx
          split at e
          · rename_i hn
            obtain ⟨a, h1, e1⟩ := r
            obtain ⟨vs, q1, q2⟩ := s.obj j a _ h1 hx
            have haN : a ∈ new := by
              rw [ea, List.getElem?_append_right (by omega)] at h1
              exact List.mem_of_getElem? h1
            have hWa : W.H a = none := fr a haN
            have nb : ¬ W.bad a := sr.nb hWa
            split at e
            · cases e
              obtain ⟨p1, p2⟩ := plain W'.bad (fun _ h => h) ex.bad
              have naW : a ∉ W.as := fun z => nb (sr.sub a z)
              refine ⟨⟨W.as ++ [a], W'.bad, W'.H⟩, rfl, ⟨⟨[a], rfl, fun b hb => by rw [show b = a by simpa using hb]; exact hWa⟩, ex.bad, ex.new, ex.keep, ex.live⟩, ?_, ⟨a, ?_, e1⟩⟩
              · refine ⟨?_, ?_, fun b hb => ?_, s.bt, fun n b mo h1' h2' => ?_⟩
                · have := p1.len
                  simp only [List.length_append, List.length_singleton]
                  show W.as.length + 1 = _
                  rw [show W.as.length = (M'.take M.length).length from this]
                · show (W.as ++ [a]).Nodup
                  rw [List.nodup_append]
                  refine ⟨sr.nd, by simp, fun b hb c hc => ?_⟩
                  rw [show c = a by simpa using hc]
                  rintro rfl; exact naW hb
                · rcases List.mem_append.mp hb with hb | hb
                  · exact ex.bad b (sr.sub b hb)
                  · rw [show b = a by simpa using hb]; exact s.sub a (List.mem_of_getElem? h1)
                · have h1'' : (W.as ++ [a])[n]? = some b := h1'
                  have hk : (M'.take M.length).length = W.as.length := p1.len.symm
                  by_cases hlt : n < W.as.length
                  · rw [List.getElem?_append_left hlt] at h1''
                    rw [List.getElem?_append_left (by rw [hk]; exact hlt)] at h2'
                    exact MoOk.nr (W := ⟨W.as, W'.bad, W'.H⟩) (W' := ⟨W.as ++ [a], W'.bad, W'.H⟩) rfl (fun _ h => h) (Mem.nr_at hnr h2') (p1.obj n b mo h1'' h2')
                  · have en : n = W.as.length := by
                      have := (List.getElem?_eq_some_iff.mp h1'').1
                      simp at this; omega
                    subst en
                    have eb : a = b := by simpa using h1''
                    have em : MO.lst xs = mo := by
                      rw [← hk] at h2'
                      simpa using h2'
                    subst eb em
                    exact ⟨vs, q1, RpL.nr (W := W') (W' := ⟨W.as ++ [a], W'.bad, W'.H⟩) rfl (fun _ h => h) _ _ hn q2⟩
              · show (W.as ++ [a])[M.length]? = some a
                rw [← hl]; simp
            · cases e
              obtain ⟨p1, p2⟩ := plain (fun b => W'.bad b ∧ b ≠ a) (fun _ h => h.1) fun b hb => ⟨ex.bad b hb, fun z => nb (by rw [← z]; exact hb)⟩
              exact ⟨⟨W.as, fun b => W'.bad b ∧ b ≠ a, W'.H⟩, rfl, p2, p1, a, vs, e1, ⟨⟨q1.1, fun z => z.2 rfl⟩, q1.2⟩, RpL.nr (W := W') (W' := ⟨W.as, fun b => W'.bad b ∧ b ≠ a, W'.H⟩) rfl (fun _ h => h.1) _ _ hn q2⟩
          · cases e
        · cases e
    | non => exact other (fun _ z => nomatch z) e
    | bl _ => exact other (fun _ z => nomatch z) e
    | int _ => exact other (fun _ z => nomatch z) e
    | str _ => exact other (fun _ z => nomatch z) e
    | tup _ => exact other (fun _ z => nomatch z) e
    | lst _ => exact other (fun _ z => nomatch z) e
    | kst _ => exact other (fun _ z => nomatch z) e
  · cases e
end
/-- THE RULE for a def: what its body computes, from its arguments to what is handed back -/
theorem fn_ok {P : Program} {w : World} {K : PySem.W.Frag} {mg : Str → Option Value} {base : Heap} {x qual : Str} {params : Arguments} {body : List Stmt} {scope : Scope} {f : Addr} {fd : FuncData} {N ps : List Str} {k : Nat} {mu : Bool} {g : FS}
    (F : FunD K x qual params body scope [] [] f fd) (S : FnScope N ps scope)
    (hb : ∀ (cdv : Value) (A : Around) (outer : List Env) (s : Shared) (H : Hp) (E : XK), Room k (A.deeper (envOfC qual scope s.heap.objs.size f cdv)) →
      PFSs (cxOf CX0 P w K mg base N qual scope f cdv A outer s H E).nox body g) : FnOk P w K mg base CX0 (k + 1) f fd ps (spOf K (runFn mu N.length g) ps.length) := by
  refine F.ok S (fun vs H Q E h => h.1) fun cdv A outer s H vs Q E hr h => ⟨_, (hb cdv A outer s H E hr).nox, ?_⟩
  obtain ⟨_, W, M, ds, rfl, sr, r, d, M', hc, k⟩ := h
  obtain ⟨⟨o, M1⟩, hg, hc⟩ := Option.bind_eq_some_iff.mp hc
  refine liftS_iff.mpr ⟨W, _, M, rfl, sr, sl_start r, o, M1, hg, ?_⟩
  cases o with
  | ret d1 =>
    intro W1 v e1 s1 r1
    obtain ⟨W2, hH, e2, s2, r2⟩ := fin_ok sr e1 s1 r1 hc
    show Q v W1.H
    rw [← hH]
    exact k W2 v e2 s2 r2
  | nx ρ1 =>
    intro W1 σ1 e1 s1 l1
    obtain ⟨W2, hH, e2, s2, r2⟩ := fin_ok (d := .non) (v := .non) sr e1 s1 rfl hc
    show Q .non W1.H
    rw [← hH]
    exact k W2 .non e2 s2 r2
  | bk ρ1 => cases hc
  | ct ρ1 => cases hc
/-- another function that says the same (where it says something) -/
theorem fn_as {P : Program} {w : World} {K : PySem.W.Frag} {mg : Str → Option Value} {base : Heap} {f : Addr} {fd : FuncData} {ps : List Str} {k n : Nat} {c c' : FnC} (F : FnOk P w K mg base CX0 k f fd ps (spOf K c n))
    (h : ∀ ds M r, c' ds M = some r → c ds M = some r) : FnOk P w K mg base CX0 k f fd ps (spOf K c' n) := F.imp fun vs H Q E ⟨hl, W, M, ds, h1, h2, h3, d, M', hc, k⟩ => ⟨hl, W, M, ds, h1, h2, h3, d, M', h ds M _ hc, k⟩
/-! ### the call of a def -/
/-- an argument that is only read: a changeable list stands as a list -/
def argP (M : Mem) : D → Option D
  | .ref n => match M[n]? with | some (.lst xs) => if D.nrs xs = true then some (.lst xs) else none | none => none
  | d => if d.nr = true then some d else none
def argsP (M : Mem) : List D → Option (List D)
  | [] => some []
  | d :: ds => (argP M d).bind fun e => (argsP M ds).bind fun es => some (e :: es)
def D.isRef : D → Bool
  | .ref _ => true
  | _ => false
def anyRef : List D → Bool
  | [] => false
  | d :: ds => d.isRef || anyRef ds
/-- nothing is changed by the callee -/
def callP (c : FnC) (ds : List D) (M : Mem) : Option (D × Mem) := (argsP M ds).bind fun es => (c es []).bind fun r => match r.2 with
  | [] => if anyRef ds && !r.1.nl then none else some (r.1, M)
  | [.lst xs] => match r.1 with
    | .ref 0 => if anyRef ds && !D.nls xs then none else if D.nrs xs = true then some (.ref M.length, M ++ [.lst xs]) else none
    | _ => none
  | _ => none
def fCall (c : FnC) (fa : FA) : FE := fun ρ M => (fa ρ M).bind fun a => callP c a.1 a.2
section
variable {K : PySem.W.Frag} {W : Wo} {M : Mem}
/-- the state as a callee sees it that changes nothing: the lists that are handed in are free -/
def Wo.lend (W : Wo) (as : List Addr) (free : Addr → Prop) : Wo := ⟨as, fun a => W.bad a ∧ ¬ free a, W.H⟩
theorem args_ok {as : List Addr} {free : Addr → Prop} (sr : SR K W M) : ∀ {ds es : List D} {vs : List V}, argsP M ds = some es → RpL K W ds vs → (∀ n a, D.ref n ∈ ds → W.as[n]? = some a → free a) →
    RpL K (W.lend as free) es vs
  | [], es, vs, e, r, _ => by cases e; exact r
  | d :: ds, es, vs, e, r, hf => by
    obtain ⟨d', hd, e⟩ := Option.bind_eq_some_iff.mp e
    obtain ⟨es', hes, e⟩ := Option.bind_eq_some_iff.mp e
    cases e
    obtain ⟨v, vr, rfl, r1, r2⟩ := r
    refine ⟨v, vr, rfl, ?_, args_ok sr hes r2 fun n a hm ha => hf n a (List.mem_cons_of_mem _ hm) ha⟩
    have other : (if d.nr = true then some d else none) = some d' → Rp K (W.lend as free) d' v := fun q => by
      split at q
      · rename_i hn
        cases q
        exact Rp.nr (W := W) (W' := W.lend as free) rfl (fun _ z => z.1) _ _ hn r1
      · cases q
    cases d with
    | ref n =>
      obtain ⟨a, h1, e1⟩ := r1
      obtain ⟨mo, hmo, m⟩ := sr.at_ h1
      cases mo with
      | lst xs =>
        simp only [argP, hmo] at hd
        split at hd
        · rename_i hn
          cases hd
          obtain ⟨us, q1, q2⟩ := m
          exact ⟨a, us, e1, ⟨⟨q1.1, fun z => z.2 (hf n a List.mem_cons_self h1)⟩, q1.2⟩, RpL.nr (W := W) (W' := W.lend as free) rfl (fun _ z => z.1) _ _ hn q2⟩
        · cases hd
    | non => exact other hd
    | bl _ => exact other hd
    | int _ => exact other hd
    | str _ => exact other hd
    | tup _ => exact other hd
    | lst _ => exact other hd
    | kst _ => exact other hd
theorem noRef : ∀ {ds : List D}, anyRef ds = false → ∀ n, D.ref n ∉ ds
  | [], _, _ => by simp
  | d :: ds, h, n => by
    rw [anyRef, Bool.or_eq_false_iff] at h
    intro z
    rcases List.mem_cons.mp z with z | z
    · rw [← z] at h; exact absurd h.1 (by simp [D.isRef])
    · exact noRef h.2 n z
/-- which lists are handed in -/
def Lent (W : Wo) (ds : List D) (a : Addr) : Prop := ∃ n, D.ref n ∈ ds ∧ W.as[n]? = some a
theorem lent_lst (sr : SR K W M) {ds : List D} {a : Addr} (h : Lent W ds a) : LstAt W.H a ∧ a ∈ W.as := by
  obtain ⟨n, _, h2⟩ := h
  obtain ⟨mo, _, m⟩ := sr.at_ h2
  cases mo with
  | lst xs => obtain ⟨vs, q, _⟩ := m; exact ⟨⟨vs, q.1⟩, List.mem_of_getElem? h2⟩
theorem callP_ok {c : FnC} {n : Nat} {ds : List D} {vs : List V} {d : D} {M' : Mem} {Q : VK} {E : XK} (sr : SR K W M) (r : RpL K W ds vs) (hn : vs.length = n) (e : callP c ds M = some (d, M'))
    (k : ∀ W' v, Ext W W' → SR K W' M' → Rp K W' d v → Q v W'.H) : spOf K c n vs W.H Q E := by
  obtain ⟨es, he, e⟩ := Option.bind_eq_some_iff.mp e
  obtain ⟨⟨d1, M1⟩, hc, e⟩ := Option.bind_eq_some_iff.mp e
  have sL : SR K (W.lend [] (Lent W ds)) [] := ⟨rfl, List.nodup_nil, fun a h => by simp [Wo.lend] at h, fun a h => sr.bt a h.1, fun n a mo h => by simp [Wo.lend] at h⟩
  refine ⟨hn, W.lend [] (Lent W ds), [], es, rfl, sL, args_ok sr he r fun n a h1 h2 => ⟨n, h1, h2⟩, d1, M1, hc, fun W1 v e1 s1 r1 => ?_⟩
  have keepAll : ∀ a o, W.H a = some o → W1.H a = some o := fun a o h => e1.keep a o (by simp [Wo.lend]) h
  have newb : ∀ a, W1.bad a → W.bad a ∨ W.H a = none := fun a h => (e1.new a h).imp (fun z => z.1) fun z => z
  -- the caller's state behind it
  have sr2 : ∀ (as' : List Addr), (∀ a ∈ as', W.H a = none ∧ W1.bad a) → Ext W ⟨W.as ++ as', fun a => W.bad a ∨ W1.bad a, W1.H⟩ := fun as' h =>
    ⟨⟨as', rfl, fun a ha => (h a ha).1⟩, fun a z => .inl z, fun a z => z.elim .inl (newb a), fun a o _ q => keepAll a o q, fun a o q => ⟨o, keepAll a o q⟩⟩
  have old : ∀ {W2 : Wo}, W2.H = W1.H → Ext W W2 → ∀ n a mo, W.as[n]? = some a → M[n]? = some mo → MoOk K W2 a mo := fun hH ex n a mo h1 h2 => by
    have m := sr.obj n a mo h1 h2
    obtain ⟨o, q⟩ := m.there
    exact m.ext ex sr.sub (by rw [hH, keepAll a o q, q])
  have badLst : ∀ a, (W.bad a ∨ W1.bad a) → W1.bad a ∨ (Lent W ds a ∧ LstAt W1.H a) := fun a z => by
    rcases z with z | z
    · by_cases q : Lent W ds a
      · obtain ⟨us, q2⟩ := (lent_lst sr q).1
        exact .inr ⟨q, us, keepAll a _ q2⟩
      · exact .inl (e1.bad a ⟨z, q⟩)
    · exact .inl z
  have badLst' : ∀ a, (W.bad a ∨ W1.bad a) → W1.bad a ∨ LstAt W1.H a := fun a z => (badLst a z).imp (fun q => q) fun q => q.2
  have noB : anyRef ds = false → ∀ a, (W.bad a ∨ W1.bad a) → W1.bad a := fun hr a z => by
    rcases badLst a z with q | ⟨⟨n, q, _⟩, _⟩
    · exact q
    · exact absurd q (noRef hr n)
  have toW2 : ∀ (as' : List Addr) (d : D) (v : V), d.nr = true → (anyRef ds && !d.nl) = false → Rp K W1 d v → Rp K ⟨W.as ++ as', fun a => W.bad a ∨ W1.bad a, W1.H⟩ d v := fun as' d v hnr h r => by
    cases hr : anyRef ds with
    | false => exact Rp.nr (W := W1) (W' := ⟨W.as ++ as', fun a => W.bad a ∨ W1.bad a, W1.H⟩) rfl (noB hr) _ _ hnr r
    | true => exact Rp.nl (W := W1) (W' := ⟨W.as ++ as', fun a => W.bad a ∨ W1.bad a, W1.H⟩) rfl badLst' _ _ (by rw [hr] at h; simpa using h) r
  have as1 : W1.as.length = M1.length := s1.len
  dsimp only at e
  split at e
  · -- nothing new
    have e0 : W1.as = [] := List.eq_nil_of_length_eq_zero as1
    split at e
    · cases e
    · rename_i h
      cases e
      have hnr : ∀ (d : D) (v : V), Rp K W1 d v → d.nr = true := by
        have both : (∀ (d : D) (v : V), Rp K W1 d v → d.nr = true) ∧ True := by
          refine ⟨fun d => ?_, trivial⟩
          refine D.rec (motive_1 := fun d => ∀ v, Rp K W1 d v → d.nr = true) (motive_2 := fun ds => ∀ vs, RpL K W1 ds vs → D.nrs ds = true) ?_ ?_ ?_ ?_ ?_ ?_ ?_ ?_ ?_ ?_ d
          · intro v _; rw [D.nr] <;> simp
          · intro b v _; rw [D.nr] <;> simp
          · intro i v _; rw [D.nr] <;> simp
          · intro x v _; rw [D.nr] <;> simp
          · intro xs ih v h; obtain ⟨a, vs, _, _, r⟩ := h; rw [D.nr]; exact ih vs r
          · intro xs ih v h; obtain ⟨a, vs, _, _, r⟩ := h; rw [D.nr]; exact ih vs r
          · intro xs ih v h; obtain ⟨a, vs, _, _, r⟩ := h; rw [D.nr]; exact ih vs r
          · intro n v h; obtain ⟨a, q, _⟩ := h; rw [e0] at q; simp at q
          · intro vs _; rw [D.nrs]
          · intro d ds i1 i2 vs h; obtain ⟨v, r, _, h1, h2⟩ := h; rw [D.nrs, i1 v h1, i2 r h2]; rfl
        exact both.1
      have ex := sr2 [] fun a h => by simp at h
      rw [List.append_nil] at ex
      have rd := toW2 [] d v (hnr d v r1) (by simpa using h) r1
      rw [List.append_nil] at rd
      exact k ⟨W.as, fun a => W.bad a ∨ W1.bad a, W1.H⟩ v ex ⟨sr.len, sr.nd, fun a q => .inl (sr.sub a q), fun a q => q.elim (fun z => let ⟨o, hq⟩ := sr.bt a z; ⟨o, keepAll a o hq⟩) (s1.bt a), fun n a mo h1 h2 => old (W2 := ⟨W.as, fun a => W.bad a ∨ W1.bad a, W1.H⟩) rfl ex n a mo h1 h2⟩ rd
  · -- a new list
    rename_i xs
    split at e
    · rename_i hd
      split at e
      · cases e
      · rename_i h
        split at e
        · rename_i hnr
          cases e
          obtain ⟨p, hp, ev⟩ := r1
          have e1' : W1.as = [p] := by
            have hl : W1.as.length = 1 := as1
            match hW : W1.as, hl with
            | [q], _ => rw [hW] at hp; simp at hp; rw [hp]
          obtain ⟨vs1, q1, q2⟩ := s1.obj 0 p (.lst xs) hp rfl
          have hpn : W.H p = none := by
            obtain ⟨new, ea, fr⟩ := e1.as
            refine fr p ?_
            have ea' : W1.as = new := by rw [ea]; rfl
            rw [← ea', e1']; simp
          have pb : W1.bad p := s1.sub p (by rw [e1']; simp)
          have npW : p ∉ W.as := fun z => sr.nb hpn (sr.sub p z)
          have ex := sr2 [p] fun a h => by rw [show a = p by simpa using h]; exact ⟨hpn, pb⟩
          have rxs : RpL K ⟨W.as ++ [p], fun a => W.bad a ∨ W1.bad a, W1.H⟩ xs vs1 := by
            cases hr : anyRef ds with
            | false => exact RpL.nr (W := W1) (W' := ⟨W.as ++ [p], fun a => W.bad a ∨ W1.bad a, W1.H⟩) rfl (noB hr) _ _ hnr q2
            | true => exact RpL.nl (W := W1) (W' := ⟨W.as ++ [p], fun a => W.bad a ∨ W1.bad a, W1.H⟩) rfl badLst' _ _ (by rw [hr] at h; simpa using h) q2
          refine k ⟨W.as ++ [p], fun a => W.bad a ∨ W1.bad a, W1.H⟩ v ex ⟨by simp [sr.len], ?_, fun a q => ?_, fun a q => q.elim (fun z => let ⟨o, hq⟩ := sr.bt a z; ⟨o, keepAll a o hq⟩) (s1.bt a), fun n a mo h1 h2 => ?_⟩ ⟨p, by show (W.as ++ [p])[M.length]? = some p; rw [← sr.len]; simp, ev⟩
          · show (W.as ++ [p]).Nodup
            rw [List.nodup_append]
            refine ⟨sr.nd, by simp, fun a ha b hb => ?_⟩
            rw [show b = p by simpa using hb]
            rintro rfl; exact npW ha
          · rcases List.mem_append.mp q with q | q
            · exact .inl (sr.sub a q)
            · rw [show a = p by simpa using q]; exact .inr pb
          · have h1' : (W.as ++ [p])[n]? = some a := h1
            by_cases hlt : n < W.as.length
            · rw [List.getElem?_append_left hlt] at h1'
              rw [List.getElem?_append_left (by rw [← sr.len]; exact hlt)] at h2
              exact old (W2 := ⟨W.as ++ [p], fun a => W.bad a ∨ W1.bad a, W1.H⟩) rfl ex n a mo h1' h2
            · have en : n = W.as.length := by
                have := (List.getElem?_eq_some_iff.mp h1').1
                simp at this; omega
              subst en
              have eb : p = a := by simpa using h1'
              have em : MO.lst xs = mo := by
                rw [sr.len] at h2
                simpa using h2
              subst eb em
              exact ⟨vs1, q1, rxs⟩
        · cases e
    · cases e
  · cases e
end
section
variable {X : Cx} {k n : Nat} {f : Addr} {fd : FuncData} {ps : List Str} {c : FnC} {x : Str} {p pos : Pos} {e : Expr} {es : List Expr} {fa : FA}
theorem pf_call (F : FnOk X.prog X.w X.K X.mg X.base CX0 k f fd ps (spOf X.K c n)) (hr : Room k X.A) (hg : Gl X x) (hm : X.mg x = some (.ref f)) (hk : PySem.W.keepIn X.K (.ref f) = true) (hb : Binds X.K fd ps []) (ha : PFA X (e :: es) fa) (hn : n = es.length + 1 := by rfl)
    (hlen : ∀ ρ M r, fa ρ M = some r → r.1.length = es.length + 1) (hdb : (x == ("__debug__" : Str)) = false := by decide) (he : starEach (e :: es) X.env = (false, eval e X.env) :: starEach es X.env := by rfl) (hpl : (backTo pos (starEach es X.env)).any (·.1) = false := by rfl) :
    PFE X (.Call (.Name x p) (e :: es) [] pos) (fCall c fa) := pe_weak (pe_call F hr hg hm hk hb .nil pass0 ha hdb he hpl) fun σ H Q => by
  rintro ⟨W, ρ, M, rfl, sr, sl, d, M', hf, k⟩
  obtain ⟨⟨ds, M1⟩, hx, hf⟩ := Option.bind_eq_some_iff.mp hf
  refine ⟨W, ρ, M, rfl, sr, sl, ds, M1, hx, fun W1 vs e1 s1 r1 => ?_⟩
  show spOf X.K c n (vs ++ []) W1.H Q E0
  rw [List.append_nil]
  exact callP_ok s1 r1 (by rw [← r1.len, hn]; exact hlen _ _ _ hx) hf fun W2 v e2 s2 r2 => k W2 v (e1.trans e2) s2 r2
theorem pf_call0 (F : FnOk X.prog X.w X.K X.mg X.base CX0 k f fd ps (spOf X.K c 0)) (hr : Room k X.A) (hg : Gl X x) (hm : X.mg x = some (.ref f)) (hk : PySem.W.keepIn X.K (.ref f) = true) (hb : Binds X.K fd ps []) (hdb : (x == ("__debug__" : Str)) = false := by decide) :
    PFE X (.Call (.Name x p) [] [] pos) (fCall c fNil) := pe_weak (pe_call0 F hr hg hm hk hb .nil pass0 hdb) fun σ H Q => by
  rintro ⟨W, ρ, M, rfl, sr, sl, d, M', hf, k⟩
  show spOf X.K c 0 ([] ++ []) W.H Q E0
  exact callP_ok (ds := []) sr rfl rfl hf fun W2 v e2 s2 r2 => k W2 v e2 s2 r2
end
theorem len_nil : ∀ ρ M (r : List D × Mem), fNil ρ M = some r → r.1.length = 0 := fun ρ M r h => by cases h; rfl
theorem len_cons {fa : FE} {f : FA} {n : Nat} (h : ∀ ρ M r, f ρ M = some r → r.1.length = n) : ∀ ρ M (r : List D × Mem), fCons fa f ρ M = some r → r.1.length = n + 1 := fun ρ M r e => by
  obtain ⟨a, ha, e⟩ := Option.bind_eq_some_iff.mp e
  obtain ⟨b, hb, e⟩ := Option.bind_eq_some_iff.mp e
  cases e
  simp [h _ _ _ hb]
end PF
namespace PF
open PySem PySem.Spec PyProof.Rows L2
/-! ### a call that changes one list -/
def refIn (n : Nat) : List D → Bool
  | [] => false
  | .ref m :: ds => decide (m = n) || refIn n ds
  | _ :: ds => refIn n ds
theorem refIn_no {n : Nat} : ∀ {ds : List D}, refIn n ds = false → D.ref n ∉ ds
  | [], _ => by simp
  | d :: ds, h => by
    intro z
    rcases List.mem_cons.mp z with z | z
    · subst z
      simp [refIn] at h
    · refine refIn_no (ds := ds) ?_ z
      cases d with
      | ref m => rw [refIn, Bool.or_eq_false_iff] at h; exact h.2
      | _ => exact h
def callS (i : Nat) (c : FnC) (ds : List D) (M : Mem) : Option (D × Mem) := match ds[i]? with
  | some (.ref n) => match M[n]? with
    | some mo => if mo.nr && !refIn n (ds.set i .non) then (argsP M (ds.set i .non)).bind fun es => (c (es.set i (.ref 0)) [mo]).bind fun r => match r.2 with
        | [.lst xs] => if (D.nrs xs && r.1.nr) && !(anyRef (ds.set i .non) && !(r.1.nl && D.nls xs)) then some (r.1, M.set n (.lst xs)) else none
        | _ => none
      else none
    | none => none
  | _ => none
def fCallS (i : Nat) (c : FnC) (fa : FA) : FE := fun ρ M => (fa ρ M).bind fun a => callS i c a.1 a.2
section
variable {K : PySem.W.Frag} {W : Wo} {M : Mem}
theorem callS_ok {i : Nat} {c : FnC} {n : Nat} {ds : List D} {vs : List V} {d : D} {M' : Mem} {Q : VK} {E : XK} (sr : SR K W M) (r : RpL K W ds vs) (hn : vs.length = n) (e : callS i c ds M = some (d, M'))
    (k : ∀ W' v, Ext W W' → SR K W' M' → Rp K W' d v → Q v W'.H) : spOf K c n vs W.H Q E := by
  unfold callS at e
  split at e
  · rename_i m hm
    split at e
    · rename_i mo hmo
      split at e
      · rename_i hc0
        rw [Bool.and_eq_true, Bool.not_eq_true'] at hc0
        obtain ⟨hnr, hri⟩ := hc0
        obtain ⟨es, he, e⟩ := Option.bind_eq_some_iff.mp e
        obtain ⟨⟨d1, M1⟩, hc, e⟩ := Option.bind_eq_some_iff.mp e
        obtain ⟨a, ha, mok⟩ := sr.addr hmo
        obtain ⟨vi, hvi, ri⟩ := r.get hm
        obtain ⟨a', ha', ev⟩ := ri
        obtain rfl : a = a' := Option.some.inj (ha.symm.trans ha')
        have haW : a ∈ W.as := List.mem_of_getElem? ha
        have nl : ¬ Lent W (ds.set i .non) a := fun ⟨j, h1, h2⟩ => by
          obtain ⟨q1, q2⟩ := List.getElem?_eq_some_iff.mp h2
          obtain ⟨q3, q4⟩ := List.getElem?_eq_some_iff.mp ha
          have : j = m := (List.getElem_inj sr.nd).mp (q2.trans q4.symm)
          subst this
          exact refIn_no hri h1
        have sL : SR K (W.lend [a] (Lent W (ds.set i .non))) [mo] := by
          refine ⟨rfl, by simp [Wo.lend], fun b h => ?_, fun b h => sr.bt b h.1, fun j b mo' h1 h2 => ?_⟩
          · rw [show b = a by simpa [Wo.lend] using h]
            exact ⟨sr.sub a haW, nl⟩
          · cases j with
            | zero =>
              have eb : a = b := by simpa [Wo.lend] using h1
              have em : mo = mo' := by simpa using h2
              subst eb em
              exact MoOk.nr (W := W) (W' := W.lend [a] (Lent W (ds.set i .non))) rfl (fun _ z => z.1) hnr mok
            | succ j => simp at h2
        have r' : RpL K W (ds.set i .non) (vs.set i .non) := r.set i rfl
        have rE := args_ok (as := [a]) sr he r' (free := Lent W (ds.set i .non)) fun j b h1 h2 => ⟨j, h1, h2⟩
        have rE2 : RpL K (W.lend [a] (Lent W (ds.set i .non))) (es.set i (.ref 0)) vs := by
          have q := rE.set (d := .ref 0) (v := .ref a) i ⟨a, rfl, rfl⟩
          rw [List.set_set] at q
          have ev' : vs.set i (.ref a) = vs := by
            rw [← ev]
            obtain ⟨h1, h2⟩ := List.getElem?_eq_some_iff.mp hvi
            rw [← h2]; exact List.set_getElem_self h1
          rw [ev'] at q
          exact q
        refine ⟨hn, W.lend [a] (Lent W (ds.set i .non)), [mo], _, rfl, sL, rE2, d1, M1, hc, fun W1 v e1 s1 r1 => ?_⟩
        have keepAll : ∀ b o, b ≠ a → W.H b = some o → W1.H b = some o := fun b o hb h => e1.keep b o (by simpa [Wo.lend] using hb) h
        dsimp only at e
        split at e
        · rename_i xs
          split at e
          · rename_i hcond
            rw [Bool.and_eq_true, Bool.and_eq_true, Bool.not_eq_true'] at hcond
            obtain ⟨⟨hxs, hd⟩, hl⟩ := hcond
            cases e
            obtain ⟨new, ea, fr⟩ := e1.as
            have enew : new = [] := by
              have h1 := s1.len
              rw [ea] at h1
              simp [Wo.lend] at h1
              exact h1
            subst enew
            have ea1 : W1.as = [a] := by rw [ea]; rfl
            obtain ⟨us, q1, q2⟩ := s1.obj 0 a (.lst xs) (by rw [ea1]; rfl) rfl
            have ex : Ext W ⟨W.as, fun b => W.bad b ∨ W1.bad b, W1.H⟩ := by
              refine ⟨⟨[], by simp, fun _ h => by simp at h⟩, fun b h => .inl h, fun b h => h.elim .inl fun z => (e1.new b z).imp (fun q => q.1) fun q => q, fun b o hb h => keepAll b o (fun z => hb (by rw [z]; exact haW)) h, fun b o h => ?_⟩
              by_cases z : b = a
              · subst z; exact ⟨_, q1.1⟩
              · exact ⟨o, keepAll b o z h⟩
            have badLst : ∀ b, (W.bad b ∨ W1.bad b) → W1.bad b ∨ (Lent W (ds.set i .non) b ∧ LstAt W1.H b) := fun b z => by
              rcases z with z | z
              · by_cases q : Lent W (ds.set i .non) b
                · have nb : b ≠ a := fun z => nl (by rw [← z]; exact q)
                  obtain ⟨us, q2⟩ := (lent_lst sr q).1
                  exact .inr ⟨q, us, keepAll b _ nb q2⟩
                · exact .inl (e1.bad b ⟨z, q⟩)
              · exact .inl z
            have noB : anyRef (ds.set i .non) = false → ∀ b, (W.bad b ∨ W1.bad b) → W1.bad b := fun hr b z => by
              rcases badLst b z with q | ⟨⟨j, q, _⟩, _⟩
              · exact q
              · exact absurd q (noRef hr j)
            have toD : ∀ (d : D) (v : V), d.nr = true → (anyRef (ds.set i .non) = true → d.nl = true) → Rp K W1 d v → Rp K ⟨W.as, fun b => W.bad b ∨ W1.bad b, W1.H⟩ d v := fun d v h1 h2 r => by
              cases hr : anyRef (ds.set i .non) with
              | false => exact Rp.nr (W := W1) (W' := ⟨W.as, fun b => W.bad b ∨ W1.bad b, W1.H⟩) rfl (noB hr) _ _ h1 r
              | true => exact Rp.nl (W := W1) (W' := ⟨W.as, fun b => W.bad b ∨ W1.bad b, W1.H⟩) rfl (fun b z => (badLst b z).imp (fun q => q) fun q => q.2) _ _ (h2 hr) r
            have toL : RpL K ⟨W.as, fun b => W.bad b ∨ W1.bad b, W1.H⟩ xs us := by
              cases hr : anyRef (ds.set i .non) with
              | false => exact RpL.nr (W := W1) (W' := ⟨W.as, fun b => W.bad b ∨ W1.bad b, W1.H⟩) rfl (noB hr) _ _ hxs q2
              | true =>
                rw [hr, Bool.true_and, Bool.not_eq_false', Bool.and_eq_true] at hl
                exact RpL.nl (W := W1) (W' := ⟨W.as, fun b => W.bad b ∨ W1.bad b, W1.H⟩) rfl (fun b z => (badLst b z).imp (fun q => q) fun q => q.2) _ _ hl.2 q2
            refine k ⟨W.as, fun b => W.bad b ∨ W1.bad b, W1.H⟩ v ex ⟨by rw [List.length_set]; exact sr.len, sr.nd, fun b h => .inl (sr.sub b h), fun b h => h.elim (fun z => let ⟨o, q⟩ := sr.bt b z; ex.live b o q) (s1.bt b), fun j b mo' h1 h2 => ?_⟩ (toD _ _ hd (fun hr => ?_) r1)
            · have h1' : W.as[j]? = some b := h1
              by_cases z : j = m
              · subst z
                obtain rfl : a = b := Option.some.inj (ha.symm.trans h1')
                have hl : j < M.length := by rw [← sr.len]; exact (List.getElem?_eq_some_iff.mp ha).1
                rw [List.getElem?_set_self hl] at h2
                cases h2
                exact ⟨us, q1, toL⟩
              · rw [List.getElem?_set_ne (Ne.symm z)] at h2
                have nb : b ≠ a := fun q => z (by
                  subst q
                  obtain ⟨q1, q2⟩ := List.getElem?_eq_some_iff.mp h1'
                  obtain ⟨q3, q4⟩ := List.getElem?_eq_some_iff.mp ha
                  exact (List.getElem_inj sr.nd).mp (q2.trans q4.symm))
                have mk := sr.obj j b mo' h1' h2
                obtain ⟨o, q⟩ := mk.there
                exact mk.ext ex sr.sub (by rw [q]; exact keepAll b o nb q)
            · rw [hr, Bool.true_and, Bool.not_eq_false', Bool.and_eq_true] at hl
              exact hl.1
          · cases e
        · cases e
      · cases e
    · cases e
  · cases e
end
section
variable {X : Cx} {k n : Nat} {f : Addr} {fd : FuncData} {ps : List Str} {c : FnC} {x : Str} {p pos : Pos} {e : Expr} {es : List Expr} {fa : FA}
theorem pf_callS (i : Nat) (F : FnOk X.prog X.w X.K X.mg X.base CX0 k f fd ps (spOf X.K c n)) (hr : Room k X.A) (hg : Gl X x) (hm : X.mg x = some (.ref f)) (hk : PySem.W.keepIn X.K (.ref f) = true) (hb : Binds X.K fd ps []) (ha : PFA X (e :: es) fa) (hn : n = es.length + 1 := by rfl)
    (hlen : ∀ ρ M r, fa ρ M = some r → r.1.length = es.length + 1) (hdb : (x == ("__debug__" : Str)) = false := by decide) (he : starEach (e :: es) X.env = (false, eval e X.env) :: starEach es X.env := by rfl) (hpl : (backTo pos (starEach es X.env)).any (·.1) = false := by rfl) :
    PFE X (.Call (.Name x p) (e :: es) [] pos) (fCallS i c fa) := pe_weak (pe_call F hr hg hm hk hb .nil pass0 ha hdb he hpl) fun σ H Q => by
  rintro ⟨W, ρ, M, rfl, sr, sl, d, M', hf, k⟩
  obtain ⟨⟨ds, M1⟩, hx, hf⟩ := Option.bind_eq_some_iff.mp hf
  refine ⟨W, ρ, M, rfl, sr, sl, ds, M1, hx, fun W1 vs e1 s1 r1 => ?_⟩
  show spOf X.K c n (vs ++ []) W1.H Q E0
  rw [List.append_nil]
  exact callS_ok s1 r1 (by rw [← r1.len, hn]; exact hlen _ _ _ hx) hf fun W2 v e2 s2 r2 => k W2 v (e1.trans e2) s2 r2
end
/-! ### calls of built-ins -/
abbrev GN := List D → Mem → Option D
def fB (g : GN) (fa : FA) : FE := fun ρ M => (fa ρ M).bind fun a => (g a.1 a.2).bind fun d => some (d, a.2)
def OpN (K : PySem.W.Frag) (r : List V → Hp → VK → Prop) (g : GN) : Prop := ∀ (W : Wo) (M : Mem) (ds : List D) (d : D) (vs : List V) (Q : VK), SR K W M → RpL K W ds vs → g ds M = some d →
  (∀ W' v', Ext W W' → SR K W' M → Rp K W' d v' → Q v' W'.H) → r vs W.H Q
/-- .. that make a new list -/
abbrev GNN := List D → Mem → Option (List D)
def fBN (g : GNN) (fa : FA) : FA := fun ρ M => (fa ρ M).bind fun a => (g a.1 a.2).bind fun d => some (d, a.2)
def OpNN (K : PySem.W.Frag) (r : List V → Hp → VK → Prop) (g : GNN) : Prop := ∀ (W : Wo) (M : Mem) (ds xs : List D) (vs : List V) (Q : VK), SR K W M → RpL K W ds vs → g ds M = some xs →
  (∀ p us, W.H p = none → RpL K W xs us → us.length ≤ LINE → Q (.ref p) (upd W.H p (.lst us))) → r vs W.H Q
section
variable {X : Cx} {e : Expr} {es : List Expr} {fa : FA} {x : Str} {p pos : Pos} {r : List V → Hp → VK → Prop} {g : GN} {gn : GNN} {id T : String}
theorem lB (o : OpN X.K r g) : ∀ σ H Q, liftE X.K (fB g fa) σ H Q → tCB r (liftA X.K fa) σ H Q := by
  rintro σ H Q ⟨W, ρ, M, rfl, sr, sl, d, M', hf, k⟩
  obtain ⟨⟨ds, M1⟩, hx, hf⟩ := Option.bind_eq_some_iff.mp hf
  obtain ⟨d', hg, hf⟩ := Option.bind_eq_some_iff.mp hf
  cases hf
  exact ⟨W, ρ, M, rfl, sr, sl, ds, _, hx, fun W1 vs e1 s1 r1 => o W1 _ ds d vs Q s1 r1 hg fun W2 v e2 s2 r2 => k W2 v (e1.trans e2) s2 r2⟩
theorem lBN (o : OpNN X.K r gn) : ∀ σ H Q, liftN X.K (fBN gn fa) σ H Q → tCB r (liftA X.K fa) σ H Q := by
  rintro σ H Q ⟨W, ρ, M, rfl, sr, sl, d, M', hf, k⟩
  obtain ⟨⟨ds, M1⟩, hx, hf⟩ := Option.bind_eq_some_iff.mp hf
  obtain ⟨d', hg, hf⟩ := Option.bind_eq_some_iff.mp hf
  cases hf
  exact ⟨W, ρ, M, rfl, sr, sl, ds, _, hx, fun W1 vs e1 s1 r1 => o W1 _ ds d vs Q s1 r1 hg fun q us hq ru hl => k W1 q us e1 s1 hq ru hl⟩
theorem pf_b (hc : CallR X (.builtin id) r) (o : OpN X.K r g) (hg : Gl X x) (hm : X.mg x = none) (hv : bootBuiltins x = some (.builtin id)) (ha : PFA X (e :: es) fa) (hn : x ≠ "__name__" := by decide) (hdb : (x == ("__debug__" : Str)) = false := by decide)
    (he : starEach (e :: es) X.env = (false, eval e X.env) :: starEach es X.env := by rfl) (hpl : (backTo pos (starEach es X.env)).any (·.1) = false := by rfl) : PFE X (.Call (.Name x p) (e :: es) [] pos) (fB g fa) := pe_weak (pe_callB hc hg hm hv ha hn hdb he hpl) (lB o)
theorem pf_ty (hc : CallR X (.type T) r) (o : OpN X.K r g) (hg : Gl X x) (hm : X.mg x = none) (hv : bootBuiltins x = some (.type T)) (ha : PFA X (e :: es) fa) (hn : x ≠ "__name__" := by decide) (hdb : (x == ("__debug__" : Str)) = false := by decide)
    (he : starEach (e :: es) X.env = (false, eval e X.env) :: starEach es X.env := by rfl) (hpl : (backTo pos (starEach es X.env)).any (·.1) = false := by rfl) : PFE X (.Call (.Name x p) (e :: es) [] pos) (fB g fa) := pe_weak (pe_callTy hc hg hm hv ha hn hdb he hpl) (lB o)
theorem pfn_b (hc : CallR X (.builtin id) r) (o : OpNN X.K r gn) (hg : Gl X x) (hm : X.mg x = none) (hv : bootBuiltins x = some (.builtin id)) (ha : PFA X (e :: es) fa) (hn : x ≠ "__name__" := by decide) (hdb : (x == ("__debug__" : Str)) = false := by decide)
    (he : starEach (e :: es) X.env = (false, eval e X.env) :: starEach es X.env := by rfl) (hpl : (backTo pos (starEach es X.env)).any (·.1) = false := by rfl) : PFN X (.Call (.Name x p) (e :: es) [] pos) (fBN gn fa) := pe_weak (pe_callB hc hg hm hv ha hn hdb he hpl) (lBN o)
theorem pfn_ty (hc : CallR X (.type T) r) (o : OpNN X.K r gn) (hg : Gl X x) (hm : X.mg x = none) (hv : bootBuiltins x = some (.type T)) (ha : PFA X (e :: es) fa) (hn : x ≠ "__name__" := by decide) (hdb : (x == ("__debug__" : Str)) = false := by decide)
    (he : starEach (e :: es) X.env = (false, eval e X.env) :: starEach es X.env := by rfl) (hpl : (backTo pos (starEach es X.env)).any (·.1) = false := by rfl) : PFN X (.Call (.Name x p) (e :: es) [] pos) (fBN gn fa) := pe_weak (pe_callTy hc hg hm hv ha hn hdb he hpl) (lBN o)
/-- a built-in function that the module has under a name (math.gcd) -/
theorem pf_bfun (hc : CallR X (.builtin id) r) (o : OpN X.K r g) (hg : Gl X x) (hm : X.mg x = some (.builtin id)) (ha : PFA X (e :: es) fa) (hdb : (x == ("__debug__" : Str)) = false := by decide)
    (he : starEach (e :: es) X.env = (false, eval e X.env) :: starEach es X.env := by rfl) (hpl : (backTo pos (starEach es X.env)).any (·.1) = false := by rfl) : PFE X (.Call (.Name x p) (e :: es) [] pos) (fB g fa) := pe_weak (pe_callBfun hc hg hm ha hdb he hpl) (lB o)
end
section
variable {K : PySem.W.Frag}
theorem rl1 {W : Wo} {d : D} {vs : List V} (h : RpL K W [d] vs) : ∃ v, vs = [v] ∧ Rp K W d v := by
  obtain ⟨v, r, rfl, h1, h2⟩ := h
  cases (show _ = _ from h2)
  exact ⟨v, rfl, h1⟩
theorem rl2 {W : Wo} {d e : D} {vs : List V} (h : RpL K W [d, e] vs) : ∃ v u, vs = [v, u] ∧ Rp K W d v ∧ Rp K W e u := by
  obtain ⟨v, r, rfl, h1, h2⟩ := h
  obtain ⟨u, rfl, h3⟩ := rl1 h2
  exact ⟨v, u, rfl, h1, h3⟩
def gLen : GN := fun ds M => match ds with
  | [.str x] => if x.length ≤ LINE then some (.int x.length) else none
  | [d] => (sqOf d M).map fun xs => .int xs.length
  | _ => none
theorem o_len : OpN K (fun xs H Q => ∃ x n, xs = [x] ∧ LenV K x H n ∧ Q (.int n) H) gLen := by
  intro W M ds d vs Q sr r hg k
  unfold gLen at hg
  split at hg
  · split at hg
    · rename_i h
      cases hg
      obtain ⟨v, rfl, r1⟩ := rl1 r
      cases (show _ = _ from r1)
      exact ⟨_, _, rfl, ⟨by rw [line_eq]; exact h, rfl⟩, k W _ (.refl W) sr rfl⟩
    · cases hg
  · obtain ⟨xs, hx, hg⟩ := Option.map_eq_some_iff.mp hg
    subst hg
    obtain ⟨v, rfl, r1⟩ := rl1 r
    obtain ⟨p, us, rfl, h1, r2⟩ := sq_sq sr r1 hx
    refine ⟨_, us.length, rfl, h1.imp (fun z => ⟨us, z, rfl⟩) fun z => ⟨us, z, rfl⟩, k W _ (.refl W) sr ?_⟩
    rw [r2.len]; exact rfl
  · cases hg
def gInt : GN := fun ds _ => match ds with
  | [.int i] => some (.int i)
  | [.bl b] => some (.int (if b then 1 else 0))
  | _ => none
theorem o_int : OpN K (fun xs H Q => (∃ i, xs = [.int i] ∧ Q (.int i) H) ∨ ∃ k, xs = [.bl k] ∧ Q (.int (if k then 1 else 0)) H) gInt := by
  intro W M ds d vs Q sr r hg k
  unfold gInt at hg
  split at hg
  · cases hg
    obtain ⟨v, rfl, r1⟩ := rl1 r
    cases (show _ = _ from r1)
    exact .inl ⟨_, rfl, k W _ (.refl W) sr rfl⟩
  · cases hg
    obtain ⟨v, rfl, r1⟩ := rl1 r
    cases (show _ = _ from r1)
    exact .inr ⟨_, rfl, k W _ (.refl W) sr rfl⟩
  · cases hg
def gI1 (f : Int → Int) : GN := fun ds _ => match ds with | [.int i] => some (.int (f i)) | _ => none
def gI2 (f : Int → Int → Int) : GN := fun ds _ => match ds with | [.int i, .int j] => some (.int (f i j)) | _ => none
theorem o_i1 {f : Int → Int} : OpN K (fun xs H Q => ∃ i, xs = [.int i] ∧ Q (.int (f i)) H) (gI1 f) := by
  intro W M ds d vs Q sr r hg k
  unfold gI1 at hg
  split at hg
  · cases hg
    obtain ⟨v, rfl, r1⟩ := rl1 r
    cases (show _ = _ from r1)
    exact ⟨_, rfl, k W _ (.refl W) sr rfl⟩
  · cases hg
theorem o_i2 {f : Int → Int → Int} : OpN K (fun xs H Q => ∃ i j, xs = [.int i, .int j] ∧ Q (.int (f i j)) H) (gI2 f) := by
  intro W M ds d vs Q sr r hg k
  unfold gI2 at hg
  split at hg
  · cases hg
    obtain ⟨v, u, rfl, r1, r2⟩ := rl2 r
    cases (show _ = _ from r1); cases (show _ = _ from r2)
    exact ⟨_, _, rfl, k W _ (.refl W) sr rfl⟩
  · cases hg
def gAbs : GN := gI1 fun i => if i < 0 then -i else i
def gMax2 : GN := gI2 fun i j => if j > i then j else i
def gMin2 : GN := gI2 fun i j => if j < i then j else i
def gGcd : GN := gI2 fun a b => ((Nat.gcd a.natAbs b.natAbs : Nat) : Int)
def gTuple : GN := fun ds M => match ds with
  | [d] => (sqOf d M).map .tup
  | _ => none
theorem o_tuple : OpN K (fun xs H Q => ∃ p ys, xs = [.ref p] ∧ ((SqL K H p ys ∧ ∀ l, H l = none → Q (.ref l) (upd H l (.tup ys))) ∨ (SqT K H p ys ∧ Q (.ref p) H))) gTuple := by
  intro W M ds d vs Q sr r hg k
  unfold gTuple at hg
  split at hg
  · rename_i d0
    obtain ⟨xs, hx, hg⟩ := Option.map_eq_some_iff.mp hg
    subst hg
    obtain ⟨v, rfl, r1⟩ := rl1 r
    have hl := sq_len sr r1 hx
    have lists : lsOf d0 M = some xs → ∃ p ys, [v] = [V.ref p] ∧ ((SqL K W.H p ys ∧ ∀ l, W.H l = none → Q (.ref l) (upd W.H l (.tup ys))) ∨ (SqT K W.H p ys ∧ Q (.ref p) W.H)) := fun e => by
      obtain ⟨p, us, rfl, h1, r2⟩ := ls_sq sr r1 e
      exact ⟨p, us, rfl, .inl ⟨h1, fun l nl => k _ _ (Ext.put nl) (sr.put nl) (.newTup sr nl r2 (by rw [← r2.len]; exact hl))⟩⟩
    cases d0 with
    | tup ys =>
      cases hx
      obtain ⟨p, us, rfl, h1, r2⟩ := tp_sq r1
      exact ⟨p, us, rfl, .inr ⟨h1, k W _ (.refl W) sr r1⟩⟩
    | _ => exact lists hx
  · cases hg
def gList : GNN := fun ds M => match ds with
  | [d] => sqOf d M
  | _ => none
theorem o_list : OpNN K (fun xs H Q => ∃ p ys, xs = [.ref p] ∧ (SqL K H p ys ∨ SqT K H p ys) ∧ ∀ l, H l = none → Q (.ref l) (upd H l (.lst ys))) gList := by
  intro W M ds xs vs Q sr r hg k
  unfold gList at hg
  split at hg
  · obtain ⟨v, rfl, r1⟩ := rl1 r
    have hl := sq_len sr r1 hg
    obtain ⟨p, us, rfl, h1, r2⟩ := sq_sq sr r1 hg
    exact ⟨p, us, rfl, h1, fun l nl => k l us nl r2 (by rw [← r2.len]; exact hl)⟩
  · cases hg
end
/-! isinstance of one built-in class -/
inductive Ty where
  | non | bl | int | str | tup | lst
  deriving DecidableEq
def Ty.nm : Ty → String
  | .non => "NoneType" | .bl => "bool" | .int => "int" | .str => "str" | .tup => "tuple" | .lst => "list"
def tyOf : D → Ty
  | .non => .non | .bl _ => .bl | .int _ => .int | .str _ => .str | .tup _ => .tup | .lst _ => .lst | .kst _ => .lst | .ref _ => .lst
def isi (t T : Ty) : Bool := decide (t = T) || (decide (t = .bl) && decide (T = .int))
theorem kit_tab : ∀ t T : Ty, T ≠ .non → kitB t.nm T.nm = some (isi t T) := by
  intro t T h
  cases T with
  | non => exact absurd rfl h
  | _ => cases t <;> decide +kernel
section
variable {K : PySem.W.Frag} {W : Wo} {M : Mem}
theorem tyX_of {d : D} {v : V} (sr : SR K W M) (h : Rp K W d v) : TyX K W.H v (.type (tyOf d).nm) := by
  have kl : ∀ {a : Addr} {vs : List V}, SqL K (fun _ => none) a vs → TyX K W.H (.ref a) (.type "list") := fun h => by
    rcases h with (h | ⟨o, h⟩) | ⟨o, its, n, h1, h2, _⟩
    · cases (show (none : Option HO) = _ from h)
    · cases (show (none : Option HO) = _ from h)
    · exact .kList h1 h2
  cases d with
  | non => cases (show _ = _ from h); exact .base .non
  | bl b => cases (show _ = _ from h); exact .base (.bl b)
  | int i => cases (show _ = _ from h); exact .base (.int i)
  | str x => cases (show _ = _ from h); exact .base (.str x)
  | tup xs =>
    obtain ⟨a, vs, rfl, f, _⟩ := h
    rcases f.1 with f | f
    · exact .base (.tup f.1)
    · rcases f with (f | ⟨o, f⟩) | ⟨o, its, n, h1, h2, _⟩
      · cases (show (none : Option HO) = _ from f)
      · cases (show (none : Option HO) = _ from f)
      · exact .kTuple h1 h2
  | lst xs =>
    obtain ⟨a, vs, rfl, f, _⟩ := h
    exact .base (.lst f.1.1)
  | kst xs =>
    obtain ⟨a, vs, rfl, f, _⟩ := h
    rcases f.1 with ⟨⟨o, f⟩, _⟩ | f
    · exact .base (.frz f)
    · exact kl f
  | ref n =>
    obtain ⟨a, h1, rfl⟩ := h
    obtain ⟨mo, _, m⟩ := sr.at_ h1
    cases mo with
    | lst xs => obtain ⟨vs, q, _⟩ := m; exact .base (.lst q.1)
end
def fIsi (T : Ty) (fa : FE) : FE := fun ρ M => (fa ρ M).bind fun a => some (.bl (isi (tyOf a.1) T), a.2)
theorem pf_isi {X : Cx} {e : Expr} {fa : FE} {y : Str} {p q pos : Pos} (T : Ty) (hT : T ≠ .non) (hg : Gl X "isinstance") (hm : X.mg "isinstance" = none) (ha : PFE X e fa) (hgT : Gl X y) (hmT : X.mg y = none) (hvT : bootBuiltins y = some (.type T.nm)) (hy : y ≠ "__name__" := by decide) (hdy : (y == ("__debug__" : Str)) = false := by decide)
    (he : starEach [e, .Name y q] X.env = (false, eval e X.env) :: starEach [.Name y q] X.env := by rfl) (hpl : (backTo pos (starEach [.Name y q] X.env)).any (·.1) = false := by rfl) (hs1 : starEach [.Name y q] X.env = (false, eval (.Name y q) X.env) :: starEach [] X.env := by rfl) :
    PFE X (.Call (.Name "isinstance" p) [e, .Name y q] [] pos) (fIsi T fa) :=
  pe_weak (pe_callB call_isi hg hm boot_isinstance (pa_cons ha (pa_cons (pe_bltn (v := .ty T.nm) hgT hmT hvT rfl hy hdy) pa_nil hs1) he) (by decide) (by decide) he hpl) fun σ H Q => by
    rintro ⟨W, ρ, M, rfl, sr, sl, d, M', hf, k⟩
    obtain ⟨⟨x, M1⟩, hx, hf⟩ := Option.bind_eq_some_iff.mp hf
    cases hf
    exact ⟨W, ρ, M, rfl, sr, sl, x, _, hx, fun W1 v e1 s1 r1 => ⟨v, .ty T.nm, .type (tyOf x).nm, .type T.nm, _, rfl, .ty _, tyX_of s1 r1, kit_ty (kit_tab _ _ hT), k W1 _ e1 s1 rfl⟩⟩
/-! ### methods -/
abbrev GM := D → List D → Mem → Option (D × Mem)
def tyOk (T : String) (d : D) (M : Mem) : Bool := if T = "list" then (lsOf d M).isSome else if T = "str" then (match d with | .str _ => true | _ => false) else false
def fM (T : String) (g : GM) (fo : FE) (fa : FA) : FE := fun ρ M => (fo ρ M).bind fun o => if tyOk T o.1 o.2 = true then (fa ρ o.2).bind fun a => g o.1 a.1 a.2 else none
def OpM (K : PySem.W.Frag) (r : V → List V → Hp → VK → Prop) (g : GM) : Prop := ∀ (W : Wo) (M M' : Mem) (x d : D) (ds : List D) (v : V) (vs : List V) (Q : VK), SR K W M → Rp K W x v → RpL K W ds vs → g x ds M = some (d, M') →
  (∀ W' v', Ext W W' → SR K W' M' → Rp K W' d v' → Q v' W'.H) → r v vs W.H Q
section
variable {K : PySem.W.Frag} {W : Wo} {M : Mem}
theorem tyV_of {T : String} {d : D} {v : V} (sr : SR K W M) (h : Rp K W d v) (e : tyOk T d M = true) : tyV K T v W.H := by
  unfold tyOk at e
  split at e
  · rename_i hT
    subst hT
    obtain ⟨xs, hx⟩ := Option.isSome_iff_exists.mp e
    obtain ⟨p, vs, rfl, h1, _⟩ := ls_sq sr h hx
    exact .inl ⟨rfl, vs, h1⟩
  · split at e
    · rename_i hT
      subst hT
      split at e
      · cases (show _ = _ from h); exact rfl
      · cases e
    · cases e
end
section
variable {X : Cx} {o e : Expr} {es : List Expr} {fo : FE} {fa : FA} {name : Str} {apos cpos : Pos} {T id : String} {r : V → List V → Hp → VK → Prop} {g : GM}
theorem pf_m0 (pa : PlainAttrs T) (slot : Slot T name id) (hty : typeOf (.builtin id) = pure (.type "method_descriptor")) (hm : MtR X id r) (op : OpM X.K r g) (ho : PFE X o fo)
    (hbase : attributeBase o name X.env (eval o X.env) = eval o X.env := by rfl) (hline : (apos.endLine == cpos.line) = true := by rfl) : PFE X (.Call (.Attribute o name apos) [] [] cpos) (fM T g fo fNil) := pe_weak (pe_bm0 pa slot hty hm ho hbase hline) fun σ H Q => by
  rintro ⟨W, ρ, M, rfl, sr, sl, d, M', hf, k⟩
  obtain ⟨⟨x, M1⟩, hx, hf⟩ := Option.bind_eq_some_iff.mp hf
  split at hf
  · rename_i ht
    exact ⟨W, ρ, M, rfl, sr, sl, x, M1, hx, fun W1 v e1 s1 r1 => ⟨tyV_of s1 r1 ht, op W1 M1 M' x d [] v [] Q s1 r1 rfl hf fun W2 u e2 s2 r2 => k W2 u (e1.trans e2) s2 r2⟩⟩
  · cases hf
theorem pf_m (pa : PlainAttrs T) (slot : Slot T name id) (hty : typeOf (.builtin id) = pure (.type "method_descriptor")) (hm : MtR X id r) (op : OpM X.K r g) (ho : PFE X o fo) (ha : PFA X (e :: es) fa)
    (hbase : attributeBase o name X.env (eval o X.env) = eval o X.env := by rfl)
    (hfew : ((backTo cpos (starEach (e :: es) X.env)).all (fun x => !x.1) && (backToKw cpos (keywordEach [] X.env)).all (fun x => x.1.isSome)
      && decide ((e :: es).length + ([] : List Keyword).length + (if ([] : List Keyword).isEmpty then 0 else 1) < 30)) = true := by rfl)
    (hline : (apos.endLine == cpos.line) = true := by rfl) (hs : starEach (e :: es) X.env = (false, eval e X.env) :: starEach es X.env := by rfl) (hplain : (backTo cpos (starEach es X.env)).any (·.1) = false := by rfl) :
    PFE X (.Call (.Attribute o name apos) (e :: es) [] cpos) (fM T g fo fa) := pe_weak (pe_bm pa slot hty hm ho ha hbase hfew hline hs hplain) fun σ H Q => by
  rintro ⟨W, ρ, M, rfl, sr, sl, d, M', hf, k⟩
  obtain ⟨⟨x, M1⟩, hx, hf⟩ := Option.bind_eq_some_iff.mp hf
  split at hf
  · rename_i ht
    obtain ⟨⟨ds, M2⟩, hd, hf⟩ := Option.bind_eq_some_iff.mp hf
    exact ⟨W, ρ, M, rfl, sr, sl, x, M1, hx, fun W1 v e1 s1 r1 => ⟨tyV_of s1 r1 ht, W1, ρ, M1, rfl, s1, sl.ext e1 sr.sub, ds, M2, hd, fun W2 vs e2 s2 r2 => op W2 M2 M' x d ds v vs Q s2 (r1.ext e2 s1.sub) r2 hf fun W3 u e3 s3 r3 => k W3 u ((e1.trans e2).trans e3) s3 r3⟩⟩
  · cases hf
end
/-- a changeable list, as it stands -/
def mlOf (d : D) (M : Mem) : Option (Nat × List D) := match d with
  | .ref n => match M[n]? with | some (.lst xs) => some (n, xs) | _ => none
  | _ => none
def gAppend : GM := fun x ds M => match ds with
  | [d] => (mlOf x M).bind fun l => if l.2.length < LINE then some (.non, M.set l.1 (.lst (l.2 ++ [d]))) else none
  | _ => none
def gPop : GM := fun x ds M => match ds with
  | [] => (mlOf x M).bind fun l => (l.2[l.2.length - 1]?).bind fun d => some (d, M.set l.1 (.lst l.2.dropLast))
  | _ => none
def gReverse : GM := fun x ds M => match ds with
  | [] => (mlOf x M).bind fun l => some (.non, M.set l.1 (.lst l.2.reverse))
  | _ => none
section
variable {K : PySem.W.Frag} {W : Wo} {M : Mem}
theorem ml_ok {x : D} {v : V} {n : Nat} {xs : List D} (sr : SR K W M) (h : Rp K W x v) (e : mlOf x M = some (n, xs)) : ∃ a vs, v = .ref a ∧ W.as[n]? = some a ∧ W.H a = some (.lst vs) ∧ RpL K W xs vs ∧ vs.length ≤ LINE := by
  cases x with
  | ref m =>
    obtain ⟨a, h1, e1⟩ := h
    obtain ⟨mo, h2, q⟩ := sr.at_ h1
    cases mo with
    | lst ys =>
      have e' : (match M[m]? with | some (.lst xs) => some (m, xs) | _ => none) = some (n, xs) := e
      rw [h2] at e'
      cases e'
      obtain ⟨vs, q1, q2⟩ := q
      exact ⟨a, vs, e1, h1, q1.1, q2, q1.2⟩
  | _ => cases e
theorem o_append : OpM K rAppend gAppend := by
  intro W M M' x d ds v vs Q sr rx r hg k
  unfold gAppend at hg
  split at hg
  · obtain ⟨⟨n, xs⟩, hl, hg⟩ := Option.bind_eq_some_iff.mp hg
    split at hg
    · rename_i hz
      cases hg
      obtain ⟨u, rfl, r1⟩ := rl1 r
      obtain ⟨a, ws, rfl, ha, hH, rw_, hlen⟩ := ml_ok sr rx hl
      refine ⟨a, ws, u, rfl, rfl, hH, by rw [line_eq, ← rw_.len]; exact hz, ?_⟩
      exact k _ _ (Ext.wr (List.mem_of_getElem? ha)) (sr.wr ha (rw_.append (.one r1)) (by
        rw [List.length_append, List.length_singleton, ← rw_.len]; exact hz)) rfl
    · cases hg
  · cases hg
theorem RpL.dropLast {xs : List D} {vs : List V} (h : RpL K W xs vs) : RpL K W xs.dropLast vs.dropLast := by
  rw [List.dropLast_eq_take, List.dropLast_eq_take, h.len]
  exact h.take _
theorem o_pop : OpM K rPop gPop := by
  intro W M M' x d ds v vs Q sr rx r hg k
  unfold gPop at hg
  split at hg
  · obtain ⟨⟨n, xs⟩, hl, hg⟩ := Option.bind_eq_some_iff.mp hg
    obtain ⟨y, hy, hg⟩ := Option.bind_eq_some_iff.mp hg
    cases hg
    cases (show _ = _ from r)
    obtain ⟨a, ws, rfl, ha, hH, rw_, hlen⟩ := ml_ok sr rx hl
    obtain ⟨z, hz, rz⟩ := rw_.get hy
    have e := Ext.wr (W := W) (o := .lst ws.dropLast) (List.mem_of_getElem? ha)
    exact ⟨a, ws, z, rfl, rfl, hH, by rw [← rw_.len]; exact hz, k _ _ e (sr.wr ha rw_.dropLast (by rw [List.length_dropLast]; omega)) (rz.ext e sr.sub)⟩
  · cases hg
theorem o_reverse : OpM K rReverse gReverse := by
  intro W M M' x d ds v vs Q sr rx r hg k
  unfold gReverse at hg
  split at hg
  · obtain ⟨⟨n, xs⟩, hl, hg⟩ := Option.bind_eq_some_iff.mp hg
    cases hg
    cases (show _ = _ from r)
    obtain ⟨a, ws, rfl, ha, hH, rw_, hlen⟩ := ml_ok sr rx hl
    exact ⟨a, ws, rfl, rfl, hH, k _ _ (Ext.wr (List.mem_of_getElem? ha)) (sr.wr ha rw_.reverse (by rw [List.length_reverse]; exact hlen)) rfl⟩
  · cases hg
end
/-- xs[i] = e -/
def sSetIx (fe fo fi : FE) : FS := fun ρ M => (fe ρ M).bind fun v => (fo ρ v.2).bind fun o => (fi ρ o.2).bind fun i => match i.1 with
  | .int k => (mlOf o.1 i.2).bind fun l => (ixN l.2.length k).bind fun j => some (.nx ρ, i.2.set l.1 (.lst (l.2.set j v.1)))
  | _ => none
theorem pfs_setIx {X : Cx} {e o i : Expr} {fe fo fi : FE} {p pos : Pos} (he : PFE X e fe) (ho : PFE X o fo) (hi : PFE X i fi)
    (ha : ∀ v, assign (.Subscript o i p) X.env v = (do
      let ov ← holding [v] (eval o X.env)
      let iv ← holding [v, ov] (eval i X.env)
      standAt p
      holding [v, ov, iv] (setItem ov iv v)
      release [v, ov, iv] []) := by intro _; rfl)
    (hs : swapsWithSole [.Subscript o i p] e pos.line X.env = pure false := by rfl) (hw : swappedStores [.Subscript o i p] e X.env = pure none := by rfl)
    (h1 : (assignEach [.Subscript o i p] X.env).map (·.2) = [assign (.Subscript o i p) X.env] := by rfl) : PFS X (.Assign [.Subscript o i p] e pos) (sSetIx fe fo fi) :=
  ps_weak (ps_asg he (pg_sub ho hi set_list ha) hs hw h1) fun E σ H => by
    rw [liftS_iff]
    rintro ⟨W, ρ, M, rfl, sr, sl, o', M', hf, k⟩
    obtain ⟨⟨v, M1⟩, hv, hf⟩ := Option.bind_eq_some_iff.mp hf
    obtain ⟨⟨x, M2⟩, hx, hf⟩ := Option.bind_eq_some_iff.mp hf
    obtain ⟨⟨y, M3⟩, hy, hf⟩ := Option.bind_eq_some_iff.mp hf
    dsimp only at hf
    split at hf
    · obtain ⟨⟨n, xs⟩, hl, hf⟩ := Option.bind_eq_some_iff.mp hf
      obtain ⟨j, hj, hf⟩ := Option.bind_eq_some_iff.mp hf
      cases hf
      refine ⟨W, ρ, M, rfl, sr, sl, v, M1, hv, fun W1 vv e1 s1 r1 => ⟨W1, ρ, M1, rfl, s1, sl.ext e1 sr.sub, x, M2, hx, fun W2 ov e2 s2 r2 => ⟨W2, ρ, M2, rfl, s2, sl.ext (e1.trans e2) sr.sub, _, M3, hy, fun W3 iv e3 s3 r3 => ?_⟩⟩⟩
      cases (show _ = _ from r3)
      obtain ⟨a, ws, rfl, ha, hH, rw_, hlen⟩ := ml_ok s3 (r2.ext e3 s2.sub) hl
      have e4 := Ext.wr (W := W3) (o := .lst (ws.set j vv)) (List.mem_of_getElem? ha)
      have e14 := ((e1.trans e2).trans e3).trans e4
      exact ⟨a, ws, _, j, rfl, rfl, hH, by rw [← rw_.len]; exact hj, k _ σ e14 (s3.wr ha (rw_.set j (r1.ext (e2.trans e3) s1.sub)) (by rw [List.length_set]; exact hlen)) (sl.ext e14 sr.sub)⟩
    · cases hf
end PF
namespace PF
open PySem PySem.Spec PyProof.Rows L2
/-- a def of the module that keeps what c says -/
structure Cal (P : Program) (w : World) (K : PySem.W.Frag) (mg : Str → Option Value) (base : Heap) (k : Nat) (x : Str) (c : FnC) (n : Nat) : Prop where
  ex : ∃ (f : Addr) (fd : FuncData) (ps : List Str), mg x = some (.ref f) ∧ PySem.W.keepIn K (.ref f) = true ∧ L2.Binds K fd ps [] ∧ FnOk P w K mg base CX0 k f fd ps (spOf K c n)
section
variable {P : Program} {w : World} {K : PySem.W.Frag} {mg : Str → Option Value} {base : Heap} {k n : Nat} {x : Str} {c c' : FnC} {f : Addr} {fd : FuncData} {ps : List Str}
theorem cal_of (g : mg x = some (.ref f)) (hk : PySem.W.keepIn K (.ref f) = true) (b : L2.Binds K fd ps []) (F : FnOk P w K mg base CX0 k f fd ps (spOf K c n)) : Cal P w K mg base k x c n := ⟨f, fd, ps, g, hk, b, F⟩
theorem cal_none {qual : Str} {params : Arguments} {body : List Stmt} {scope : Scope} (g : mg x = some (.ref f)) (hk : PySem.W.keepIn K (.ref f) = true) (b : L2.Binds K fd ps []) (F : FunD K x qual params body scope [] [] f fd) (h : ∀ ds M, c ds M = none) : Cal P w K mg base k x c n :=
  ⟨f, fd, ps, g, hk, b, ⟨fun vs H Q E ⟨_, W, M, ds, _, _, _, d, M', e, _⟩ => (by rw [h] at e; cases e), fun A outer s H args us vs Q E _ _ _ _ ⟨_, W, M, ds, _, _, _, d, M', e, _⟩ => (by rw [h] at e; cases e)⟩⟩
/-- another function that says the same where it says something -/
theorem Cal.as (C : Cal P w K mg base k x c n) (h : ∀ ds M r, c' ds M = some r → c ds M = some r) : Cal P w K mg base k x c' n :=
  let ⟨f, fd, ps, g, hk, b, F⟩ := C.ex
  ⟨f, fd, ps, g, hk, b, fn_as F h⟩
theorem Cal.mono {k' : Nat} (C : Cal P w K mg base k x c n) (h : k ≤ k') : Cal P w K mg base k' x c n :=
  let ⟨f, fd, ps, g, hk, b, F⟩ := C.ex
  ⟨f, fd, ps, g, hk, b, F.mono h⟩
end
section
variable {X : Cx} {k n : Nat} {c : FnC} {x : Str} {p pos : Pos} {e : Expr} {es : List Expr} {fa : FA}
theorem pf_callC (C : Cal X.prog X.w X.K X.mg X.base k x c (es.length + 1)) (hr : Room k X.A) (hg : Gl X x) (ha : PFA X (e :: es) fa)
    (hlen : ∀ ρ M r, fa ρ M = some r → r.1.length = es.length + 1) (hdb : (x == ("__debug__" : Str)) = false := by decide) (he : starEach (e :: es) X.env = (false, eval e X.env) :: starEach es X.env := by rfl) (hpl : (backTo pos (starEach es X.env)).any (·.1) = false := by rfl) :
    PFE X (.Call (.Name x p) (e :: es) [] pos) (fCall c fa) :=
  let ⟨_, _, _, g, hk, b, F⟩ := C.ex
  pf_call F hr hg g hk b ha rfl hlen hdb he hpl
theorem pf_callCS (i : Nat) (C : Cal X.prog X.w X.K X.mg X.base k x c (es.length + 1)) (hr : Room k X.A) (hg : Gl X x) (ha : PFA X (e :: es) fa)
    (hlen : ∀ ρ M r, fa ρ M = some r → r.1.length = es.length + 1) (hdb : (x == ("__debug__" : Str)) = false := by decide) (he : starEach (e :: es) X.env = (false, eval e X.env) :: starEach es X.env := by rfl) (hpl : (backTo pos (starEach es X.env)).any (·.1) = false := by rfl) :
    PFE X (.Call (.Name x p) (e :: es) [] pos) (fCallS i c fa) :=
  let ⟨_, _, _, g, hk, b, F⟩ := C.ex
  pf_callS i F hr hg g hk b ha rfl hlen hdb he hpl
end
/-- the built-ins are the built-ins -/
structure Bn (mg : Str → Option Value) : Prop where
  len : mg "len" = none
  int : mg "int" = none
  abs : mg "abs" = none
  tuple : mg "tuple" = none
  list : mg "list" = none
  range : mg "range" = none
  isinstance : mg "isinstance" = none
  bool : mg "bool" = none
  str : mg "str" = none
  min : mg "min" = none
  max : mg "max" = none
  sum : mg "sum" = none
  sorted : mg "sorted" = none
  any : mg "any" = none
  all : mg "all" = none
  set : mg "set" = none
  dict : mg "dict" = none
  type : mg "type" = none
def bnNames : List Str := ["len", "int", "abs", "tuple", "list", "range", "isinstance", "bool", "str", "min", "max", "sum", "sorted", "any", "all", "set", "dict", "type"]
theorem bn_of {mg : Str → Option Value} (h : ∀ (i : Nat) (x : Str), bnNames[i]? = some x → mg x = none) : Bn mg :=
  ⟨h 0 _ rfl, h 1 _ rfl, h 2 _ rfl, h 3 _ rfl, h 4 _ rfl, h 5 _ rfl, h 6 _ rfl, h 7 _ rfl, h 8 _ rfl, h 9 _ rfl, h 10 _ rfl, h 11 _ rfl, h 12 _ rfl, h 13 _ rfl, h 14 _ rfl, h 15 _ rfl, h 16 _ rfl, h 17 _ rfl⟩
/-- the law's own promise, from what it computes of the script -/
def spLaw (K : PySem.W.Frag) : Sp := fun vs H Q _ => ∃ (a : Addr) (ns : List Int), vs = [.ref a] ∧ SqL K H a (ns.map V.int) ∧ Only H ∧ ns.length ≤ 63 ∧ ∀ H', Q (.bl true) H'
theorem rp_ints {K : PySem.W.Frag} {W : Wo} : ∀ ns : List Int, RpL K W (ns.map D.int) (ns.map V.int)
  | [] => rfl
  | n :: ns => ⟨.int n, _, rfl, rfl, rp_ints ns⟩
theorem law_sp {K : PySem.W.Frag} {c : FnC} (h : ∀ ns : List Int, ns.length ≤ 63 → c [.kst (ns.map .int)] [] = some (.bl true, [])) : ∀ vs H Q E, spLaw K vs H Q E → spOf K c 1 vs H Q E := by
  rintro vs H Q E ⟨a, ns, rfl, hS, hO, hl, q⟩
  refine ⟨rfl, ⟨[], fun _ => False, H⟩, [], [.kst (ns.map .int)], rfl, ⟨rfl, List.nodup_nil, fun _ z => by simp at z, fun _ z => z.elim, fun n a mo z => by simp at z⟩, ⟨_, _, rfl, ⟨a, ns.map V.int, rfl, ⟨?_, by rw [List.length_map]; show ns.length ≤ 16777216; omega⟩, rp_ints ns⟩, rfl⟩, .bl true, [], h ns hl, fun W' v _ _ r => ?_⟩
  · rcases hS with (hS | ⟨o, hS⟩) | hS
    · rcases hO a with z | ⟨o, xs, z⟩
      · rw [hS] at z; cases z
      · rw [hS] at z; cases z
    · exact .inl ⟨⟨o, hS⟩, fun z => z⟩
    · exact .inr (.inr hS)
  · cases (show _ = _ from r)
    exact q W'.H
end PF
namespace PF
open PySem PySem.Spec PyProof.Rows L2
/-- names that stand for built-in functions of modules -/
def impB (im : List (Str × String)) (K : PySem.W.Frag) : Bool := im.all fun q => He.eqO (PySem.W.nsIn K mainGlobals q.1) (some (some (.builtin q.2)))
def seeX (im : List (Str × String)) (fa : List He.Fa) (fn : List He.DefD) (K : PySem.W.Frag) : Bool × He.AlD := (impB im K, He.obsD fa fn K)
def obX (n : Nat) (im : List (Str × String)) (fa : List He.Fa) (fn : List He.DefD) (g : Addr → Option Obj) : Bool × He.AlD := seeX im fa fn (He.frG g (He.asD g n))
def SaysX (im : List (Str × String)) (fa : List He.Fa) (fn : List He.DefD) (K : PySem.W.Frag) : Prop := seeX im fa fn K = (true, He.valD fn)
def hkX (n : Nat) (im : List (Str × String)) (fa : List He.Fa) (fn : List He.DefD) : PySem.W.Hook where
  α := Bool × He.AlD
  obs := fun t => obX n im fa fn t.heap.get?
  val := fun _ => (true, He.valD fn)
  says := fun _ h => ∃ K : PySem.W.Frag, K.In h ∧ SaysX im fa fn K
  of := fun _ _ e => ⟨_, He.frG_in, e⟩
  keeps := fun _ _ _ ⟨K, hK, c⟩ k => ⟨K, PySem.W.Frag.In.keeps hK k, c⟩
theorem obX_eq {n : Nat} {im : List (Str × String)} {fa : List He.Fa} {fn : List He.DefD} {g : Addr → Option Obj} {s : Shared} (h : ∀ a, g a = s.heap.get? a) : obX n im fa fn g = (hkX n im fa fn).obs s := by
  rw [show g = s.heap.get? from funext h]; rfl
section
variable {im : List (Str × String)} {fa : List He.Fa} {fn : List He.DefD} {K : PySem.W.Frag}
theorem SaysX.d (c : SaysX im fa fn K) : He.SaysD fa fn K := congrArg (fun z : Bool × He.AlD => z.2) c
theorem SaysX.imp (c : SaysX im fa fn K) {h : Heap} {mg : Str → Option Value} (X : K.In h) (G : h.Ns mainGlobals mg) (i : Nat) {x : Str} {b : String} (e : im[i]? = some (x, b)) : mg x = some (.builtin b) := by
  have c1 : impB im K = true := congrArg (fun z : Bool × He.AlD => z.1) c
  exact PySem.W.mg_of X G (He.eqO_ok (List.all_eq_true.mp c1 _ (List.mem_of_getElem? e)))
end
/-- the function objects, from names -/
theorem fun_at {h : Heap} {mg : Str → Option Value} {K : PySem.W.Frag} (X : K.In h) (G : h.Ns mainGlobals mg) {im : List (Str × String)} {fa : List He.Fa} {fn : List He.DefD} (c : SaysX im fa fn K) (i : Nat) {x : Str} (e : fa[i]? = some (He.Fa.glo x)) : mg x = some (.ref (He.ga K x)) := He.glo_ok X G (c.d.fact i e)
theorem bn_at {h : Heap} {mg : Str → Option Value} {K : PySem.W.Frag} (X : K.In h) (G : h.Ns mainGlobals mg) {im : List (Str × String)} {fa : List He.Fa} {fn : List He.DefD} (c : SaysX im fa fn K) (e : ∀ (i : Nat) (x : Str), bnNames[i]? = some x → fa[i]? = some (He.Fa.free x)) : Bn mg :=
  bn_of fun i x q => He.free_ok X G (c.d.fact i (e i x q))
end PF
namespace PF
open PySem PySem.Spec PyProof.Rows L2
/-! xs.pop(i) -/
def gPop1 : GM := fun x ds M => match ds with
  | [.int i] => (mlOf x M).bind fun l => (ixN l.2.length i).bind fun k => (l.2[k]?).bind fun d => some (d, M.set l.1 (.lst (l.2.eraseIdx k)))
  | _ => none
section
variable {K : PySem.W.Frag} {W : Wo} {M : Mem}
theorem RpL.eraseIdx {xs : List D} {vs : List V} (h : RpL K W xs vs) (k : Nat) : RpL K W (xs.eraseIdx k) (vs.eraseIdx k) := by
  rw [List.eraseIdx_eq_take_drop_succ, List.eraseIdx_eq_take_drop_succ]
  exact (h.take k).append (h.drop (k + 1))
theorem o_pop1 : OpM K rPopAt gPop1 := by
  intro W M M' x d ds v vs Q sr rx r hg k
  unfold gPop1 at hg
  split at hg
  · rename_i i
    obtain ⟨⟨n, xs⟩, hl, hg⟩ := Option.bind_eq_some_iff.mp hg
    obtain ⟨j, hj, hg⟩ := Option.bind_eq_some_iff.mp hg
    obtain ⟨y, hy, hg⟩ := Option.bind_eq_some_iff.mp hg
    cases hg
    obtain ⟨u, rfl, r1⟩ := rl1 r
    cases (show _ = _ from r1)
    obtain ⟨a, ws, rfl, ha, hH, rw_, hlen⟩ := ml_ok sr rx hl
    obtain ⟨z, hz, rz⟩ := rw_.get hy
    obtain ⟨q1, q2, q3, q4⟩ := ixN_seq hj
    have hL : ws.length ≤ 16777216 := hlen
    have el : xs.length = ws.length := rw_.len
    have q3' : -(ws.length : Int) ≤ i := by rw [← el]; exact q3
    have q4' : i < (ws.length : Int) := by rw [← el]; exact q4
    have e := Ext.wr (W := W) (o := .lst (ws.eraseIdx j)) (List.mem_of_getElem? ha)
    refine ⟨a, ws, _, j, z, rfl, rfl, hH, by omega, by omega, by rw [← el]; exact q1, hz, ?_⟩
    exact k _ _ e (sr.wr ha (rw_.eraseIdx j) (Nat.le_trans (List.length_eraseIdx_le ws j) hlen)) (rz.ext e sr.sub)
  · cases hg
end
/-! a + b of lists, as a new list -/
def gCat : D → D → Mem → Option (List D) := fun x y M => match ltOf x M, ltOf y M with
  | some a, some b => if a.length + b.length ≤ LINE then some (a ++ b) else none
  | _, _ => none
def f2N (g : D → D → Mem → Option (List D)) (fa fb : FE) : FA := fun ρ M => (fa ρ M).bind fun a => (fb ρ a.2).bind fun b => (g a.1 b.1 b.2).bind fun d => some (d, b.2)
theorem pfn_cat {X : Cx} {a b : Expr} {fa fb : FE} {pos : Pos} (ha : PFE X a fa) (hb : PFE X b fb) : PFN X (.BinOp a .Add b pos) (f2N gCat fa fb) := pe_weak (pe_op op_cat ha hb) fun σ H Q => by
  rintro ⟨W, ρ, M, rfl, sr, sl, d, M', hf, k⟩
  obtain ⟨⟨x, M1⟩, hx, hf⟩ := Option.bind_eq_some_iff.mp hf
  obtain ⟨⟨y, M2⟩, hy, hf⟩ := Option.bind_eq_some_iff.mp hf
  obtain ⟨z, hz, hf⟩ := Option.bind_eq_some_iff.mp hf
  cases hf
  refine ⟨W, ρ, M, rfl, sr, sl, x, M1, hx, fun W1 v e1 s1 r1 => ⟨W1, ρ, M1, rfl, s1, sl.ext e1 sr.sub, y, _, hy, fun W2 u e2 s2 r2 => ?_⟩⟩
  unfold gCat at hz
  split at hz
  · rename_i p q hp hq
    split at hz
    · rename_i hl
      cases hz
      obtain ⟨p1, vs, rfl, h1, t1⟩ := lt_sq s2 (r1.ext e2 s1.sub) hp
      obtain ⟨q1, us, rfl, h2, t2⟩ := lt_sq s2 r2 hq
      exact ⟨p1, q1, vs, us, rfl, rfl, h1, h2, by rw [line_eq, ← t1.len, ← t2.len]; exact hl, fun t nt => k W2 t _ (e1.trans e2) s2 nt (t1.append t2) (by rw [List.length_append, ← t1.len, ← t2.len]; exact hl)⟩
    · cases hz
  · cases hz
end PF
namespace PF
open PySem PySem.Spec PyProof.Rows L2
/-! sums -/
def intsOf : List D → Option (List Int)
  | [] => some []
  | .int i :: r => (intsOf r).map (i :: ·)
  | _ => none
theorem intsOf_ok {K : PySem.W.Frag} {W : Wo} : ∀ {xs : List D} {ns : List Int} {vs : List V}, intsOf xs = some ns → RpL K W xs vs → vs = ns.map V.int
  | [], ns, vs, e, r => by
    cases (show some [] = some ns from e)
    cases (show _ = _ from r); rfl
  | .int i :: xs, ns, vs, e, r => by
    obtain ⟨ms, h1, rfl⟩ := Option.map_eq_some_iff.mp (show (intsOf xs).map (i :: ·) = some ns from e)
    obtain ⟨v, us, rfl, r1, r2⟩ := r
    cases (show _ = _ from r1)
    rw [intsOf_ok h1 r2]; rfl
  | .non :: _, _, _, e, _ => nomatch (show (none : Option (List Int)) = some _ from e)
  | .bl _ :: _, _, _, e, _ => nomatch (show (none : Option (List Int)) = some _ from e)
  | .str _ :: _, _, _, e, _ => nomatch (show (none : Option (List Int)) = some _ from e)
  | .tup _ :: _, _, _, e, _ => nomatch (show (none : Option (List Int)) = some _ from e)
  | .lst _ :: _, _, _, e, _ => nomatch (show (none : Option (List Int)) = some _ from e)
  | .kst _ :: _, _, _, e, _ => nomatch (show (none : Option (List Int)) = some _ from e)
  | .ref _ :: _, _, _, e, _ => nomatch (show (none : Option (List Int)) = some _ from e)
def gSum : GN := fun ds M => match ds with
  | [d] => (lsOf d M).bind fun xs => (intsOf xs).map fun ns => .int ns.sum
  | _ => none
theorem o_sum {K : PySem.W.Frag} : OpN K (rSum K) gSum := by
  intro W M ds d vs Q sr r hg k
  unfold gSum at hg
  split at hg
  · obtain ⟨xs, hx, hg⟩ := Option.bind_eq_some_iff.mp hg
    obtain ⟨ns, hn, hg⟩ := Option.map_eq_some_iff.mp hg
    subst hg
    obtain ⟨v, rfl, r1⟩ := rl1 r
    obtain ⟨p, us, rfl, h1, r2⟩ := ls_sq sr r1 hx
    refine ⟨p, ns, rfl, ?_, k W _ (.refl W) sr rfl⟩
    rw [← intsOf_ok hn r2]
    exact h1
  · cases hg
/-! x += y of ints -/
def gIAdd : G2M := fun x y M => match x, y with
  | .int i, .int j => some (.int (i + j), M)
  | _, _ => none
theorem o_iadd {K : PySem.W.Frag} : Op2M K (rI0 fun i j => .int (i + j)) gIAdd := by
  intro W M M' x y d v u Q sr rx ry hg k
  unfold gIAdd at hg
  split at hg
  · cases hg
    cases (show _ = _ from rx); cases (show _ = _ from ry)
    exact ⟨_, _, rfl, rfl, k W _ (.refl W) sr rfl⟩
  · cases hg
/-! the least and the greatest of a list of alike data -/
def rMinDt (K : PySem.W.Frag) : List V → Hp → VK → Prop := fun vs H Q => ∃ (a : Addr) (ys : List V) (d : PyData) (ds : List PyData), vs = [V.ref a] ∧ (SqL K H a ys ∨ SqT K H a ys) ∧ DpAll K H ys (d :: ds) ∧ PyData.canLayAll0 (d :: ds) = true ∧ PySem.W.AlikeAll (d :: ds) ∧ PyData.depthAll (d :: ds) ≤ 60 ∧
  ∀ (i : Nat) (v : V), ys[i]? = some v → (d :: ds)[i]? = some (PySem.W.minD d ds) → Q v H
theorem cr_minDt {X : Cx} (hc : X.calm = true) (hu : X.A.units + 64 < cLine) : CallR X (.builtin "min") (rMinDt X.K) := by
  intro pins s σ H vs us Q I r h
  obtain ⟨a, ys, d, ds, rfl, hs, hd, hl0, hal, hdp, q⟩ := h
  rcases hs with hs | hs
  · obtain ⟨its, rv, hl, _⟩ := I.list hs
    rw [Vals.ref1 r]
    obtain ⟨as, hr⟩ := Dp.readsAll I (d :: ds) ys its hd rv
    refine PySem.W.min_list_data (I.ok.hd hc) hl.isList hr hal (by omega) fun i v h' tk bs hv hrd hk => ?_
    have hv' : its[i]? = some v := by simpa using hv
    have hlen := rv.length
    have hi : i < ys.length := by
      have := (List.getElem?_eq_some_iff.mp hv').1
      omega
    obtain ⟨u, hu1, ry⟩ := rv.get (List.getElem?_eq_getElem hi)
    have euv : u = v := Option.some.inj (hu1.symm.trans hv')
    subst euv
    refine ⟨ys[i], H, I.kept hk, ry, q i _ (List.getElem?_eq_getElem hi) ?_⟩
    obtain ⟨bs2, r2, hlt, hmem, _⟩ := PySem.W.readsAll_at hr i u hv'
    have r3 := PySem.W.reads_keeps hk r2
    have can : ∀ (l : List PyData) (z : PyData), PyData.canLayAll0 l = true → z ∈ l → z.canLay0 = true := by
      intro l
      induction l with
      | nil => intro z _ hz; cases hz
      | cons x l ih =>
        intro z hc hz
        have hc' : (x.canLay0 && PyData.canLayAll0 l) = true := by simpa [PyData.canLayAll0] using hc
        rw [Bool.and_eq_true] at hc'
        rcases List.mem_cons.mp hz with rfl | hz
        · exact hc'.1
        · exact ih z hc'.2 hz
    have c1 := can _ _ hl0 hmem
    have e2 := SeqAt.readOf_eq c1 r3
    have hmm : PySem.W.minD d ds ∈ d :: ds := by
      have : ∀ (l : List PyData) (x : PyData), l.foldl (fun a y => if PySem.W.dataLt y a then y else a) x = x ∨ l.foldl (fun a y => if PySem.W.dataLt y a then y else a) x ∈ l := by
        intro l
        induction l with
        | nil => intro x; exact .inl rfl
        | cons y l ih =>
          intro x
          rw [List.foldl_cons]
          rcases ih (if PySem.W.dataLt y x then y else x) with h | h
          · split at h
            · exact .inr (by rw [if_pos (by assumption), h]; exact List.mem_cons_self)
            · rw [if_neg (by assumption)]; exact .inl h
          · exact .inr (List.mem_cons_of_mem _ h)
      unfold PySem.W.minD
      rcases this ds d with h | h
      · rw [h]; exact List.mem_cons_self
      · exact List.mem_cons_of_mem _ h
    have e3 := SeqAt.readOf_eq (can _ _ hl0 hmm) hrd
    rw [e2] at e3
    rw [← e3, List.getElem?_eq_getElem hlt]
    rw [List.getD_eq_getElem?_getD, List.getElem?_eq_getElem hlt]
    rfl
  · obtain ⟨its, rv, hl, _⟩ := I.tuple hs
    rw [Vals.ref1 r]
    obtain ⟨as, hr⟩ := Dp.readsAll I (d :: ds) ys its hd rv
    refine PySem.W.min_tuple_data (I.ok.hd hc) hl hr hal (by omega) fun i v h' tk bs hv hrd hk => ?_
    have hv' : its[i]? = some v := by simpa using hv
    have hlen := rv.length
    have hi : i < ys.length := by
      have := (List.getElem?_eq_some_iff.mp hv').1
      omega
    obtain ⟨u, hu1, ry⟩ := rv.get (List.getElem?_eq_getElem hi)
    have euv : u = v := Option.some.inj (hu1.symm.trans hv')
    subst euv
    refine ⟨ys[i], H, I.kept hk, ry, q i _ (List.getElem?_eq_getElem hi) ?_⟩
    obtain ⟨bs2, r2, hlt, hmem, _⟩ := PySem.W.readsAll_at hr i u hv'
    have r3 := PySem.W.reads_keeps hk r2
    have can : ∀ (l : List PyData) (z : PyData), PyData.canLayAll0 l = true → z ∈ l → z.canLay0 = true := by
      intro l
      induction l with
      | nil => intro z _ hz; cases hz
      | cons x l ih =>
        intro z hc hz
        have hc' : (x.canLay0 && PyData.canLayAll0 l) = true := by simpa [PyData.canLayAll0] using hc
        rw [Bool.and_eq_true] at hc'
        rcases List.mem_cons.mp hz with rfl | hz
        · exact hc'.1
        · exact ih z hc'.2 hz
    have c1 := can _ _ hl0 hmem
    have e2 := SeqAt.readOf_eq c1 r3
    have hmm : PySem.W.minD d ds ∈ d :: ds := by
      have : ∀ (l : List PyData) (x : PyData), l.foldl (fun a y => if PySem.W.dataLt y a then y else a) x = x ∨ l.foldl (fun a y => if PySem.W.dataLt y a then y else a) x ∈ l := by
        intro l
        induction l with
        | nil => intro x; exact .inl rfl
        | cons y l ih =>
          intro x
          rw [List.foldl_cons]
          rcases ih (if PySem.W.dataLt y x then y else x) with h | h
          · split at h
            · exact .inr (by rw [if_pos (by assumption), h]; exact List.mem_cons_self)
            · rw [if_neg (by assumption)]; exact .inl h
          · exact .inr (List.mem_cons_of_mem _ h)
      unfold PySem.W.minD
      rcases this ds d with h | h
      · rw [h]; exact List.mem_cons_self
      · exact List.mem_cons_of_mem _ h
    have e3 := SeqAt.readOf_eq (can _ _ hl0 hmm) hrd
    rw [e2] at e3
    rw [← e3, List.getElem?_eq_getElem hlt]
    rw [List.getD_eq_getElem?_getD, List.getElem?_eq_getElem hlt]
    rfl
mutual
theorem py_inj : ∀ (a b : D), a.nl = true → b.nl = true → a.py = b.py → a = b
  | .non, b, _, hb, e => by cases b <;> simp [D.py, D.nl] at e hb ⊢
  | .bl x, b, _, hb, e => by cases b <;> simp [D.py, D.nl] at e hb ⊢; exact e
  | .int x, b, _, hb, e => by cases b <;> simp [D.py, D.nl] at e hb ⊢; exact e
  | .str x, b, _, hb, e => by cases b <;> simp [D.py, D.nl] at e hb ⊢; exact e
  | .tup xs, b, ha, hb, e => by
    cases b with
    | tup ys =>
      rw [D.nl] at ha hb
      rw [D.py, D.py] at e
      rw [pys_inj xs ys ha hb (by injection e)]
    | _ => simp [D.py, D.nl] at e hb
  | .lst _, _, ha, _, _ => by simp [D.nl] at ha
  | .kst _, _, ha, _, _ => by simp [D.nl] at ha
  | .ref _, _, ha, _, _ => by simp [D.nl] at ha
theorem pys_inj : ∀ (a b : List D), D.nls a = true → D.nls b = true → D.pys a = D.pys b → a = b
  | [], [], _, _, _ => rfl
  | [], y :: ys, _, _, e => by simp [D.pys] at e
  | x :: xs, [], _, _, e => by simp [D.pys] at e
  | x :: xs, y :: ys, ha, hb, e => by
    rw [D.nls, Bool.and_eq_true] at ha hb
    rw [D.pys, D.pys] at e
    injection e with e1 e2
    rw [py_inj x y ha.1 hb.1 e1, pys_inj xs ys ha.2 hb.2 e2]
end
theorem pys_at : ∀ {xs : List D} {i : Nat} {z : PyData}, (D.pys xs)[i]? = some z → ∃ d, xs[i]? = some d ∧ d.py = z
  | [], i, z, h => by simp [D.pys] at h
  | x :: xs, 0, z, h => by rw [D.pys] at h; simp at h; exact ⟨x, rfl, h⟩
  | x :: xs, i + 1, z, h => by
    rw [D.pys] at h
    obtain ⟨d, h1, h2⟩ := pys_at (xs := xs) (i := i) (by simpa using h)
    exact ⟨d, by simpa using h1, h2⟩
theorem pys_mem : ∀ {xs : List D} {z : PyData}, z ∈ D.pys xs → ∃ d, d ∈ xs ∧ d.py = z
  | [], z, h => by simp [D.pys] at h
  | x :: xs, z, h => by
    rw [D.pys] at h
    rcases List.mem_cons.mp h with rfl | h
    · exact ⟨x, by simp, rfl⟩
    · obtain ⟨d, h1, h2⟩ := pys_mem h
      exact ⟨d, List.mem_cons_of_mem _ h1, h2⟩
theorem nls_at : ∀ {xs : List D} {d : D}, D.nls xs = true → d ∈ xs → d.nl = true
  | x :: xs, d, h, hd => by
    rw [D.nls, Bool.and_eq_true] at h
    rcases List.mem_cons.mp hd with rfl | hd
    · exact h.1
    · exact nls_at h.2 hd
/-- min of x :: xs -/
def minDd (x : D) (xs : List D) : D := xs.foldl (fun a y => if PySem.W.dataLt y.py a.py = true then y else a) x
def okAl (l : List D) : Bool := (D.nls l && D.dps 59 l) && ((l.all fun a => l.all fun b => PySem.W.alike a.py b.py) && l.all fun a => !isNn a)
theorem minDd_py : ∀ (xs : List D) (x : D), (minDd x xs).py = PySem.W.minD x.py (D.pys xs)
  | [], x => by rw [D.pys]; rfl
  | y :: xs, x => by
    rw [D.pys]
    show (minDd (if PySem.W.dataLt y.py x.py = true then y else x) xs).py = PySem.W.minD (if PySem.W.dataLt y.py x.py then y.py else x.py) (D.pys xs)
    rw [minDd_py xs]
    split <;> rfl
theorem minDd_mem : ∀ (xs : List D) (x : D), minDd x xs ∈ x :: xs
  | [], x => by simp [minDd]
  | y :: xs, x => by
    show minDd (if PySem.W.dataLt y.py x.py = true then y else x) xs ∈ _
    have := minDd_mem xs (if PySem.W.dataLt y.py x.py = true then y else x)
    rcases List.mem_cons.mp this with h | h
    · rw [h]; split <;> simp
    · exact List.mem_cons_of_mem _ (List.mem_cons_of_mem _ h)
def gMin1 : GN := fun ds M => match ds with
  | [d] => (sqOf d M).bind fun l => match l with
    | x :: xs => if okAl (x :: xs) = true then some (minDd x xs) else none
    | [] => none
  | _ => none
theorem o_min1 {K : PySem.W.Frag} : OpN K (rMinDt K) gMin1 := by
  intro W M ds d vs Q sr r hg k
  unfold gMin1 at hg
  split at hg
  · obtain ⟨l, hx, hg⟩ := Option.bind_eq_some_iff.mp hg
    split at hg
    · rename_i x xs
      split at hg
      · rename_i ok
        cases hg
        unfold okAl at ok
        rw [Bool.and_eq_true, Bool.and_eq_true, Bool.and_eq_true] at ok
        obtain ⟨⟨o1, o2⟩, o3, o4⟩ := ok
        obtain ⟨v, rfl, r1⟩ := rl1 r
        obtain ⟨p, us, rfl, h1, r2⟩ := sq_sq sr r1 hx
        have hdp := dp_Dps 59 (x :: xs) us o2 r2
        obtain ⟨q1, q2⟩ := dps_can 59 (x :: xs) o2
        rw [D.pys] at hdp q1 q2
        refine ⟨p, us, x.py, D.pys xs, rfl, h1, hdp, q1, ⟨fun a ha b hb => ?_, fun a ha => ?_⟩, by omega, fun i v hv hi => ?_⟩
        · obtain ⟨a0, ha0, rfl⟩ := pys_mem (xs := x :: xs) (by rw [D.pys]; exact ha)
          obtain ⟨b0, hb0, rfl⟩ := pys_mem (xs := x :: xs) (by rw [D.pys]; exact hb)
          exact List.all_eq_true.mp (List.all_eq_true.mp o3 a0 ha0) b0 hb0
        · obtain ⟨a0, ha0, rfl⟩ := pys_mem (xs := x :: xs) (by rw [D.pys]; exact ha)
          have h4 := List.all_eq_true.mp o4 a0 ha0
          have h5 := nls_at o1 ha0
          cases a0 <;> simp [isNn, D.py, D.nl] at h4 h5 ⊢
        · obtain ⟨z, hz, hzp⟩ := pys_at (xs := x :: xs) (i := i) (by rw [D.pys]; exact hi)
          have hm := minDd_mem xs x
          have e : z = minDd x xs := py_inj _ _ (nls_at o1 (List.mem_of_getElem? hz)) (nls_at o1 hm) (by rw [hzp, minDd_py])
          obtain ⟨v', hv', rz⟩ := r2.get hz
          have : v' = v := Option.some.inj (hv'.symm.trans hv)
          subst this
          rw [← e] at k
          exact k W v' (.refl W) sr rz
      · cases hg
    · cases hg
  · cases hg
/-! xs.index(y) -/
def findI {α : Type} (p : α → Bool) : List α → Option Nat
  | [] => none
  | x :: xs => if p x = true then some 0 else (findI p xs).map (· + 1)
def gIndex : GM := fun x ds M => match ds with
  | [.int y] => match x with
    | .lst xs => (intsOf xs).bind fun ns => (findI (fun z => decide (z = y)) ns).map fun (j : Nat) => (.int (j : Int), M)
    | _ => none
  | _ => none
theorem findI_ok {α : Type} {p : α → Bool} : ∀ {xs : List α} {j : Nat}, findI p xs = some j → ∃ z, xs[j]? = some z ∧ p z = true ∧ ∀ m z', m < j → xs[m]? = some z' → p z' = false
  | [], j, h => by cases h
  | x :: xs, j, h => by
    rw [findI] at h
    split at h
    · rename_i hp
      cases h
      exact ⟨x, rfl, hp, fun m z' hm => absurd hm (Nat.not_lt_zero _)⟩
    · rename_i hp
      obtain ⟨i, hi, rfl⟩ := Option.map_eq_some_iff.mp h
      obtain ⟨z, h1, h2, h3⟩ := findI_ok hi
      refine ⟨z, by simpa using h1, h2, fun m z' hm hz => ?_⟩
      cases m with
      | zero => simp at hz; subst hz; simpa using hp
      | succ m => exact h3 m z' (by omega) (by simpa using hz)
theorem pys_get : ∀ {xs : List D} {i : Nat} {d : D}, xs[i]? = some d → (D.pys xs)[i]? = some d.py
  | [], i, d, h => by simp at h
  | x :: xs, 0, d, h => by simp at h; subst h; rw [D.pys]; rfl
  | x :: xs, i + 1, d, h => by rw [D.pys]; simpa using pys_get (xs := xs) (i := i) (by simpa using h)
theorem o_index {K : PySem.W.Frag} : OpM K (rIndex K) gIndex := by
  intro W M M' x d ds v vs Q sr rx r hg k
  unfold gIndex at hg
  split at hg
  · rename_i y
    split at hg
    · rename_i xs
      obtain ⟨ns, hn, hg⟩ := Option.bind_eq_some_iff.mp hg
      obtain ⟨j, hj, hg⟩ := Option.map_eq_some_iff.mp hg
      cases hg
      obtain ⟨u, rfl, r1⟩ := rl1 r
      cases (show _ = _ from r1)
      obtain ⟨z, h1, h2, h3⟩ := findI_ok hj
      obtain ⟨a, us, rfl, h4, r2⟩ := ls_sq sr rx (xs := xs) rfl
      have eus := intsOf_ok hn r2
      subst eus
      refine ⟨a, _, .int y, j, .int z, rfl, rfl, h4, rfl, ?_, ?_, ?_, fun m z' hm hz => ?_, k W _ (.refl W) sr rfl⟩
      · rw [List.all_map]
        exact List.all_eq_true.mpr fun _ _ => rfl
      · rw [List.getElem?_map, h1]; rfl
      · have : z = y := of_decide_eq_true h2
        subst this
        simp [eqV]
      · rw [List.getElem?_map] at hz
        obtain ⟨i, hi, rfl⟩ := Option.map_eq_some_iff.mp hz
        have := h3 m i hm hi
        have hne : i ≠ y := of_decide_eq_false this
        simp [eqV, hne]
    · cases hg
  · cases hg
end PF
namespace PF
open PySem PySem.Spec PyProof.Rows L2 HT
/-! t += u of tuples -/
theorem noI_tup : typeLookup (.type "tuple") (dunderI "add") = pure none := by
  rw [typeLookup_type]
  rw [builtinLookup_eq_fast]
  kernel_rfl
section
variable {prog : Program} {w : World} {A : Around} {E : Value → Shared → Prop} {s : Shared}
theorem icat {t b : Addr} {vs ws : List Value} {Q : Value → Shared → Prop} (ht : IsTup s.heap t vs.toArray) (hb : IsTup s.heap b ws.toArray) (h0 : vs = [] → Q (.ref b) s)
    (h1 : vs ≠ [] → ws = [] → Q (.ref t) s) (h2 : vs ≠ [] → ws ≠ [] → Q (.ref s.heap.objs.size) { s with heap := s.heap.push { cls := .type "tuple", data := .seq (vs ++ ws).toArray } })
    (hz : vs.length + ws.length ≤ sizeLine) : wpAny (model prog w) A (inplaceOp .Add (.ref t) (.ref b)) Q E s := by
  obtain ⟨⟨c1, d1, x1, s1⟩, o1, hc1, n1, hd1⟩ := id ht
  obtain ⟨⟨c2, d2, x2, s2⟩, o2, hc2, n2, hd2⟩ := id hb
  simp only at hc1 hd1 hc2 hd2
  subst hc1 hd1 hc2 hd2
  refine wpAny_inplaceOp_concat ⟨_, o1, rfl⟩ ⟨_, o2, rfl⟩ noI_tup
    noFill_tuple_add seq_tuple_add ?_
  by_cases hv : vs = []
  · subst hv
    exact call_meets PySem.F.slot_tuple_add ⟨_, o1, rfl⟩ PySem.F.entry_tuple_add
      (PySem.F.args_tuple_add_2 _ _) (tuple_addW0 t b _ ws.toArray n1 n2 d1 d2 s1 s2 (by simp)) ⟨o1, o2, h0 rfl⟩
  · by_cases hw : ws = []
    · exact call_meets PySem.F.slot_tuple_add ⟨_, o1, rfl⟩ PySem.F.entry_tuple_add
        (PySem.F.args_tuple_add_2 _ _) (tuple_addW1 t b vs.toArray ws.toArray n1 n2 d1 d2 s1 s2 (by simpa using hv) (by simp [hw])) ⟨o1, o2, h1 hv hw⟩
    · refine call_meets PySem.F.slot_tuple_add ⟨_, o1, rfl⟩ PySem.F.entry_tuple_add
        (PySem.F.args_tuple_add_2 _ _) (tuple_addW2 t b vs.toArray ws.toArray n1 n2 d1 d2 s1 s2 (by simpa using hv) (by simpa using hw) (by simpa using hz)) ⟨o1, o2, ?_⟩
      have e : vs.toArray ++ ws.toArray = (vs ++ ws).toArray := by simp
      rw [e]
      exact h2 hv hw
end
theorem iop_catA {X : Cx} : OpR X (inplaceOp .Add) (rCatA X.K) := by
  intro pins s σ H x y v u Q I rx ry h
  obtain ⟨a, b, xs, ys, rfl, rfl, ha, hb, hz, q0, q1, q2⟩ := h
  cases rx
  cases ry
  obtain ⟨its, r1, p1, _⟩ := I.tuple ha
  obtain ⟨its2, r2, p2, _⟩ := I.tuple hb
  refine icat p1 p2 (fun z => ⟨.ref b, H, I, rfl, q0 (r1.nil_iff.mp z)⟩) (fun z z2 => ⟨.ref a, H, I, rfl, q1 (fun e => z (r1.nil_iff.mpr e)) (r2.nil_iff.mp z2)⟩) (fun z z2 => ?_) (by rw [← r1.length, ← r2.length]; exact hz)
  refine ⟨.ref s.heap.objs.size, _, I.laid (t' := s.toks) (o := .tup (xs ++ ys)) (fun b ob q => Heap.get?_push_of_some _ q) (Nat.le_refl _) ?_, rfl,
    q2 (fun e => z (r1.nil_iff.mpr e)) (fun e => z2 (r2.nil_iff.mpr e)) _ (I.hok.fresh (Nat.le_refl _))⟩
  exact ⟨by rw [List.length_append]; exact hz, _, r1.append r2,
    IsTup.new _ _⟩
end PF
namespace PF
open PySem PySem.Spec PyProof.Rows L2 HT
/-! x += y: ints, tuples -/
def gIAddA : G2M := fun x y M => match x, y with
  | .int i, .int j => some (.int (i + j), M)
  | .tup a, .tup b => if a.length + b.length ≤ LINE then some (.tup (a ++ b), M) else none
  | _, _ => none
def rIAddA (K : PySem.W.Frag) : R2 := fun x y H Q => rI0 (fun i j => .int (i + j)) x y H Q ∨ rCatA K x y H Q
theorem iop_addA {X : Cx} : OpR X (inplaceOp .Add) (rIAddA X.K) := iop_add.or iop_catA
theorem o_iaddA {K : PySem.W.Frag} : Op2M K (rIAddA K) gIAddA := by
  intro W M M' x y d v u Q sr rx ry hg k
  unfold gIAddA at hg
  split at hg
  · cases hg
    cases (show _ = _ from rx); cases (show _ = _ from ry)
    exact .inl ⟨_, _, rfl, rfl, k W _ (.refl W) sr rfl⟩
  · split at hg
    · rename_i a b hl
      cases hg
      obtain ⟨p, vs, rfl, h1, r1⟩ := tp_sq rx
      obtain ⟨q, us, rfl, h2, r2⟩ := tp_sq ry
      refine .inr ⟨p, q, vs, us, rfl, rfl, h1, h2, by rw [line_eq, ← r1.len, ← r2.len]; exact hl, fun e => ?_, fun _ e => ?_, fun _ _ t nt => ?_⟩
      · subst e
        have : a = [] := List.eq_nil_of_length_eq_zero r1.len
        subst this
        exact k W _ (.refl W) sr ry
      · subst e
        have : b = [] := List.eq_nil_of_length_eq_zero r2.len
        subst this
        exact k W _ (.refl W) sr (by rw [List.append_nil]; exact rx)
      · exact k _ _ (Ext.put nt) (sr.put nt) (.newTup sr nt (r1.append r2) (by rw [List.length_append, ← r1.len, ← r2.len]; exact hl))
    · cases hg
  · cases hg
/-! x in a list, a tuple of ints -/
def gIn : G2B := fun x y M => match x with
  | .int i => (sqOf y M).bind fun xs => (intsOf xs).map fun ns => ns.any fun n => decide (n = i)
  | _ => none
def gNotIn : G2B := fun x y M => (gIn x y M).map (! ·)
section
variable {K : PySem.W.Frag} {W : Wo} {M : Mem}
theorem in_ok {x y : D} {v u : V} {t : Bool} (sr : SR K W M) (rx : Rp K W x v) (ry : Rp K W y u) (h : gIn x y M = some t) :
    ∃ p xs, u = .ref p ∧ (SqL K W.H p xs ∨ SqT K W.H p xs) ∧ flatV v = true ∧ xs.all flatV = true ∧ inV v xs = t := by
  unfold gIn at h
  split at h
  · rename_i i
    cases (show _ = _ from rx)
    obtain ⟨xs, hx, h⟩ := Option.bind_eq_some_iff.mp h
    obtain ⟨ns, hn, h⟩ := Option.map_eq_some_iff.mp h
    subst h
    obtain ⟨p, us, rfl, h1, r2⟩ := sq_sq sr ry hx
    have e := intsOf_ok hn r2
    subst e
    refine ⟨p, _, rfl, h1, rfl, ?_, ?_⟩
    · rw [List.all_map]
      exact List.all_eq_true.mpr fun _ _ => rfl
    · unfold inV
      rw [List.any_map]
      congr 1
  · cases h
theorem o_in : Op2 K (rIn K false) (gB gIn) := by
  intro W M x y d v u Q sr rx ry hg k
  obtain ⟨t, ht, rfl⟩ := Option.map_eq_some_iff.mp hg
  obtain ⟨p, xs, rfl, h1, h2, h3, h4⟩ := in_ok sr rx ry ht
  exact ⟨p, xs, rfl, h1, h2, h3, by
    rw [if_neg Bool.false_ne_true, h4]
    exact k W _ (.refl W) sr rfl⟩
theorem o_notIn : Op2 K (rIn K true) (gB gNotIn) := by
  intro W M x y d v u Q sr rx ry hg k
  obtain ⟨t, ht, rfl⟩ := Option.map_eq_some_iff.mp hg
  obtain ⟨t', ht', rfl⟩ := Option.map_eq_some_iff.mp ht
  obtain ⟨p, xs, rfl, h1, h2, h3, h4⟩ := in_ok sr rx ry ht'
  exact ⟨p, xs, rfl, h1, h2, h3, by
    rw [if_pos rfl, h4]
    exact k W _ (.refl W) sr rfl⟩
end
/-! t * 1 of a tuple is the tuple itself -/
theorem mul_one (l : Addr) (items : Array Value) (n : Nat) (dd : Option Addr) (sl : Array (Option Value)) (u : Tok) :
    Meets (Builtin.«tuple.__mul__» ⟨[.ref l, .int 1 u], []⟩) (fun _ R s => s.heap.get? l = some { cls := .type "tuple", dict := dd, data := .seq items n, slots := sl } ∧ R (.ok (.ret (Value.ref l))) s) :=
  .of_wp fun prog w A R s h => by
    obtain ⟨hp, g, d, tk, os⟩ := s
    obtain ⟨hl, h⟩ := h
    have f1 := AutoSeq1.idx_int
    have c1 : (items.isEmpty || (1 : Int) == 1) = true := by simp
    wp_walk using wpAny_loadPart' hl
    repeat (first
      | (refine wpAny_ite_false (decide_eq_false (by decide)) ?_; wp_walk using wpAny_loadPart' hl)
      | (refine wpAny_ite_true (decide_eq_true (by rw [c1])) ?_; wp_walk using wpAny_loadPart' hl))
    exact ⟨_, rfl, h⟩
def rRep1 (K : PySem.W.Frag) : R2 := fun x y H Q => ∃ l xs, x = .ref l ∧ y = .int 1 ∧ SqT K H l xs ∧ Q (.ref l) H
theorem op_rep1 {X : Cx} : OpR X (binaryOp .Mult) (rRep1 X.K) := by
  intro pins s σ H x y v u Q I rx ry h
  obtain ⟨l, xs, rfl, rfl, hT, q⟩ := h
  cases rx
  obtain ⟨t, rfl⟩ := ry
  obtain ⟨its, r, ⟨⟨c1, d1, x1, s1⟩, ho, hc, n, hd⟩, hs⟩ := I.tuple hT
  simp only at hc hd
  subst hc hd
  exact wpAny_binaryOp_repeat_ref (T := "tuple") (U := "int") (by decide) ⟨_, ho, rfl⟩ (fun s' => typeIs_int s' 1 t)
    noFill_tuple_mul F.fills_int_mul F.slot_int_rmul repeat_tuple F.slot_int_index.lookup
    (call_meets F.slot_int_rmul (typeIs_int s 1 t) F.entry_int_rmul
      (F.args_int_rmul_2 _ _) (int_rmul_tuple 1 t l its.toArray n d1 s1)
      ⟨ho, rfl, ⟨_, ho, rfl⟩, call_meets F.slot_tuple_mul ⟨_, ho, rfl⟩
        F.entry_tuple_mul (F.args_tuple_mul_2 _ _) (mul_one l its.toArray n d1 s1 t) ⟨ho, ⟨.ref l, H, I, rfl, q⟩⟩⟩)
def rRepA (K : PySem.W.Frag) : R2 := fun x y H Q => rRep1 K x y H Q ∨ rRepT K x y H Q
theorem op_repTA {X : Cx} : OpR X (binaryOp .Mult) (rRepA X.K) := op_rep1.or op_repT
def gRepT : G2 := fun x y M => match x, y with
  | .tup xs, .int j => if j = 1 then some (.tup xs) else if (!xs.isEmpty && decide (2 ≤ j)) && (decide (j ≤ 1000) && decide (xs.length ≤ 1000)) then some (.tup (List.replicate j.toNat xs).flatten) else none
  | _, _ => none
theorem o_repT {K : PySem.W.Frag} : Op2 K (rRepA K) gRepT := by
  intro W M x y d v u Q sr rx ry hg k
  unfold gRepT at hg
  split at hg
  · rename_i xs j
    cases (show _ = _ from ry)
    obtain ⟨p, vs, rfl, h1, r1⟩ := tp_sq rx
    split at hg
    · rename_i hj
      cases hg
      subst hj
      exact .inl ⟨p, vs, rfl, rfl, h1, k W _ (.refl W) sr rx⟩
    · split at hg
      · rename_i h
        cases hg
        simp only [Bool.and_eq_true, decide_eq_true_eq] at h
        obtain ⟨⟨h2, h3⟩, h4, h5⟩ := h
        have hl := r1.len
        have hne : vs ≠ [] := by
          rintro rfl
          have : xs = [] := List.eq_nil_of_length_eq_zero hl
          subst this
          cases h2
        refine .inr ⟨p, j, vs, rfl, rfl, h1, hne, h3, h4, by omega, fun t nt => ?_⟩
        refine k _ _ (Ext.put nt) (sr.put nt) (.newTup sr nt (r1.rep _) ?_)
        rw [PyProof.Rows.lm_len_rep_flat]
        have a1 : j.toNat * vs.length ≤ 1000 * 1000 := Nat.mul_le_mul (by omega) (by omega)
        show _ ≤ 16777216
        omega
      · cases hg
  · cases hg
end PF
namespace PF
open PySem PySem.Spec PyProof.Rows L2
/-! the greatest of a list of alike data -/
def rMaxDt (K : PySem.W.Frag) : List V → Hp → VK → Prop := fun vs H Q => ∃ (a : Addr) (ys : List V) (d : PyData) (ds : List PyData), vs = [V.ref a] ∧ (SqL K H a ys ∨ SqT K H a ys) ∧ DpAll K H ys (d :: ds) ∧ PyData.canLayAll0 (d :: ds) = true ∧ PySem.W.AlikeAll (d :: ds) ∧ PyData.depthAll (d :: ds) ≤ 60 ∧
  ∀ (i : Nat) (v : V), ys[i]? = some v → (d :: ds)[i]? = some (PySem.W.maxD d ds) → Q v H
theorem cr_maxDt {X : Cx} (hc : X.calm = true) (hu : X.A.units + 64 < cLine) : CallR X (.builtin "max") (rMaxDt X.K) := by
  intro pins s σ H vs us Q I r h
  obtain ⟨a, ys, d, ds, rfl, hs, hd, hl0, hal, hdp, q⟩ := h
  rcases hs with hs | hs
  · obtain ⟨its, rv, hl, _⟩ := I.list hs
    rw [Vals.ref1 r]
    obtain ⟨as, hr⟩ := Dp.readsAll I (d :: ds) ys its hd rv
    refine PySem.W.max_list_data (I.ok.hd hc) hl.isList hr hal (by omega) fun i v h' tk bs hv hrd hk => ?_
    have hv' : its[i]? = some v := by simpa using hv
    have hlen := rv.length
    have hi : i < ys.length := by
      have := (List.getElem?_eq_some_iff.mp hv').1
      omega
    obtain ⟨u, hu1, ry⟩ := rv.get (List.getElem?_eq_getElem hi)
    have euv : u = v := Option.some.inj (hu1.symm.trans hv')
    subst euv
    refine ⟨ys[i], H, I.kept hk, ry, q i _ (List.getElem?_eq_getElem hi) ?_⟩
    obtain ⟨bs2, r2, hlt, hmem, _⟩ := PySem.W.readsAll_at hr i u hv'
    have r3 := PySem.W.reads_keeps hk r2
    have can : ∀ (l : List PyData) (z : PyData), PyData.canLayAll0 l = true → z ∈ l → z.canLay0 = true := by
      intro l
      induction l with
      | nil => intro z _ hz; cases hz
      | cons x l ih =>
        intro z hc hz
        have hc' : (x.canLay0 && PyData.canLayAll0 l) = true := by simpa [PyData.canLayAll0] using hc
        rw [Bool.and_eq_true] at hc'
        rcases List.mem_cons.mp hz with rfl | hz
        · exact hc'.1
        · exact ih z hc'.2 hz
    have c1 := can _ _ hl0 hmem
    have e2 := SeqAt.readOf_eq c1 r3
    have hmm : PySem.W.maxD d ds ∈ d :: ds := by
      have : ∀ (l : List PyData) (x : PyData), l.foldl (fun a y => if PySem.W.dataLt a y then y else a) x = x ∨ l.foldl (fun a y => if PySem.W.dataLt a y then y else a) x ∈ l := by
        intro l
        induction l with
        | nil => intro x; exact .inl rfl
        | cons y l ih =>
          intro x
          rw [List.foldl_cons]
          rcases ih (if PySem.W.dataLt x y then y else x) with h | h
          · split at h
            · exact .inr (by rw [if_pos (by assumption), h]; exact List.mem_cons_self)
            · rw [if_neg (by assumption)]; exact .inl h
          · exact .inr (List.mem_cons_of_mem _ h)
      unfold PySem.W.maxD
      rcases this ds d with h | h
      · rw [h]; exact List.mem_cons_self
      · exact List.mem_cons_of_mem _ h
    have e3 := SeqAt.readOf_eq (can _ _ hl0 hmm) hrd
    rw [e2] at e3
    rw [← e3, List.getElem?_eq_getElem hlt]
    rw [List.getD_eq_getElem?_getD, List.getElem?_eq_getElem hlt]
    rfl
  · obtain ⟨its, rv, hl, _⟩ := I.tuple hs
    rw [Vals.ref1 r]
    obtain ⟨as, hr⟩ := Dp.readsAll I (d :: ds) ys its hd rv
    refine PySem.W.max_tuple_data (I.ok.hd hc) hl hr hal (by omega) fun i v h' tk bs hv hrd hk => ?_
    have hv' : its[i]? = some v := by simpa using hv
    have hlen := rv.length
    have hi : i < ys.length := by
      have := (List.getElem?_eq_some_iff.mp hv').1
      omega
    obtain ⟨u, hu1, ry⟩ := rv.get (List.getElem?_eq_getElem hi)
    have euv : u = v := Option.some.inj (hu1.symm.trans hv')
    subst euv
    refine ⟨ys[i], H, I.kept hk, ry, q i _ (List.getElem?_eq_getElem hi) ?_⟩
    obtain ⟨bs2, r2, hlt, hmem, _⟩ := PySem.W.readsAll_at hr i u hv'
    have r3 := PySem.W.reads_keeps hk r2
    have can : ∀ (l : List PyData) (z : PyData), PyData.canLayAll0 l = true → z ∈ l → z.canLay0 = true := by
      intro l
      induction l with
      | nil => intro z _ hz; cases hz
      | cons x l ih =>
        intro z hc hz
        have hc' : (x.canLay0 && PyData.canLayAll0 l) = true := by simpa [PyData.canLayAll0] using hc
        rw [Bool.and_eq_true] at hc'
        rcases List.mem_cons.mp hz with rfl | hz
        · exact hc'.1
        · exact ih z hc'.2 hz
    have c1 := can _ _ hl0 hmem
    have e2 := SeqAt.readOf_eq c1 r3
    have hmm : PySem.W.maxD d ds ∈ d :: ds := by
      have : ∀ (l : List PyData) (x : PyData), l.foldl (fun a y => if PySem.W.dataLt a y then y else a) x = x ∨ l.foldl (fun a y => if PySem.W.dataLt a y then y else a) x ∈ l := by
        intro l
        induction l with
        | nil => intro x; exact .inl rfl
        | cons y l ih =>
          intro x
          rw [List.foldl_cons]
          rcases ih (if PySem.W.dataLt x y then y else x) with h | h
          · split at h
            · exact .inr (by rw [if_pos (by assumption), h]; exact List.mem_cons_self)
            · rw [if_neg (by assumption)]; exact .inl h
          · exact .inr (List.mem_cons_of_mem _ h)
      unfold PySem.W.maxD
      rcases this ds d with h | h
      · rw [h]; exact List.mem_cons_self
      · exact List.mem_cons_of_mem _ h
    have e3 := SeqAt.readOf_eq (can _ _ hl0 hmm) hrd
    rw [e2] at e3
    rw [← e3, List.getElem?_eq_getElem hlt]
    rw [List.getD_eq_getElem?_getD, List.getElem?_eq_getElem hlt]
    rfl
/-- max of x :: xs -/
def maxDd (x : D) (xs : List D) : D := xs.foldl (fun a y => if PySem.W.dataLt a.py y.py = true then y else a) x
theorem maxDd_py : ∀ (xs : List D) (x : D), (maxDd x xs).py = PySem.W.maxD x.py (D.pys xs)
  | [], x => by rw [D.pys]; rfl
  | y :: xs, x => by
    rw [D.pys]
    show (maxDd (if PySem.W.dataLt x.py y.py = true then y else x) xs).py = PySem.W.maxD (if PySem.W.dataLt x.py y.py then y.py else x.py) (D.pys xs)
    rw [maxDd_py xs]
    split <;> rfl
theorem maxDd_mem : ∀ (xs : List D) (x : D), maxDd x xs ∈ x :: xs
  | [], x => by simp [maxDd]
  | y :: xs, x => by
    show maxDd (if PySem.W.dataLt x.py y.py = true then y else x) xs ∈ _
    have := maxDd_mem xs (if PySem.W.dataLt x.py y.py = true then y else x)
    rcases List.mem_cons.mp this with h | h
    · rw [h]; split <;> simp
    · exact List.mem_cons_of_mem _ (List.mem_cons_of_mem _ h)
def gMax1 : GN := fun ds M => match ds with
  | [d] => (sqOf d M).bind fun l => match l with
    | x :: xs => if okAl (x :: xs) = true then some (maxDd x xs) else none
    | [] => none
  | _ => none
theorem o_max1 {K : PySem.W.Frag} : OpN K (rMaxDt K) gMax1 := by
  intro W M ds d vs Q sr r hg k
  unfold gMax1 at hg
  split at hg
  · obtain ⟨l, hx, hg⟩ := Option.bind_eq_some_iff.mp hg
    split at hg
    · rename_i x xs
      split at hg
      · rename_i ok
        cases hg
        unfold okAl at ok
        rw [Bool.and_eq_true, Bool.and_eq_true, Bool.and_eq_true] at ok
        obtain ⟨⟨o1, o2⟩, o3, o4⟩ := ok
        obtain ⟨v, rfl, r1⟩ := rl1 r
        obtain ⟨p, us, rfl, h1, r2⟩ := sq_sq sr r1 hx
        have hdp := dp_Dps 59 (x :: xs) us o2 r2
        obtain ⟨q1, q2⟩ := dps_can 59 (x :: xs) o2
        rw [D.pys] at hdp q1 q2
        refine ⟨p, us, x.py, D.pys xs, rfl, h1, hdp, q1, ⟨fun a ha b hb => ?_, fun a ha => ?_⟩, by omega, fun i v hv hi => ?_⟩
        · obtain ⟨a0, ha0, rfl⟩ := pys_mem (xs := x :: xs) (by rw [D.pys]; exact ha)
          obtain ⟨b0, hb0, rfl⟩ := pys_mem (xs := x :: xs) (by rw [D.pys]; exact hb)
          exact List.all_eq_true.mp (List.all_eq_true.mp o3 a0 ha0) b0 hb0
        · obtain ⟨a0, ha0, rfl⟩ := pys_mem (xs := x :: xs) (by rw [D.pys]; exact ha)
          have h4 := List.all_eq_true.mp o4 a0 ha0
          have h5 := nls_at o1 ha0
          cases a0 <;> simp [isNn, D.py, D.nl] at h4 h5 ⊢
        · obtain ⟨z, hz, hzp⟩ := pys_at (xs := x :: xs) (i := i) (by rw [D.pys]; exact hi)
          have hm := maxDd_mem xs x
          have e : z = maxDd x xs := py_inj _ _ (nls_at o1 (List.mem_of_getElem? hz)) (nls_at o1 hm) (by rw [hzp, maxDd_py])
          obtain ⟨v', hv', rz⟩ := r2.get hz
          have : v' = v := Option.some.inj (hv'.symm.trans hv)
          subst this
          rw [← e] at k
          exact k W v' (.refl W) sr rz
      · cases hg
    · cases hg
  · cases hg
/-! any, all of bools -/
def blsOf : List D → Option (List Bool)
  | [] => some []
  | .bl b :: r => (blsOf r).map (b :: ·)
  | _ => none
theorem blsOf_ok {K : PySem.W.Frag} {W : Wo} : ∀ {xs : List D} {bs : List Bool} {vs : List V}, blsOf xs = some bs → RpL K W xs vs → vs = bs.map V.bl
  | [], bs, vs, e, r => by
    cases (show some [] = some bs from e)
    cases (show _ = _ from r); rfl
  | .bl b :: xs, bs, vs, e, r => by
    obtain ⟨ms, h1, rfl⟩ := Option.map_eq_some_iff.mp (show (blsOf xs).map (b :: ·) = some bs from e)
    obtain ⟨v, us, rfl, r1, r2⟩ := r
    cases (show _ = _ from r1)
    rw [blsOf_ok h1 r2]; rfl
  | .non :: _, _, _, e, _ => nomatch (show (none : Option (List Bool)) = some _ from e)
  | .int _ :: _, _, _, e, _ => nomatch (show (none : Option (List Bool)) = some _ from e)
  | .str _ :: _, _, _, e, _ => nomatch (show (none : Option (List Bool)) = some _ from e)
  | .tup _ :: _, _, _, e, _ => nomatch (show (none : Option (List Bool)) = some _ from e)
  | .lst _ :: _, _, _, e, _ => nomatch (show (none : Option (List Bool)) = some _ from e)
  | .kst _ :: _, _, _, e, _ => nomatch (show (none : Option (List Bool)) = some _ from e)
  | .ref _ :: _, _, _, e, _ => nomatch (show (none : Option (List Bool)) = some _ from e)
def gBls (f : List Bool → Bool) : GN := fun ds M => match ds with
  | [d] => (lsOf d M).bind fun xs => (blsOf xs).map fun bs => .bl (f bs)
  | _ => none
theorem o_bls {K : PySem.W.Frag} {f : List Bool → Bool} : OpN K (fun vs H Q => ∃ (a : Addr) (bs : List Bool), vs = [V.ref a] ∧ SqL K H a (bs.map V.bl) ∧ Q (.bl (f bs)) H) (gBls f) := by
  intro W M ds d vs Q sr r hg k
  unfold gBls at hg
  split at hg
  · obtain ⟨xs, hx, hg⟩ := Option.bind_eq_some_iff.mp hg
    obtain ⟨ns, hn, hg⟩ := Option.map_eq_some_iff.mp hg
    subst hg
    obtain ⟨v, rfl, r1⟩ := rl1 r
    obtain ⟨p, us, rfl, h1, r2⟩ := ls_sq sr r1 hx
    refine ⟨p, ns, rfl, ?_, k W _ (.refl W) sr rfl⟩
    rw [← blsOf_ok hn r2]
    exact h1
  · cases hg
def gAny : GN := gBls fun bs => bs.any id
def gAll : GN := gBls fun bs => bs.all id
theorem o_any {K : PySem.W.Frag} : OpN K (rAny K) gAny := o_bls
theorem o_all {K : PySem.W.Frag} : OpN K (rAll K) gAll := o_bls
end PF
namespace PF
open PySem PySem.Spec PyProof.Rows L2
/-! x in a list, a tuple of data (at most 60 deep) -/
def rInX (K : PySem.W.Frag) (neg : Bool) : R2 := fun x y H Q => ∃ (d e : PyData) (ds : List PyData), Dp K H x d ∧ Dp K H y e ∧ (e = .list ds ∨ e = .tuple ds) ∧ d.canLay0 = true ∧ PyData.canLayAll0 ds = true ∧ d.depth ≤ 60 ∧
  Q (.bl (if neg = true then !(ds.any fun z => PyData.eqv z d) else ds.any fun z => PyData.eqv z d)) H
theorem op_inX {X : Cx} (hu : X.A.units + 64 < cLine) : OpR X (compareOp .In) (rInX X.K false) := by
  intro pins s σ H x y v u Q I rx ry h
  obtain ⟨d, e, ds, hd, he, hk, c1, c2, c3, q⟩ := h
  obtain ⟨as, r1⟩ := Dp.reads I d x v hd rx
  obtain ⟨bs, r2⟩ := Dp.reads I e y u he ry
  have room : X.A.units + 1 + min (PyData.depthAll ds) d.depth < cLine := by
    have := Nat.min_le_right (PyData.depthAll ds) d.depth
    omega
  rcases hk with rfl | rfl
  · exact SeqAt.in_list_reads r2 r1 c2 c1 room ⟨.bl _, H, I, rfl, q⟩
  · exact SeqAt.in_tuple_reads r2 r1 c2 c1 room ⟨.bl _, H, I, rfl, q⟩
theorem op_notInX {X : Cx} (hu : X.A.units + 64 < cLine) : OpR X (compareOp .NotIn) (rInX X.K true) := by
  intro pins s σ H x y v u Q I rx ry h
  obtain ⟨d, e, ds, hd, he, hk, c1, c2, c3, q⟩ := h
  obtain ⟨as, r1⟩ := Dp.reads I d x v hd rx
  obtain ⟨bs, r2⟩ := Dp.reads I e y u he ry
  have room : X.A.units + 1 + min (PyData.depthAll ds) d.depth < cLine := by
    have := Nat.min_le_right (PyData.depthAll ds) d.depth
    omega
  rcases hk with rfl | rfl
  · exact SeqAt.notIn_list_reads r2 r1 c2 c1 room ⟨.bl _, H, I, rfl, q⟩
  · exact SeqAt.notIn_tuple_reads r2 r1 c2 c1 room ⟨.bl _, H, I, rfl, q⟩
def seqItems : D → Option (List D)
  | .lst xs => some xs
  | .kst xs => some xs
  | .tup xs => some xs
  | _ => none
def gInX : G2B := fun x y M => (x.val M).bind fun a => (y.val M).bind fun b => if (a.dp 60 && b.dp 60) = true then (seqItems b).map fun ys => ys.any fun z => PyData.eqv z.py a.py else none
def gNotInX : G2B := fun x y M => (gInX x y M).map (! ·)
theorem pys_any (p : PyData → Bool) : ∀ ys : List D, (D.pys ys).any p = ys.any fun z => p z.py
  | [] => by rw [D.pys]; rfl
  | y :: ys => by rw [D.pys, List.any_cons, List.any_cons, pys_any p ys]
section
variable {K : PySem.W.Frag} {W : Wo} {M : Mem}
theorem inX_ok {x y : D} {v u : V} {t : Bool} (sr : SR K W M) (rx : Rp K W x v) (ry : Rp K W y u) (h : gInX x y M = some t) :
    ∃ (d e : PyData) (ds : List PyData), Dp K W.H v d ∧ Dp K W.H u e ∧ (e = .list ds ∨ e = .tuple ds) ∧ d.canLay0 = true ∧ PyData.canLayAll0 ds = true ∧ d.depth ≤ 60 ∧ (ds.any fun z => PyData.eqv z d) = t := by
  obtain ⟨a, ha, h⟩ := Option.bind_eq_some_iff.mp h
  obtain ⟨b, hb, h⟩ := Option.bind_eq_some_iff.mp h
  split at h
  · rename_i ok
    rw [Bool.and_eq_true] at ok
    obtain ⟨ys, hy, h⟩ := Option.map_eq_some_iff.mp h
    obtain ⟨l1, l2⟩ := dp_can 60 a ok.1
    have d2 := val_Rp sr ry hb ok.2
    have shape : ∀ zs : List D, D.dps 59 zs = true → PyData.canLayAll0 (D.pys zs) = true := fun zs hz => (dps_can 59 zs hz).1
    have ok2 := ok.2
    refine ⟨a.py, b.py, D.pys ys, val_Rp sr rx ha ok.1, d2, ?_, l1, ?_, l2, by rw [pys_any]; exact h⟩
    · cases b <;> cases hy
      · exact .inr (by rw [D.py])
      · exact .inl (by rw [D.py])
      · exact .inl (by rw [D.py])
    · cases b <;> cases hy <;> (rw [D.dp, Bool.and_eq_true] at ok2; exact shape _ ok2.2)
  · cases h
theorem o_inX : Op2 K (rInX K false) (gB gInX) := by
  intro W M x y d v u Q sr rx ry hg k
  obtain ⟨t, ht, rfl⟩ := Option.map_eq_some_iff.mp hg
  obtain ⟨a, e, ds, h1, h2, h3, h4, h5, h6, h7⟩ := inX_ok sr rx ry ht
  exact ⟨a, e, ds, h1, h2, h3, h4, h5, h6, by
    rw [if_neg Bool.false_ne_true, h7]
    exact k W _ (.refl W) sr rfl⟩
theorem o_notInX : Op2 K (rInX K true) (gB gNotInX) := by
  intro W M x y d v u Q sr rx ry hg k
  obtain ⟨t, ht, rfl⟩ := Option.map_eq_some_iff.mp hg
  obtain ⟨t', ht', rfl⟩ := Option.map_eq_some_iff.mp ht
  obtain ⟨a, e, ds, h1, h2, h3, h4, h5, h6, h7⟩ := inX_ok sr rx ry ht'
  exact ⟨a, e, ds, h1, h2, h3, h4, h5, h6, by
    rw [if_pos rfl, h7]
    exact k W _ (.refl W) sr rfl⟩
end
end PF
namespace PF
open PySem PySem.Spec PyProof.Rows L2
/-! sorted, of ints fewer than 64 -/
def sortI (ns : List Int) : List Int := ns.mergeSort fun a b => decide (a ≤ b)
theorem sort_uniq : ∀ {a b : List Int}, a.Perm b → a.Pairwise (· ≤ ·) → b.Pairwise (· ≤ ·) → a = b
  | [], b, h, _, _ => (List.Perm.nil_eq h)
  | x :: a, [], h, _, _ => by have := h.length_eq; simp at this
  | x :: a, y :: b, h, ha, hb => by
    have hx : x ∈ y :: b := h.subset (by simp)
    have hy : y ∈ x :: a := h.symm.subset (by simp)
    have e : x = y := by
      rcases List.mem_cons.mp hx with e | hx
      · exact e
      · rcases List.mem_cons.mp hy with e | hy
        · exact e.symm
        · have h1 := List.rel_of_pairwise_cons ha hy
          have h2 := List.rel_of_pairwise_cons hb hx
          omega
    subst e
    rw [sort_uniq (List.Perm.cons_inv h) ha.of_cons hb.of_cons]
theorem sortI_perm (ns : List Int) : (sortI ns).Perm ns := List.mergeSort_perm _ _
theorem sortI_le (ns : List Int) : (sortI ns).Pairwise (· ≤ ·) := by
  have := List.pairwise_mergeSort (le := fun a b : Int => decide (a ≤ b)) (fun a b c h1 h2 => by simp at *; omega) (fun a b => by simp; omega) ns
  exact this.imp fun h => of_decide_eq_true h
def gSorted : GNN := fun ds M => match ds with
  | [d] => (lsOf d M).bind fun xs => (intsOf xs).bind fun ns => if ns.length < 64 then some ((sortI ns).map D.int) else none
  | _ => none
theorem rpl_ints {K : PySem.W.Frag} {W : Wo} : ∀ ns : List Int, RpL K W (ns.map D.int) (ns.map V.int)
  | [] => rfl
  | n :: ns => ⟨.int n, _, rfl, rfl, rpl_ints ns⟩
theorem o_sorted {K : PySem.W.Frag} : OpNN K (rSorted K) gSorted := by
  intro W M ds xs vs Q sr r hg k
  unfold gSorted at hg
  split at hg
  · obtain ⟨l, hl, hg⟩ := Option.bind_eq_some_iff.mp hg
    obtain ⟨ns, hn, hg⟩ := Option.bind_eq_some_iff.mp hg
    split at hg
    · rename_i h64
      cases hg
      obtain ⟨v, rfl, r1⟩ := rl1 r
      obtain ⟨p, us, rfl, h1, r2⟩ := ls_sq sr r1 hl
      have e := intsOf_ok hn r2
      subst e
      refine ⟨p, ns, rfl, h1, h64, fun ns' q hp hs hq => ?_⟩
      have e := sort_uniq (hp.trans (sortI_perm ns).symm) hs (sortI_le ns)
      subst e
      exact k q _ hq (rpl_ints _) (by rw [List.length_map, (sortI_perm ns).length_eq]; show _ ≤ 16777216; omega)
    · cases hg
  · cases hg
end PF
namespace PF
open PySem PySem.Spec PyProof.Rows L2
/-! sum of a list or a tuple of whole numbers -/
theorem sumT_raw {prog : Program} {w : World} {A : Around} {E : Value → Shared → Prop} {s : Shared} {t : Addr} {vs : List Value} {ns : List Int} {Q : Value → Shared → Prop} (hh : A.handled = none) (ht : s.heap.IsTuple t vs.toArray) (hi : IntsAre vs ns)
    (h : ∀ h' tk t', (∀ b o, s.heap.get? b = some o → h'.get? b = some o) → Q (.int ns.sum t') { s with heap := h', toks := tk }) : wpAny (model prog w) A (call (.builtin "sum") [.ref t]) Q E s := by
  obtain ⟨xs, hx⟩ := hi.allInts.items
  have hn : numsOf (intItems xs).toList = ns := by rw [← hx]; exact hi.numsOf
  rw [nums_intItems] at hn
  rw [hx] at ht
  refine PySem.W.ktm_sumG hh ht fun h' tk t' hk => ?_
  have := h h' tk t' hk
  rw [preSum_eq, List.take_of_length_le (by simp), hn]
  exact this
def rSumA (K : PySem.W.Frag) : List V → Hp → VK → Prop := fun vs H Q => ∃ (a : Addr) (ns : List Int), vs = [V.ref a] ∧ (SqL K H a (ns.map V.int) ∨ SqT K H a (ns.map V.int)) ∧ Q (.int ns.sum) H
theorem cr_sumA {X : Cx} (hc : X.calm = true) : CallR X (.builtin "sum") (rSumA X.K) := by
  intro pins s σ H vs us Q I r h
  obtain ⟨a, ns, rfl, hs, q⟩ := h
  rcases hs with hs | hs
  · obtain ⟨its, rv, hl, _⟩ := I.list hs
    rw [Vals.ref1 r]
    exact sum_raw (I.ok.hd hc) hl.isList rv.ints fun h' tk t' hk => ⟨.int _, H, I.kept hk, ⟨_, rfl⟩, q⟩
  · obtain ⟨its, rv, hl, _⟩ := I.tuple hs
    rw [Vals.ref1 r]
    exact sumT_raw (I.ok.hd hc) hl rv.ints fun h' tk t' hk => ⟨.int _, H, I.kept hk, ⟨_, rfl⟩, q⟩
def gSumA : GN := fun ds M => match ds with
  | [d] => (sqOf d M).bind fun xs => (intsOf xs).map fun ns => .int ns.sum
  | _ => none
theorem o_sumA {K : PySem.W.Frag} : OpN K (rSumA K) gSumA := by
  intro W M ds d vs Q sr r hg k
  unfold gSumA at hg
  split at hg
  · obtain ⟨xs, hx, hg⟩ := Option.bind_eq_some_iff.mp hg
    obtain ⟨ns, hn, hg⟩ := Option.map_eq_some_iff.mp hg
    subst hg
    obtain ⟨v, rfl, r1⟩ := rl1 r
    obtain ⟨p, us, rfl, h1, r2⟩ := sq_sq sr r1 hx
    refine ⟨p, ns, rfl, ?_, k W _ (.refl W) sr rfl⟩
    rw [← intsOf_ok hn r2]
    exact h1
  · cases hg
end PF
namespace PF
open PySem PySem.Spec PyProof.Rows L2
/-! two for in one comprehension; the inner one walks a range -/
def JFr (J : It) (xs : List D) : Prop := xs.length ≤ LINE ∧ ∀ (H : Hp) (i : Nat), (∀ d, xs[i]? = some d → J.go i H ∧ ∀ x H', J.yld i H x H' → H' = H ∧ ∀ K W, Rp K W d x) ∧ (xs.length ≤ i → J.stop i H)
def liftR (K : PySem.W.Frag) (f : FI) : TI := fun σ H R => ∃ W ρ M, W.H = H ∧ SR K W M ∧ Sl K W ρ σ ∧ ∃ xs k M', f ρ M = some ((xs, k), M') ∧
  ∀ W' J, Ext W W' → SR K W' M' → JFr J xs → R J W'.H
abbrev PFR (X : Cx) (tg e : Expr) (f : FI) : Prop := PI X tg e (liftR X.K f)
theorem jfr_rg {lo : Int} {n : Nat} (hn : n ≤ LINE) : JFr (Itr lo n) (rgD lo n) := by
  have hl : (rgD lo n).length = n := by unfold rgD; simp
  refine ⟨by rw [hl]; exact hn, fun H i => ?_⟩
  refine ⟨fun d hd => ?_, fun h => by rw [hl] at h; exact h⟩
  have hi : i < n := by rw [← hl]; exact (List.getElem?_eq_some_iff.mp hd).1
  have hd' : d = D.int (lo + i) := by
    unfold rgD at hd
    rw [List.getElem?_map, List.getElem?_range hi] at hd
    cases hd; rfl
  subst hd'
  exact ⟨hi, fun x H' hx => ⟨hx.1, fun K W => hx.2⟩⟩
section
variable {X : Cx} {tg a : Expr}
theorem pfr_rg1 {f : FA} {p pos : Pos} (hg : Gl X "range") (hm : X.mg "range" = none) (ha : PFA X [a] f) (hs : starEach [a] X.env = [(false, eval a X.env)] := by rfl) : PFR X tg (.Call (.Name "range" p) [a] [] pos) (fiRg1 f) := pi_weak (pi_range1 hg hm ha hs) fun σ H R => by
  rintro ⟨W, ρ, M, rfl, sr, sl, xs, kk, M', hf, k⟩
  obtain ⟨⟨x, M1⟩, hx, hf⟩ := Option.bind_eq_some_iff.mp hf
  dsimp only at hf
  split at hf
  · split at hf
    · rename_i hr
      cases hf
      replace hr := okR_ok hr
      refine ⟨W, ρ, M, rfl, sr, sl, _, _, hx, fun W1 v e1 s1 r1 => ?_⟩
      obtain ⟨v1, r, rfl, q1, q2⟩ := r1
      cases (show _ = _ from q1); cases (show _ = _ from q2)
      exact ⟨_, rfl, hr.2.1.1, hr.2.1.2, k W1 _ e1 s1 (jfr_rg (by show _ ≤ 16777216; omega))⟩
    · cases hf
  · cases hf
theorem pfr_rg2 {b : Expr} {f : FA} {p pos : Pos} (hg : Gl X "range") (hm : X.mg "range" = none) (ha : PFA X [a, b] f) (hs : starEach [a, b] X.env = [(false, eval a X.env), (false, eval b X.env)] := by rfl) (hs2 : starEach [b] X.env = [(false, eval b X.env)] := by rfl) :
    PFR X tg (.Call (.Name "range" p) [a, b] [] pos) (fiRg2 f) := pi_weak (pi_range2 hg hm ha hs hs2) fun σ H R => by
  rintro ⟨W, ρ, M, rfl, sr, sl, xs, kk, M', hf, k⟩
  obtain ⟨⟨x, M1⟩, hx, hf⟩ := Option.bind_eq_some_iff.mp hf
  dsimp only at hf
  split at hf
  · split at hf
    · rename_i hr
      cases hf
      replace hr := okR_ok hr
      refine ⟨W, ρ, M, rfl, sr, sl, _, _, hx, fun W1 v e1 s1 r1 => ?_⟩
      obtain ⟨v1, r, rfl, q1, v2, r', rfl, q2, q3⟩ := r1
      cases (show _ = _ from q1); cases (show _ = _ from q2); cases (show _ = _ from q3)
      exact ⟨_, _, rfl, ⟨hr.1.1, hr.1.2, hr.2.1.1, hr.2.1.2⟩, k W1 _ e1 s1 (jfr_rg (by show _ ≤ 16777216; omega))⟩
    · cases hf
  · cases hf
end
def lc2Loop (c : Mem → Bool) (t : FG) (ft : FT) (fi1 : FI) (vs1 : List Nat) (t1 : FG) (ft1 : FT) (fe : FE) (ρ : Rho) : List D → List D → Mem → Option (List D × Mem)
  | [], acc, M => if c M = true then some (acc, M) else none
  | d :: ds, acc, M => if c M = true then (t d ρ).bind fun ρ' => (ft ρ' M).bind fun b =>
      if b.1 = true then (fi1 ρ' b.2).bind fun a => (lcLoop (chk a.1.2 a.1.1) t1 ft1 fe (wipeR ρ' vs1) a.1.1 acc a.2).bind fun y => lc2Loop c t ft fi1 vs1 t1 ft1 fe ρ ds y.1 y.2
      else lc2Loop c t ft fi1 vs1 t1 ft1 fe ρ ds acc b.2
    else none
/-- [elt for t in fi if ft for t1 in fi1 if ft1] -/
def fLC2 (vs vs1 : List Nat) (fi : FI) (t : FG) (ft : FT) (fi1 : FI) (t1 : FG) (ft1 : FT) (fe : FE) : FA := fun ρ M => (fi ρ M).bind fun a => (lc2Loop (chk a.1.2 a.1.1) t ft fi1 vs1 t1 ft1 fe (wipeR ρ vs) a.1.1 [] a.2).bind fun y => if y.1.length ≤ LINE then some y else none
theorem lcLoop_len {c : Mem → Bool} {t : FG} {ft : FT} {fe : FE} {ρ : Rho} : ∀ (ds acc : List D) (M : Mem) (out : List D) (M' : Mem), lcLoop c t ft fe ρ ds acc M = some (out, M') → acc.length ≤ out.length
  | [], acc, M, out, M', h => by
    unfold lcLoop at h
    split at h
    · cases h; exact Nat.le_refl _
    · cases h
  | d :: ds, acc, M, out, M', h => by
    unfold lcLoop at h
    split at h
    · obtain ⟨ρ', _, h⟩ := Option.bind_eq_some_iff.mp h
      obtain ⟨b, _, h⟩ := Option.bind_eq_some_iff.mp h
      split at h
      · obtain ⟨y, _, h⟩ := Option.bind_eq_some_iff.mp h
        have := lcLoop_len ds _ _ _ _ h
        simp at this; omega
      · exact lcLoop_len ds _ _ _ _ h
    · cases h
theorem lc2Loop_len {c : Mem → Bool} {t : FG} {ft : FT} {fi1 : FI} {vs1 : List Nat} {t1 : FG} {ft1 : FT} {fe : FE} {ρ : Rho} : ∀ (ds acc : List D) (M : Mem) (out : List D) (M' : Mem), lc2Loop c t ft fi1 vs1 t1 ft1 fe ρ ds acc M = some (out, M') → acc.length ≤ out.length
  | [], acc, M, out, M', h => by
    unfold lc2Loop at h
    split at h
    · cases h; exact Nat.le_refl _
    · cases h
  | d :: ds, acc, M, out, M', h => by
    unfold lc2Loop at h
    split at h
    · obtain ⟨ρ', _, h⟩ := Option.bind_eq_some_iff.mp h
      obtain ⟨b, _, h⟩ := Option.bind_eq_some_iff.mp h
      split at h
      · obtain ⟨a, _, h⟩ := Option.bind_eq_some_iff.mp h
        obtain ⟨y, hy, h⟩ := Option.bind_eq_some_iff.mp h
        exact Nat.le_trans (lcLoop_len _ _ _ _ _ hy) (lc2Loop_len ds _ _ _ _ h)
      · exact lc2Loop_len ds _ _ _ _ h
    · cases h
theorem Sl.minus {K : PySem.W.Frag} {W : Wo} {ρ : Rho} {σ : L2.St} {p : Addr} (hb : W.bad p) (hn : p ∉ W.as) (h : Sl K W ρ σ) : Sl K (W.minus p) ρ σ := by
  refine ⟨h.len, fun i d hd => ?_⟩
  obtain ⟨v, hv, r⟩ := h.at_ i d hd
  exact ⟨v, hv, Rp.minus hb hn d v r⟩
theorem lc2_lift {K : PySem.W.Frag} {fi fi1 : FI} {t t1 : FG} {ft ft1 : FT} {fe : FE} {vs vs1 : List Nat} : ∀ σ H Q, liftN K (fLC2 vs vs1 fi t ft fi1 t1 ft1 fe) σ H Q → tLc2 (liftI K fi) (liftG K vs t) (liftT K ft) (liftR K fi1) (liftG K vs1 t1) (liftT K ft1) (liftE K fe) vs vs1 σ H Q := by
  rintro σ H Q ⟨W, ρ, M, rfl, sr, sl, out, M', hf, k⟩
  obtain ⟨⟨⟨xs, kk⟩, M1⟩, hi, hf⟩ := Option.bind_eq_some_iff.mp hf
  obtain ⟨⟨o1, o2⟩, hf, hz⟩ := Option.bind_eq_some_iff.mp hf
  dsimp only at hz hf
  by_cases hout : o1.length ≤ LINE
  case neg => rw [if_neg hout] at hz; cases hz
  rw [if_pos hout] at hz
  cases hz
  refine ⟨W, ρ, M, rfl, sr, sl, xs, kk, M1, hi, fun W1 J e1 s1 jo D hD => ?_⟩
  refine ⟨fun i m H' => ∃ W2 Mt acc ws, H' = upd W2.H D (.lst ws) ∧ W2.H D = none ∧ Ext W1 W2 ∧ SR K W2 Mt ∧ RpL K W2 acc ws ∧ i ≤ xs.length ∧ m = xs.length - i ∧
    lc2Loop (chk kk xs) t ft fi1 vs1 t1 ft1 fe (wipeR ρ vs) (xs.drop i) acc Mt = some (out, M'), ⟨xs.length, W1, M1, [], [], rfl, hD, .refl W1, s1, rfl, Nat.zero_le _, rfl, hf⟩, ?_⟩
  rintro i m H' ⟨W2, Mt, acc, ws, rfl, hD2, e2, s2, racc, hil, rfl, hw⟩
  have eP : Ext W2 (W2.plus D (.lst ws)) := Ext.plus hD2
  have sP : SR K (W2.plus D (.lst ws)) Mt := s2.plus hD2
  by_cases hlt : i < xs.length
  · right
    have hd : xs.drop i = xs[i] :: xs.drop (i + 1) := List.drop_eq_getElem_cons hlt
    rw [hd] at hw
    unfold lc2Loop at hw
    split at hw
    · rename_i hck
      obtain ⟨ρ', ht, hw⟩ := Option.bind_eq_some_iff.mp hw
      obtain ⟨⟨b, M3⟩, hb, hw⟩ := Option.bind_eq_some_iff.mp hw
      obtain ⟨hgo, hy⟩ := (jo.2 _ Mt (e2.trans eP) sP hck i).1 xs[i] (by simp [hlt])
      refine ⟨hgo, fun H' => ∃ W4 Mt acc ws, H' = upd W4.H D (.lst ws) ∧ W4.H D = none ∧ Ext W1 W4 ∧ SR K W4 Mt ∧ RpL K W4 acc ws ∧
        lc2Loop (chk kk xs) t ft fi1 vs1 t1 ft1 fe (wipeR ρ vs) (xs.drop (i + 1)) acc Mt = some (out, M'), ?_, fun x H' hx => ?_⟩
      · rintro H' ⟨W4, Mt', acc', ws', h1, h2, h3, h4, h5, h7⟩
        exact ⟨xs.length - (i + 1), by omega, W4, Mt', acc', ws', h1, h2, h3, h4, h5, hlt, rfl, h7⟩
      · obtain ⟨rfl, rx⟩ := hy x H' hx
        have slW : Sl K (W2.plus D (.lst ws)) (wipeR ρ vs) (L2.wipe σ vs) := (sl.ext (e1.trans (e2.trans eP)) sr.sub).wipe vs
        refine ⟨_, wipeR ρ vs, Mt, xs[i], rfl, sP, slW, rx, ρ', ht, fun W3 σ3 e3 s3 l3 w3 => ⟨by rw [w3, wipe_idem], ?_⟩⟩
        refine ⟨W3, ρ', Mt, rfl, s3, l3, b, M3, hb, fun W4 e4 s4 => ?_⟩
        cases b with
        | false =>
          rw [if_neg Bool.false_ne_true] at hw ⊢
          obtain ⟨e5, b5, n5, h5⟩ := Ext.unplus s2 hD2 (e3.trans e4)
          refine ⟨W4.minus D, M3, acc, ws, ?_, minus_self, e2.trans e5, s4.minus b5 n5, (racc.ext e5 s2.sub), hw⟩
          funext a
          by_cases z : a = D
          · subst z; rw [upd_same]; exact h5
          · rw [upd_ne z]; exact (minus_H z).symm
        | true =>
          rw [if_pos rfl] at hw ⊢
          obtain ⟨⟨⟨xs1, k1⟩, M5⟩, hi1, hw⟩ := Option.bind_eq_some_iff.mp hw
          obtain ⟨⟨acc2, M6⟩, hin, hw⟩ := Option.bind_eq_some_iff.mp hw
          dsimp only at hin hw
          have hlim : acc2.length ≤ LINE := Nat.le_trans (lc2Loop_len _ _ _ _ _ hw) hout
          refine ⟨W4, ρ', M3, rfl, s4, l3.ext e4 s3.sub, xs1, k1, M5, hi1, fun W5 J1 e5 s5 jf => ?_⟩
          obtain ⟨e6, b6, n6, h6⟩ := Ext.unplus s2 hD2 ((e3.trans e4).trans e5)
          have l5 : Sl K (W5.minus D) ρ' σ3 := Sl.minus b6 n6 (l3.ext (e4.trans e5) s3.sub)
          have s5m : SR K (W5.minus D) M5 := s5.minus b6 n6
          have hW5 : W5.H = upd (W5.minus D).H D (.lst ws) := by
            funext a
            by_cases z : a = D
            · subst z; rw [upd_same]; exact h6
            · rw [upd_ne z]; exact (minus_H z).symm
          refine ⟨fun j k H' => ∃ W6 Mt acc ws, H' = upd W6.H D (.lst ws) ∧ W6.H D = none ∧ Ext (W5.minus D) W6 ∧ SR K W6 Mt ∧ RpL K W6 acc ws ∧ j ≤ xs1.length ∧ k = xs1.length - j ∧
            lcLoop (chk k1 xs1) t1 ft1 fe (wipeR ρ' vs1) (xs1.drop j) acc Mt = some (acc2, M6), ⟨xs1.length, W5.minus D, M5, acc, ws, hW5, minus_self, .refl _, s5m, racc.ext e6 s2.sub, Nat.zero_le _, rfl, hin⟩, ?_⟩
          rintro j k' H' ⟨W6, Mt6, acc6, ws6, rfl, hD6, e7, s6, racc6, hjl, rfl, hw6⟩
          have eP6 : Ext W6 (W6.plus D (.lst ws6)) := Ext.plus hD6
          have sP6 : SR K (W6.plus D (.lst ws6)) Mt6 := s6.plus hD6
          by_cases hlt1 : j < xs1.length
          · right
            have hd1 : xs1.drop j = xs1[j] :: xs1.drop (j + 1) := List.drop_eq_getElem_cons hlt1
            rw [hd1] at hw6
            unfold lcLoop at hw6
            split at hw6
            · obtain ⟨ρ2, ht1, hw6⟩ := Option.bind_eq_some_iff.mp hw6
              obtain ⟨⟨b1, M7⟩, hb1, hw6⟩ := Option.bind_eq_some_iff.mp hw6
              obtain ⟨hgo1, hy1⟩ := (jf.2 (W6.plus D (.lst ws6)).H j).1 xs1[j] (by simp [hlt1])
              refine ⟨hgo1, fun H' => ∃ W8 Mt acc ws, H' = upd W8.H D (.lst ws) ∧ W8.H D = none ∧ Ext (W5.minus D) W8 ∧ SR K W8 Mt ∧ RpL K W8 acc ws ∧
                lcLoop (chk k1 xs1) t1 ft1 fe (wipeR ρ' vs1) (xs1.drop (j + 1)) acc Mt = some (acc2, M6), ?_, fun x1 H' hx1 => ?_⟩
              · rintro H' ⟨W8, Mt', acc', ws', h1, h2, h3, h4, h5, h7⟩
                exact ⟨xs1.length - (j + 1), by omega, W8, Mt', acc', ws', h1, h2, h3, h4, h5, hlt1, rfl, h7⟩
              · obtain ⟨rfl, rx1⟩ := hy1 x1 H' hx1
                have slW1 : Sl K (W6.plus D (.lst ws6)) (wipeR ρ' vs1) (L2.wipe σ3 vs1) := (l5.ext (e7.trans eP6) s5m.sub).wipe vs1
                refine ⟨_, wipeR ρ' vs1, Mt6, xs1[j], rfl, sP6, slW1, rx1 K _, ρ2, ht1, fun W7 σ7 e8 s7 l7 w7 => ⟨by rw [w7, wipe_idem], ?_⟩⟩
                refine ⟨W7, ρ2, Mt6, rfl, s7, l7, b1, M7, hb1, fun W8 e9 s8 => ?_⟩
                cases b1 with
                | false =>
                  rw [if_neg Bool.false_ne_true] at hw6 ⊢
                  obtain ⟨e10, b10, n10, h10⟩ := Ext.unplus s6 hD6 (e8.trans e9)
                  refine ⟨W8.minus D, M7, acc6, ws6, ?_, minus_self, e7.trans e10, s8.minus b10 n10, (racc6.ext e10 s6.sub), hw6⟩
                  funext a
                  by_cases z : a = D
                  · subst z; rw [upd_same]; exact h10
                  · rw [upd_ne z]; exact (minus_H z).symm
                | true =>
                  rw [if_pos rfl] at hw6 ⊢
                  obtain ⟨⟨y, M9⟩, hye, hw6⟩ := Option.bind_eq_some_iff.mp hw6
                  refine ⟨W8, ρ2, M7, rfl, s8, l7.ext e9 s7.sub, y, M9, hye, fun W9 v e11 s9 r9 => ?_⟩
                  obtain ⟨e12, b12, n12, h12⟩ := Ext.unplus s6 hD6 ((e8.trans e9).trans e11)
                  have hz : ws6.length < LINE := by
                    have q := lcLoop_len _ _ _ _ _ hw6
                    rw [List.length_append, List.length_singleton] at q
                    have := racc6.len
                    omega
                  refine ⟨ws6, h12, by rw [line_eq]; exact hz, W9.minus D, M9, acc6 ++ [y], ws6 ++ [v], ?_, minus_self, e7.trans e12, s9.minus b12 n12, (racc6.ext e12 s6.sub).append (.one (r9.minus b12 n12)), hw6⟩
                  funext a
                  by_cases z : a = D
                  · subst z; rw [upd_same, upd_same]
                  · rw [upd_ne z, upd_ne z]; exact (minus_H z).symm
            · cases hw6
          · left
            have e : j = xs1.length := by omega
            subst e
            rw [List.drop_length] at hw6
            unfold lcLoop at hw6
            split at hw6
            · cases hw6
              exact ⟨(jf.2 _ xs1.length).2 (Nat.le_refl _), W6, M6, acc2, ws6, rfl, hD6, e2.trans (e6.trans e7), s6, racc6, hw⟩
            · cases hw6
    · cases hw
  · left
    have e : i = xs.length := by omega
    subst e
    rw [List.drop_length] at hw
    unfold lc2Loop at hw
    split at hw
    · rename_i hck
      cases hw
      refine ⟨(jo.2 _ _ (e2.trans eP) sP hck xs.length).2 (Nat.le_refl _), ?_⟩
      exact k W2 D ws (e1.trans e2) s2 hD2 racc (by have := racc.len; omega)
    · cases hw
section
variable {X : Cx} {elt tg iter tg1 iter1 : Expr} {ifs ifs1 : List Expr} {scope : Scope} {own : List (Str × Nat)} {vs1 : List Nat} {pos : Pos} {fi fi1 : FI} {t t1 : FG} {ft ft1 : FT} {fe : FE}
theorem pfn_lc2 (hc : X.calm = true) (hN : X.N.Nodup) (hi : PFI X tg iter fi) (ok : BlkOk X.N X.env.scope scope own) (hv : ∀ i ∈ vs1, i ∈ own.map (·.2))
    (hg : ∀ (s : Shared) (H : Hp) (C : Addr) (cl : List (Str × Addr)) (fp : List Addr), PFG (X.blk s H scope (compEnvC scope cl C X.env) fp) (own.map (·.2)) tg t) (ht : ∀ (s : Shared) (H : Hp) (C : Addr) (cl : List (Str × Addr)) (fp : List Addr), PFTs (X.blk s H scope (compEnvC scope cl C X.env) fp) ifs ft)
    (hi1 : ∀ (s : Shared) (H : Hp) (C : Addr) (cl : List (Str × Addr)) (fp : List Addr), PFR (X.blk s H scope (compEnvC scope cl C X.env) fp) tg1 iter1 fi1)
    (hg1 : ∀ (s : Shared) (H : Hp) (C : Addr) (cl : List (Str × Addr)) (fp : List Addr), PFG (X.blk s H scope (compEnvC scope cl C X.env) fp) vs1 tg1 t1) (ht1 : ∀ (s : Shared) (H : Hp) (C : Addr) (cl : List (Str × Addr)) (fp : List Addr), PFTs (X.blk s H scope (compEnvC scope cl C X.env) fp) ifs1 ft1)
    (he : ∀ (s : Shared) (H : Hp) (C : Addr) (cl : List (Str × Addr)) (fp : List Addr), PFE (X.blk s H scope (compEnvC scope cl C X.env) fp) elt fe) (hs : ∀ x, foldedSetIterable iter X.env x = pure x := by intro _; rfl) (hs1 : ∀ env x, foldedSetIterable iter1 env x = pure x := by intro _ _; rfl) :
    PFN X (.ListComp elt [⟨tg, iter, ifs, 0⟩, ⟨tg1, iter1, ifs1, 0⟩] scope pos) (fLC2 (own.map (·.2)) vs1 fi t ft fi1 t1 ft1 fe) := pe_weak (pe_lc2 hc hN hi ok hv hg ht hi1 hg1 ht1 he hs hs1) lc2_lift
theorem pfs_setLc2F {i : Nat} {y : Str} {py spos : Pos} (hc : X.calm = true) (hN : X.N.Nodup) (hy : X.N[i]? = some y) (hyl : X.env.scope.names.lookup y = some .local)
    (hsw : swapsWith (.ListComp elt [⟨tg, iter, ifs, 0⟩, ⟨tg1, iter1, ifs1, 0⟩] scope pos) (some (.Name y py)) spos.line X.env = pure true) (hi : PFI X tg iter fi) (ok : BlkOk X.N X.env.scope scope own) (hv : ∀ i ∈ vs1, i ∈ own.map (·.2))
    (hg : ∀ (s : Shared) (H : Hp) (C : Addr) (cl : List (Str × Addr)) (fp : List Addr), PFG (X.blk s H scope (compEnvC scope cl C X.env) fp) (own.map (·.2)) tg t) (ht : ∀ (s : Shared) (H : Hp) (C : Addr) (cl : List (Str × Addr)) (fp : List Addr), PFTs (X.blk s H scope (compEnvC scope cl C X.env) fp) ifs ft)
    (hi1 : ∀ (s : Shared) (H : Hp) (C : Addr) (cl : List (Str × Addr)) (fp : List Addr), PFR (X.blk s H scope (compEnvC scope cl C X.env) fp) tg1 iter1 fi1)
    (hg1 : ∀ (s : Shared) (H : Hp) (C : Addr) (cl : List (Str × Addr)) (fp : List Addr), PFG (X.blk s H scope (compEnvC scope cl C X.env) fp) vs1 tg1 t1) (ht1 : ∀ (s : Shared) (H : Hp) (C : Addr) (cl : List (Str × Addr)) (fp : List Addr), PFTs (X.blk s H scope (compEnvC scope cl C X.env) fp) ifs1 ft1)
    (he : ∀ (s : Shared) (H : Hp) (C : Addr) (cl : List (Str × Addr)) (fp : List Addr), PFE (X.blk s H scope (compEnvC scope cl C X.env) fp) elt fe) (hs : ∀ x, foldedSetIterable iter X.env x = pure x := by intro _; rfl) (hs1 : ∀ env x, foldedSetIterable iter1 env x = pure x := by intro _ _; rfl) :
    PFS X (.Assign [.Name y py] (.ListComp elt [⟨tg, iter, ifs, 0⟩, ⟨tg1, iter1, ifs1, 0⟩] scope pos) spos) (sSet i (fFz (fLC2 (own.map (·.2)) vs1 fi t ft fi1 t1 ft1 fe))) := ps_weak (ps_setLc2 hc hN hy hyl hsw hi ok hv hg ht hi1 hg1 ht1 he hs hs1) fun E σ H h => lc2_lift _ _ _ (set_fz E σ H h)
theorem pfs_setLc2M {i : Nat} {y : Str} {py spos : Pos} (hc : X.calm = true) (hN : X.N.Nodup) (hy : X.N[i]? = some y) (hyl : X.env.scope.names.lookup y = some .local)
    (hsw : swapsWith (.ListComp elt [⟨tg, iter, ifs, 0⟩, ⟨tg1, iter1, ifs1, 0⟩] scope pos) (some (.Name y py)) spos.line X.env = pure true) (hi : PFI X tg iter fi) (ok : BlkOk X.N X.env.scope scope own) (hv : ∀ i ∈ vs1, i ∈ own.map (·.2))
    (hg : ∀ (s : Shared) (H : Hp) (C : Addr) (cl : List (Str × Addr)) (fp : List Addr), PFG (X.blk s H scope (compEnvC scope cl C X.env) fp) (own.map (·.2)) tg t) (ht : ∀ (s : Shared) (H : Hp) (C : Addr) (cl : List (Str × Addr)) (fp : List Addr), PFTs (X.blk s H scope (compEnvC scope cl C X.env) fp) ifs ft)
    (hi1 : ∀ (s : Shared) (H : Hp) (C : Addr) (cl : List (Str × Addr)) (fp : List Addr), PFR (X.blk s H scope (compEnvC scope cl C X.env) fp) tg1 iter1 fi1)
    (hg1 : ∀ (s : Shared) (H : Hp) (C : Addr) (cl : List (Str × Addr)) (fp : List Addr), PFG (X.blk s H scope (compEnvC scope cl C X.env) fp) vs1 tg1 t1) (ht1 : ∀ (s : Shared) (H : Hp) (C : Addr) (cl : List (Str × Addr)) (fp : List Addr), PFTs (X.blk s H scope (compEnvC scope cl C X.env) fp) ifs1 ft1)
    (he : ∀ (s : Shared) (H : Hp) (C : Addr) (cl : List (Str × Addr)) (fp : List Addr), PFE (X.blk s H scope (compEnvC scope cl C X.env) fp) elt fe) (hs : ∀ x, foldedSetIterable iter X.env x = pure x := by intro _; rfl) (hs1 : ∀ env x, foldedSetIterable iter1 env x = pure x := by intro _ _; rfl) :
    PFS X (.Assign [.Name y py] (.ListComp elt [⟨tg, iter, ifs, 0⟩, ⟨tg1, iter1, ifs1, 0⟩] scope pos) spos) (sSet i (fMut (fLC2 (own.map (·.2)) vs1 fi t ft fi1 t1 ft1 fe))) := ps_weak (ps_setLc2 hc hN hy hyl hsw hi ok hv hg ht hi1 hg1 ht1 he hs hs1) fun E σ H h => lc2_lift _ _ _ (set_mut E σ H h)
end
end PF
namespace PF
open PySem PySem.Spec PyProof.Rows L2
/-! a call that changes one list and hands back a new changeable one -/
def callSM (i : Nat) (c : FnC) (ds : List D) (M : Mem) : Option (D × Mem) := match ds[i]? with
  | some (.ref n) => match M[n]? with
    | some mo => if mo.nr && !anyRef (ds.set i .non) then (argsP M (ds.set i .non)).bind fun es => (c (es.set i (.ref 0)) [mo]).bind fun r => match r with
        | (.ref 1, [.lst xs, .lst ys]) => if D.nrs xs && D.nrs ys then some (.ref M.length, M.set n (.lst xs) ++ [.lst ys]) else none
        | _ => none
      else none
    | none => none
  | _ => none
def fCallSM (i : Nat) (c : FnC) (fa : FA) : FE := fun ρ M => (fa ρ M).bind fun a => callSM i c a.1 a.2
section
variable {K : PySem.W.Frag} {W : Wo} {M : Mem}
theorem callSM_ok {i : Nat} {c : FnC} {n : Nat} {ds : List D} {vs : List V} {d : D} {M' : Mem} {Q : VK} {E : XK} (sr : SR K W M) (r : RpL K W ds vs) (hn : vs.length = n) (e : callSM i c ds M = some (d, M'))
    (k : ∀ W' v, Ext W W' → SR K W' M' → Rp K W' d v → Q v W'.H) : spOf K c n vs W.H Q E := by
  unfold callSM at e
  split at e
  · rename_i m hm
    split at e
    · rename_i mo hmo
      split at e
      · rename_i hc0
        rw [Bool.and_eq_true, Bool.not_eq_true'] at hc0
        obtain ⟨hnr, hri⟩ := hc0
        obtain ⟨es, he, e⟩ := Option.bind_eq_some_iff.mp e
        obtain ⟨⟨d1, M1⟩, hc, e⟩ := Option.bind_eq_some_iff.mp e
        obtain ⟨a, ha, mok⟩ := sr.addr hmo
        obtain ⟨vi, hvi, ri⟩ := r.get hm
        obtain ⟨a', ha', ev⟩ := ri
        obtain rfl : a = a' := Option.some.inj (ha.symm.trans ha')
        have haW : a ∈ W.as := List.mem_of_getElem? ha
        have nl : ∀ b, ¬ Lent W (ds.set i .non) b := fun b ⟨j, h1, h2⟩ => noRef hri j h1
        have sL : SR K (W.lend [a] (Lent W (ds.set i .non))) [mo] := by
          refine ⟨rfl, by simp [Wo.lend], fun b h => ?_, fun b h => sr.bt b h.1, fun j b mo' h1 h2 => ?_⟩
          · rw [show b = a by simpa [Wo.lend] using h]
            exact ⟨sr.sub a haW, nl a⟩
          · cases j with
            | zero =>
              have eb : a = b := by simpa [Wo.lend] using h1
              have em : mo = mo' := by simpa using h2
              subst eb em
              exact MoOk.nr (W := W) (W' := W.lend [a] (Lent W (ds.set i .non))) rfl (fun _ z => z.1) hnr mok
            | succ j => simp at h2
        have r' : RpL K W (ds.set i .non) (vs.set i .non) := r.set i rfl
        have rE := args_ok (as := [a]) sr he r' (free := Lent W (ds.set i .non)) fun j b h1 h2 => ⟨j, h1, h2⟩
        have rE2 : RpL K (W.lend [a] (Lent W (ds.set i .non))) (es.set i (.ref 0)) vs := by
          have q := rE.set (d := .ref 0) (v := .ref a) i ⟨a, rfl, rfl⟩
          rw [List.set_set] at q
          have ev' : vs.set i (.ref a) = vs := by
            rw [← ev]
            obtain ⟨h1, h2⟩ := List.getElem?_eq_some_iff.mp hvi
            rw [← h2]; exact List.set_getElem_self h1
          rw [ev'] at q
          exact q
        refine ⟨hn, W.lend [a] (Lent W (ds.set i .non)), [mo], _, rfl, sL, rE2, d1, M1, hc, fun W1 v e1 s1 r1 => ?_⟩
        have keepAll : ∀ b o, b ≠ a → W.H b = some o → W1.H b = some o := fun b o hb h => e1.keep b o (by simpa [Wo.lend] using hb) h
        split at e
        · rename_i xs ys hpair
          cases hpair
          split at e
          · rename_i hcond
            rw [Bool.and_eq_true] at hcond
            obtain ⟨hxs, hys⟩ := hcond
            cases e
            obtain ⟨p, hp, ev1⟩ := r1
            obtain ⟨new, ea, fr⟩ := e1.as
            have ea1 : W1.as = [a, p] := by
              have h1 : W1.as.length = 2 := s1.len
              have h2 : W1.as = a :: new := by rw [ea]; rfl
              rw [h2] at h1 hp
              match new, h1, hp with
              | [q], _, hp => simp at hp; rw [h2, hp]
            have enew : new = [p] := by
              have h2 : W1.as = a :: new := by rw [ea]; rfl
              rw [ea1] at h2
              simpa using h2.symm
            have hpn : W.H p = none := fr p (by rw [enew]; simp)
            have pnW : p ∉ W.as := fun z => by
              obtain ⟨o, q⟩ := sr.bt p (sr.sub p z)
              rw [hpn] at q; cases q
            obtain ⟨us, q1, q2⟩ := s1.obj 0 a (.lst xs) (by rw [ea1]; rfl) rfl
            obtain ⟨us2, q3, q4⟩ := s1.obj 1 p (.lst ys) (by rw [ea1]; rfl) rfl
            have noB : ∀ b, (W.bad b ∨ W1.bad b) → W1.bad b := fun b z => z.elim (fun z => e1.bad b ⟨z, nl b⟩) fun z => z
            have ex : Ext W ⟨W.as ++ [p], fun b => W.bad b ∨ W1.bad b, W1.H⟩ := by
              refine ⟨⟨[p], rfl, fun b h => by rw [List.mem_singleton.mp h]; exact hpn⟩, fun b h => .inl h, fun b h => h.elim .inl fun z => (e1.new b z).imp (fun q => q.1) fun q => q, fun b o hb h => keepAll b o (fun z => hb (by rw [z]; exact haW)) h, fun b o h => ?_⟩
              by_cases z : b = a
              · subst z; exact ⟨_, q1.1⟩
              · exact ⟨o, keepAll b o z h⟩
            have toL : ∀ (zs : List D) (ws : List V), D.nrs zs = true → RpL K W1 zs ws → RpL K ⟨W.as ++ [p], fun b => W.bad b ∨ W1.bad b, W1.H⟩ zs ws := fun zs ws hz q => RpL.nr (W := W1) (W' := ⟨W.as ++ [p], fun b => W.bad b ∨ W1.bad b, W1.H⟩) rfl noB _ _ hz q
            have hlen : W.as.length = M.length := sr.len
            refine k ⟨W.as ++ [p], fun b => W.bad b ∨ W1.bad b, W1.H⟩ v ex ⟨by simp [hlen], ?_, fun b h => ?_, fun b h => h.elim (fun z => let ⟨o, q⟩ := sr.bt b z; ex.live b o q) (s1.bt b), fun j b mo' h1 h2 => ?_⟩ ⟨p, by show (W.as ++ [p])[M.length]? = some p; rw [← hlen]; simp, ev1⟩
            · rw [List.nodup_append]
              exact ⟨sr.nd, by simp, fun x hx y hy => by rw [List.mem_singleton.mp hy]; rintro rfl; exact pnW hx⟩
            · rcases List.mem_append.mp h with h | h
              · exact .inl (sr.sub b h)
              · rw [List.mem_singleton.mp h]
                exact .inr (s1.sub p (by rw [ea1]; simp))
            · have h1' : (W.as ++ [p])[j]? = some b := h1
              by_cases hj : j < M.length
              · rw [List.getElem?_append_left (by omega)] at h1'
                rw [List.getElem?_append_left (by rw [List.length_set]; exact hj)] at h2
                by_cases z : j = m
                · subst z
                  obtain rfl : a = b := Option.some.inj (ha.symm.trans h1')
                  rw [List.getElem?_set_self hj] at h2
                  cases h2
                  exact ⟨us, q1, toL _ _ hxs q2⟩
                · rw [List.getElem?_set_ne (Ne.symm z)] at h2
                  have nb : b ≠ a := fun q => z (by
                    subst q
                    obtain ⟨q1, q2⟩ := List.getElem?_eq_some_iff.mp h1'
                    obtain ⟨q3, q4⟩ := List.getElem?_eq_some_iff.mp ha
                    exact (List.getElem_inj sr.nd).mp (q2.trans q4.symm))
                  have mk := sr.obj j b mo' h1' h2
                  obtain ⟨o, q⟩ := mk.there
                  exact mk.ext ex sr.sub (by rw [q]; exact keepAll b o nb q)
              · have hjl : j < (W.as ++ [p]).length := (List.getElem?_eq_some_iff.mp h1').1
                simp at hjl
                have ej : j = M.length := by omega
                subst ej
                have eb : b = p := by
                  rw [← hlen] at h1'
                  simp at h1'
                  exact h1'.symm
                subst eb
                rw [List.getElem?_append_right (by simp)] at h2
                simp at h2
                subst h2
                exact ⟨us2, q3, toL _ _ hys q4⟩
          · cases e
        · cases e
      · cases e
    · cases e
  · cases e
end
section
variable {X : Cx} {k n : Nat} {f : Addr} {fd : FuncData} {ps : List Str} {c : FnC} {x : Str} {p pos : Pos} {e : Expr} {es : List Expr} {fa : FA}
theorem pf_callSM (i : Nat) (F : FnOk X.prog X.w X.K X.mg X.base CX0 k f fd ps (spOf X.K c n)) (hr : Room k X.A) (hg : Gl X x) (hm : X.mg x = some (.ref f)) (hk : PySem.W.keepIn X.K (.ref f) = true) (hb : Binds X.K fd ps []) (ha : PFA X (e :: es) fa) (hn : n = es.length + 1 := by rfl)
    (hlen : ∀ ρ M r, fa ρ M = some r → r.1.length = es.length + 1) (hdb : (x == ("__debug__" : Str)) = false := by decide) (he : starEach (e :: es) X.env = (false, eval e X.env) :: starEach es X.env := by rfl) (hpl : (backTo pos (starEach es X.env)).any (·.1) = false := by rfl) :
    PFE X (.Call (.Name x p) (e :: es) [] pos) (fCallSM i c fa) := pe_weak (pe_call F hr hg hm hk hb .nil pass0 ha hdb he hpl) fun σ H Q => by
  rintro ⟨W, ρ, M, rfl, sr, sl, d, M', hf, k⟩
  obtain ⟨⟨ds, M1⟩, hx, hf⟩ := Option.bind_eq_some_iff.mp hf
  refine ⟨W, ρ, M, rfl, sr, sl, ds, M1, hx, fun W1 vs e1 s1 r1 => ?_⟩
  show spOf X.K c n (vs ++ []) W1.H Q E0
  rw [List.append_nil]
  exact callSM_ok s1 r1 (by rw [← r1.len, hn]; exact hlen _ _ _ hx) hf fun W2 v e2 s2 r2 => k W2 v (e1.trans e2) s2 r2
end
section
variable {X : Cx} {k n : Nat} {c : FnC} {x : Str} {p pos : Pos} {e : Expr} {es : List Expr} {fa : FA}
theorem pf_callCSM (i : Nat) (C : Cal X.prog X.w X.K X.mg X.base k x c (es.length + 1)) (hr : Room k X.A) (hg : Gl X x) (ha : PFA X (e :: es) fa)
    (hlen : ∀ ρ M r, fa ρ M = some r → r.1.length = es.length + 1) (hdb : (x == ("__debug__" : Str)) = false := by decide) (he : starEach (e :: es) X.env = (false, eval e X.env) :: starEach es X.env := by rfl) (hpl : (backTo pos (starEach es X.env)).any (·.1) = false := by rfl) :
    PFE X (.Call (.Name x p) (e :: es) [] pos) (fCallSM i c fa) :=
  let ⟨_, _, _, g, hk, b, F⟩ := C.ex
  pf_callSM i F hr hg g hk b ha rfl hlen hdb he hpl
end
end PF
namespace PF
open PySem PySem.Spec PyProof.Rows L2
/-! list(range(..)) -/
section
variable {X : Cx} {a b : Expr}
def tRgA1 (ta : TA) : L2.St → Hp → (Int → Int → Hp → Prop) → Prop := fun σ H Q => ta σ H fun xs H1 => ∃ n, xs = [.int n] ∧ Q 0 n H1
def tRgA2 (ta : TA) : L2.St → Hp → (Int → Int → Hp → Prop) → Prop := fun σ H Q => ta σ H fun xs H1 => ∃ i j, xs = [.int i, .int j] ∧ Q i j H1
theorem prg_A1 {ta : TA} {p pos : Pos} (hg : Gl X "range") (hm : X.mg "range" = none) (ha : PA X [a] ta) (hs : starEach [a] X.env = [(false, eval a X.env)] := by rfl) : PRg X (.Call (.Name "range" p) [a] [] pos) (tRgA1 ta) := by
  intro pins s σ H Q I h
  refine Call_ (ld_blt I hg hm boot_range (PyProof.Rows.callWith_type1 (thn (ha.run pos pins s σ H _ I h) fun us s1 ⟨vs, H1, I1, r1, q1⟩ => ?_) hs rfl))
  obtain ⟨n, e, q⟩ := q1
  subst e
  cases r1 with
  | cons r rr =>
    cases rr
    obtain ⟨t, rfl⟩ := r
    exact call_range_1 ⟨_, 0, n, _, _, _, H1, rfl, IsRange.new _ _ _ _ _ _ _, I1.kept fun b u e => Heap.get?_push_of_some _ e, q⟩
theorem prg_A2 {ta : TA} {p pos : Pos} (hg : Gl X "range") (hm : X.mg "range" = none) (ha : PA X [a, b] ta) (hs : starEach [a, b] X.env = [(false, eval a X.env), (false, eval b X.env)] := by rfl) (hs2 : starEach [b] X.env = [(false, eval b X.env)] := by rfl) :
    PRg X (.Call (.Name "range" p) [a, b] [] pos) (tRgA2 ta) := by
  intro pins s σ H Q I h
  refine Call_ (ld_blt I hg hm boot_range (PyProof.Rows.callWith_type1 (thn (ha.run pos pins s σ H _ I h) fun us s1 ⟨vs, H1, I1, r1, q1⟩ => ?_) (by rw [hs, hs2]) (by rw [hs2]; rfl)))
  obtain ⟨i, j, e, q⟩ := q1
  subst e
  cases r1 with
  | cons r rr =>
    cases rr with
    | cons r' rr =>
      cases rr
      obtain ⟨t, rfl⟩ := r
      obtain ⟨t', rfl⟩ := r'
      exact call_range_2 ⟨_, i, j, _, _, _, H1, rfl, IsRange.new _ _ _ _ _ _ _, I1.kept fun b u e => Heap.get?_push_of_some _ e, q⟩
/-- list(range(..)) -/
def fLstRg1 (f : FA) : FA := fun ρ M => (f ρ M).bind fun a => match a.1 with | [.int j] => if okR 0 j then some (rgD 0 j.toNat, a.2) else none | _ => none
def fLstRg2 (f : FA) : FA := fun ρ M => (f ρ M).bind fun a => match a.1 with | [.int i, .int j] => if okR i j then some (rgD i (j - i).toNat, a.2) else none | _ => none
theorem rpl_rg (K : PySem.W.Frag) (W : Wo) (lo : Int) : ∀ (l : List Nat), RpL K W (l.map fun (i : Nat) => D.int (lo + i)) (l.map fun (i : Nat) => V.int (lo + i))
  | [] => rfl
  | i :: l => ⟨_, _, rfl, rfl, rpl_rg K W lo l⟩
theorem rgok_of {i j : Int} (h : okR i j = true) : RgOk i j := by
  have := okR_ok h
  exact ⟨by omega, by omega, by omega, by omega, by omega⟩
theorem pfn_listRg1 {f : FA} {p p2 pos pos2 : Pos} (hc : X.calm = true) (hg : Gl X "list") (hm : X.mg "list" = none) (hg2 : Gl X "range") (hm2 : X.mg "range" = none) (ha : PFA X [a] f)
    (hs : starEach [a] X.env = [(false, eval a X.env)] := by rfl) (na : starEach [Expr.Call (.Name "range" p2) [a] [] pos2] X.env = (false, eval (Expr.Call (.Name "range" p2) [a] [] pos2) X.env) :: starEach [] X.env := by rfl) :
    PFN X (.Call (.Name "list" p) [.Call (.Name "range" p2) [a] [] pos2] [] pos) (fLstRg1 f) := pe_weak (pe_listRg hc hg hm (prg_A1 hg2 hm2 ha hs) na) fun σ H Q => by
  rintro ⟨W, ρ, M, rfl, sr, sl, xs, M', hf, k⟩
  obtain ⟨⟨x, M1⟩, hx, hf⟩ := Option.bind_eq_some_iff.mp hf
  dsimp only at hf
  split at hf
  · split at hf
    · rename_i hr
      cases hf
      have hr' := okR_ok hr
      refine ⟨W, ρ, M, rfl, sr, sl, _, _, hx, fun W1 v e1 s1 r1 => ?_⟩
      obtain ⟨v1, r, rfl, q1, q2⟩ := r1
      cases (show _ = _ from q1); cases (show _ = _ from q2)
      refine ⟨_, rfl, rgok_of hr, fun q hq => ?_⟩
      unfold rgV
      rw [Int.sub_zero]
      exact k W1 q _ e1 s1 hq (rpl_rg _ _ _ _) (by rw [List.length_map, List.length_range]; show _ ≤ 16777216; omega)
    · cases hf
  · cases hf
theorem pfn_listRg2 {f : FA} {p p2 pos pos2 : Pos} (hc : X.calm = true) (hg : Gl X "list") (hm : X.mg "list" = none) (hg2 : Gl X "range") (hm2 : X.mg "range" = none) (ha : PFA X [a, b] f)
    (hs : starEach [a, b] X.env = [(false, eval a X.env), (false, eval b X.env)] := by rfl) (hs2 : starEach [b] X.env = [(false, eval b X.env)] := by rfl) (na : starEach [Expr.Call (.Name "range" p2) [a, b] [] pos2] X.env = (false, eval (Expr.Call (.Name "range" p2) [a, b] [] pos2) X.env) :: starEach [] X.env := by rfl) :
    PFN X (.Call (.Name "list" p) [.Call (.Name "range" p2) [a, b] [] pos2] [] pos) (fLstRg2 f) := pe_weak (pe_listRg hc hg hm (prg_A2 hg2 hm2 ha hs hs2) na) fun σ H Q => by
  rintro ⟨W, ρ, M, rfl, sr, sl, xs, M', hf, k⟩
  obtain ⟨⟨x, M1⟩, hx, hf⟩ := Option.bind_eq_some_iff.mp hf
  dsimp only at hf
  split at hf
  · split at hf
    · rename_i hr
      cases hf
      have hr' := okR_ok hr
      refine ⟨W, ρ, M, rfl, sr, sl, _, _, hx, fun W1 v e1 s1 r1 => ?_⟩
      obtain ⟨v1, r, rfl, q1, v2, r', rfl, q2, q3⟩ := r1
      cases (show _ = _ from q1); cases (show _ = _ from q2); cases (show _ = _ from q3)
      refine ⟨_, _, rfl, rgok_of hr, fun q hq => ?_⟩
      exact k W1 q _ e1 s1 hq (rpl_rg _ _ _ _) (by rw [rgV_length]; show _ ≤ 16777216; omega)
    · cases hf
  · cases hf
end
end PF
namespace PF
open PySem PySem.Spec PyProof.Rows L2
/-! sorted(xs) of alike data, any number of them -/
def vsort (ys : List V) (ds : List PyData) : List V := ((ys.zip ds).mergeSort (PySem.W.dataLe false Prod.snd)).map Prod.fst
def rSortedDt (K : PySem.W.Frag) : List V → Hp → VK → Prop := fun vs H Q => ∃ (a : Addr) (ys : List V) (ds : List PyData), vs = [V.ref a] ∧ SqL K H a ys ∧ ds.length = ys.length ∧ DpAll K H ys ds ∧ PySem.W.AllAlike ds ∧ PySem.W.Sortable ds ∧ PyData.depthAll ds ≤ 60 ∧
  ∀ p, H p = none → Q (.ref p) (upd H p (.lst (vsort ys ds)))
theorem zip_each : ∀ {ys : List V} {its : List Value} {ds : List PyData}, Vals ys its → ds.length = ys.length → PySem.W.EachIs (fun (v : Value) (b : V × PyData) => RelV b.1 v) its (ys.zip ds)
  | [], _, [], r, _ => by cases r; exact .nil
  | [], _, _ :: _, _, h => by simp at h
  | _ :: _, _, [], _, h => by simp at h
  | y :: ys, _, d :: ds, r, h => by
    cases r with
    | cons r1 r2 => exact .cons r1 (zip_each r2 (by simpa using h))
theorem zip_snd : ∀ (ys : List V) (ds : List PyData), ds.length = ys.length → (ys.zip ds).map Prod.snd = ds
  | [], [], _ => rfl
  | [], _ :: _, h => by simp at h
  | _ :: _, [], h => by simp at h
  | y :: ys, d :: ds, h => by
    show d :: (ys.zip ds).map Prod.snd = _
    rw [zip_snd ys ds (by simpa using h)]
theorem depth_le : ∀ {ds : List PyData} {d : PyData}, d ∈ ds → d.depth ≤ PyData.depthAll ds
  | x :: ds, d, h => by
    rw [PyData.depthAll]
    rcases List.mem_cons.mp h with rfl | h
    · exact Nat.le_max_left _ _
    · exact Nat.le_trans (depth_le h) (Nat.le_max_right _ _)
theorem each_vals : ∀ {out : List Value} {bs : List (V × PyData)}, PySem.W.EachIs (fun (v : Value) (b : V × PyData) => RelV b.1 v) out bs → Vals (bs.map Prod.fst) out
  | _, _, .nil => .nil
  | _, _, .cons h t => .cons h (each_vals t)
theorem cr_sortedDt {X : Cx} (hu : X.A.units + 64 < cLine) : CallR X (.builtin "sorted") (rSortedDt X.K) := by
  intro pins s σ H vs us Q I r h
  obtain ⟨a, ys, ds, rfl, hs, hlen, hd, hal, hsb, hdp, q⟩ := h
  obtain ⟨its, rv, hl, hz⟩ := I.list hs
  rw [Vals.ref1 r]
  obtain ⟨as, hr⟩ := Dp.readsAll I ds ys its hd rv
  have e1 := zip_snd ys ds hlen
  have hzl : (ys.zip ds).length = ys.length := by rw [List.length_zip, hlen, Nat.min_self]
  have ez := zip_each rv hlen
  have er : PySem.W.EachIs (fun v (b : V × PyData) => ∃ as, Reads s.heap v (Prod.snd b) as) its (ys.zip ds) := PySem.W.readsAll_each Prod.snd (by rw [e1]; exact hr)
  refine PySem.W.sorted_data (enc := Prod.snd) hl.isList ez er (by rw [e1]; exact hal) (by rw [e1]; exact hsb) (by rw [hzl]; exact hz) (fun b hb => ?_) fun out ho hout => ?_
  · have hm : b.2 ∈ ds := by rw [← e1]; exact List.mem_map.mpr ⟨b, hb, rfl⟩
    have := depth_le hm
    omega
  · obtain ⟨n, hn⟩ := sortedAll_at s.heap its out.toArray
    refine ⟨.ref (s.heap.objs.size + 1), upd H (s.heap.objs.size + 1) (.lst (vsort ys ds)), I.laid (t' := s.toks) (fun b o e => sortedAll_old e) (Nat.le_succ _) ⟨?_, out, n, each_vals hout, hn⟩, rfl, q _ (I.hok.fresh (Nat.le_succ _))⟩
    unfold vsort
    rw [List.length_map, (List.mergeSort_perm _ _).length_eq, hzl]
    exact hz
def leD (a b : D) : Bool := PySem.W.dataLe false D.py a b
def sortD (xs : List D) : List D := xs.mergeSort leD
def srtb (xs : List D) : Bool := xs.all (fun d => match d with | .tup (_ :: _) => true | _ => false) || xs.all (fun d => match d with | .int _ => true | .str _ => true | .bl _ => true | _ => false)
def gSortD : GNN := fun ds M => match ds with
  | [d] => (lsOf d M).bind fun xs => if (okAl xs && srtb xs) = true then some (sortD xs) else none
  | _ => none
theorem pys_map : ∀ xs : List D, D.pys xs = xs.map D.py
  | [] => by rw [D.pys]; rfl
  | x :: xs => by rw [D.pys, pys_map xs]; rfl
theorem rpl_zip {K : PySem.W.Frag} {W : Wo} : ∀ {xs : List D} {vs : List V}, RpL K W xs vs → ∃ zs : List (D × V), xs = zs.map Prod.fst ∧ vs = zs.map Prod.snd ∧ ∀ z, z ∈ zs → Rp K W z.1 z.2
  | [], vs, h => ⟨[], rfl, (show vs = [] from h), fun z hz => nomatch hz⟩
  | x :: xs, vs, h => by
    obtain ⟨v, r, rfl, h1, h2⟩ := h
    obtain ⟨zs, e1, e2, e3⟩ := rpl_zip h2
    refine ⟨(x, v) :: zs, by rw [e1]; rfl, by rw [e2]; rfl, fun z hz => ?_⟩
    rcases List.mem_cons.mp hz with rfl | hz
    · exact h1
    · exact e3 z hz
theorem rpl_of {K : PySem.W.Frag} {W : Wo} : ∀ (zs : List (D × V)), (∀ z, z ∈ zs → Rp K W z.1 z.2) → RpL K W (zs.map Prod.fst) (zs.map Prod.snd)
  | [], _ => rfl
  | z :: zs, h => ⟨z.2, _, rfl, h z (by simp), rpl_of zs fun y hy => h y (List.mem_cons_of_mem _ hy)⟩
theorem zip_maps : ∀ zs : List (D × V), (zs.map Prod.snd).zip ((zs.map Prod.fst).map D.py) = zs.map fun z => (z.2, z.1.py)
  | [] => rfl
  | z :: zs => by
    show (z.2, z.1.py) :: (zs.map Prod.snd).zip ((zs.map Prod.fst).map D.py) = _
    rw [zip_maps zs]; rfl
theorem sort_rep {K : PySem.W.Frag} {W : Wo} {xs : List D} {vs : List V} (h : RpL K W xs vs) : RpL K W (sortD xs) (vsort vs (D.pys xs)) := by
  obtain ⟨zs, rfl, rfl, h3⟩ := rpl_zip h
  have a1 : sortD (zs.map Prod.fst) = (zs.mergeSort fun x y => leD x.1 y.1).map Prod.fst := (List.map_mergeSort (f := Prod.fst) (s := leD) (fun a _ b _ => rfl)).symm
  have a2 : vsort (zs.map Prod.snd) (D.pys (zs.map Prod.fst)) = (zs.mergeSort fun x y => leD x.1 y.1).map Prod.snd := by
    unfold vsort
    rw [pys_map, zip_maps]
    rw [← List.map_mergeSort (r := fun x y : D × V => leD x.1 y.1) (f := fun z : D × V => (z.2, z.1.py)) (s := PySem.W.dataLe false Prod.snd) (fun a _ b _ => rfl), List.map_map]
    rfl
  rw [a1, a2]
  exact rpl_of _ fun z hz => h3 z ((List.mergeSort_perm _ _).mem_iff.mp hz)
theorem srtb_ok {xs : List D} (h : srtb xs = true) : PySem.W.Sortable (D.pys xs) := by
  unfold srtb at h
  rw [Bool.or_eq_true] at h
  rcases h with h | h
  · refine .inl fun d hd => ?_
    obtain ⟨z, hz, rfl⟩ := pys_mem hd
    have := List.all_eq_true.mp h z hz
    match z, this with
    | .tup (x :: r), _ => exact ⟨x.py, D.pys r, by rw [D.py, D.pys]⟩
  · refine .inr fun d hd => ?_
    obtain ⟨z, hz, rfl⟩ := pys_mem hd
    have := List.all_eq_true.mp h z hz
    match z, this with
    | .int i, _ => exact ⟨by rw [D.py]; simp, fun xs => by rw [D.py]; simp⟩
    | .str i, _ => exact ⟨by rw [D.py]; simp, fun xs => by rw [D.py]; simp⟩
    | .bl i, _ => exact ⟨by rw [D.py]; simp, fun xs => by rw [D.py]; simp⟩
theorem okAl_ok {xs : List D} (h : okAl xs = true) : D.dps 59 xs = true ∧ PySem.W.AllAlike (D.pys xs) := by
  unfold okAl at h
  rw [Bool.and_eq_true, Bool.and_eq_true, Bool.and_eq_true] at h
  obtain ⟨⟨o1, o2⟩, o3, o4⟩ := h
  refine ⟨o2, fun a ha b hb => ?_⟩
  obtain ⟨a0, ha0, rfl⟩ := pys_mem ha
  obtain ⟨b0, hb0, rfl⟩ := pys_mem hb
  exact List.all_eq_true.mp (List.all_eq_true.mp o3 a0 ha0) b0 hb0
theorem o_sortD {K : PySem.W.Frag} : OpNN K (rSortedDt K) gSortD := by
  intro W M ds xs vs Q sr r hg k
  unfold gSortD at hg
  split at hg
  · obtain ⟨l, hl, hg⟩ := Option.bind_eq_some_iff.mp hg
    split at hg
    · rename_i ok
      cases hg
      rw [Bool.and_eq_true] at ok
      obtain ⟨o1, o2⟩ := okAl_ok ok.1
      obtain ⟨v, rfl, r1⟩ := rl1 r
      have hlen := ls_len sr r1 hl
      obtain ⟨p, us, rfl, h1, r2⟩ := ls_sq sr r1 hl
      have hll : (D.pys l).length = us.length := by rw [pys_map, List.length_map, r2.len]
      refine ⟨p, us, D.pys l, rfl, h1, hll, dp_Dps 59 l us o1 r2, o2, srtb_ok ok.2, by have := (dps_can 59 l o1).2; omega, fun q hq => ?_⟩
      have r3 := sort_rep r2
      refine k q _ hq r3 ?_
      rw [← r3.len]
      unfold sortD
      rw [(List.mergeSort_perm _ _).length_eq]
      exact hlen
    · cases hg
  · cases hg
/-! x < y of alike data -/
def rLtDt (K : PySem.W.Frag) (g : PyData → PyData → Bool) : R2 := fun x y H Q => ∃ d e, Dp K H x d ∧ Dp K H y e ∧ PySem.W.alike d e = true ∧ d ≠ .none ∧ d.depth ≤ 60 ∧ Q (.bl (g d e)) H
theorem op_ltDt {X : Cx} (hu : X.A.units + 64 < cLine) : OpR X (compareOp .Lt) (rLtDt X.K PySem.W.dataLt) := by
  intro pins s σ H x y v u Q I rx ry h
  obtain ⟨d, e, hd, he, ha, hn, hp, q⟩ := h
  obtain ⟨as, r1⟩ := Dp.reads I d x v hd rx
  obtain ⟨bs, r2⟩ := Dp.reads I e y u he ry
  exact PySem.W.lt_data r1 r2 ha hn (by have := Nat.min_le_left d.depth e.depth; omega) ⟨.bl _, H, I, rfl, q⟩
theorem op_gtDt {X : Cx} (hu : X.A.units + 64 < cLine) : OpR X (compareOp .Gt) (rLtDt X.K fun a b => PySem.W.dataLt b a) := by
  intro pins s σ H x y v u Q I rx ry h
  obtain ⟨d, e, hd, he, ha, hn, hp, q⟩ := h
  obtain ⟨as, r1⟩ := Dp.reads I d x v hd rx
  obtain ⟨bs, r2⟩ := Dp.reads I e y u he ry
  exact PySem.W.gt_data r1 r2 ha hn (by have := Nat.min_le_left d.depth e.depth; omega) ⟨.bl _, H, I, rfl, q⟩
def gCmpD (g : PyData → PyData → Bool) : G2B := fun x y M => match x.val M, y.val M with
  | some a, some b => if ((a.dp 60 && b.dp 60) && (PySem.W.alike a.py b.py && !isNn a)) = true then some (g a.py b.py) else none
  | _, _ => none
theorem o_cmpD {K : PySem.W.Frag} {g : PyData → PyData → Bool} : Op2 K (rLtDt K g) (gB (gCmpD g)) := by
  intro W M x y d v u Q sr rx ry hg k
  obtain ⟨t, ht, rfl⟩ := Option.map_eq_some_iff.mp hg
  unfold gCmpD at ht
  split at ht
  · rename_i a b ha hb
    split at ht
    · rename_i ok
      cases ht
      rw [Bool.and_eq_true, Bool.and_eq_true, Bool.and_eq_true] at ok
      obtain ⟨⟨o1, o2⟩, o3, o4⟩ := ok
      refine ⟨a.py, b.py, val_Rp sr rx ha o1, val_Rp sr ry hb o2, o3, ?_, (dp_can 60 a o1).2, k W _ (.refl W) sr rfl⟩
      cases a <;> simp [isNn, D.py, D.dp] at o4 o1 ⊢
    · cases ht
  · cases ht
/-! xs.index(y), xs changeable or not -/
def gIndexL : GM := fun x ds M => match ds with
  | [.int y] => (lsOf x M).bind fun xs => (intsOf xs).bind fun ns => (findI (fun z => decide (z = y)) ns).map fun (j : Nat) => (.int (j : Int), M)
  | _ => none
theorem o_indexL {K : PySem.W.Frag} : OpM K (rIndex K) gIndexL := by
  intro W M M' x d ds v vs Q sr rx r hg k
  unfold gIndexL at hg
  split at hg
  · rename_i y
    obtain ⟨xs, hx, hg⟩ := Option.bind_eq_some_iff.mp hg
    obtain ⟨ns, hn, hg⟩ := Option.bind_eq_some_iff.mp hg
    obtain ⟨j, hj, hg⟩ := Option.map_eq_some_iff.mp hg
    cases hg
    obtain ⟨u, rfl, r1⟩ := rl1 r
    cases (show _ = _ from r1)
    obtain ⟨z, h1, h2, h3⟩ := findI_ok hj
    obtain ⟨a, us, rfl, h4, r2⟩ := ls_sq sr rx hx
    have eus := intsOf_ok hn r2
    subst eus
    refine ⟨a, _, .int y, j, .int z, rfl, rfl, h4, rfl, ?_, ?_, ?_, fun m z' hm hz => ?_, k W _ (.refl W) sr rfl⟩
    · rw [List.all_map]
      exact List.all_eq_true.mpr fun _ _ => rfl
    · rw [List.getElem?_map, h1]; rfl
    · have : z = y := of_decide_eq_true h2
      subst this
      simp [eqV]
    · rw [List.getElem?_map] at hz
      obtain ⟨i, hi, rfl⟩ := Option.map_eq_some_iff.mp hz
      have := h3 m i hm hi
      have hne : i ≠ y := of_decide_eq_false this
      simp [eqV, hne]
  · cases hg
end PF
namespace PF
open PySem PySem.Spec PyProof.Rows L2
/-! set(list of ints), its table told -/
section
variable {P : Program} {w : World} {A : Around} {E : Value → Shared → Prop} {s : Shared}
/-- an empty set, as it is made -/
abbrev oE (w : World) : Obj := { cls := .type "set", dict := none, data := .set #[] 0 (.fresh 0 0 (!w.params.followText "set-order")) }
abbrev hE (w : World) (h : Heap) : Heap := h.push (oE w)
theorem hE_size (w : World) (h : Heap) : (hE w h).objs.size = h.objs.size + 1 := Heap.size_push ..
theorem call_set_lstI {l : Addr} {items : Array Value} (ns : List Int) {Q : Value → Shared → Prop} (hd : A.handled = none) (il : s.heap.IsList l items) (ii : IntsAre items.toList ns) (room : ns.length + 1 < scanBound)
    (q : ∀ (g : Heap) (tk c : Nat), SetR w g s.heap.objs.size (fun j => decide (j ∈ ns)) c → c ≤ ns.length → (∀ b o, s.heap.get? b = some o → g.get? b = some o) → Q (.ref s.heap.objs.size) { s with heap := g, toks := tk }) : wpAny (model P w) A (call (.type "set") [.ref l]) Q E s := by
  have isz : items.size = ns.length := by
    have z := ii.length
    simpa using z
  have ⟨cl, rest, mro⟩ := F.called_set.mro
  have made := F.called_set.made; have sub := F.called_set.sub
  refine wpAny_call (codeAny_of_tree (show wpAny _ _ (callAny (.type "set") _) _ _ _ from wpAny_pure ⟨Code.quiet_builtin _ (by decide +kernel), codeAny_builtin F.entry_type_call ?_⟩))
  rw [Around.under_plain (weight_type_call_type "set" [.ref l] []) rfl]
  have n1 := F.called_set.notType; have n2 := F.called_set.canCreate; have n3 := F.typeCall_set_1 (.ref l)
  repeat (any_goals (first | assumption | wp_step))
  refine codeAny_mono (code_set_led1 (.ref l) (E := E) (Q₁ := fun obj s₁ => obj = .ref s.heap.objs.size ∧ s₁ = { s with heap := hE w s.heap }) ⟨rfl, rfl⟩) fun r s₁ hr => ?_
  rcases r with e | fl
  · exact hr
  cases fl with
  | ret obj =>
    obtain ⟨rfl, rfl⟩ := hr
    have got : (hE w s.heap).get? s.heap.objs.size = some (oE w) := Heap.get?_push_size _ rfl
    have tis : Shared.TypeIs { s with heap := hE w s.heap } (.ref s.heap.objs.size) "set" := ⟨_, got, rfl⟩
    have i1 := F.called_set.init.lookup; have i2 := F.called_set.init.bind (.ref s.heap.objs.size)
    repeat (any_goals (first | assumption | wp_step))
    refine codeAny_mono (codeAny_call_builtin (R := wants (fun r s₂ => r = .none ∧ ∃ g tk c, s₂ = { s with heap := g, toks := tk } ∧ SetR w g s.heap.objs.size (fun j => decide (j ∈ ns)) c ∧ c ≤ ns.length ∧ ∀ b o, s.heap.get? b = some o → g.get? b = some o) E) F.called_set.init.plain F.entry_set_init (check_set_init_1 tis ?_)) fun r₂ s₂ hr₂ => ?_
    · obtain ⟨⟨k1, k2, k3, k4⟩, ho, hc, nl, hdt⟩ := il
      simp only at hc hdt
      subst hc hdt
      have ho2 : (hE w s.heap).get? l = some { cls := .type "list", dict := k2, data := .seq items nl, slots := k4 } := Heap.get?_push_of_some _ ho
      have s1 := F.sub_list_set; have s2 := F.sub_list_frozenset
      have s3 : (Value.type "list" == Value.type "dict") = false := by decide
      have il2 : (hE w s.heap).IsList l items := ⟨_, ho2, rfl, nl, rfl⟩
      unfold Builtin.«set.__init__» noKeywords Builtin.Frozenset.updateFrom
      generalize hit : pyIter = it
      wp_walk
      subst hit
      refine wpAny_pyIter_list il2 (wpAny_bind (wpAny_runValue ?_))
      have lt : l < s.heap.objs.size := Heap.lt_size ho
      have sz := hE_size w s.heap
      have hd3 : A.in1.in1.in1.handled = none := by simp [hd]
      have lI : l ≠ (hE w s.heap).objs.size := by rw [sz]; exact Nat.ne_of_lt (Nat.lt_succ_of_lt lt)
      have sI : s.heap.objs.size ∉ [(hE w s.heap).objs.size, l] := by
        rw [sz]
        simp only [List.mem_cons, List.not_mem_nil, or_false, not_or]
        exact ⟨Nat.ne_of_lt (Nat.lt_succ_self _), Nat.ne_of_gt lt⟩
      refine set_update_ints ((Walks.list hd3 _ l lI items).toS) s.heap.objs.size sI ns isz room (fun i v hv => ?_) (items.size - 0) 0 _ (by omega) (Nat.zero_le _) ⟨⟨_, Heap.get?_push_size _ rfl, rfl, rfl⟩, (il2.push _)⟩ ⟨0, Nat.le_refl 0, setR_new_at (Heap.get?_push_of_some _ got)⟩ fun s' c' hm hc' hS' => ?_
      · have lti : i < ns.length := by rw [← isz]; exact (Array.getElem?_eq_some_iff.mp hv).1
        obtain ⟨t, e⟩ := IntsAre.int_at ii i v (by rw [Array.getElem?_toList]; exact hv)
        exact ⟨ns[i], t, List.getElem?_eq_getElem lti, by rw [e, List.getD_eq_getElem?_getD, List.getElem?_eq_getElem lti] <;> rfl⟩
      · obtain ⟨g, g2, d', tk', os'⟩ := s'
        have eg : g2 = s.gens := hm.gens
        have ed : d' = s.drawn := hm.drawn
        have eo : os' = s.os := hm.os
        subst eg ed eo
        rw [isz] at hc'
        refine wpAny_pure (wpAny_pure ⟨rfl, g, tk', c', rfl, hS', hc', fun b o e => ?_⟩)
        have b0 : b < s.heap.objs.size := Heap.lt_size e
        refine hm.heap b o ?_ (Heap.get?_push_of_some _ (Heap.get?_push_of_some _ e))
        rw [sz]
        simp only [List.mem_cons, List.not_mem_nil, or_false, not_or]
        exact ⟨Nat.ne_of_lt b0, Nat.ne_of_lt (Nat.lt_succ_of_lt b0)⟩
    · rcases r₂ with e | fl₂
      · exact hr₂
      cases fl₂ with
      | ret r =>
        obtain ⟨rfl, g, tk, c', rfl, a1, a2, a3⟩ := hr₂
        repeat (any_goals (first | assumption | wp_step))
        exact q _ _ _ a1 a2 a3
      | _ => exact hr₂.elim
  | _ => exact hr.elim
end
/-! unlike ints, ascending -/
def dedS : List Int → List Int
  | [] => []
  | x :: xs => match dedS xs with
    | [] => [x]
    | y :: ys => if x = y then y :: ys else x :: y :: ys
theorem dedS_mem : ∀ (xs : List Int) (k : Int), k ∈ dedS xs ↔ k ∈ xs
  | [], k => by simp [dedS]
  | x :: xs, k => by
    have ih := dedS_mem xs k
    rw [List.mem_cons, ← ih, dedS]
    cases h : dedS xs with
    | nil => simp
    | cons y ys =>
      by_cases e : x = y
      · subst e; simp
      · simp [e]
theorem dedS_lt : ∀ {xs : List Int}, xs.Pairwise (· ≤ ·) → (dedS xs).Pairwise (· < ·)
  | [], _ => by simp [dedS]
  | x :: xs, h => by
    have ih := dedS_lt h.of_cons
    have m := dedS_mem xs
    rw [dedS]
    cases q : dedS xs with
    | nil => simp
    | cons y ys =>
      rw [q] at ih
      by_cases e : x = y
      · simp only [e, if_true]; exact ih
      · simp only [e, if_false]
        have hy : x < y := by
          have := List.rel_of_pairwise_cons h ((m y).mp (by rw [q]; simp))
          omega
        refine List.pairwise_cons.mpr ⟨fun z hz => ?_, ih⟩
        rcases List.mem_cons.mp hz with rfl | hz
        · exact hy
        · have := List.rel_of_pairwise_cons ih hz; omega
def sortU (ns : List Int) : List Int := dedS (sortI ns)
theorem sortU_lt (ns : List Int) : (sortU ns).Pairwise (· < ·) := dedS_lt (sortI_le ns)
theorem sortU_mem (ns : List Int) (k : Int) : k ∈ sortU ns ↔ k ∈ ns := (dedS_mem _ k).trans (sortI_perm ns).mem_iff
theorem lt_uniq : ∀ {a b : List Int}, a.Pairwise (· < ·) → b.Pairwise (· < ·) → (∀ k, k ∈ a ↔ k ∈ b) → a = b
  | [], [], _, _, _ => rfl
  | [], y :: b, _, _, h => absurd ((h y).mpr (by simp)) (by simp)
  | x :: a, [], _, _, h => absurd ((h x).mp (by simp)) (by simp)
  | x :: a, y :: b, ha, hb, h => by
    have e : x = y := by
      rcases List.mem_cons.mp ((h x).mp (by simp)) with e | hx
      · exact e
      · rcases List.mem_cons.mp ((h y).mpr (by simp)) with e | hy
        · exact e.symm
        · have h1 := List.rel_of_pairwise_cons ha hy
          have h2 := List.rel_of_pairwise_cons hb hx
          omega
    subst e
    rw [lt_uniq ha.of_cons hb.of_cons fun k => ?_]
    have hk := h k
    rw [List.mem_cons, List.mem_cons] at hk
    constructor
    · intro z
      have := List.rel_of_pairwise_cons ha z
      rcases hk.mp (.inr z) with e | e
      · omega
      · exact e
    · intro z
      have := List.rel_of_pairwise_cons hb z
      rcases hk.mpr (.inr z) with e | e
      · omega
      · exact e
theorem sortU_len (ns : List Int) : (sortU ns).length ≤ ns.length := by
  have : ∀ xs : List Int, (dedS xs).length ≤ xs.length := by
    intro xs
    induction xs with
    | nil => simp [dedS]
    | cons x xs ih =>
      rw [dedS]
      cases h : dedS xs with
      | nil => simp
      | cons y ys =>
        rw [h] at ih
        by_cases e : x = y <;> simp [e] at ih ⊢ <;> omega
  exact Nat.le_trans (this _) (Nat.le_of_eq (sortI_perm ns).length_eq)
theorem nodup_lt {a : List Int} (h : a.Pairwise (· < ·)) : a.Nodup := h.imp fun z => by omega
theorem nodup_len {a b : List Int} (ha : a.Nodup) (hb : b.Nodup) (h : ∀ k, k ∈ a ↔ k ∈ b) : a.length = b.length := (List.perm_ext_iff_of_nodup ha hb |>.mpr h).length_eq
/-- set of a list or a tuple of ints -/
def rSetI (K : PySem.W.Frag) (w : World) : List V → Hp → VK → Prop := fun xs H Q => ∃ (l : Addr) (ns : List Int), xs = [V.ref l] ∧ (SqL K H l (ns.map V.int) ∨ SqT K H l (ns.map V.int)) ∧ ns.length ≤ 4000 ∧
  ∀ a, H a = none → Q (.ref a) (upd H a (SetO w a (fun j => decide (j ∈ ns)) (sortU ns).length))
theorem cr_setI {X : Cx} (hc : X.calm = true) : CallR X (.type "set") (rSetI X.K X.w) := by
  intro pins s σ H xs us Q I r h
  obtain ⟨l, ns, rfl, hl, hn, q⟩ := h
  rw [Vals.ref1 r]
  have fin : ∀ (g : Heap) (tk c : Nat), SetR X.w g s.heap.objs.size (fun j => decide (j ∈ ns)) c → c ≤ ns.length → (∀ b o, s.heap.get? b = some o → g.get? b = some o) → _ := fun g tk c a1 a2 a3 => by
    have ec : c = (sortU ns).length := by
      obtain ⟨o, es, ep, t, _, _, _, _, nd, hm, _, _, hsz, _⟩ := a1
      have : (es.toList.map keyOf).length = (sortU ns).length := nodup_len nd (nodup_lt (sortU_lt ns)) fun k => by
        rw [← hm k, decide_eq_true_eq, sortU_mem]
      rw [← this, List.length_map, Array.length_toList]
      exact hsz.symm
    subst ec
    exact (⟨.ref s.heap.objs.size, upd H s.heap.objs.size (SetO X.w s.heap.objs.size (fun j => decide (j ∈ ns)) _), I.laid (t' := tk) a3 (Nat.le_refl _) (setO_new a1), rfl, q _ (I.hok.fresh (Nat.le_refl _))⟩ : ∃ v H', Inv X pins σ H' { s with heap := g, toks := tk } ∧ RelV v (.ref s.heap.objs.size) ∧ Q v H')
  rcases hl with hl | hl
  · obtain ⟨its, rv, pl, hz⟩ := I.list hl
    exact call_set_lstI ns (I.ok.hd hc) pl.isList (by simpa using ints_of_vals rv) (by unfold scanBound; omega) fin
  · obtain ⟨its, rv, pl, hz⟩ := I.tuple hl
    exact call_set_tupI ns (I.ok.hd hc) pl (by simpa using ints_of_vals rv) (by unfold scanBound; omega) fin
/-- len of a set of ints -/
def rLenS (w : World) : List V → Hp → VK → Prop := fun vs H Q => ∃ (a : Addr) (S : Int → Bool) (n : Nat), vs = [V.ref a] ∧ H a = some (SetO w a S n) ∧ Q (.int n) H
theorem cr_lenS {X : Cx} : CallR X (.builtin "len") (rLenS X.w) := by
  intro pins s σ H vs us Q I r h
  obtain ⟨a, S, n, rfl, ha, q⟩ := h
  obtain ⟨o, es, ep, t, ho, hex, hd, _, _, _, hb, hf, hsz, _⟩ := setO_get I ha
  rw [Vals.ref1 r]
  unfold scanBound at hb
  exact call_len_set ho hex hd hf (by omega) ⟨.int n, H, I.tok _, ⟨_, by rw [hsz]⟩, q⟩
def gSortU : GNN := fun ds M => match ds with
  | [d] => (sqOf d M).bind fun xs => (intsOf xs).bind fun ns => if ns.length < 64 then some ((sortU ns).map D.int) else none
  | _ => none
def gLenU : GN := fun ds M => match ds with
  | [d] => (sqOf d M).bind fun xs => (intsOf xs).bind fun ns => if ns.length ≤ 4000 then some (.int (sortU ns).length) else none
  | _ => none
theorem gSortU_ok {ds xs : List D} {M : Mem} (h : gSortU ds M = some xs) : ∃ d l ns, ds = [d] ∧ sqOf d M = some l ∧ intsOf l = some ns ∧ ns.length < 64 ∧ xs = (sortU ns).map D.int := by
  unfold gSortU at h
  split at h
  · obtain ⟨l, hl, h⟩ := Option.bind_eq_some_iff.mp h
    obtain ⟨ns, hn, h⟩ := Option.bind_eq_some_iff.mp h
    split at h
    · rename_i h64
      cases h
      exact ⟨_, l, ns, rfl, hl, hn, h64, rfl⟩
    · cases h
  · cases h
theorem gLenU_ok {ds : List D} {x : D} {M : Mem} (h : gLenU ds M = some x) : ∃ d l ns, ds = [d] ∧ sqOf d M = some l ∧ intsOf l = some ns ∧ ns.length ≤ 4000 ∧ x = .int (sortU ns).length := by
  unfold gLenU at h
  split at h
  · obtain ⟨l, hl, h⟩ := Option.bind_eq_some_iff.mp h
    obtain ⟨ns, hn, h⟩ := Option.bind_eq_some_iff.mp h
    split at h
    · rename_i h64
      cases h
      exact ⟨_, l, ns, rfl, hl, hn, h64, rfl⟩
    · cases h
  · cases h
section
variable {X : Cx} {e : Expr} {fa : FA} {p1 p2 pos1 pos : Pos}
theorem sqI {K : PySem.W.Frag} {W : Wo} {M : Mem} {d : D} {v : V} {xs : List D} {ns : List Int} (sr : SR K W M) (r : Rp K W d v) (hl : sqOf d M = some xs) (hn : intsOf xs = some ns) : ∃ l, v = V.ref l ∧ (SqL K W.H l (ns.map V.int) ∨ SqT K W.H l (ns.map V.int)) := by
  obtain ⟨l, us, rfl, h1, r2⟩ := sq_sq sr r hl
  have ee := intsOf_ok hn r2
  subst ee
  exact ⟨l, rfl, h1⟩
/-- sorted(set(xs)), of ints -/
theorem pfn_sortU (hgs : Gl X "sorted") (hms : X.mg "sorted" = none) (hg : Gl X "set") (hm : X.mg "set" = none) (ha : PFA X [e] fa) (hc : X.calm = true := by rfl)
    (he : starEach [e] X.env = (false, eval e X.env) :: starEach [] X.env := by rfl) (he2 : starEach [.Call (.Name "set" p2) [e] [] pos1] X.env = (false, eval (.Call (.Name "set" p2) [e] [] pos1) X.env) :: starEach [] X.env := by rfl)
    : PFN X (.Call (.Name "sorted" p1) [.Call (.Name "set" p2) [e] [] pos1] [] pos) (fBN gSortU fa) :=
  pe_weak (pe_callB (cr_sortedSet hc) hgs hms PyProof.Rows.boot_sorted (pa_cons (pe_callTy (cr_setI hc) hg hm PyProof.Rows.boot_set ha (by decide) (by decide) he (by rfl)) pa_nil he2) (by decide) (by decide) he2 (by rfl)) fun σ H Q => by
  rintro ⟨W, ρ, M, rfl, sr, sl, d, M', hf, k⟩
  obtain ⟨⟨ds, M1⟩, hx, hf⟩ := Option.bind_eq_some_iff.mp hf
  obtain ⟨d', hg, hf⟩ := Option.bind_eq_some_iff.mp hf
  cases hf
  refine ⟨W, ρ, M, rfl, sr, sl, ds, _, hx, fun W1 vs e1 s1 r1 => ?_⟩
  obtain ⟨d0, l, ns, rfl, hl, hn, h64, rfl⟩ := gSortU_ok hg
  obtain ⟨v, rfl, r2⟩ := rl1 r1
  obtain ⟨p, rfl, h1⟩ := sqI s1 r2 hl hn
  refine ⟨p, ns, rfl, h1, by omega, fun a ha => ?_⟩
  refine ⟨a, _, _, rfl, upd_same, Nat.lt_of_le_of_lt (sortU_len ns) h64, fun ns' q hlt hmem hlen hq => ?_⟩
  have ee : ns' = sortU ns := lt_uniq hlt (sortU_lt ns) fun k => by rw [hmem k, decide_eq_true_eq, sortU_mem]
  subst ee
  exact k (W1.put a _) q _ (e1.trans (Ext.put ha)) (s1.put ha) hq (rpl_ints _) (by rw [List.length_map]; have := sortU_len ns; show _ ≤ 16777216; omega)
/-- len(set(xs)), of ints -/
theorem pf_lenU (hgs : Gl X "len") (hms : X.mg "len" = none) (hg : Gl X "set") (hm : X.mg "set" = none) (ha : PFA X [e] fa) (hc : X.calm = true := by rfl)
    (he : starEach [e] X.env = (false, eval e X.env) :: starEach [] X.env := by rfl) (he2 : starEach [.Call (.Name "set" p2) [e] [] pos1] X.env = (false, eval (.Call (.Name "set" p2) [e] [] pos1) X.env) :: starEach [] X.env := by rfl)
    : PFE X (.Call (.Name "len" p1) [.Call (.Name "set" p2) [e] [] pos1] [] pos) (fB gLenU fa) :=
  pe_weak (pe_callB cr_lenS hgs hms boot_len (pa_cons (pe_callTy (cr_setI hc) hg hm PyProof.Rows.boot_set ha (by decide) (by decide) he (by rfl)) pa_nil he2) (by decide) (by decide) he2 (by rfl)) fun σ H Q => by
  rintro ⟨W, ρ, M, rfl, sr, sl, d, M', hf, k⟩
  obtain ⟨⟨ds, M1⟩, hx, hf⟩ := Option.bind_eq_some_iff.mp hf
  obtain ⟨d', hg, hf⟩ := Option.bind_eq_some_iff.mp hf
  cases hf
  refine ⟨W, ρ, M, rfl, sr, sl, ds, _, hx, fun W1 vs e1 s1 r1 => ?_⟩
  obtain ⟨d0, l, ns, rfl, hl, hn, h64, rfl⟩ := gLenU_ok hg
  obtain ⟨v, rfl, r2⟩ := rl1 r1
  obtain ⟨p, rfl, h1⟩ := sqI s1 r2 hl hn
  refine ⟨p, ns, rfl, h1, by omega, fun a ha => ?_⟩
  exact ⟨a, _, _, rfl, upd_same, k (W1.put a _) _ (e1.trans (Ext.put ha)) (s1.put ha) rfl⟩
end
end PF
namespace PF
open PySem PySem.Spec PyProof.Rows L2
/-! xs += ys, of lists -/
def gIExt : G2M := fun x y M => (mlOf x M).bind fun l => (ltOf y M).bind fun ys => if l.2.length + ys.length ≤ LINE then some (x, M.set l.1 (.lst (l.2 ++ ys))) else none
theorem o_iext {K : PySem.W.Frag} : Op2M K rExt2 gIExt := by
  intro W M M' x y d v u Q sr rx ry hg k
  obtain ⟨⟨n, xs⟩, hl, hg⟩ := Option.bind_eq_some_iff.mp hg
  obtain ⟨ys, hy, hg⟩ := Option.bind_eq_some_iff.mp hg
  split at hg
  · rename_i hz
    cases hg
    have rx0 := rx
    obtain ⟨a, ws, rfl, ha, hH, rw_, hlen⟩ := ml_ok sr rx hl
    obtain ⟨b, us, rfl, hB, ru⟩ := lt_sq sr ry hy
    have e := Ext.wr (W := W) (o := .lst (ws ++ us)) (List.mem_of_getElem? ha)
    exact ⟨a, b, ws, us, rfl, rfl, hH, hB, by rw [line_eq, ← rw_.len, ← ru.len]; exact hz, k _ _ e (sr.wr ha (rw_.append ru) (by rw [List.length_append, ← rw_.len, ← ru.len]; exact hz)) (rx0.ext e sr.sub)⟩
  · cases hg
end PF
namespace PF
open PySem PySem.Spec PyProof.Rows L2
/-! a tuple of targets for a list -/
def tTL (n : Nat) (t : FGs) : FG := fun d ρ => match d with | .lst xs => if xs.length = n then t xs ρ else none | _ => none
theorem pfg_lst {X : Cx} {vs : List Nat} {es : List Expr} {k : Nat} {t : FGs} {n : Nat} {pos : Pos} (hc : X.calm = true) (h : PFGs X vs es t) (hn : (assignEach es X.env).length = n := by rfl) (hst : (assignEach es X.env).findIdx? (·.1) = none := by rfl) : PFG X vs (.Tuple es k pos) (tTL n t) := pg_weak (pg_lst hc h hn hst) fun v σ H E => by
  rintro ⟨W, ρ, M, d, rfl, sr, sl, r, ρ', ht, k⟩
  unfold tTL at ht
  split at ht
  · split at ht
    · rename_i hl
      obtain ⟨a, vs, rfl, h1, q1⟩ := ls_sq sr r rfl
      exact ⟨a, vs, rfl, h1, by rw [← q1.len]; exact hl, W, ρ, M, _, rfl, sr, sl, q1, ρ', ht, k⟩
    · cases ht
  · cases ht
/-! tuple(range(..)) -/
def fTupRg1 (f : FA) : FE := fun ρ M => (f ρ M).bind fun a => match a.1 with | [.int j] => if okR 0 j then some (.tup (rgD 0 j.toNat), a.2) else none | _ => none
section
variable {X : Cx} {a : Expr}
theorem pf_tupRg1 {f : FA} {p p2 pos pos2 : Pos} (hc : X.calm = true) (hg : Gl X "tuple") (hm : X.mg "tuple" = none) (hg2 : Gl X "range") (hm2 : X.mg "range" = none) (ha : PFA X [a] f)
    (hs : starEach [a] X.env = [(false, eval a X.env)] := by rfl) (na : starEach [Expr.Call (.Name "range" p2) [a] [] pos2] X.env = (false, eval (Expr.Call (.Name "range" p2) [a] [] pos2) X.env) :: starEach [] X.env := by rfl) :
    PFE X (.Call (.Name "tuple" p) [.Call (.Name "range" p2) [a] [] pos2] [] pos) (fTupRg1 f) := pe_weak (pe_tupRg hc hg hm (prg_A1 hg2 hm2 ha hs) na) fun σ H Q => by
  rintro ⟨W, ρ, M, rfl, sr, sl, xs, M', hf, k⟩
  obtain ⟨⟨x, M1⟩, hx, hf⟩ := Option.bind_eq_some_iff.mp hf
  dsimp only at hf
  split at hf
  · split at hf
    · rename_i j hr
      cases hf
      refine ⟨W, ρ, M, rfl, sr, sl, _, _, hx, fun W1 v e1 s1 r1 => ?_⟩
      obtain ⟨v1, r, rfl, q1, q2⟩ := r1
      cases (show _ = _ from q1); cases (show _ = _ from q2)
      refine ⟨_, rfl, rgok_of hr, fun q hq => ?_⟩
      have e2 : rgV 0 j = (List.range j.toNat).map fun (i : Nat) => V.int (0 + i) := by
        unfold rgV; simp
      rw [e2]
      have hr2 := okR_ok hr
      exact k _ _ (e1.trans (Ext.put hq)) (s1.put hq) (.newTup s1 hq (rpl_rg X.K W1 0 (List.range j.toNat)) (by rw [List.length_map, List.length_range]; show _ ≤ 16777216; omega))
    · cases hf
  · cases hf
end
end PF
namespace PF
open PySem PySem.Spec PyProof.Rows L2
/-! a block of statements whose own new lists nobody changes behind it: they are frozen at its end -/
def frE (m : Nat) (M1 : Mem) : D → Option D
  | .ref j => if j < m then some (.ref j) else match M1[j]? with
    | some (.lst xs) => if D.nrs xs = true then some (.lst xs) else none
    | none => none
  | d => if d.nr = true then some d else none
def frL (m : Nat) (M1 : Mem) : List D → Option (List D)
  | [] => some []
  | d :: ds => (frE m M1 d).bind fun e => (frL m M1 ds).bind fun es => some (e :: es)
def frMs (m : Nat) (M1 : Mem) : Mem → Option Mem
  | [] => some []
  | .lst xs :: ms => (frL m M1 xs).bind fun ys => (frMs m M1 ms).bind fun ns => some (.lst ys :: ns)
def frS (m : Nat) (M1 : Mem) (ρ : Rho) : Rho := ρ.map fun o => o.bind fun d => frE m M1 d
def sBlk (f : FS) : FS := fun ρ M => (f ρ M).bind fun o => (frMs M.length o.2 (o.2.take M.length)).bind fun M' => match o.1 with
  | .nx ρ1 => some (.nx (frS M.length o.2 ρ1), M')
  | .bk ρ1 => some (.bk (frS M.length o.2 ρ1), M')
  | .ct ρ1 => some (.ct (frS M.length o.2 ρ1), M')
  | .ret d => (frE M.length o.2 d).bind fun e => some (.ret e, M')
def cutW (W : Wo) (m : Nat) : Wo := ⟨W.as.take m, fun a => W.bad a ∧ a ∉ W.as.drop m, W.H⟩
section
variable {K : PySem.W.Frag} {W W1 : Wo} {M M1 : Mem}
theorem frE_ok {m : Nat} {d e : D} {v : V} (s : SR K W1 M1) (r : Rp K W1 d v) (h : frE m M1 d = some e) : Rp K (cutW W1 m) e v := by
  have other : (if d.nr = true then some d else none) = some e → Rp K (cutW W1 m) e v := fun h => by
    split at h
    · rename_i hn
      cases h
      exact Rp.nr (W := W1) (W' := cutW W1 m) rfl (fun _ z => z.1) _ _ hn r
    · cases h
  cases d with
  | ref j =>
    have h : (if j < m then some (D.ref j) else match M1[j]? with
      | some (.lst xs) => if D.nrs xs = true then some (D.lst xs) else none
      | none => none) = some e := h
    obtain ⟨a, h1, rfl⟩ := r
    by_cases hj : j < m
    · rw [if_pos hj] at h
      cases h
      exact ⟨a, by show (W1.as.take m)[j]? = _; rw [List.getElem?_take_of_lt hj]; exact h1, rfl⟩
    · rw [if_neg hj] at h
      split at h
      · rename_i xs hx
        split at h
        · rename_i hn
          cases h
          obtain ⟨vs, q1, q2⟩ := s.obj j a _ h1 hx
          have hd : a ∈ W1.as.drop m := by
            have : (W1.as.drop m)[j - m]? = some a := by rw [List.getElem?_drop, show m + (j - m) = j by omega]; exact h1
            exact List.mem_of_getElem? this
          exact ⟨a, vs, rfl, ⟨⟨q1.1, fun z => z.2 hd⟩, q1.2⟩, RpL.nr (W := W1) (W' := cutW W1 m) rfl (fun _ z => z.1) _ _ hn q2⟩
        · cases h
      · cases h
  | non => exact other h
  | bl _ => exact other h
  | int _ => exact other h
  | str _ => exact other h
  | tup _ => exact other h
  | lst _ => exact other h
  | kst _ => exact other h
theorem frL_ok {m : Nat} (s : SR K W1 M1) : ∀ {ds es : List D} {vs : List V}, RpL K W1 ds vs → frL m M1 ds = some es → RpL K (cutW W1 m) es vs
  | [], _, _, r, h => by cases h; exact r
  | d :: ds, es, vs, r, h => by
    obtain ⟨v, w, rfl, r1, r2⟩ := r
    obtain ⟨e, h1, h⟩ := Option.bind_eq_some_iff.mp h
    obtain ⟨es', h2, h⟩ := Option.bind_eq_some_iff.mp h
    cases h
    exact ⟨v, w, rfl, frE_ok s r1 h1, frL_ok s r2 h2⟩
theorem frMs_at {m : Nat} : ∀ {ms ns : Mem}, frMs m M1 ms = some ns → ms.length = ns.length ∧ ∀ (n : Nat) (mo : MO), ns[n]? = some mo → ∃ xs ys, ms[n]? = some (.lst xs) ∧ mo = .lst ys ∧ frL m M1 xs = some ys
  | [], ns, h => by cases h; exact ⟨rfl, fun n mo h => by simp at h⟩
  | .lst xs :: ms, ns, h => by
    obtain ⟨ys, h1, h⟩ := Option.bind_eq_some_iff.mp h
    obtain ⟨ns', h2, h⟩ := Option.bind_eq_some_iff.mp h
    cases h
    obtain ⟨l, a⟩ := frMs_at h2
    refine ⟨by simp [l], fun n mo hn => ?_⟩
    cases n with
    | zero =>
      simp at hn
      exact ⟨xs, ys, rfl, hn.symm, h1⟩
    | succ n => exact a n mo (by simpa using hn)
theorem cut_ok {M' : Mem} (sr : SR K W M) (ex : Ext W W1) (s : SR K W1 M1) (h : frMs M.length M1 (M1.take M.length) = some M') : Ext W (cutW W1 M.length) ∧ SR K (cutW W1 M.length) M' := by
  obtain ⟨new, ea, fr⟩ := ex.as
  have hl := sr.len
  have ht : W1.as.take M.length = W.as := by rw [ea, ← hl, List.take_left]
  have hd : W1.as.drop M.length = new := by rw [ea, ← hl, List.drop_left]
  obtain ⟨l, at_⟩ := frMs_at h
  have hlen : (cutW W1 M.length).as.length = M'.length := by
    show (W1.as.take M.length).length = _
    rw [← l, ht, List.length_take, ← s.len, ea, List.length_append]
    omega
  refine ⟨⟨⟨[], by show W1.as.take M.length = _; rw [ht, List.append_nil], fun _ z => by simp at z⟩, fun a z => ⟨ex.bad a z, fun q => ?_⟩, fun a z => ex.new a z.1, ex.keep, ex.live⟩, ⟨hlen, ?_, fun a z => ?_, fun a z => s.bt a z.1, fun n a mo h1 h2 => ?_⟩⟩
  · rw [hd] at q
    obtain ⟨o, ho⟩ := sr.bt a z
    rw [fr a q] at ho; cases ho
  · show (W1.as.take M.length).Nodup
    rw [ht]; exact sr.nd
  · have z1 : a ∈ W.as := by rw [← ht]; exact z
    refine ⟨s.sub a (by rw [ea]; exact List.mem_append_left _ z1), fun q => ?_⟩
    rw [hd] at q
    obtain ⟨o, ho⟩ := sr.bt a (sr.sub a z1)
    rw [fr a q] at ho; cases ho
  · obtain ⟨xs, ys, g1, rfl, g2⟩ := at_ n mo h2
    have hn : n < M.length := by
      have := (List.getElem?_eq_some_iff.mp g1).1
      rw [List.length_take] at this; omega
    have h1' : W1.as[n]? = some a := by
      have : (W1.as.take M.length)[n]? = some a := h1
      rw [List.getElem?_take_of_lt hn] at this; exact this
    have g1' : M1[n]? = some (.lst xs) := by rw [List.getElem?_take_of_lt hn] at g1; exact g1
    obtain ⟨vs, q1, q2⟩ := s.obj n a _ h1' g1'
    exact ⟨vs, q1, frL_ok s q2 g2⟩
theorem frS_ok {m : Nat} {ρ : Rho} {σ : L2.St} (s : SR K W1 M1) (h : Sl K W1 ρ σ) : Sl K (cutW W1 m) (frS m M1 ρ) σ := by
  refine ⟨by unfold frS; rw [List.length_map]; exact h.len, fun i d hi => ?_⟩
  unfold frS at hi
  rw [List.getElem?_map] at hi
  cases q : ρ[i]? with
  | none => rw [q] at hi; cases hi
  | some o =>
    rw [q] at hi
    cases o with
    | none => cases hi
    | some d0 =>
      have hi2 : frE m M1 d0 = some d := by simpa using hi
      obtain ⟨v, h1, h2⟩ := h.at_ i d0 q
      exact ⟨v, h1, frE_ok s h2 hi2⟩
end
theorem pfss_blk {X : Cx} {ss : List Stmt} {f : FS} (h : PFSs X ss f) : PFSs X ss (sBlk f) := pss_weak h fun E σ H => by
  rw [liftS_iff, liftS_iff]
  rintro ⟨W, ρ, M, rfl, sr, sl, o', M', hf, k⟩
  obtain ⟨⟨o, M1⟩, hg, hf⟩ := Option.bind_eq_some_iff.mp hf
  obtain ⟨M2, hm, hf⟩ := Option.bind_eq_some_iff.mp hf
  refine ⟨W, ρ, M, rfl, sr, sl, o, M1, hg, ?_⟩
  cases o with
  | nx ρ1 =>
    cases hf
    intro W1 σ1 e1 s1 l1
    obtain ⟨c1, c2⟩ := cut_ok sr e1 s1 hm
    exact k (cutW W1 M.length) σ1 c1 c2 (frS_ok s1 l1)
  | bk ρ1 =>
    cases hf
    intro W1 σ1 e1 s1 l1
    obtain ⟨c1, c2⟩ := cut_ok sr e1 s1 hm
    exact k (cutW W1 M.length) σ1 c1 c2 (frS_ok s1 l1)
  | ct ρ1 =>
    cases hf
    intro W1 σ1 e1 s1 l1
    obtain ⟨c1, c2⟩ := cut_ok sr e1 s1 hm
    exact k (cutW W1 M.length) σ1 c1 c2 (frS_ok s1 l1)
  | ret d =>
    obtain ⟨e, he, hf⟩ := Option.bind_eq_some_iff.mp hf
    cases hf
    intro W1 v e1 s1 r1
    obtain ⟨c1, c2⟩ := cut_ok sr e1 s1 hm
    exact k (cutW W1 M.length) v c1 c2 (frE_ok s1 r1 he)
end PF
namespace PF
open PySem PySem.Spec PyProof.Rows L2
/-! t * 0 of a tuple -/
theorem mul_zero (l : Addr) (items : Array Value) (n : Nat) (dd : Option Addr) (sl : Array (Option Value)) (u : Tok) (he : items.isEmpty = false) :
    Meets (Builtin.«tuple.__mul__» ⟨[.ref l, .int 0 u], []⟩) (fun _ R s => s.heap.get? l = some { cls := .type "tuple", dict := dd, data := .seq items n, slots := sl } ∧
      R (.ok (.ret (Value.ref s.heap.objs.size))) { s with heap := s.heap.push { cls := Value.type "tuple", data := Data.seq #[] }, toks := s.toks }) :=
  .of_wp fun prog w A R s h => by
    obtain ⟨hp, g, d, tk, os⟩ := s
    obtain ⟨hl, h⟩ := h
    have f1 := AutoSeq1.idx_int
    have c1 : (items.isEmpty || (0 : Int) == 1) = false := by rw [he]; rfl
    have c2 : (decide ((0 : Int) ≤ 0) || items.isEmpty) = true := by simp
    wp_walk using wpAny_loadPart' hl
    repeat (first
      | (refine wpAny_ite_false (decide_eq_false (by decide)) ?_; wp_walk using wpAny_loadPart' hl)
      | (refine wpAny_ite_false (decide_eq_false (by rw [c1]; exact Bool.false_ne_true)) ?_; wp_walk using wpAny_loadPart' hl)
      | (refine wpAny_ite_true (decide_eq_true (by rw [c2])) ?_; wp_walk using wpAny_loadPart' hl))
    exact ⟨_, rfl, h⟩
def rRep0 (K : PySem.W.Frag) : R2 := fun x y H Q => ∃ l xs, x = .ref l ∧ y = .int 0 ∧ SqT K H l xs ∧ xs ≠ [] ∧ ∀ p, H p = none → Q (.ref p) (upd H p (.tup []))
theorem op_rep0 {X : Cx} : OpR X (binaryOp .Mult) (rRep0 X.K) := by
  intro pins s σ H x y v u Q I rx ry h
  obtain ⟨l, xs, rfl, rfl, hT, hne, q⟩ := h
  cases rx
  obtain ⟨t, rfl⟩ := ry
  obtain ⟨its, r, ⟨⟨cls, dd, data, sl⟩, ho, hc, n, hd⟩, hs⟩ := I.tuple hT
  simp only at hc hd
  subst hc hd
  have hle : its.length = xs.length := r.length.symm
  have hi : its.toArray.isEmpty = false := by
    cases its with
    | nil => exact absurd (List.eq_nil_of_length_eq_zero hle.symm) hne
    | cons a b => rfl
  refine wpAny_binaryOp_repeat_ref (T := "tuple") (U := "int") (by decide) ⟨_, ho, rfl⟩ (fun s' => typeIs_int s' 0 t) noFill_tuple_mul F.fills_int_mul F.slot_int_rmul repeat_tuple F.slot_int_index.lookup
    (call_meets F.slot_int_rmul (typeIs_int s 0 t) F.entry_int_rmul (F.args_int_rmul_2 _ _) (int_rmul_tuple 0 t l its.toArray n dd sl)
      ⟨ho, rfl, ⟨_, ho, rfl⟩, call_meets F.slot_tuple_mul ⟨_, ho, rfl⟩ F.entry_tuple_mul (F.args_tuple_mul_2 _ _) (mul_zero l its.toArray n dd sl t hi) ⟨ho, ?_⟩⟩)
  refine ⟨.ref s.heap.objs.size, _, I.laid (t' := s.toks) (o := .tup []) (fun b ob q => Heap.get?_push_of_some _ q) (Nat.le_refl _) ?_, rfl, q _ (I.hok.fresh (Nat.le_refl _))⟩
  exact ⟨Nat.zero_le _, _, (r.rep 0), IsTup.new _ _⟩
def rRepZ (K : PySem.W.Frag) : R2 := fun x y H Q => rRepA K x y H Q ∨ rRep0 K x y H Q
theorem op_repZ {X : Cx} : OpR X (binaryOp .Mult) (rRepZ X.K) := op_repTA.or op_rep0
def gRepZ : G2 := fun x y M => match x, y with
  | .tup xs, .int j => if j = 0 then (if xs.isEmpty = true then none else some (.tup [])) else gRepT x y M
  | _, _ => none
theorem o_repZ {K : PySem.W.Frag} : Op2 K (rRepZ K) gRepZ := by
  intro W M x y d v u Q sr rx ry hg k
  unfold gRepZ at hg
  split at hg
  · rename_i xs j
    split at hg
    · rename_i hj
      subst hj
      split at hg
      · cases hg
      · rename_i he
        cases hg
        cases (show _ = _ from ry)
        obtain ⟨p, vs, rfl, h1, r1⟩ := tp_sq rx
        have hl := r1.len
        have hne : vs ≠ [] := by
          rintro rfl
          have : xs = [] := List.eq_nil_of_length_eq_zero hl
          subst this
          exact he rfl
        refine .inr ⟨p, vs, rfl, rfl, h1, hne, fun t nt => ?_⟩
        exact k _ _ (Ext.put nt) (sr.put nt) (.newTup sr nt (r1.rep 0) (Nat.zero_le _))
    · exact .inl (o_repT W M _ _ d v u Q sr rx ry hg k)
  · cases hg
end PF
namespace PF
open PySem PySem.Spec PyProof.Rows L2
/-! ### what the pieces compute, for simp -/
def rg1 (a : List D) (M : Mem) : Option ((List D × Option Nat) × Mem) := match a with | [.int j] => if okR 0 j then some ((rgD 0 j.toNat, none), M) else none | _ => none
def rg2 (a : List D) (M : Mem) : Option ((List D × Option Nat) × Mem) := match a with | [.int i, .int j] => if okR i j then some ((rgD i (j - i).toNat, none), M) else none | _ => none
theorem ev_rgh1 {j : Int} (M : Mem) (h : okR 0 j = true) : rg1 [.int j] M = some ((rgD 0 j.toNat, none), M) := by unfold rg1; dsimp only; rw [if_pos h]
theorem ev_rgh2 {i j : Int} (M : Mem) (h : okR i j = true) : rg2 [.int i, .int j] M = some ((rgD i (j - i).toNat, none), M) := by unfold rg2; dsimp only; rw [if_pos h]
section
variable (ρ : Rho) (M : Mem)
@[simp] theorem ev_var (i) : fVar i ρ M = match ρ[i]? with | some (some d) => some (d, M) | _ => none := rfl
@[simp] theorem ev_c (d) : fC d ρ M = some (d, M) := rfl
@[simp] theorem ev_f1 (g a) : f1 g a ρ M = (a ρ M).bind fun a => (g a.1 a.2).bind fun d => some (d, a.2) := rfl
@[simp] theorem ev_f2 (g a b) : f2 g a b ρ M = (a ρ M).bind fun a => (b ρ a.2).bind fun b => (g a.1 b.1 b.2).bind fun d => some (d, b.2) := rfl
@[simp] theorem ev_f2T (g a b) : f2T g a b ρ M = (a ρ M).bind fun a => (b ρ a.2).bind fun b => (g a.1 b.1 b.2).bind fun d => some (d, b.2) := rfl
@[simp] theorem ev_gB (g x y) : gB g x y M = (g x y M).map .bl := rfl
@[simp] theorem ev_tru (a) : fTru a ρ M = (a ρ M).bind fun a => (gTru a.1 a.2).bind fun k => some (k, a.2) := rfl
@[simp] theorem ev_not (a) : fNot a ρ M = (a ρ M).bind fun a => some (!a.1, a.2) := rfl
@[simp] theorem ev_and (a b) : fAnd a b ρ M = (a ρ M).bind fun a => if a.1 = true then b ρ a.2 else some (false, a.2) := rfl
@[simp] theorem ev_or (a b) : fOr a b ρ M = (a ρ M).bind fun a => if a.1 = true then some (true, a.2) else b ρ a.2 := rfl
@[simp] theorem ev_andV (a b) : fAndV a b ρ M = (a ρ M).bind fun a => (gTru a.1 a.2).bind fun k => if k = true then b ρ a.2 else some a := rfl
@[simp] theorem ev_orV (a b) : fOrV a b ρ M = (a ρ M).bind fun a => (gTru a.1 a.2).bind fun k => if k = true then some a else b ρ a.2 := rfl
@[simp] theorem ev_notV (a) : fNotV a ρ M = (a ρ M).bind fun a => (gTru a.1 a.2).bind fun k => some (.bl (!k), a.2) := rfl
@[simp] theorem ev_ifE (c a b) : fIfE c a b ρ M = (c ρ M).bind fun c => if c.1 = true then a ρ c.2 else b ρ c.2 := rfl
theorem ev_chain (g g' : G2B) (fa fb fc : FE) : fChain g g' fa fb fc ρ M = (fa ρ M).bind fun a => (fb ρ a.2).bind fun b => (g a.1 b.1 b.2).bind fun k => if k = true then (fc ρ b.2).bind fun c => (g' b.1 c.1 c.2).bind fun j => some (.bl j, c.2) else some (.bl false, b.2) := rfl
theorem ev_chainT (g g' : G2B) (fa fb fc : FE) : fChainT g g' fa fb fc ρ M = (fa ρ M).bind fun a => (fb ρ a.2).bind fun b => (g a.1 b.1 b.2).bind fun k => if k = true then (fc ρ b.2).bind fun c => (g' b.1 c.1 c.2).bind fun j => some (j, c.2) else some (false, b.2) := rfl
@[simp] theorem ev_nil : fNil ρ M = some ([], M) := rfl
@[simp] theorem ev_cons (a r) : fCons a r ρ M = (a ρ M).bind fun a => (r ρ a.2).bind fun r => some (a.1 :: r.1, r.2) := rfl
@[simp] theorem ev_tup (f) : fTup f ρ M = (f ρ M).bind fun a => if a.1.length ≤ LINE then some (.tup a.1, a.2) else none := rfl
@[simp] theorem ev_lstD (f) : fLstD f ρ M = (f ρ M).bind fun a => if a.1.length ≤ LINE then some a else none := rfl
@[simp] theorem ev_fz (f) : fFz f ρ M = (f ρ M).bind fun a => some (.lst a.1, a.2) := rfl
@[simp] theorem ev_mut (f) : fMut f ρ M = (f ρ M).bind fun a => some (.ref a.2.length, a.2 ++ [.lst a.1]) := rfl
@[simp] theorem ev_rev (f) : fRevN f ρ M = (f ρ M).bind fun a => (lsOf a.1 a.2).bind fun xs => some (xs.reverse, a.2) := rfl
@[simp] theorem ev_b (g f) : fB g f ρ M = (f ρ M).bind fun a => (g a.1 a.2).bind fun d => some (d, a.2) := rfl
@[simp] theorem ev_bN (g f) : fBN g f ρ M = (f ρ M).bind fun a => (g a.1 a.2).bind fun d => some (d, a.2) := rfl
@[simp] theorem ev_isi (T f) : fIsi T f ρ M = (f ρ M).bind fun a => some (.bl (isi (tyOf a.1) T), a.2) := rfl
@[simp] theorem ev_call (c f) : fCall c f ρ M = (f ρ M).bind fun a => callP c a.1 a.2 := rfl
@[simp] theorem ev_callS (i c f) : fCallS i c f ρ M = (f ρ M).bind fun a => callS i c a.1 a.2 := rfl
@[simp] theorem ev_callSM (i c f) : fCallSM i c f ρ M = (f ρ M).bind fun a => callSM i c a.1 a.2 := rfl
@[simp] theorem ev_m (T g o f) : fM T g o f ρ M = (o ρ M).bind fun o => if tyOk T o.1 o.2 = true then (f ρ o.2).bind fun a => g o.1 a.1 a.2 else none := rfl
@[simp] theorem ev_next : sNext ρ M = some (.nx ρ, M) := rfl
@[simp] theorem ev_seq (f g) : sSeq f g ρ M = (f ρ M).bind fun o => match o.1 with | .nx ρ' => g ρ' o.2 | _ => some o := rfl
@[simp] theorem ev_brk : sBreak ρ M = some (.bk ρ, M) := rfl
@[simp] theorem ev_cont : sCont ρ M = some (.ct ρ, M) := rfl
@[simp] theorem ev_drop (f) : sDrop f ρ M = (f ρ M).bind fun a => some (.nx ρ, a.2) := rfl
@[simp] theorem ev_ret (f) : sRet f ρ M = (f ρ M).bind fun a => some (.ret a.1, a.2) := rfl
@[simp] theorem ev_retN : sRetN ρ M = some (.ret .non, M) := rfl
@[simp] theorem ev_if (c f g) : sIf c f g ρ M = (c ρ M).bind fun a => if a.1 = true then f ρ a.2 else g ρ a.2 := rfl
@[simp] theorem ev_set (i f) : sSet i f ρ M = (f ρ M).bind fun a => some (.nx (ρ.set i (some a.1)), a.2) := rfl
@[simp] theorem ev_asg (f t) : sAsg f t ρ M = (f ρ M).bind fun a => (t a.1 ρ).bind fun ρ' => some (.nx ρ', a.2) := rfl
@[simp] theorem ev_par (i j f) : sPar i j f ρ M = (f ρ M).bind fun a => match a.1 with | [x, y] => some (.nx ((ρ.set i (some x)).set j (some y)), a.2) | _ => none := rfl
@[simp] theorem ev_par3 (i j l f) : sPar3 i j l f ρ M = (f ρ M).bind fun a => match a.1 with | [x, y, z] => some (.nx (((ρ.set i (some x)).set j (some y)).set l (some z)), a.2) | _ => none := rfl
@[simp] theorem ev_aug (i g f) : sAug i g f ρ M = match ρ[i]? with | some (some x) => (f ρ M).bind fun a => (g x a.1 a.2).bind fun z => some (.nx (ρ.set i (some z.1)), z.2) | _ => none := rfl
@[simp] theorem ev_while (c f) : sWhile c f ρ M = sWhileN c f (fuel ρ M) ρ M := rfl
@[simp] theorem ev_for (i t f) : sFor i t f ρ M = (i ρ M).bind fun a => sLoop (chk a.1.2 a.1.1) (sStep t f) a.1.1 ρ a.2 := rfl
@[simp] theorem ev_step (t f d) : sStep t f d ρ M = (t d ρ).bind fun ρ' => f ρ' M := rfl
@[simp] theorem ev_tN (i d) : tN i d ρ = some (ρ.set i (some d)) := rfl
@[simp] theorem ev_tT (n t xs) : tT n t (.tup xs) ρ = if xs.length = n then t xs ρ else none := rfl
@[simp] theorem ev_tsN : tsN [] ρ = some ρ := rfl
@[simp] theorem ev_tsC (t u d r) : tsC t u (d :: r) ρ = (t d ρ).bind fun ρ' => u r ρ' := rfl
@[simp] theorem ev_rg1 (f) : fiRg1 f ρ M = (f ρ M).bind fun a => rg1 a.1 a.2 := rfl
@[simp] theorem ev_rg2 (f) : fiRg2 f ρ M = (f ρ M).bind fun a => rg2 a.1 a.2 := rfl
@[simp] theorem ev_lc (vs i t c e) : fLC vs i t c e ρ M = (i ρ M).bind fun a => lcLoop (chk a.1.2 a.1.1) t c e (wipeR ρ vs) a.1.1 [] a.2 := rfl
@[simp] theorem ev_lc2 (vs vs1 i t c i1 t1 c1 e) : fLC2 vs vs1 i t c i1 t1 c1 e ρ M = (i ρ M).bind fun a => (lc2Loop (chk a.1.2 a.1.1) t c i1 vs1 t1 c1 e (wipeR ρ vs) a.1.1 [] a.2).bind fun y => if y.1.length ≤ LINE then some y else none := rfl
@[simp] theorem ev_yes : fYes ρ M = some (true, M) := rfl
@[simp] theorem ev_setIx (v o i) : sSetIx v o i ρ M = (v ρ M).bind fun v => (o ρ v.2).bind fun o => (i ρ o.2).bind fun i => match i.1 with
  | .int k => (mlOf o.1 i.2).bind fun l => (ixN l.2.length k).bind fun j => some (.nx ρ, i.2.set l.1 (.lst (l.2.set j v.1)))
  | _ => none := rfl
@[simp] theorem ev_slice (a l h) : fSlice a l h ρ M = (a ρ M).bind fun a => (l ρ a.2).bind fun l => (h ρ l.2).bind fun h => (gSlice a.1 l.1 h.1 h.2).bind fun d => some (d, h.2) := rfl
@[simp] theorem ev_sliceN (a l h) : fSliceN a l h ρ M = (a ρ M).bind fun a => (l ρ a.2).bind fun l => (h ρ l.2).bind fun h => (lsOf a.1 h.2).bind fun d => some (cutD d l.1 h.1, h.2) := rfl
@[simp] theorem ev_noPart : fNoPart ρ M = some (none, M) := rfl
@[simp] theorem ev_part (a) : fPart a ρ M = (a ρ M).bind fun a => match a.1 with | .int i => some (some i, a.2) | _ => none := rfl
end
section
variable (M : Mem) (i j : Int)
@[simp] theorem ev_add : gAdd (.int i) (.int j) M = some (.int (i + j)) := rfl
@[simp] theorem ev_sub : gSub (.int i) (.int j) M = some (.int (i - j)) := rfl
@[simp] theorem ev_mul : gMul (.int i) (.int j) M = if okMul i j = true then some (.int (i * j)) else none := rfl
@[simp] theorem ev_fdiv : gFdiv (.int i) (.int j) M = if okDiv j = true then some (.int (i.fdiv j)) else none := rfl
@[simp] theorem ev_mod : gMod (.int i) (.int j) M = if decide (j ≠ 0) = true then some (.int (i.fmod j)) else none := rfl
@[simp] theorem ev_pow : gPow (.int i) (.int j) M = if okPow i j = true then some (.int (i ^ j.toNat)) else none := rfl
@[simp] theorem ev_neg : gNeg (.int i) M = some (.int (-i)) := rfl
@[simp] theorem ev_cmp (c) : gCmp c (.int i) (.int j) M = some (c i j) := rfl
@[simp] theorem ev_eq : gEq (.int i) (.int j) M = some (decide (i = j)) := by
  unfold gEq; simp [D.val, D.dp, D.py, PyData.eqv]; by_cases h : i = j <;> simp [h]
@[simp] theorem ev_ne : gNe (.int i) (.int j) M = some (!decide (i = j)) := by
  unfold gNe; rw [ev_eq]; rfl
@[simp] theorem ev_eqb (a b : Bool) : gEq (.bl a) (.bl b) M = some (decide (a = b)) := by cases a <;> cases b <;> rfl
@[simp] theorem ev_neb (a b : Bool) : gNe (.bl a) (.bl b) M = some (!decide (a = b)) := by cases a <;> cases b <;> rfl
@[simp] theorem ev_int : gInt [.int i] M = some (.int i) := rfl
@[simp] theorem ev_intb (b) : gInt [.bl b] M = some (.int (if b = true then 1 else 0)) := by cases b <;> rfl
@[simp] theorem ev_abs : gAbs [.int i] M = some (.int (i.natAbs : Int)) := by
  show some (D.int (if i < 0 then -i else i)) = _
  rw [show (if i < 0 then -i else i) = (i.natAbs : Int) by omega]
@[simp] theorem ev_gcd : gGcd [.int i, .int j] M = some (.int ((Nat.gcd i.natAbs j.natAbs : Nat) : Int)) := rfl
@[simp] theorem ev_max2 : gMax2 [.int i, .int j] M = some (.int (if j > i then j else i)) := rfl
@[simp] theorem ev_min2 : gMin2 [.int i, .int j] M = some (.int (if j < i then j else i)) := rfl
@[simp] theorem ev_trub (b) : gTru (.bl b) M = some b := rfl
@[simp] theorem ev_trui : gTru (.int i) M = some (i != 0) := rfl
@[simp] theorem ev_isb (a b : Bool) : gIs (.bl a) (.bl b) M = some (decide (a = b)) := rfl
@[simp] theorem ev_isn (d) : gIs d .non M = some (isNn d) := rfl
@[simp] theorem ev_isNot (d e) : gIsNot d e M = (gIs d e M).map (! ·) := rfl
@[simp] theorem ev_lent (xs : List D) : gLen [.tup xs] M = some (.int xs.length) := rfl
@[simp] theorem ev_lenl (xs : List D) : gLen [.lst xs] M = some (.int xs.length) := rfl
@[simp] theorem ev_lenk (xs : List D) : gLen [.kst xs] M = some (.int xs.length) := rfl
@[simp] theorem ev_lenr (n : Nat) : gLen [.ref n] M = (lsOf (.ref n) M).map fun xs => .int xs.length := rfl
@[simp] theorem ev_lsr (n : Nat) : lsOf (.ref n) M = match M[n]? with | some (.lst xs) => some xs | _ => none := rfl
@[simp] theorem ev_lsl (xs : List D) : lsOf (.lst xs) M = some xs := rfl
@[simp] theorem ev_lsk (xs : List D) : lsOf (.kst xs) M = some xs := rfl
@[simp] theorem ev_sqr (n : Nat) : sqOf (.ref n) M = lsOf (.ref n) M := rfl
@[simp] theorem ev_sql (xs : List D) : sqOf (.lst xs) M = some xs := rfl
@[simp] theorem ev_sqk (xs : List D) : sqOf (.kst xs) M = some xs := rfl
@[simp] theorem ev_sqt (xs : List D) : sqOf (.tup xs) M = some xs := rfl
@[simp] theorem ev_ixt (xs : List D) : gIx (.tup xs) (.int i) M = atI xs i := rfl
@[simp] theorem ev_ixl (xs : List D) : gIx (.lst xs) (.int i) M = atI xs i := rfl
@[simp] theorem ev_ixk (xs : List D) : gIx (.kst xs) (.int i) M = atI xs i := rfl
@[simp] theorem ev_ixr (n : Nat) : gIx (.ref n) (.int i) M = (lsOf (.ref n) M).bind fun xs => atI xs i := rfl
@[simp] theorem ev_tyOk (d : D) : tyOk "list" d M = (lsOf d M).isSome := rfl
@[simp] theorem ev_ml (n : Nat) : mlOf (.ref n) M = match M[n]? with | some (.lst xs) => some (n, xs) | _ => none := rfl
@[simp] theorem ev_append (x d : D) : gAppend x [d] M = (mlOf x M).bind fun l => if l.2.length < LINE then some (.non, M.set l.1 (.lst (l.2 ++ [d]))) else none := rfl
@[simp] theorem ev_pop (x : D) : gPop x [] M = (mlOf x M).bind fun l => (l.2[l.2.length - 1]?).bind fun d => some (d, M.set l.1 (.lst l.2.dropLast)) := rfl
@[simp] theorem ev_reverse (x : D) : gReverse x [] M = (mlOf x M).bind fun l => some (.non, M.set l.1 (.lst l.2.reverse)) := rfl
@[simp] theorem ev_chk0 (xs) : chk none xs M = true := rfl
@[simp] theorem ev_list (d : D) : gList [d] M = sqOf d M := rfl
@[simp] theorem ev_tuple (d : D) : gTuple [d] M = (sqOf d M).map .tup := rfl
theorem atI_eq {α} (xs : List α) : L2.atI xs i = (L2.ixN xs.length i).bind fun n => xs[n]? := rfl
end
theorem at_nat {α} {xs : List α} {n : Nat} {d : α} (h : xs[n]? = some d) : L2.atI xs (n : Int) = some d := by
  have hl := (List.getElem?_eq_some_iff.mp h).1
  rw [atI_eq]
  unfold L2.ixN
  rw [if_pos (by omega), if_pos (by omega)]
  exact h
@[simp] theorem atI_0 {α} (x : α) (xs) : L2.atI (x :: xs) 0 = some x := at_nat (n := 0) rfl
@[simp] theorem atI_1 {α} (x y : α) (xs) : L2.atI (x :: y :: xs) 1 = some y := at_nat (n := 1) rfl
@[simp] theorem atI_2 {α} (x y z : α) (xs) : L2.atI (x :: y :: z :: xs) 2 = some z := at_nat (n := 2) rfl
theorem atI_int {α} {xs : List α} {i : Int} {n : Nat} {d : α} (hi : i = n) (h : xs[n]? = some d) : L2.atI xs i = some d := by subst hi; exact at_nat h
/-- a list of iL -/
def iL (xs : List Int) : List D := xs.map .int
@[simp] theorem iL_len (xs : List Int) : (iL xs).length = xs.length := by simp [iL]
@[simp] theorem iL_nil : iL [] = [] := rfl
theorem iL_cons (x xs) : iL (x :: xs) = .int x :: iL xs := rfl
theorem iL_app (xs ys) : iL xs ++ iL ys = iL (xs ++ ys) := by simp [iL]
theorem iL_at {xs : List Int} {n : Nat} : (iL xs)[n]? = (xs[n]?).map .int := by simp [iL]
theorem nrs_iL : ∀ xs : List Int, D.nrs (iL xs) = true
  | [] => rfl
  | x :: xs => by
    show (D.nr (.int x) && D.nrs (iL xs)) = true
    rw [nrs_iL xs]; rfl
theorem nls_iL : ∀ xs : List Int, D.nls (iL xs) = true
  | [] => rfl
  | x :: xs => by
    show (D.nl (.int x) && D.nls (iL xs)) = true
    rw [nls_iL xs]; rfl
theorem beqs_iL : ∀ xs : List Int, D.beqs (iL xs) (iL xs) = true
  | [] => rfl
  | x :: xs => by
    show (D.beq (.int x) (.int x) && D.beqs (iL xs) (iL xs)) = true
    rw [beqs_iL xs]; simp [D.beq]
theorem line_le {n : Nat} (h : n ≤ 16777216) : n ≤ LINE := h
@[simp] theorem line_1 : (1 ≤ LINE) = True := by simp [LINE]
@[simp] theorem line_2 : (2 ≤ LINE) = True := by simp [LINE]
@[simp] theorem line_3 : (3 ≤ LINE) = True := by simp [LINE]
@[simp] theorem line_4 : (4 ≤ LINE) = True := by simp [LINE]
@[simp] theorem line_5 : (5 ≤ LINE) = True := by simp [LINE]
@[simp] theorem line_6 : (6 ≤ LINE) = True := by simp [LINE]
@[simp] theorem line_7 : (7 ≤ LINE) = True := by simp [LINE]
@[simp] theorem line_8 : (8 ≤ LINE) = True := by simp [LINE]
@[simp] theorem line_9 : (9 ≤ LINE) = True := by simp [LINE]
@[simp] theorem line_10 : (10 ≤ LINE) = True := by simp [LINE]
section
variable (M : Mem) (xs : List D)
@[simp] theorem ap_int (i) : argP M (.int i) = some (.int i) := rfl
@[simp] theorem ap_bl (i) : argP M (.bl i) = some (.bl i) := rfl
@[simp] theorem ap_non : argP M .non = some .non := rfl
@[simp] theorem ap_tup : argP M (.tup xs) = if D.nrs xs = true then some (.tup xs) else none := rfl
@[simp] theorem ap_lst : argP M (.lst xs) = if D.nrs xs = true then some (.lst xs) else none := rfl
@[simp] theorem ap_kst : argP M (.kst xs) = if D.nrs xs = true then some (.kst xs) else none := rfl
@[simp] theorem ir_int (i) : D.isRef (.int i) = false := rfl
@[simp] theorem ir_bl (i) : D.isRef (.bl i) = false := rfl
@[simp] theorem ir_non : D.isRef .non = false := rfl
@[simp] theorem ir_tup : D.isRef (.tup xs) = false := rfl
@[simp] theorem ir_lst : D.isRef (.lst xs) = false := rfl
@[simp] theorem ir_kst : D.isRef (.kst xs) = false := rfl
@[simp] theorem ir_ref (n) : D.isRef (.ref n) = true := rfl
end
@[simp] theorem ev_sum (d : D) (M : Mem) : gSum [d] M = (lsOf d M).bind fun xs => (intsOf xs).map fun ns => .int ns.sum := rfl
@[simp] theorem ev_sumA (d : D) (M : Mem) : gSumA [d] M = (sqOf d M).bind fun xs => (intsOf xs).map fun ns => .int ns.sum := rfl
@[simp] theorem ev_iadd (i j : Int) (M : Mem) : gIAdd (.int i) (.int j) M = some (.int (i + j), M) := rfl
@[simp] theorem ev_iaddA (i j : Int) (M : Mem) : gIAddA (.int i) (.int j) M = some (.int (i + j), M) := rfl
theorem ev_iaddT (a b : List D) (M : Mem) (h : a.length + b.length ≤ 10000) : gIAddA (.tup a) (.tup b) M = some (.tup (a ++ b), M) := by
  show (if a.length + b.length ≤ LINE then some (D.tup (a ++ b), M) else none) = _
  rw [if_pos (by show _ ≤ 16777216; omega)]
@[simp] theorem intsOf_iL : ∀ ns : List Int, intsOf (iL ns) = some ns
  | [] => rfl
  | n :: ns => by
    show (intsOf (iL ns)).map (n :: ·) = _
    rw [intsOf_iL ns]; rfl
/-! ### loops -/
theorem loop_inv {c : Mem → Bool} {step : D → FS} {xs : List D} (I : Nat → Rho → Mem → Prop) (hc : ∀ k ρ M, I k ρ M → c M = true)
    (hs : ∀ k d ρ M, xs[k]? = some d → I k ρ M → ∃ ρ' M', step d ρ M = some (.nx ρ', M') ∧ I (k + 1) ρ' M') {ρ : Rho} {M : Mem} (h0 : I 0 ρ M) : ∃ ρ' M', sLoop c step xs ρ M = some (.nx ρ', M') ∧ I xs.length ρ' M' := by
  have main : ∀ (ys : List D) (k : Nat) (ρ : Rho) (M : Mem), xs.drop k = ys → k ≤ xs.length → I k ρ M → ∃ ρ' M', sLoop c step ys ρ M = some (.nx ρ', M') ∧ I xs.length ρ' M' := by
    intro ys
    induction ys with
    | nil =>
      intro k ρ M e hk h
      have : k = xs.length := by
        have := congrArg List.length e
        simp at this; omega
      subst this
      exact ⟨ρ, M, by rw [sLoop, if_pos (hc _ _ _ h)], h⟩
    | cons d ys ih =>
      intro k ρ M e hk h
      have hd : xs[k]? = some d := by
        have h0 : (xs.drop k)[0]? = some d := by rw [e]; rfl
        rw [List.getElem?_drop] at h0
        simpa using h0
      obtain ⟨ρ', M', e1, h1⟩ := hs k d ρ M hd h
      have e2 : xs.drop (k + 1) = ys := by rw [← List.drop_drop, e]; rfl
      obtain ⟨ρ2, M2, e3, h3⟩ := ih (k + 1) ρ' M' e2 (by have := (List.getElem?_eq_some_iff.mp hd).1; omega) h1
      exact ⟨ρ2, M2, by rw [sLoop, if_pos (hc _ _ _ h), e1]; exact e3, h3⟩
  exact main xs 0 ρ M rfl (Nat.zero_le _) h0
theorem while_inv {fc : FT} {fb : FS} (I : Rho → Mem → Prop) (P : Rho → Mem → Prop) (μ : Rho → Mem → Nat)
    (hs : ∀ ρ M, I ρ M → (fc ρ M = some (false, M) ∧ P ρ M) ∨ (fc ρ M = some (true, M) ∧ ∃ ρ' M', fb ρ M = some (.nx ρ', M') ∧ I ρ' M' ∧ μ ρ' M' < μ ρ M)) : ∀ (n : Nat) (ρ : Rho) (M : Mem), I ρ M → μ ρ M < n → ∃ ρ' M', sWhileN fc fb n ρ M = some (.nx ρ', M') ∧ P ρ' M'
  | 0, _, _, _, h => absurd h (Nat.not_lt_zero _)
  | n + 1, ρ, M, hI, h => by
    rcases hs ρ M hI with ⟨e, hp⟩ | ⟨e, ρ', M', e1, h1, h2⟩
    · exact ⟨ρ, M, by rw [sWhileN, e]; rfl, hp⟩
    · obtain ⟨ρ2, M2, e3, h3⟩ := while_inv I P μ hs n ρ' M' h1 (by omega)
      exact ⟨ρ2, M2, by rw [sWhileN, e]; show ((fb ρ M).bind _) = _; rw [e1]; exact e3, h3⟩
theorem fuel_big (ρ : Rho) (M : Mem) : 1000000 ≤ fuel ρ M := by
  unfold fuel
  have : ∀ (l : Rho) (n : Nat), n ≤ l.foldl (fun n d => n + match d with | some (.int i) => i.natAbs | _ => 0) n := by
    intro l
    induction l with
    | nil => intro n; exact Nat.le_refl n
    | cons d l ih => intro n; exact Nat.le_trans (Nat.le_add_right _ _) (ih _)
  exact this ρ 1000000
theorem fuel_at {ρ : Rho} {M : Mem} {n : Nat} {i : Int} (h : ρ[n]? = some (some (.int i))) : 1000000 + i.natAbs ≤ fuel ρ M := by
  unfold fuel
  have mono : ∀ (l : Rho) (n : Nat), n ≤ l.foldl (fun n d => n + match d with | some (.int i) => i.natAbs | _ => 0) n := by
    intro l
    induction l with
    | nil => intro n; exact Nat.le_refl n
    | cons d l ih => intro n; exact Nat.le_trans (Nat.le_add_right _ _) (ih _)
  have : ∀ (l : Rho) (n m : Nat), l[n]? = some (some (.int i)) → m + i.natAbs ≤ l.foldl (fun n d => n + match d with | some (.int i) => i.natAbs | _ => 0) m := by
    intro l
    induction l with
    | nil => intro n m h; simp at h
    | cons d l ih =>
      intro n m h
      cases n with
      | zero => simp at h; subst h; exact mono l _
      | succ n => exact Nat.le_trans (Nat.add_le_add_right (Nat.le_add_right _ _) _) (ih n _ (by simpa using h))
  exact this ρ n _ h
theorem rgD_at {lo : Int} {n k : Nat} {d : D} (h : (rgD lo n)[k]? = some d) : k < n ∧ d = .int (lo + k) := by
  unfold rgD at h
  rw [List.getElem?_map] at h
  by_cases hk : k < n
  · rw [List.getElem?_range hk] at h
    simp at h
    exact ⟨hk, h.symm⟩
  · rw [List.getElem?_eq_none (by simp; omega)] at h
    simp at h
@[simp] theorem rgD_len (lo : Int) (n : Nat) : (rgD lo n).length = n := by simp [rgD]
/-! ### sides -/
theorem okMul_l {i j : Int} (h : i.natAbs < 18446744073709551616) : okMul i j = true := by simp [okMul, h]
theorem okMul_r {i j : Int} (h : j.natAbs < 18446744073709551616) : okMul i j = true := by simp [okMul, h]
theorem log2_lt_of {n k : Nat} (h : n < 2 ^ k) (hk : 0 < k) : n.log2 < k := by
  by_cases h0 : n = 0
  · subst h0; simpa using hk
  · exact (Nat.log2_lt h0).mpr h
theorem okMul_big {i j : Int} (hi : i.natAbs < 2 ^ 400000) (hj : j.natAbs < 2 ^ 400000) : okMul i j = true := by
  have h1 := log2_lt_of hi (by decide)
  have h2 := log2_lt_of hj (by decide)
  simp [okMul]; right; right; omega
theorem okDiv_of {j : Int} (h0 : j ≠ 0) (h : j.natAbs < 2 ^ 9000) : okDiv j = true := by
  have h1 := log2_lt_of h (by decide)
  simp [okDiv, h0, h1]
theorem okR_of {i j : Int} (h1 : -1000000 ≤ i) (h2 : j ≤ 10000000) (h3 : i ≤ 10000000) (h4 : -1000000 ≤ j) : okR i j = true := by
  unfold okR
  rw [Bool.and_eq_true, Bool.and_eq_true]
  exact ⟨Nat.ble_eq_true_of_le (by omega), Nat.ble_eq_true_of_le (by omega), Nat.ble_eq_true_of_le (by omega)⟩
end PF
namespace PF
open PySem PySem.Spec PyProof.Rows L2
/-- a fraction of the program's -/
def fr (q : Rat) : D := .tup [.int q.num, .int q.den]
theorem fr_nr (q : Rat) : (fr q).nr = true := rfl
theorem frac_parts (n d : Int) (hd : d ≠ 0) {e : Int} (he : e = if d < 0 then -((Nat.gcd n.natAbs d.natAbs : Nat) : Int) else ((Nat.gcd n.natAbs d.natAbs : Nat) : Int)) :
    n.fdiv e = (Rat.divInt n d).num ∧ d.fdiv e = ((Rat.divInt n d).den : Int) := by
  have hg : (Int.gcd d n : Int) = ((Nat.gcd n.natAbs d.natAbs : Nat) : Int) := by rw [Int.gcd_comm]; rfl
  have g0 : (Nat.gcd n.natAbs d.natAbs : Nat) ≠ 0 := by
    intro z
    have := Nat.eq_zero_of_gcd_eq_zero_right z
    omega
  rw [Rat.num_divInt, Rat.den_divInt, if_neg hd, hg, Int.natCast_ediv, show Int.gcd d n = Nat.gcd n.natAbs d.natAbs from by rw [Int.gcd_comm]; rfl]
  generalize hG : (Nat.gcd n.natAbs d.natAbs : Nat) = g at *
  obtain ⟨k, hk⟩ : (g : Int) ∣ n := by rw [← hG]; exact Int.ofNat_dvd_left.mpr (Nat.gcd_dvd_left _ _)
  obtain ⟨m, hm⟩ : (g : Int) ∣ d := by rw [← hG]; exact Int.ofNat_dvd_left.mpr (Nat.gcd_dvd_right _ _)
  have gz : (g : Int) ≠ 0 := by omega
  have gp : (0 : Int) < g := by omega
  by_cases hn : d < 0
  · rw [if_pos hn] at he
    have e1 : d.sign = -1 := Int.sign_eq_neg_one_of_neg hn
    have e2 : (d.natAbs : Int) = -d := by omega
    have en : (-(g : Int)) ≠ 0 := by omega
    rw [e1, e2, he]
    constructor
    · rw [hk, show (g : Int) * k = -(g : Int) * -k by grind, Int.mul_fdiv_cancel_left _ en, show -1 * (-(g : Int) * -k) = (g : Int) * -k by grind, Int.mul_ediv_cancel_left _ gz]
    · rw [hm, show (g : Int) * m = -(g : Int) * -m by grind, Int.mul_fdiv_cancel_left _ en, show -(-(g : Int) * -m) = (g : Int) * -m by grind, Int.mul_ediv_cancel_left _ gz]
  · rw [if_neg hn] at he
    have e1 : d.sign = 1 := Int.sign_eq_one_of_pos (by omega)
    have e2 : (d.natAbs : Int) = d := by omega
    rw [e1, e2, he]
    constructor
    · rw [hk, Int.mul_fdiv_cancel_left _ gz, show 1 * ((g : Int) * k) = (g : Int) * k by grind, Int.mul_ediv_cancel_left _ gz]
    · rw [hm, Int.mul_fdiv_cancel_left _ gz, Int.mul_ediv_cancel_left _ gz]
theorem gcd_le_d (n d : Int) (hd : d ≠ 0) : Nat.gcd n.natAbs d.natAbs ≤ d.natAbs ∧ Nat.gcd n.natAbs d.natAbs ≠ 0 := by
  have h : 0 < d.natAbs := by omega
  refine ⟨Nat.le_of_dvd h (Nat.gcd_dvd_right _ _), fun z => ?_⟩
  have := Nat.eq_zero_of_gcd_eq_zero_right z
  omega
/-- sizes -/
def Sz (k : Nat) (q : Rat) : Prop := q.num.natAbs < 2 ^ k ∧ q.den < 2 ^ k
theorem den_pos (q : Rat) : 0 < (q.den : Int) := by have := q.den_pos; omega
theorem fr_divInt (q : Rat) : Rat.divInt q.num q.den = q := Rat.num_divInt_den q
/-- p + q etc. by their parts -/
theorem add_parts (p q : Rat) : Rat.divInt (p.num * q.den + q.num * p.den) (p.den * q.den) = p + q := by
  conv => rhs; rw [← Rat.num_divInt_den p, ← Rat.num_divInt_den q]
  rw [Rat.divInt_add_divInt _ _ (Int.ne_of_gt (den_pos p)) (Int.ne_of_gt (den_pos q))]
theorem sub_parts (p q : Rat) : Rat.divInt (p.num * q.den - q.num * p.den) (p.den * q.den) = p - q := by
  conv => rhs; rw [← Rat.num_divInt_den p, ← Rat.num_divInt_den q]
  rw [Rat.divInt_sub_divInt _ _ (Int.ne_of_gt (den_pos p)) (Int.ne_of_gt (den_pos q))]
theorem mul_parts (p q : Rat) : Rat.divInt (p.num * q.num) (p.den * q.den) = p * q := by
  conv => rhs; rw [← Rat.num_divInt_den p, ← Rat.num_divInt_den q]
  rw [Rat.divInt_mul_divInt]
theorem div_parts (p q : Rat) : Rat.divInt (p.num * q.den) (p.den * q.num) = p / q := by
  conv => rhs; rw [← Rat.num_divInt_den p, ← Rat.num_divInt_den q]
  rw [Rat.div_def, Rat.inv_divInt, Rat.divInt_mul_divInt]
theorem lt_parts (p q : Rat) : (p.num * q.den < q.num * p.den) ↔ p < q := (Rat.lt_iff p q).symm
theorem natAbs_mul_lt {a b : Int} {k l : Nat} (h1 : a.natAbs < 2 ^ k) (h2 : b.natAbs < 2 ^ l) : (a * b).natAbs < 2 ^ (k + l) := by
  rw [Int.natAbs_mul, Nat.pow_add]
  exact Nat.mul_lt_mul'' h1 h2
theorem natAbs_add_lt {a b : Int} {k : Nat} (h1 : a.natAbs < 2 ^ k) (h2 : b.natAbs < 2 ^ k) : (a + b).natAbs < 2 ^ (k + 1) := by
  rw [Nat.pow_succ]; omega
theorem natAbs_sub_lt {a b : Int} {k : Nat} (h1 : a.natAbs < 2 ^ k) (h2 : b.natAbs < 2 ^ k) : (a - b).natAbs < 2 ^ (k + 1) := by
  rw [Nat.pow_succ]; omega
theorem lt_pow_of {n k l : Nat} (h : n < 2 ^ k) (hk : k ≤ l) : n < 2 ^ l := Nat.lt_of_lt_of_le h (Nat.pow_le_pow_right (by decide) hk)
/-- a fraction made of these is no bigger -/
theorem num_le (n d : Int) (hd : d ≠ 0) : (Rat.divInt n d).num.natAbs ≤ n.natAbs ∧ (Rat.divInt n d).den ≤ d.natAbs := by
  constructor
  · rw [Rat.num_divInt]
    have hs : (d.sign * n).natAbs = n.natAbs := by
      rw [Int.natAbs_mul, Int.natAbs_sign_of_ne_zero hd, Nat.one_mul]
    rw [← hs]
    exact Int.natAbs_ediv_le_natAbs _ _
  · rw [Rat.den_divInt, if_neg hd]
    exact Nat.div_le_self _ _
theorem Sz.mono {k l : Nat} {q : Rat} (h : Sz k q) (hk : k ≤ l) : Sz l q := ⟨lt_pow_of h.1 hk, lt_pow_of h.2 hk⟩
theorem Sz.of {n d : Int} {k : Nat} (hd : d ≠ 0) (h1 : n.natAbs < 2 ^ k) (h2 : d.natAbs < 2 ^ k) : Sz k (Rat.divInt n d) :=
  ⟨Nat.lt_of_le_of_lt (num_le n d hd).1 h1, Nat.lt_of_le_of_lt (num_le n d hd).2 h2⟩
theorem Sz.add {k : Nat} {p q : Rat} (hp : Sz k p) (hq : Sz k q) : Sz (2 * k + 1) (p + q) := by
  rw [← add_parts]
  have a1 := natAbs_mul_lt hp.1 (b := (q.den : Int)) (l := k) (by simpa using hq.2)
  have a2 := natAbs_mul_lt hq.1 (b := (p.den : Int)) (l := k) (by simpa using hp.2)
  have a3 := natAbs_mul_lt (a := (p.den : Int)) (b := (q.den : Int)) (k := k) (l := k) (by simpa using hp.2) (by simpa using hq.2)
  refine Sz.of (Int.ne_of_gt (Int.mul_pos (den_pos p) (den_pos q))) ?_ (lt_pow_of a3 (by omega))
  have := natAbs_add_lt a1 a2
  exact lt_pow_of this (by omega)
theorem Sz.sub {k : Nat} {p q : Rat} (hp : Sz k p) (hq : Sz k q) : Sz (2 * k + 1) (p - q) := by
  rw [← sub_parts]
  have a1 := natAbs_mul_lt hp.1 (b := (q.den : Int)) (l := k) (by simpa using hq.2)
  have a2 := natAbs_mul_lt hq.1 (b := (p.den : Int)) (l := k) (by simpa using hp.2)
  have a3 := natAbs_mul_lt (a := (p.den : Int)) (b := (q.den : Int)) (k := k) (l := k) (by simpa using hp.2) (by simpa using hq.2)
  refine Sz.of (Int.ne_of_gt (Int.mul_pos (den_pos p) (den_pos q))) ?_ (lt_pow_of a3 (by omega))
  have := natAbs_sub_lt a1 a2
  exact lt_pow_of this (by omega)
theorem Sz.div {k : Nat} {p q : Rat} (hp : Sz k p) (hq : Sz k q) (h0 : q ≠ 0) : Sz (2 * k) (p / q) := by
  rw [← div_parts]
  have hz : q.num ≠ 0 := by simpa using h0
  have a1 := natAbs_mul_lt hp.1 (b := (q.den : Int)) (l := k) (by simpa using hq.2)
  have a2 := natAbs_mul_lt (a := (p.den : Int)) (k := k) (by simpa using hp.2) hq.1
  exact Sz.of (Int.mul_ne_zero (Int.ne_of_gt (den_pos p)) hz) (lt_pow_of a1 (by omega)) (lt_pow_of a2 (by omega))
end PF
namespace LP
open PySem PySem.Spec PyProof.Rows L2 PF
/-- how_far(one, other): slots ['one', 'other'] -/
def bhow_far : FS :=
    sRet (f2 gAdd (fB gAbs (fCons (f2 gSub (f2 gIx (fVar 0) (fC (.int 0))) (f2 gIx (fVar 1) (fC (.int 0)))) (fNil))) (fB gAbs (fCons (f2 gSub (f2 gIx (fVar 0) (fC (.int 1))) (f2 gIx (fVar 1) (fC (.int 1)))) (fNil))))
def chow_far : FnC := runFn false 2 bhow_far
abbrev qhow_far : FnC := chow_far
theorem hqhow_far : ∀ ds M r, qhow_far ds M = some r → chow_far ds M = some r := fun _ _ _ h => h
/-- all_places(field): slots ['field', 'x', 'y'] -/
def ball_places : FS :=
    sRet (fB gTuple (fCons (fFz (fLC2 [1, 2] [2] (fiRg1 (fCons (f2 gIx (fVar 0) (fC (.int 0))) (fNil))) (tN 1) (fYes) (fiRg1 (fCons (f2 gIx (fVar 0) (fC (.int 1))) (fNil))) (tN 2) (fYes) (fTup (fCons (fVar 1) (fCons (fVar 2) (fNil)))))) (fNil)))
def call_places : FnC := runFn false 3 ball_places
abbrev qall_places : FnC := call_places
theorem hqall_places : ∀ ds M r, qall_places ds M = some r → call_places ds M = some r := fun _ _ _ h => h
/-- far_from_station(field, station, place): slots ['field', 'station', 'place'] -/
def bfar_from_station : FS :=
    sRet (fCall qhow_far (fCons (fSlice (f2 gIx (f2 gIx (fVar 0) (fC (.int 2))) (fVar 1)) (fNoPart) (fPart (fC (.int 2)))) (fCons (fVar 2) (fNil))))
def cfar_from_station : FnC := runFn false 3 bfar_from_station
abbrev qfar_from_station : FnC := cfar_from_station
theorem hqfar_from_station : ∀ ds M r, qfar_from_station ds M = some r → cfar_from_station ds M = some r := fun _ _ _ h => h
/-- allowed_times(field, reading, place): slots ['field', 'reading', 'place', 'station', 'kind', 'minute', 'error', 'low', 'high', 'far'] -/
def ballowed_times : FS :=
    sSeq (sAsg (fVar 1) (tT 3 (tsC (tN 3) (tsC (tN 4) (tsC (tN 5) (tsN))))))
      (sSeq (sSet 6 (f2 gIx (f2 gIx (f2 gIx (fVar 0) (fC (.int 2))) (fVar 3)) (fC (.int 2))))
      (sSeq (sAsg (f2 gIx (f2 gIx (fVar 0) (fC (.int 3))) (fVar 4)) (tT 2 (tsC (tN 7) (tsC (tN 8) (tsN)))))
      (sSeq (sSet 9 (fCall qfar_from_station (fCons (fVar 0) (fCons (fVar 3) (fCons (fVar 2) (fNil))))))
      (sRet (fTup (fCons (f2 gSub (f2 gSub (fVar 5) (fVar 6)) (f2 gMul (fVar 8) (fVar 9))) (fCons (f2 gSub (f2 gAdd (fVar 5) (fVar 6)) (f2 gMul (fVar 7) (fVar 9))) (fNil))))))))
def callowed_times : FnC := runFn false 10 ballowed_times
abbrev qallowed_times : FnC := callowed_times
theorem hqallowed_times : ∀ ds M r, qallowed_times ds M = some r → callowed_times ds M = some r := fun _ _ _ h => h
/-- due_minutes(field, station, kind, place, time): slots ['field', 'station', 'kind', 'place', 'time', 'error', 'low', 'high', 'far'] -/
def bdue_minutes : FS :=
    sSeq (sSet 5 (f2 gIx (f2 gIx (f2 gIx (fVar 0) (fC (.int 2))) (fVar 1)) (fC (.int 2))))
      (sSeq (sAsg (f2 gIx (f2 gIx (fVar 0) (fC (.int 3))) (fVar 2)) (tT 2 (tsC (tN 6) (tsC (tN 7) (tsN)))))
      (sSeq (sSet 8 (fCall qfar_from_station (fCons (fVar 0) (fCons (fVar 1) (fCons (fVar 3) (fNil))))))
      (sRet (fTup (fCons (f2 gSub (f2 gAdd (fVar 4) (f2 gMul (fVar 6) (fVar 8))) (fVar 5)) (fCons (f2 gAdd (f2 gAdd (fVar 4) (f2 gMul (fVar 7) (fVar 8))) (fVar 5)) (fNil)))))))
def cdue_minutes : FnC := runFn false 9 bdue_minutes
abbrev qdue_minutes : FnC := cdue_minutes
theorem hqdue_minutes : ∀ ds M r, qdue_minutes ds M = some r → cdue_minutes ds M = some r := fun _ _ _ h => h
/-- parts_two(field, station, one, other): slots ['field', 'station', 'one', 'other', 'first', 'second', 'place', 'time'] -/
def bparts_two : FS :=
    sSeq (sAsg (fFz (fLC [6, 7] (fiSq (fTup (fCons (fVar 2) (fCons (fVar 3) (fNil))))) (tT 2 (tsC (tN 6) (tsC (tN 7) (tsN)))) (fYes) (fCall qdue_minutes (fCons (fVar 0) (fCons (fVar 1) (fCons (fC (.int 0)) (fCons (fVar 6) (fCons (fVar 7) (fNil))))))))) (tTL 2 (tsC (tN 4) (tsC (tN 5) (tsN)))))
      (sRet (fOrV (f2 (gB (gCmp fun i j => decide (i < j))) (f2 gIx (fVar 4) (fC (.int 1))) (f2 gIx (fVar 5) (fC (.int 0)))) (f2 (gB (gCmp fun i j => decide (i < j))) (f2 gIx (fVar 5) (fC (.int 1))) (f2 gIx (fVar 4) (fC (.int 0))))))
def cparts_two : FnC := runFn false 8 bparts_two
abbrev qparts_two : FnC := cparts_two
theorem hqparts_two : ∀ ds M r, qparts_two ds M = some r → cparts_two ds M = some r := fun _ _ _ h => h
/-- parted_by(field, one, other): slots ['field', 'one', 'other', 'station'] -/
def bparted_by : FS :=
    sRet (fB gTuple (fCons (fFz (fLC [3] (fiRg1 (fCons (fB gLen (fCons (f2 gIx (fVar 0) (fC (.int 2))) (fNil))) (fNil))) (tN 3) (fTru (fCall qparts_two (fCons (fVar 0) (fCons (fVar 3) (fCons (fVar 1) (fCons (fVar 2) (fNil))))))) (fVar 3))) (fNil)))
def cparted_by : FnC := runFn false 4 bparted_by
abbrev qparted_by : FnC := cparted_by
theorem hqparted_by : ∀ ds M r, qparted_by ds M = some r → cparted_by ds M = some r := fun _ _ _ h => h
/-- not_parted(field, chosen, shocks): slots ['field', 'chosen', 'shocks', 'found', 'one', 'other', 'station'] -/
def bnot_parted : FS :=
    sSeq (sSet 3 (fMut (fLstD (fNil))))
      (sSeq (sFor (fiRg1 (fCons (fB gLen (fCons (fVar 2) (fNil))) (fNil))) (tN 4)
      (sFor (fiRg2 (fCons (f2 gAdd (fVar 4) (fC (.int 1))) (fCons (fB gLen (fCons (fVar 2) (fNil))) (fNil)))) (tN 5)
      (sIf (fNot (fTru (fB gAny (fCons (fFz (fLC [6] (fiSq (fVar 1)) (tN 6) (fYes) (fCall qparts_two (fCons (fVar 0) (fCons (fVar 6) (fCons (f2 gIx (fVar 2) (fVar 4)) (fCons (f2 gIx (fVar 2) (fVar 5)) (fNil)))))))) (fNil)))))
      (sDrop (fM "list" gAppend (fVar 3) (fCons (fTup (fCons (fVar 4) (fCons (fVar 5) (fNil)))) (fNil))))
      (sNext))))
      (sRet (fB gTuple (fCons (fVar 3) (fNil)))))
def cnot_parted : FnC := runFn false 7 bnot_parted
abbrev qnot_parted : FnC := cnot_parted
theorem hqnot_parted : ∀ ds M r, qnot_parted ds M = some r → cnot_parted ds M = some r := fun _ _ _ h => h
/-- parts_all(field, chosen, shocks): slots ['field', 'chosen', 'shocks'] -/
def bparts_all : FS :=
    sRet (f2 (gB (gEq)) (fB gLen (fCons (fCall qnot_parted (fCons (fVar 0) (fCons (fVar 1) (fCons (fVar 2) (fNil))))) (fNil))) (fC (.int 0)))
def cparts_all : FnC := runFn false 3 bparts_all
abbrev qparts_all : FnC := cparts_all
theorem hqparts_all : ∀ ds M r, qparts_all ds M = some r → cparts_all ds M = some r := fun _ _ _ h => h
/-- times_at(field, readings, place): slots ['field', 'readings', 'place', 'spans', 'reading', 'least', 'greatest', 'span'] -/
def btimes_at : FS :=
    sSeq (sSet 3 (fFz (fLC [4] (fiSq (fVar 1)) (tN 4) (fYes) (fCall qallowed_times (fCons (fVar 0) (fCons (fVar 4) (fCons (fVar 2) (fNil))))))))
      (sSeq (sPar 5 6 (fCons (fB gMax1 (fCons (fFz (fLC [7] (fiSq (fVar 3)) (tN 7) (fYes) (f2 gIx (fVar 7) (fC (.int 0))))) (fNil))) (fCons (fB gMin1 (fCons (fFz (fLC [7] (fiSq (fVar 3)) (tN 7) (fYes) (f2 gIx (fVar 7) (fC (.int 1))))) (fNil))) (fNil))))
      (sRet (fIfE (f2T (gCmp fun i j => decide (i ≤ j)) (fVar 5) (fVar 6)) (fTup (fCons (fVar 5) (fCons (fVar 6) (fNil)))) (fC .non))))
def ctimes_at : FnC := runFn false 8 btimes_at
abbrev qtimes_at : FnC := ctimes_at
theorem hqtimes_at : ∀ ds M r, qtimes_at ds M = some r → ctimes_at ds M = some r := fun _ _ _ h => h
/-- is_place_possible(field, readings, place): slots ['field', 'readings', 'place'] -/
def bis_place_possible : FS :=
    sRet (fOrV (f2 (gB (gEq)) (fB gLen (fCons (fVar 1) (fNil))) (fC (.int 0))) (f2 (gB (gIsNot)) (fCall qtimes_at (fCons (fVar 0) (fCons (fVar 1) (fCons (fVar 2) (fNil))))) (fC .non)))
def cis_place_possible : FnC := runFn false 3 bis_place_possible
abbrev qis_place_possible : FnC := cis_place_possible
theorem hqis_place_possible : ∀ ds M r, qis_place_possible ds M = some r → cis_place_possible ds M = some r := fun _ _ _ h => h
/-- possible_places(field, readings): slots ['field', 'readings', 'place'] -/
def bpossible_places : FS :=
    sRet (fB gTuple (fCons (fFz (fLC [2] (fiSq (fCall qall_places (fCons (fVar 0) (fNil)))) (tN 2) (fTru (fCall qis_place_possible (fCons (fVar 0) (fCons (fVar 1) (fCons (fVar 2) (fNil)))))) (fVar 2))) (fNil)))
def cpossible_places : FnC := runFn false 3 bpossible_places
abbrev qpossible_places : FnC := cpossible_places
theorem hqpossible_places : ∀ ds M r, qpossible_places ds M = some r → cpossible_places ds M = some r := fun _ _ _ h => h
/-- is_possible(field, readings): slots ['field', 'readings'] -/
def bis_possible : FS :=
    sRet (f2 (gB (gCmp fun i j => decide (j < i))) (fB gLen (fCons (fCall qpossible_places (fCons (fVar 0) (fCons (fVar 1) (fNil)))) (fNil))) (fC (.int 0)))
def cis_possible : FnC := runFn false 2 bis_possible
abbrev qis_possible : FnC := cis_possible
theorem hqis_possible : ∀ ds M r, qis_possible ds M = some r → cis_possible ds M = some r := fun _ _ _ h => h
/-- _law_draws(script, many): slots ['script', 'many', 'cells', 'cell', 'rest', 'draws', 'k', 'at', 'mingled'] -/
def b_law_draws : FS :=
    sSeq (sSet 2 (fMut (fLC [3] (fiSq (fVar 0)) (tN 3) (fYes) (fB gInt (fCons (fVar 3) (fNil))))))
      (sSeq (sIf (f2T (gEq) (fB gLen (fCons (fVar 2) (fNil))) (fC (.int 0)))
      (sDrop (fM "list" gAppend (fVar 2) (fCons (fC (.int 0)) (fNil))))
      (sNext))
      (sSeq (sSet 4 (fMut (fBN gList (fCons (fVar 2) (fNil)))))
      (sSeq (sSet 5 (fMut (fLstD (fNil))))
      (sSeq (sFor (fiRg1 (fCons (fVar 1) (fNil))) (tN 6)
      (sSeq (sSet 7 (f2 gMod (fVar 6) (fB gLen (fCons (fVar 2) (fNil)))))
      (sIf (fAnd (f2T (gCmp fun i j => decide (j ≤ i)) (f2 gIx (fVar 2) (fVar 7)) (f2 gPow (fC (.int 10)) (fC (.int 18)))) (f2T (gCmp fun i j => decide (j < i)) (f2 gIx (fVar 4) (fVar 7)) (fC (.int 0))))
      (sSeq (sDrop (fM "list" gAppend (fVar 5) (fCons (f2 gMod (fB gInt (fCons (f2 gIx (fVar 4) (fVar 7)) (fNil))) (fC (.int 1000))) (fNil))))
      (sSetIx (f2 gFdiv (f2 gIx (fVar 4) (fVar 7)) (fC (.int 1000))) (fVar 4) (fVar 7)))
      (sSeq (sSet 8 (f2 gMod (fB gInt (fCons (f2 gAdd (f2 gAdd (f2 gMul (f2 gIx (fVar 2) (fVar 7)) (fC (.int 48271))) (f2 gMul (fVar 6) (fC (.int 69621)))) (fC (.int 11))) (fNil))) (fC (.int 2147483647))))
      (sDrop (fM "list" gAppend (fVar 5) (fCons (f2 gMod (fB gInt (fCons (f2 gAdd (f2 gAdd (f2 gMul (fVar 8) (fVar 8)) (f2 gMul (fC (.int 3)) (fVar 8))) (fVar 6)) (fNil))) (fC (.int 1000003))) (fNil))))))))
      (sSeq (sDrop (fM "list" gReverse (fVar 5) (fNil)))
      (sRet (fVar 5)))))))
def c_law_draws : FnC := runFn true 9 b_law_draws
abbrev q_law_draws : FnC := c_law_draws
theorem hq_law_draws : ∀ ds M r, q_law_draws ds M = some r → c_law_draws ds M = some r := fun _ _ _ h => h
/-- _law_take(draws, many): slots ['draws', 'many'] -/
def b_law_take : FS :=
    sSeq (sIf (f2T (gEq) (fB gLen (fCons (fVar 0) (fNil))) (fC (.int 0)))
      (sRet (fC (.int 0)))
      (sNext))
      (sRet (f2 gMod (fB gInt (fCons (fM "list" gPop (fVar 0) (fNil)) (fNil))) (fVar 1)))
def c_law_take : FnC := runFn false 2 b_law_take
abbrev q_law_take : FnC := c_law_take
theorem hq_law_take : ∀ ds M r, q_law_take ds M = some r → c_law_take ds M = some r := fun _ _ _ h => h
/-- _law_cell(script, draws): slots ['script', 'draws', 'cell'] -/
def b_law_cell : FS :=
    sSeq (sIf (f2T (gEq) (fB gLen (fCons (fVar 0) (fNil))) (fC (.int 0)))
      (sRet (fC (.int 0)))
      (sNext))
      (sSeq (sSet 2 (fB gInt (fCons (f2 gIx (fVar 0) (fCallS 0 q_law_take (fCons (fVar 1) (fCons (fB gLen (fCons (fVar 0) (fNil))) (fNil))))) (fNil))))
      (sRet (f2 gMul (f2 gMod (fB gAbs (fCons (fVar 2) (fNil))) (f2 gPow (fC (.int 10)) (fC (.int 60)))) (f2 gIx (fFz (fLstD (fCons (fC (.int 1)) (fCons (f1 gNeg (fC (.int 1))) (fNil))))) (fB gInt (fCons (f2 (gB (gCmp fun i j => decide (i < j))) (fVar 2) (fC (.int 0))) (fNil)))))))
def c_law_cell : FnC := runFn false 3 b_law_cell
abbrev q_law_cell : FnC := c_law_cell
theorem hq_law_cell : ∀ ds M r, q_law_cell ds M = some r → c_law_cell ds M = some r := fun _ _ _ h => h
/-- _law_same(actual, due): slots ['actual', 'due', 'k'] -/
def b_law_same (q_law_same : FnC) : FS :=
    sSeq (sIf (fTru (fIsi .bl (fVar 1)))
      (sRet (fAndV (fIsi .bl (fVar 0)) (f2 (gB (gEq)) (fVar 0) (fVar 1))))
      (sNext))
      (sSeq (sIf (fTru (fIsi .int (fVar 1)))
      (sRet (fAndV (fIsi .int (fVar 0)) (fAndV (fNotV (fIsi .bl (fVar 0))) (f2 (gB (gEq)) (fVar 0) (fVar 1)))))
      (sNext))
      (sSeq (sIf (fTru (fIsi .str (fVar 1)))
      (sRet (fAndV (fIsi .str (fVar 0)) (f2 (gB (gEq)) (fVar 0) (fVar 1))))
      (sNext))
      (sSeq (sIf (f2T (gIs) (fVar 1) (fC .non))
      (sRet (f2 (gB (gIs)) (fVar 0) (fC .non)))
      (sNext))
      (sSeq (sIf (fOr (fNot (fTru (fIsi .tup (fVar 0)))) (f2T (gNe) (fB gLen (fCons (fVar 0) (fNil))) (fB gLen (fCons (fVar 1) (fNil)))))
      (sRet (fC (.bl false)))
      (sNext))
      (sSeq (sFor (fiRg1 (fCons (fB gLen (fCons (fVar 1) (fNil))) (fNil))) (tN 2)
      (sIf (fNot (fTru (fCall q_law_same (fCons (f2 gIx (fVar 0) (fVar 2)) (fCons (f2 gIx (fVar 1) (fVar 2)) (fNil))))))
      (sRet (fC (.bl false)))
      (sNext)))
      (sRet (fC (.bl true))))))))
def c_law_same : Nat → FnC
  | 0, _, _ => none
  | n + 1, ds, M => runFn false 3 (b_law_same (c_law_same n)) ds M
def q_law_same : FnC := c_law_same 12
theorem hq_law_same : ∀ ds M r, q_law_same ds M = some r → c_law_same 12 ds M = some r := fun _ _ _ h => h
/-- _law_grid(width, height): slots ['width', 'height', 'found', 'x', 'y'] -/
def b_law_grid : FS :=
    sSeq (sSet 2 (fMut (fLstD (fNil))))
      (sSeq (sFor (fiRg1 (fCons (fVar 0) (fNil))) (tN 3)
      (sSet 2 (fMut (f2N gCat (fVar 2) (fFz (fLC [4] (fiRg1 (fCons (fVar 1) (fNil))) (tN 4) (fYes) (fTup (fCons (fVar 3) (fCons (fVar 4) (fNil))))))))))
      (sRet (fVar 2)))
def c_law_grid : FnC := runFn true 5 b_law_grid
abbrev q_law_grid : FnC := c_law_grid
theorem hq_law_grid : ∀ ds M r, q_law_grid ds M = some r → c_law_grid ds M = some r := fun _ _ _ h => h
/-- _law_waves(draws, by): slots ['draws', 'by', 'low', 'high', 'later'] -/
def b_law_waves : FS :=
    sSeq (sSet 2 (f2 gAdd (fC (.int 1)) (fCallS 0 q_law_take (fCons (fVar 0) (fCons (fC (.int 3)) (fNil))))))
      (sSeq (sSet 3 (f2 gAdd (fVar 2) (fCallS 0 q_law_take (fCons (fVar 0) (fCons (fC (.int 3)) (fNil))))))
      (sSeq (sSet 4 (f2 gAdd (fVar 3) (fCallS 0 q_law_take (fCons (fVar 0) (fCons (fC (.int 4)) (fNil))))))
      (sRet (fTup (fCons (fTup (fCons (f2 gMul (fVar 1) (fVar 2)) (fCons (f2 gMul (fVar 1) (fVar 3)) (fNil)))) (fCons (fTup (fCons (f2 gMul (fVar 1) (fVar 4)) (fCons (f2 gMul (fVar 1) (f2 gAdd (fVar 4) (fCallS 0 q_law_take (fCons (fVar 0) (fCons (fC (.int 3)) (fNil)))))) (fNil)))) (fNil)))))))
def c_law_waves : FnC := runFn false 5 b_law_waves
abbrev q_law_waves : FnC := c_law_waves
theorem hq_law_waves : ∀ ds M r, q_law_waves ds M = some r → c_law_waves ds M = some r := fun _ _ _ h => h
/-- _law_field(draws, wide, many, by): slots ['draws', 'wide', 'many', 'by', 'width', 'height', 'places', 'stations', 'k', 'place'] -/
def b_law_field : FS :=
    sSeq (sSet 4 (f2 gAdd (fC (.int 1)) (fCallS 0 q_law_take (fCons (fVar 0) (fCons (fVar 1) (fNil))))))
      (sSeq (sSet 5 (f2 gAdd (fC (.int 1)) (fCallS 0 q_law_take (fCons (fVar 0) (fCons (fVar 1) (fNil))))))
      (sSeq (sSet 6 (fCall q_law_grid (fCons (fVar 4) (fCons (fVar 5) (fNil)))))
      (sSeq (sSet 7 (fMut (fLstD (fNil))))
      (sSeq (sFor (fiRg1 (fCons (fB gMin2 (fCons (fB gLen (fCons (fVar 6) (fNil))) (fCons (fCallS 0 q_law_take (fCons (fVar 0) (fCons (f2 gAdd (fVar 2) (fC (.int 1))) (fNil)))) (fNil)))) (fNil))) (tN 8)
      (sSeq (sSet 9 (fM "list" gPop1 (fVar 6) (fCons (fCallS 0 q_law_take (fCons (fVar 0) (fCons (fB gLen (fCons (fVar 6) (fNil))) (fNil)))) (fNil))))
      (sDrop (fM "list" gAppend (fVar 7) (fCons (f2 gAdd (fVar 9) (fTup (fCons (f2 gMul (fVar 3) (f2 gIx (fFz (fLstD (fCons (fC (.int 0)) (fCons (fCallS 0 q_law_take (fCons (fVar 0) (fCons (fC (.int 3)) (fNil)))) (fCons (fCallS 0 q_law_take (fCons (fVar 0) (fCons (fC (.int 9)) (fNil)))) (fNil)))))) (fCallS 0 q_law_take (fCons (fVar 0) (fCons (fC (.int 3)) (fNil)))))) (fNil)))) (fNil))))))
      (sRet (fTup (fCons (fVar 4) (fCons (fVar 5) (fCons (fB gTuple (fCons (fVar 7) (fNil))) (fCons (fCallS 0 q_law_waves (fCons (fVar 0) (fCons (fVar 3) (fNil)))) (fNil)))))))))))
def c_law_field : FnC := runFn false 10 b_law_field
abbrev q_law_field : FnC := c_law_field
theorem hq_law_field : ∀ ds M r, q_law_field ds M = some r → c_law_field ds M = some r := fun _ _ _ h => h
/-- _law_far(one, other): slots ['one', 'other'] -/
def b_law_far : FS :=
    sRet (f2 gAdd (fB gAbs (fCons (f2 gSub (f2 gIx (fVar 0) (fC (.int 0))) (f2 gIx (fVar 1) (fC (.int 0)))) (fNil))) (fB gAbs (fCons (f2 gSub (f2 gIx (fVar 0) (fC (.int 1))) (f2 gIx (fVar 1) (fC (.int 1)))) (fNil))))
def c_law_far : FnC := runFn false 2 b_law_far
abbrev q_law_far : FnC := c_law_far
theorem hq_law_far : ∀ ds M r, q_law_far ds M = some r → c_law_far ds M = some r := fun _ _ _ h => h
/-- _law_places(field): slots ['field'] -/
def b_law_places : FS :=
    sRet (fCall q_law_grid (fCons (f2 gIx (fVar 0) (fC (.int 0))) (fCons (f2 gIx (fVar 0) (fC (.int 1))) (fNil))))
def c_law_places : FnC := runFn false 1 b_law_places
abbrev q_law_places : FnC := c_law_places
theorem hq_law_places : ∀ ds M r, q_law_places ds M = some r → c_law_places ds M = some r := fun _ _ _ h => h
/-- _law_sharp(draws, field, by): slots ['draws', 'field', 'by', 'stations', 'row', 'slow'] -/
def b_law_sharp : FS :=
    sSeq (sSet 3 (fB gTuple (fCons (fFz (fLC [4] (fiSq (f2 gIx (fVar 1) (fC (.int 2)))) (tN 4) (fYes) (f2 gAdd (fSlice (fVar 4) (fNoPart) (fPart (fC (.int 2)))) (fTup (fCons (fC (.int 0)) (fNil)))))) (fNil))))
      (sSeq (sIf (f2T (gEq) (fB gLen (fCons (fVar 3) (fNil))) (fC (.int 0)))
      (sSet 3 (fTup (fCons (fTup (fCons (fCallS 0 q_law_take (fCons (fVar 0) (fCons (f2 gIx (fVar 1) (fC (.int 0))) (fNil)))) (fCons (fCallS 0 q_law_take (fCons (fVar 0) (fCons (f2 gIx (fVar 1) (fC (.int 1))) (fNil)))) (fCons (fC (.int 0)) (fNil))))) (fNil))))
      (sNext))
      (sSeq (sSet 5 (f2 gMul (fVar 2) (f2 gAdd (fC (.int 1)) (fCallS 0 q_law_take (fCons (fVar 0) (fCons (fC (.int 3)) (fNil)))))))
      (sRet (fTup (fCons (f2 gIx (fVar 1) (fC (.int 0))) (fCons (f2 gIx (fVar 1) (fC (.int 1))) (fCons (fVar 3) (fCons (fTup (fCons (fTup (fCons (fVar 5) (fCons (fVar 5) (fNil)))) (fCons (fTup (fCons (f2 gMul (fC (.int 2)) (fVar 5)) (fCons (f2 gMul (fC (.int 2)) (fVar 5)) (fNil)))) (fNil)))) (fNil)))))))))
def c_law_sharp : FnC := runFn false 6 b_law_sharp
abbrev q_law_sharp : FnC := c_law_sharp
theorem hq_law_sharp : ∀ ds M r, q_law_sharp ds M = some r → c_law_sharp ds M = some r := fun _ _ _ h => h
/-- _law_exact(field, chosen, kind, shock): slots ['field', 'chosen', 'kind', 'shock', 'slow', 'k'] -/
def b_law_exact : FS :=
    sSeq (sSet 4 (f2 gIx (f2 gIx (f2 gIx (fVar 0) (fC (.int 3))) (fVar 2)) (fC (.int 0))))
      (sRet (fB gTuple (fCons (fFz (fLC [5] (fiSq (fVar 1)) (tN 5) (fYes) (fTup (fCons (fVar 5) (fCons (fVar 2) (fCons (f2 gAdd (f2 gIx (fVar 3) (fC (.int 1))) (f2 gMul (fVar 4) (fCall q_law_far (fCons (fSlice (f2 gIx (f2 gIx (fVar 0) (fC (.int 2))) (fVar 5)) (fNoPart) (fPart (fC (.int 2)))) (fCons (f2 gIx (fVar 3) (fC (.int 0))) (fNil)))))) (fNil))))))) (fNil))))
def c_law_exact : FnC := runFn false 6 b_law_exact
abbrev q_law_exact : FnC := c_law_exact
theorem hq_law_exact : ∀ ds M r, q_law_exact ds M = some r → c_law_exact ds M = some r := fun _ _ _ h => h
/-- _law_like(field, chosen, kind, shock): slots ['field', 'chosen', 'kind', 'shock', 'slow', 'found', 'place', 'apart', 'k'] -/
def b_law_like : FS :=
    sSeq (sSet 4 (f2 gIx (f2 gIx (f2 gIx (fVar 0) (fC (.int 3))) (fVar 2)) (fC (.int 0))))
      (sSeq (sSet 5 (fMut (fLstD (fNil))))
      (sSeq (sFor (fiSq (fCall q_law_places (fCons (fVar 0) (fNil)))) (tN 6)
      (sSeq (sSet 7 (fFz (fBN gSortU (fCons (fFz (fLC [8] (fiSq (fVar 1)) (tN 8) (fYes) (f2 gSub (fCall q_law_far (fCons (fSlice (f2 gIx (f2 gIx (fVar 0) (fC (.int 2))) (fVar 8)) (fNoPart) (fPart (fC (.int 2)))) (fCons (f2 gIx (fVar 3) (fC (.int 0))) (fNil)))) (fCall q_law_far (fCons (fSlice (f2 gIx (f2 gIx (fVar 0) (fC (.int 2))) (fVar 8)) (fNoPart) (fPart (fC (.int 2)))) (fCons (fVar 6) (fNil))))))) (fNil)))))
      (sIf (f2T (gEq) (fB gLen (fCons (fVar 7) (fNil))) (fC (.int 1)))
      (sDrop (fM "list" gAppend (fVar 5) (fCons (fTup (fCons (fVar 6) (fCons (f2 gAdd (f2 gIx (fVar 3) (fC (.int 1))) (f2 gMul (fVar 4) (f2 gIx (fVar 7) (fC (.int 0))))) (fNil)))) (fNil))))
      (sNext))))
      (sRet (fVar 5))))
def c_law_like : FnC := runFn false 9 b_law_like
abbrev q_law_like : FnC := c_law_like
theorem hq_law_like : ∀ ds M r, q_law_like ds M = some r → c_law_like ds M = some r := fun _ _ _ h => h
/-- _law_is_choice_right(field, chosen, shock): slots ['field', 'chosen', 'shock', 'kind', 'rows', 'like', 'one', 'place', 'time', 'parting', 'k', 'pairs', 'other'] -/
def b_law_is_choice_right : FS :=
    sSeq (sFor (fiSq (fFz (fLstD (fCons (fC (.int 0)) (fCons (fC (.int 1)) (fNil)))))) (tN 3)
      (sSeq (sSet 4 (fCall q_law_exact (fCons (fVar 0) (fCons (fVar 1) (fCons (fVar 3) (fCons (fVar 2) (fNil)))))))
      (sSeq (sSet 5 (fCall q_law_like (fCons (fVar 0) (fCons (fVar 1) (fCons (fVar 3) (fCons (fVar 2) (fNil)))))))
      (sSeq (sIf (fNot (fTru (fCall q_law_same (fCons (fCall qpossible_places (fCons (fVar 0) (fCons (fVar 4) (fNil)))) (fCons (fB gTuple (fCons (fFz (fLC [6] (fiSq (fVar 5)) (tN 6) (fYes) (f2 gIx (fVar 6) (fC (.int 0))))) (fNil))) (fNil))))))
      (sRet (fC (.bl false)))
      (sNext))
      (sFor (fiSq (fVar 5)) (tT 2 (tsC (tN 7) (tsC (tN 8) (tsN))))
      (sSeq (sIf (fNot (fTru (fCall q_law_same (fCons (fCall qtimes_at (fCons (fVar 0) (fCons (fVar 4) (fCons (fVar 7) (fNil))))) (fCons (fTup (fCons (fVar 8) (fCons (fVar 8) (fNil)))) (fNil))))))
      (sRet (fC (.bl false)))
      (sNext))
      (sSeq (sSet 9 (fCall qparted_by (fCons (fVar 0) (fCons (fVar 2) (fCons (fTup (fCons (fVar 7) (fCons (fVar 8) (fNil)))) (fNil))))))
      (sIf (fAnd (f2T (gEq) (fVar 3) (fC (.int 0))) (fOr (fNot (fTru (fIsi .tup (fVar 9)))) (f2T (gCmp fun i j => decide (j < i)) (fB gLen (fCons (fFz (fLC [10] (fiSq (fVar 9)) (tN 10) (f2T (gInX) (fVar 10) (fVar 1)) (fVar 10))) (fNil))) (fC (.int 0)))))
      (sRet (fC (.bl false)))
      (sNext)))))))))
      (sSeq (sSet 5 (fCall q_law_like (fCons (fVar 0) (fCons (fVar 1) (fCons (fC (.int 0)) (fCons (fVar 2) (fNil)))))))
      (sSeq (sIf (fNot (fTru (fCall q_law_same (fCons (fCall qparts_all (fCons (fVar 0) (fCons (fVar 1) (fCons (fB gTuple (fCons (fVar 5) (fNil))) (fNil))))) (fCons (f2 (gB (gEq)) (fB gLen (fCons (fVar 5) (fNil))) (fC (.int 1))) (fNil))))))
      (sRet (fC (.bl false)))
      (sNext))
      (sSeq (sSet 11 (fFz (fLstD (fNil))))
      (sSeq (sFor (fiRg1 (fCons (fB gLen (fCons (fVar 5) (fNil))) (fNil))) (tN 6)
      (sSet 11 (f2 gAdd (fVar 11) (fFz (fLC [12] (fiRg2 (fCons (f2 gAdd (fVar 6) (fC (.int 1))) (fCons (fB gLen (fCons (fVar 5) (fNil))) (fNil)))) (tN 12) (fYes) (fTup (fCons (fVar 6) (fCons (fVar 12) (fNil)))))))))
      (sRet (fCall q_law_same (fCons (fCall qnot_parted (fCons (fVar 0) (fCons (fVar 1) (fCons (fB gTuple (fCons (fVar 5) (fNil))) (fNil))))) (fCons (fB gTuple (fCons (fVar 11) (fNil))) (fNil)))))))))
def c_law_is_choice_right : FnC := runFn false 13 b_law_is_choice_right
abbrev q_law_is_choice_right : FnC := c_law_is_choice_right
theorem hq_law_is_choice_right : ∀ ds M r, q_law_is_choice_right ds M = some r → c_law_is_choice_right ds M = some r := fun _ _ _ h => h
/-- _law_is_more_right(field, chosen, more, shock): slots ['field', 'chosen', 'more', 'shock', 'before', 'now', 'place', 'home', 'both', 'due', 'off'] -/
def b_law_is_more_right : FS :=
    sSeq (sSet 4 (fCall qpossible_places (fCons (fVar 0) (fCons (fCall q_law_exact (fCons (fVar 0) (fCons (fVar 1) (fCons (fC (.int 0)) (fCons (fVar 3) (fNil)))))) (fNil)))))
      (sSeq (sSet 5 (fCall qpossible_places (fCons (fVar 0) (fCons (fCall q_law_exact (fCons (fVar 0) (fCons (fB gTuple (fCons (fFz (fBN gSortU (fCons (f2 gAdd (fVar 1) (fTup (fCons (fVar 2) (fNil)))) (fNil)))) (fNil))) (fCons (fC (.int 0)) (fCons (fVar 3) (fNil)))))) (fNil)))))
      (sSeq (sIf (fOr (fNot (fTru (fIsi .tup (fVar 4)))) (fOr (fNot (fTru (fIsi .tup (fVar 5)))) (f2T (gCmp fun i j => decide (j < i)) (fB gLen (fCons (fFz (fLC [6] (fiSq (fVar 5)) (tN 6) (f2T (gNotInX) (fVar 6) (fVar 4)) (fVar 6))) (fNil))) (fC (.int 0)))))
      (sRet (fC (.bl false)))
      (sNext))
      (sSeq (sSet 7 (fSlice (f2 gIx (f2 gIx (fVar 0) (fC (.int 2))) (fVar 2)) (fNoPart) (fPart (fC (.int 2)))))
      (sSeq (sSet 8 (f2 gAdd (fCall q_law_exact (fCons (fVar 0) (fCons (fTup (fCons (fVar 2) (fNil))) (fCons (fC (.int 0)) (fCons (fVar 3) (fNil)))))) (fCall q_law_exact (fCons (fVar 0) (fCons (fTup (fCons (fVar 2) (fNil))) (fCons (fC (.int 1)) (fCons (fVar 3) (fNil))))))))
      (sSeq (sSet 9 (fB gTuple (fCons (fFz (fLC [6] (fiSq (fCall q_law_places (fCons (fVar 0) (fNil)))) (tN 6) (f2T (gEq) (fCall q_law_far (fCons (fVar 7) (fCons (fVar 6) (fNil)))) (fCall q_law_far (fCons (fVar 7) (fCons (f2 gIx (fVar 3) (fC (.int 0))) (fNil))))) (fVar 6))) (fNil))))
      (sSeq (sIf (fNot (fTru (fCall q_law_same (fCons (fCall qpossible_places (fCons (fVar 0) (fCons (fVar 8) (fNil)))) (fCons (fVar 9) (fNil))))))
      (sRet (fC (.bl false)))
      (sNext))
      (sSeq (sIf (fNot (fTru (fCall q_law_same (fCons (fCall qpossible_places (fCons (fVar 0) (fCons (fSlice (fVar 8) (fNoPart) (fPart (fC (.int 1)))) (fNil)))) (fCons (fB gTuple (fCons (fCall q_law_places (fCons (fVar 0) (fNil))) (fNil))) (fNil))))))
      (sRet (fC (.bl false)))
      (sNext))
      (sSeq (sSet 10 (f2 gAdd (fSlice (fVar 8) (fNoPart) (fPart (fC (.int 1)))) (fTup (fCons (fTup (fCons (fVar 2) (fCons (fC (.int 1)) (fCons (f2 gAdd (f2 gAdd (f2 gIx (f2 gIx (fVar 8) (fC (.int 1))) (fC (.int 2))) (fC (.int 1))) (f2 gMul (f2 gIx (f2 gIx (f2 gIx (fVar 0) (fC (.int 3))) (fC (.int 1))) (fC (.int 0))) (f2 gAdd (f2 gIx (fVar 0) (fC (.int 0))) (f2 gIx (fVar 0) (fC (.int 1)))))) (fNil))))) (fNil)))))
      (sRet (fCall q_law_same (fCons (fCall qis_possible (fCons (fVar 0) (fCons (fVar 10) (fNil)))) (fCons (fC (.bl false)) (fNil)))))))))))))
def c_law_is_more_right : FnC := runFn false 11 b_law_is_more_right
abbrev q_law_is_more_right : FnC := c_law_is_more_right
theorem hq_law_is_more_right : ∀ ds M r, q_law_is_more_right ds M = some r → c_law_is_more_right ds M = some r := fun _ _ _ h => h
/-- _law_is_line_right(field): slots ['field', 'width', 'row', 'x', 'rows'] -/
def b_law_is_line_right : FS :=
    sSeq (sSet 1 (f2 gIx (fVar 0) (fC (.int 0))))
      (sSeq (sIf (f2T (gCmp fun i j => decide (i < j)) (fVar 1) (fC (.int 2)))
      (sRet (fC (.bl true)))
      (sNext))
      (sSeq (sSet 2 (fTup (fCons (fVar 1) (fCons (fC (.int 1)) (fCons (fTup (fCons (fTup (fCons (fC (.int 0)) (fCons (fC (.int 0)) (fCons (fC (.int 0)) (fNil))))) (fCons (fTup (fCons (f2 gSub (fVar 1) (fC (.int 1))) (fCons (fC (.int 0)) (fCons (fC (.int 0)) (fNil))))) (fNil)))) (fCons (f2 gIx (fVar 0) (fC (.int 3))) (fNil)))))))
      (sSeq (sFor (fiRg1 (fCons (fVar 1) (fNil))) (tN 3)
      (sSeq (sSet 4 (fCall q_law_exact (fCons (fVar 2) (fCons (fTup (fCons (fC (.int 0)) (fCons (fC (.int 1)) (fNil)))) (fCons (fC (.int 0)) (fCons (fTup (fCons (fTup (fCons (fVar 3) (fCons (fC (.int 0)) (fNil)))) (fCons (fC (.int 7)) (fNil)))) (fNil)))))))
      (sIf (fOr (fNot (fTru (fCall q_law_same (fCons (fCall qpossible_places (fCons (fVar 2) (fCons (fVar 4) (fNil)))) (fCons (fTup (fCons (fTup (fCons (fVar 3) (fCons (fC (.int 0)) (fNil)))) (fNil))) (fNil)))))) (fNot (fTru (fCall q_law_same (fCons (fCall qtimes_at (fCons (fVar 2) (fCons (fVar 4) (fCons (fTup (fCons (fVar 3) (fCons (fC (.int 0)) (fNil)))) (fNil))))) (fCons (fTup (fCons (fC (.int 7)) (fCons (fC (.int 7)) (fNil)))) (fNil)))))))
      (sRet (fC (.bl false)))
      (sNext))))
      (sRet (fC (.bl true))))))
def c_law_is_line_right : FnC := runFn false 5 b_law_is_line_right
abbrev q_law_is_line_right : FnC := c_law_is_line_right
theorem hq_law_is_line_right : ∀ ds M r, q_law_is_line_right ds M = some r → c_law_is_line_right ds M = some r := fun _ _ _ h => h
/-- law(script): slots ['script', 'draws', 'by', 'field', 'every', 'turn', 'shock', 'some', 'k', 'chosen', 'square', 'rows'] -/
def blaw : FS :=
    sSeq (sSet 1 (fCall q_law_draws (fCons (fVar 0) (fCons (fC (.int 260)) (fNil)))))
      (sSeq (sSet 2 (f2 gIx (fFz (fLstD (fCons (fC (.int 1)) (fCons (fC (.int 1)) (fCons (f2 gAdd (fC (.int 1)) (f2 gMod (fB gAbs (fCons (fCallS 1 q_law_cell (fCons (fVar 0) (fCons (fVar 1) (fNil)))) (fNil))) (f2 gPow (fC (.int 10)) (fC (.int 20))))) (fNil)))))) (fCallS 0 q_law_take (fCons (fVar 1) (fCons (fC (.int 3)) (fNil))))))
      (sSeq (sSet 3 (fCallS 0 q_law_sharp (fCons (fVar 1) (fCons (fCallS 0 q_law_field (fCons (fVar 1) (fCons (fC (.int 5)) (fCons (fC (.int 6)) (fCons (fVar 2) (fNil)))))) (fCons (fVar 2) (fNil))))))
      (sSeq (sSet 4 (fTupRg1 (fCons (fB gLen (fCons (f2 gIx (fVar 3) (fC (.int 2))) (fNil))) (fNil))))
      (sSeq (sFor (fiRg1 (fCons (fC (.int 3)) (fNil))) (tN 5)
      (sSeq (sSet 6 (fTup (fCons (fTup (fCons (fCallS 0 q_law_take (fCons (fVar 1) (fCons (f2 gIx (fVar 3) (fC (.int 0))) (fNil)))) (fCons (fCallS 0 q_law_take (fCons (fVar 1) (fCons (f2 gIx (fVar 3) (fC (.int 1))) (fNil)))) (fNil)))) (fCons (f2 gMul (fVar 2) (f2 gSub (fCallS 0 q_law_take (fCons (fVar 1) (fCons (fC (.int 60)) (fNil)))) (fC (.int 20)))) (fNil)))))
      (sSeq (sSet 7 (fB gTuple (fCons (fFz (fLC [8] (fiSq (fVar 4)) (tN 8) (f2T (gEq) (fCallS 0 q_law_take (fCons (fVar 1) (fCons (fC (.int 2)) (fNil)))) (fC (.int 0))) (fVar 8))) (fNil))))
      (sSeq (sSet 9 (f2 gIx (fFz (fLstD (fCons (fVar 4) (fCons (f2 gAdd (fVar 7) (f2 gRepZ (fSlice (fVar 4) (fNoPart) (fPart (fC (.int 1)))) (fB gInt (fCons (f2 (gB (gEq)) (fB gLen (fCons (fVar 7) (fNil))) (fC (.int 0))) (fNil))))) (fCons (fSlice (fVar 4) (fNoPart) (fPart (fC (.int 2)))) (fNil)))))) (fVar 5)))
      (sSeq (sIf (fNot (fTru (fCall q_law_is_choice_right (fCons (fVar 3) (fCons (fVar 9) (fCons (fVar 6) (fNil)))))))
      (sRet (fC (.bl false)))
      (sNext))
      (sIf (fNot (fTru (fCall q_law_is_more_right (fCons (fVar 3) (fCons (fVar 9) (fCons (fCallS 0 q_law_take (fCons (fVar 1) (fCons (fB gLen (fCons (fVar 4) (fNil))) (fNil)))) (fCons (fVar 6) (fNil))))))))
      (sRet (fC (.bl false)))
      (sNext)))))))
      (sSeq (sIf (fNot (fTru (fCall q_law_is_line_right (fCons (fVar 3) (fNil)))))
      (sRet (fC (.bl false)))
      (sNext))
      (sSeq (sSet 10 (fTup (fCons (fC (.int 2)) (fCons (fC (.int 2)) (fCons (fTup (fCons (fTup (fCons (fC (.int 0)) (fCons (fC (.int 0)) (fCons (fC (.int 0)) (fNil))))) (fCons (fTup (fCons (fC (.int 1)) (fCons (fC (.int 1)) (fCons (fC (.int 0)) (fNil))))) (fNil)))) (fCons (fTup (fCons (fTup (fCons (fC (.int 1)) (fCons (fC (.int 1)) (fNil)))) (fCons (fTup (fCons (fC (.int 2)) (fCons (fC (.int 2)) (fNil)))) (fNil)))) (fNil)))))))
      (sSeq (sSet 11 (fCall q_law_exact (fCons (fVar 10) (fCons (fTup (fCons (fC (.int 0)) (fCons (fC (.int 1)) (fNil)))) (fCons (fC (.int 0)) (fCons (fTup (fCons (fTup (fCons (fC (.int 0)) (fCons (fC (.int 1)) (fNil)))) (fCons (fC (.int 4)) (fNil)))) (fNil)))))))
      (sSeq (sIf (fOr (fNot (fTru (fCall q_law_same (fCons (fCall qpossible_places (fCons (fVar 10) (fCons (fVar 11) (fNil)))) (fCons (fTup (fCons (fTup (fCons (fC (.int 0)) (fCons (fC (.int 1)) (fNil)))) (fCons (fTup (fCons (fC (.int 1)) (fCons (fC (.int 0)) (fNil)))) (fNil)))) (fNil)))))) (fNot (fTru (fCall q_law_same (fCons (fCall qparts_all (fCons (fVar 10) (fCons (fTup (fCons (fC (.int 0)) (fCons (fC (.int 1)) (fNil)))) (fCons (fTup (fCons (fTup (fCons (fTup (fCons (fC (.int 0)) (fCons (fC (.int 1)) (fNil)))) (fCons (fC (.int 4)) (fNil)))) (fCons (fTup (fCons (fTup (fCons (fC (.int 1)) (fCons (fC (.int 0)) (fNil)))) (fCons (fC (.int 4)) (fNil)))) (fNil)))) (fNil))))) (fCons (fC (.bl false)) (fNil)))))))
      (sRet (fC (.bl false)))
      (sNext))
      (sRet (fAndV (fCall q_law_same (fCons (fCall qparts_all (fCons (fVar 10) (fCons (fTup (fCons (fC (.int 0)) (fCons (fC (.int 1)) (fNil)))) (fCons (fTup (fCons (fTup (fCons (fTup (fCons (fC (.int 0)) (fCons (fC (.int 0)) (fNil)))) (fCons (fC (.int 4)) (fNil)))) (fCons (fTup (fCons (fTup (fCons (fC (.int 1)) (fCons (fC (.int 0)) (fNil)))) (fCons (fC (.int 4)) (fNil)))) (fNil)))) (fNil))))) (fCons (fC (.bl true)) (fNil)))) (fCall q_law_is_choice_right (fCons (fVar 10) (fCons (fTup (fCons (fC (.int 0)) (fCons (fC (.int 1)) (fNil)))) (fCons (fTup (fCons (fTup (fCons (fC (.int 0)) (fCons (fC (.int 0)) (fNil)))) (fCons (fC (.int 4)) (fNil)))) (fNil)))))))))))))))
def claw : FnC := runFn false 12 blaw
end LP
namespace LP
open PySem PySem.Spec PyProof.Rows L2 PF
/-! calls with plain arguments -/
theorem argP_pl {d : D} (h : d.nr = true) (hr : d.isRef = false) (M : Mem) : argP M d = some d := by
  cases d with
  | ref n => cases hr
  | non => rfl
  | bl _ => rfl
  | int _ => rfl
  | str _ => rfl
  | tup _ => exact if_pos h
  | lst _ => exact if_pos h
  | kst _ => exact if_pos h
theorem argsP_pl : ∀ {ds : List D} (h : ∀ d, d ∈ ds → d.nr = true ∧ d.isRef = false) (M : Mem), argsP M ds = some ds
  | [], _, _ => rfl
  | d :: ds, h, M => by
    rw [argsP, argP_pl (h d (by simp)).1 (h d (by simp)).2, Option.bind_some, argsP_pl (fun e he => h e (List.mem_cons_of_mem _ he))]
    rfl
theorem anyRef_pl : ∀ {ds : List D} (h : ∀ d, d ∈ ds → d.nr = true ∧ d.isRef = false), anyRef ds = false
  | [], _ => rfl
  | d :: ds, h => by
    rw [anyRef, (h d (by simp)).2, anyRef_pl (fun e he => h e (List.mem_cons_of_mem _ he))]; rfl
def pls : List D → Bool
  | [] => true
  | d :: ds => d.nr && !d.isRef && pls ds
theorem pls_at : ∀ {ds : List D} (h : pls ds = true), ∀ d, d ∈ ds → d.nr = true ∧ d.isRef = false
  | [], _, d, hd => by simp at hd
  | e :: ds, h, d, hd => by
    simp only [pls, Bool.and_eq_true, Bool.not_eq_true'] at h
    rcases List.mem_cons.mp hd with rfl | hd
    · exact h.1
    · exact pls_at h.2 d hd
/-- a call of a function that changes nothing -/
theorem cpl {c : FnC} {ds : List D} {r : D} (hp : pls ds = true) (h : c ds [] = some (r, [])) (M : Mem) : callP c ds M = some (r, M) := by
  have hh := pls_at hp
  rw [callP, argsP_pl hh, Option.bind_some, h, Option.bind_some, anyRef_pl hh]; rfl
theorem nl_of_nr0 : True := trivial
/-- a call with the drawn numbers ahead -/
theorem cs0 {c : FnC} {ds : List D} {r : D} {L L' : List D} (hp : pls ds = true) (hL : D.nrs L = true) (hL' : D.nrs L' = true) (hr : r.nr = true) (h : c (.ref 0 :: ds) [.lst L] = some (r, [.lst L'])) (M : Mem) : callS 0 c (.ref 0 :: ds) (.lst L :: M) = some (r, .lst L' :: M) := by
  have hh := pls_at hp
  have hr1 : refIn 0 ds = false := by
    clear h
    induction ds with
    | nil => rfl
    | cons d ds ih =>
      have h1 := (hh d (by simp)).2
      cases d with
      | ref n => cases h1
      | _ => exact ih (by simp only [pls, Bool.and_eq_true] at hp; exact hp.2) (fun e he => hh e (List.mem_cons_of_mem _ he))
  have hrs : refIn 0 (D.non :: ds) = false := hr1
  have ha : argsP (.lst L :: M) (D.non :: ds) = some (D.non :: ds) := by
    rw [argsP]; simp [argsP_pl hh]
  have hn : anyRef (D.non :: ds) = false := by rw [anyRef, anyRef_pl hh]; rfl
  have hm : (MO.lst L).nr = true := hL
  simp [callS, hm, hrs, ha, hn, h, hL', hr]
theorem cs1 {c : FnC} {d : D} {ds : List D} {r : D} {L L' : List D} (hp : pls (d :: ds) = true) (hL : D.nrs L = true) (hL' : D.nrs L' = true) (hr : r.nr = true) (h : c (d :: .ref 0 :: ds) [.lst L] = some (r, [.lst L'])) (M : Mem) : callS 1 c (d :: .ref 0 :: ds) (.lst L :: M) = some (r, .lst L' :: M) := by
  have hh := pls_at hp
  have hr1 : ∀ es : List D, pls es = true → refIn 0 es = false := by
    intro es
    induction es with
    | nil => intro _; rfl
    | cons d ds ih =>
      intro hp
      have hh := pls_at hp
      have h1 := (hh d (by simp)).2
      cases d with
      | ref n => cases h1
      | _ => exact ih (by simp only [pls, Bool.and_eq_true] at hp; exact hp.2)
  have hp2 : pls (d :: D.non :: ds) = true := by
    simp only [pls, Bool.and_eq_true] at hp ⊢
    exact ⟨hp.1, ⟨rfl, rfl⟩, hp.2⟩
  have hrs := hr1 _ hp2
  have ha : argsP (.lst L :: M) (d :: D.non :: ds) = some (d :: D.non :: ds) := argsP_pl (pls_at hp2) _
  have hn : anyRef (d :: D.non :: ds) = false := anyRef_pl (pls_at hp2)
  have hm : (MO.lst L).nr = true := hL
  simp [callS, hm, hrs, ha, hn, h, hL', hr]
/-- a call that hands back a new changeable list -/
theorem csm0 {c : FnC} {ds : List D} {L L' G : List D} (hp : pls ds = true) (hL : D.nrs L = true) (hL' : D.nrs L' = true) (hG : D.nrs G = true) (h : c (.ref 0 :: ds) [.lst L] = some (.ref 1, [.lst L', .lst G])) (M : Mem) : callSM 0 c (.ref 0 :: ds) (.lst L :: M) = some (.ref (M.length + 1), .lst L' :: M ++ [.lst G]) := by
  have hh := pls_at hp
  have ha : argsP (.lst L :: M) (D.non :: ds) = some (D.non :: ds) := by
    rw [argsP]; simp [argsP_pl hh]
  have hn : anyRef (D.non :: ds) = false := by rw [anyRef, anyRef_pl hh]; rfl
  have hm : (MO.lst L).nr = true := hL
  simp [callSM, hm, ha, hn, h, hL', hG]
/-! comprehensions and loops over images -/
theorem lc_gen {α : Type} (e : α → D) (p : α → Bool) (g : α → D) {c : Mem → Bool} {t : FG} {ft : FT} {fe : FE} {ρ : Rho} {M : Mem} (hc : c M = true) : ∀ (xs : List α) (acc : List D), (∀ x, x ∈ xs → ∃ ρ', t (e x) ρ = some ρ' ∧ ft ρ' M = some (p x, M) ∧ (p x = true → fe ρ' M = some (g x, M))) → lcLoop c t ft fe ρ (xs.map e) acc M = some (acc ++ (xs.filter p).map g, M)
  | [], acc, _ => by simp [lcLoop, hc]
  | x :: xs, acc, h => by
    obtain ⟨ρ', h1, h2, h3⟩ := h x (by simp)
    have ih := fun acc => lc_gen e p g (ρ := ρ) (fe := fe) (ft := ft) (t := t) hc xs acc fun y hy => h y (List.mem_cons_of_mem _ hy)
    rw [List.map_cons, lcLoop, if_pos hc, h1, Option.bind_some, h2, Option.bind_some]
    by_cases hp : p x = true
    · rw [hp, if_pos rfl, h3 hp, Option.bind_some, ih, List.filter_cons_of_pos hp]
      simp
    · rw [if_neg hp, ih, List.filter_cons_of_neg hp]
theorem lc_all {α : Type} (e : α → D) (g : α → D) {c : Mem → Bool} {t : FG} {ft : FT} {fe : FE} {ρ : Rho} {M : Mem} (hc : c M = true) (xs : List α) (acc : List D) (h : ∀ x, x ∈ xs → ∃ ρ', t (e x) ρ = some ρ' ∧ ft ρ' M = some (true, M) ∧ fe ρ' M = some (g x, M)) : lcLoop c t ft fe ρ (xs.map e) acc M = some (acc ++ xs.map g, M) := by
  have := lc_gen e (fun _ => true) g (c := c) (t := t) (ft := ft) (fe := fe) (ρ := ρ) hc xs acc fun x hx => by
    obtain ⟨ρ', a, b, d⟩ := h x hx
    exact ⟨ρ', a, b, fun _ => d⟩
  rw [this, List.filter_eq_self.mpr fun _ _ => rfl]
theorem loop_map {α : Type} (e : α → D) {c : Mem → Bool} {step : D → FS} (I : List α → Rho → Mem → Prop) (ys : List α) {ρ : Rho} {M : Mem} (hc : ∀ a ρ M, I a ρ M → c M = true)
    (hs : ∀ pre y suf ρ M, ys = pre ++ y :: suf → I pre ρ M → ∃ ρ' M', step (e y) ρ M = some (.nx ρ', M') ∧ I (pre ++ [y]) ρ' M') (h0 : I [] ρ M) : ∃ ρ' M', sLoop c step (ys.map e) ρ M = some (.nx ρ', M') ∧ I ys ρ' M' := by
  have main : ∀ (suf pre : List α) (ρ : Rho) (M : Mem), ys = pre ++ suf → I pre ρ M → ∃ ρ' M', sLoop c step (suf.map e) ρ M = some (.nx ρ', M') ∧ I ys ρ' M' := by
    intro suf
    induction suf with
    | nil =>
      intro pre ρ M h hI
      rw [List.append_nil] at h; subst h
      exact ⟨ρ, M, by rw [List.map_nil, sLoop, if_pos (hc _ _ _ hI)], hI⟩
    | cons y suf ih =>
      intro pre ρ M h hI
      obtain ⟨ρ', M', e1, h1⟩ := hs pre y suf ρ M h hI
      obtain ⟨ρ2, M2, e2, h2⟩ := ih (pre ++ [y]) ρ' M' (by rw [h]; simp) h1
      exact ⟨ρ2, M2, by rw [List.map_cons, sLoop, if_pos (hc _ _ _ hI), e1]; exact e2, h2⟩
  exact main ys [] ρ M rfl h0
/-- numbers from lo on -/
def upI (lo : Int) (ks : List Nat) : List Int := ks.map fun (k : Nat) => lo + k
theorem rgD_map (lo : Int) (n : Nat) : rgD lo n = (List.range n).map fun (k : Nat) => D.int (lo + k) := rfl
theorem upI_iL (lo : Int) (ks : List Nat) : ks.map (fun (k : Nat) => D.int (lo + k)) = iL (upI lo ks) := by simp [iL, upI]
theorem nrs_map_of {α : Type} (f : α → D) (h : ∀ a, (f a).nr = true) : ∀ xs : List α, D.nrs (xs.map f) = true
  | [] => rfl
  | x :: xs => by
    show ((f x).nr && D.nrs (xs.map f)) = true
    rw [h x, nrs_map_of f h xs]; rfl
theorem rg_pre {n k : Nat} {pre suf : List Nat} (h : List.range n = pre ++ k :: suf) : k < n ∧ pre = List.range k := by
  have hk : (List.range n)[pre.length]? = some k := by rw [h]; simp
  have hl := (List.getElem?_eq_some_iff.mp hk).1
  rw [List.length_range] at hl
  rw [List.getElem?_range hl] at hk
  have e : pre.length = k := Option.some.inj hk
  refine ⟨by omega, ?_⟩
  have : (List.range n).take pre.length = pre := by rw [h]; simp
  rw [← this, e, List.take_range, Nat.min_eq_left (by omega)]
/-! slices -/
theorem cutTake (L : List D) (n : Nat) : PF.cutD L none (some (n : Int)) = L.take n := by
  unfold PF.cutD
  rw [HT.sIx_none, HT.sIx_nat, List.drop_zero, Nat.sub_zero]
  apply List.ext_getElem?
  intro i
  rw [List.getElem?_take, List.getElem?_take]
  by_cases h : i < n
  · rw [if_pos h]
    by_cases h2 : i < min n L.length
    · rw [if_pos h2]
    · rw [if_neg h2, List.getElem?_eq_none (by omega)]
  · rw [if_neg h, if_neg (by omega)]
theorem cutDrop (L : List D) (n : Nat) : PF.cutD L (some (n : Int)) none = L.drop n := by
  unfold PF.cutD
  rw [HT.sIx_none, HT.sIx_nat]
  by_cases h : n ≤ L.length
  · rw [Nat.min_eq_left h]
    exact List.take_of_length_le (by rw [List.length_drop]; omega)
  · rw [Nat.min_eq_right (by omega), List.drop_eq_nil_of_le (Nat.le_refl _), List.drop_eq_nil_of_le (by omega)]
    simp
theorem slTake (L : List D) (n : Nat) (M : Mem) : gSlice (.tup L) none (some (n : Int)) M = some (.tup (L.take n)) := by
  show some (D.tup (PF.cutD L none (some (n : Int)))) = _
  rw [cutTake]
theorem slDrop (L : List D) (n : Nat) (M : Mem) : gSlice (.tup L) (some (n : Int)) none M = some (.tup (L.drop n)) := by
  show some (D.tup (PF.cutD L (some (n : Int)) none)) = _
  rw [cutDrop]
theorem slTakeL (L : List D) (n : Nat) (M : Mem) : gSlice (.lst L) none (some (n : Int)) M = some (.lst (L.take n)) := by
  show some (D.lst (PF.cutD L none (some (n : Int)))) = _
  rw [cutTake]
theorem slDropL (L : List D) (n : Nat) (M : Mem) : gSlice (.lst L) (some (n : Int)) none M = some (.lst (L.drop n)) := by
  show some (D.lst (PF.cutD L (some (n : Int)) none)) = _
  rw [cutDrop]
theorem addTup (a b : List D) (M : Mem) (h : a.length + b.length ≤ 10000) : gAdd (.tup a) (.tup b) M = some (.tup (a ++ b)) := by
  have h' : a.length + b.length ≤ LINE := by show _ ≤ 16777216; omega
  unfold gAdd
  show (if a.length + b.length ≤ LINE then some (D.tup (a ++ b)) else none) = _
  rw [if_pos h']
theorem addLst (a b : List D) (M : Mem) (h : a.length + b.length ≤ 10000) : gAdd (.lst a) (.lst b) M = some (.lst (a ++ b)) := by
  have h' : a.length + b.length ≤ LINE := by show _ ≤ 16777216; omega
  unfold gAdd
  show (if a.length + b.length ≤ LINE then some (D.lst (a ++ b)) else none) = _
  rw [if_pos h']
theorem atLast {α} (L : List α) (d : α) : L2.atI (L ++ [d]) (-1) = some d := by
  rw [atI_eq]
  unfold L2.ixN
  rw [if_neg (by omega), if_pos (by simp; omega)]
  show (L ++ [d])[_]? = _
  rw [show (-1 + ((L ++ [d]).length : Int)).toNat = L.length by simp; omega]
  simp
/-! least and greatest of whole numbers -/
def minI (x : Int) (xs : List Int) : Int := xs.foldl (fun a y => if y < a then y else a) x
def maxI (x : Int) (xs : List Int) : Int := xs.foldl (fun a y => if a < y then y else a) x
theorem minDd_iL : ∀ (xs : List Int) (x : Int), minDd (.int x) (iL xs) = .int (minI x xs)
  | [], x => rfl
  | y :: xs, x => by
    show minDd (if PySem.W.dataLt (.int y) (.int x) = true then .int y else .int x) (iL xs) = .int (minI (if y < x then y else x) xs)
    rw [PySem.W.dataLt_int, ← minDd_iL xs]
    by_cases h : y < x <;> simp [h]
theorem maxDd_iL : ∀ (xs : List Int) (x : Int), maxDd (.int x) (iL xs) = .int (maxI x xs)
  | [], x => rfl
  | y :: xs, x => by
    show maxDd (if PySem.W.dataLt (.int x) (.int y) = true then .int y else .int x) (iL xs) = .int (maxI (if x < y then y else x) xs)
    rw [PySem.W.dataLt_int, ← maxDd_iL xs]
    by_cases h : x < y <;> simp [h]
theorem dps_iL : ∀ (ns : List Int), D.dps 59 (iL ns) = true
  | [] => rfl
  | n :: ns => by
    show (D.dp 59 (.int n) && D.dps 59 (iL ns)) = true
    rw [dps_iL ns]; rfl
theorem okAl_iL (ns : List Int) : okAl (iL ns) = true := by
  simp only [okAl, nls_iL, dps_iL, Bool.and_self, Bool.true_and, Bool.and_eq_true, List.all_eq_true]
  constructor
  · intro a ha b hb
    obtain ⟨i, _, rfl⟩ := List.mem_map.mp ha
    obtain ⟨j, _, rfl⟩ := List.mem_map.mp hb
    rfl
  · intro a ha
    obtain ⟨i, _, rfl⟩ := List.mem_map.mp ha
    rfl
theorem min_iL (x : Int) (xs : List Int) (M : Mem) : gMin1 [.lst (iL (x :: xs))] M = some (.int (minI x xs)) := by
  show (if okAl (iL (x :: xs)) = true then some (minDd (.int x) (iL xs)) else none) = _
  rw [if_pos (okAl_iL _), minDd_iL]
theorem max_iL (x : Int) (xs : List Int) (M : Mem) : gMax1 [.lst (iL (x :: xs))] M = some (.int (maxI x xs)) := by
  show (if okAl (iL (x :: xs)) = true then some (maxDd (.int x) (iL xs)) else none) = _
  rw [if_pos (okAl_iL _), maxDd_iL]
theorem min_ref {n : Nat} {M : Mem} {x : Int} {xs : List Int} (h : M[n]? = some (.lst (iL (x :: xs)))) : gMin1 [.ref n] M = some (.int (minI x xs)) := by
  have : gMin1 [.ref n] M = gMin1 [.lst (iL (x :: xs))] M := by
    show (lsOf (.ref n) M).bind _ = _
    rw [ev_lsr, h]; rfl
  rw [this, min_iL]
theorem max_ref {n : Nat} {M : Mem} {x : Int} {xs : List Int} (h : M[n]? = some (.lst (iL (x :: xs)))) : gMax1 [.ref n] M = some (.int (maxI x xs)) := by
  have : gMax1 [.ref n] M = gMax1 [.lst (iL (x :: xs))] M := by
    show (lsOf (.ref n) M).bind _ = _
    rw [ev_lsr, h]; rfl
  rw [this, max_iL]
theorem minI_le : ∀ (xs : List Int) (x : Int), minI x xs ≤ x ∧ ∀ y, y ∈ xs → minI x xs ≤ y
  | [], x => ⟨Int.le_refl _, by simp⟩
  | y :: xs, x => by
    obtain ⟨h1, h2⟩ := minI_le xs (if y < x then y else x)
    have e : minI x (y :: xs) = minI (if y < x then y else x) xs := rfl
    have h3 : (if y < x then y else x) ≤ x ∧ (if y < x then y else x) ≤ y := by split <;> omega
    rw [e]
    refine ⟨Int.le_trans h1 h3.1, fun z hz => ?_⟩
    rcases List.mem_cons.mp hz with hz | hz
    · rw [hz]; exact Int.le_trans h1 h3.2
    · exact h2 z hz
theorem minI_mem : ∀ (xs : List Int) (x : Int), minI x xs ∈ x :: xs
  | [], x => by simp [minI]
  | y :: xs, x => by
    have e : minI x (y :: xs) = minI (if y < x then y else x) xs := rfl
    have := minI_mem xs (if y < x then y else x)
    rw [e]
    rcases List.mem_cons.mp this with h | h
    · rw [h]; split <;> simp
    · exact List.mem_cons_of_mem _ (List.mem_cons_of_mem _ h)
theorem maxI_ge : ∀ (xs : List Int) (x : Int), x ≤ maxI x xs ∧ ∀ y, y ∈ xs → y ≤ maxI x xs
  | [], x => ⟨Int.le_refl _, by simp⟩
  | y :: xs, x => by
    obtain ⟨h1, h2⟩ := maxI_ge xs (if x < y then y else x)
    have e : maxI x (y :: xs) = maxI (if x < y then y else x) xs := rfl
    have h3 : x ≤ (if x < y then y else x) ∧ y ≤ (if x < y then y else x) := by split <;> omega
    rw [e]
    refine ⟨Int.le_trans h3.1 h1, fun z hz => ?_⟩
    rcases List.mem_cons.mp hz with hz | hz
    · rw [hz]; exact Int.le_trans h3.2 h1
    · exact h2 z hz
theorem maxI_mem : ∀ (xs : List Int) (x : Int), maxI x xs ∈ x :: xs
  | [], x => by simp [maxI]
  | y :: xs, x => by
    have e : maxI x (y :: xs) = maxI (if x < y then y else x) xs := rfl
    have := maxI_mem xs (if x < y then y else x)
    rw [e]
    rcases List.mem_cons.mp this with h | h
    · rw [h]; split <;> simp
    · exact List.mem_cons_of_mem _ (List.mem_cons_of_mem _ h)
theorem seq_step {f g : FS} {ρ ρ' : Rho} {M M' : Mem} (h : f ρ M = some (.nx ρ', M')) : sSeq f g ρ M = g ρ' M' := by rw [ev_seq, h]; rfl
theorem seq2_step {f f' g : FS} {ρ ρ' : Rho} {M M' : Mem} (h : sSeq f f' ρ M = some (.nx ρ', M')) : sSeq f (sSeq f' g) ρ M = g ρ' M' := by
  rw [ev_seq] at h ⊢
  obtain ⟨o, h1, h2⟩ := Option.bind_eq_some_iff.mp h
  rw [h1, Option.bind_some]
  obtain ⟨o1, o2⟩ := o
  cases o1 with
  | nx ρ1 =>
    have h3 : f' ρ1 o2 = some (.nx ρ', M') := h2
    show sSeq f' g ρ1 o2 = _
    rw [ev_seq, h3]; rfl
  | _ => cases h2
/-- a loop that ends with the first one found -/
theorem loop_fs {α : Type} (e : α → D) (f : α → Option D) {c : Mem → Bool} {step : D → FS} (I : Rho → Prop) {M : Mem} (hc : c M = true) : ∀ (xs : List α), (∀ x, x ∈ xs → ∀ ρ, I ρ → (∀ d, f x = some d → step (e x) ρ M = some (.ret d, M)) ∧ (f x = none → ∃ ρ', I ρ' ∧ step (e x) ρ M = some (.nx ρ', M))) → ∀ ρ, I ρ →
    (∀ d, xs.findSome? f = some d → sLoop c step (xs.map e) ρ M = some (.ret d, M)) ∧ (xs.findSome? f = none → ∃ ρ', I ρ' ∧ sLoop c step (xs.map e) ρ M = some (.nx ρ', M))
  | [], _, ρ, hI => ⟨fun d h => by simp at h, fun _ => ⟨ρ, hI, by rw [List.map_nil, sLoop, if_pos hc]⟩⟩
  | x :: xs, hs, ρ, hI => by
    obtain ⟨h1, h2⟩ := hs x (by simp) ρ hI
    rw [List.findSome?_cons]
    cases hf : f x with
    | some d =>
      refine ⟨fun d' h => ?_, fun h => by cases h⟩
      cases h
      rw [List.map_cons, sLoop, if_pos hc, h1 d hf]; rfl
    | none =>
      obtain ⟨ρ', hI', e1⟩ := h2 hf
      obtain ⟨g1, g2⟩ := loop_fs e f I hc xs (fun y hy => hs y (List.mem_cons_of_mem _ hy)) ρ' hI'
      refine ⟨fun d h => ?_, fun h => ?_⟩
      · rw [List.map_cons, sLoop, if_pos hc, e1]; exact g1 d h
      · obtain ⟨ρ2, hI2, e2⟩ := g2 h
        exact ⟨ρ2, hI2, by rw [List.map_cons, sLoop, if_pos hc, e1]; exact e2⟩
/-- the last item exchanged -/
theorem ixN_last' {α} (L : List α) (d : α) : L2.ixN (L ++ [d]).length (-1) = some L.length := by
  unfold L2.ixN
  rw [if_neg (by omega), if_pos (by simp; omega)]
  rw [show (-1 + ((L ++ [d]).length : Int)).toNat = L.length by simp; omega]
theorem all_bls (bs : List Bool) (M : Mem) : gAll [.lst (bs.map D.bl)] M = some (.bl (bs.all id)) := by
  have : ∀ bs : List Bool, blsOf (bs.map D.bl) = some bs := by
    intro bs
    induction bs with
    | nil => rfl
    | cons b bs ih =>
      show (blsOf (bs.map D.bl)).map (b :: ·) = _
      rw [ih]; rfl
  show ((blsOf (bs.map D.bl)).map fun bs => D.bl (bs.all id)) = _
  rw [this]; rfl
end LP
namespace LP
open PySem PySem.Spec PyProof.Rows L2 PF
@[simp] theorem int_argP (q : Int) (M) : argP M (.int q) = some (.int q) := rfl
@[simp] theorem bl_argP (q : Bool) (M) : argP M (.bl q) = some (.bl q) := rfl
/-- what a drawing gives -/
def tk (xs : List Int) (m : Int) : Int := match xs.getLast? with
  | none => 0
  | some v => v.fmod m
theorem tk_lt {xs : List Int} {m : Int} (h : 0 < m) : 0 ≤ tk xs m ∧ tk xs m < m := by
  unfold tk
  split
  · omega
  · rw [Int.fmod_eq_emod_of_nonneg _ (by omega)]
    exact ⟨Int.emod_nonneg _ (by omega), Int.emod_lt_of_pos _ h⟩
theorem dropLast_iL (xs : List Int) : (iL xs).dropLast = iL xs.dropLast := by
  simp [iL, List.map_dropLast]
theorem take_ev {xs : List Int} {m : Int} (hm : m ≠ 0) : c_law_take [.ref 0, .int m] [.lst (iL xs)] = some (.int (tk xs m), [.lst (iL xs.dropLast)]) := by
  cases xs with
  | nil => simp [c_law_take, b_law_take, runFn, startR, tk, fin, Mem.nr, MO.nr, D.nr, D.nrs]
  | cons x xs =>
    have hl : (iL (x :: xs))[xs.length]? = (x :: xs).getLast?.map .int := by rw [iL_at]; simp [List.getLast?_eq_getElem?]
    obtain ⟨v, hv⟩ : ∃ v, (x :: xs).getLast? = some v := ⟨_, List.getLast?_cons⟩
    rw [hv] at hl
    have hn := nrs_iL (x :: xs).dropLast
    have hd := dropLast_iL (x :: xs)
    have hz : ((iL (x :: xs)).length : Int) = xs.length + 1 := by simp
    have hz2 : ¬ ((xs.length : Int) + 1 = 0) := by omega
    have hl' : (iL (x :: xs))[(iL (x :: xs)).length - 1]? = some (.int v) := by rw [show (iL (x :: xs)).length - 1 = xs.length by simp]; exact hl
    generalize iL (x :: xs) = L at *
    simp [c_law_take, b_law_take, runFn, startR, tk, hv, hz, hz2, hl', hm, hd, fin, Mem.nr, MO.nr, D.nr, D.nrs, hn]
theorem take_call {n : Nat} {M : Mem} {xs : List Int} {m : Int} (h : M[n]? = some (.lst (iL xs))) (hm : m ≠ 0) : callS 0 c_law_take [.ref n, .int m] M = some (.int (tk xs m), M.set n (.lst (iL xs.dropLast))) := by
  have hn := nrs_iL xs
  have hn' := nrs_iL xs.dropLast
  simp [callS, h, MO.nr, hn, refIn, argsP, argP, D.nr, take_ev hm, hn', D.nl, anyRef, D.isRef]
theorem lc_map {c : Mem → Bool} {t : FG} {ft : FT} {fe : FE} {ρ : Rho} {M : Mem} (g : D → D) (hc : c M = true) : ∀ (xs acc : List D), (∀ d, d ∈ xs → ∃ ρ', t d ρ = some ρ' ∧ ft ρ' M = some (true, M) ∧ fe ρ' M = some (g d, M)) → lcLoop c t ft fe ρ xs acc M = some (acc ++ xs.map g, M)
  | [], acc, _ => by simp [lcLoop, hc]
  | d :: xs, acc, h => by
    obtain ⟨ρ', h1, h2, h3⟩ := h d (by simp)
    rw [lcLoop, if_pos hc, h1]
    simp only [Option.bind_some]
    rw [h2]
    simp only [Option.bind_some, if_true]
    rw [h3]
    simp only [Option.bind_some]
    rw [lc_map g hc xs _ fun d hd => h d (List.mem_cons_of_mem _ hd)]
    simp
theorem draws_ev (ns : List Int) (hl : ns.length ≤ 63) (many : Nat) (hm : many ≤ 1000) : ∃ xs : List Int, c_law_draws [.kst (iL ns), .int many] [] = some (.ref 0, [.lst (iL xs)]) := by
  have main : ∀ cells : List Int, 0 < cells.length → cells.length ≤ 64 → ∃ ρ' M', sLoop (chk none (rgD 0 many)) (sStep (tN 6)
      (sSeq (sSet 7 (f2 gMod (fVar 6) (fB gLen (fCons (fVar 2) (fNil)))))
      (sIf (fAnd (f2T (gCmp fun i j => decide (j ≤ i)) (f2 gIx (fVar 2) (fVar 7)) (f2 gPow (fC (.int 10)) (fC (.int 18)))) (f2T (gCmp fun i j => decide (j < i)) (f2 gIx (fVar 4) (fVar 7)) (fC (.int 0))))
      (sSeq (sDrop (fM "list" gAppend (fVar 5) (fCons (f2 gMod (fB gInt (fCons (f2 gIx (fVar 4) (fVar 7)) (fNil))) (fC (.int 1000))) (fNil))))
      (sSetIx (f2 gFdiv (f2 gIx (fVar 4) (fVar 7)) (fC (.int 1000))) (fVar 4) (fVar 7)))
      (sSeq (sSet 8 (f2 gMod (fB gInt (fCons (f2 gAdd (f2 gAdd (f2 gMul (f2 gIx (fVar 2) (fVar 7)) (fC (.int 48271))) (f2 gMul (fVar 6) (fC (.int 69621)))) (fC (.int 11))) (fNil))) (fC (.int 2147483647))))
      (sDrop (fM "list" gAppend (fVar 5) (fCons (f2 gMod (fB gInt (fCons (f2 gAdd (f2 gAdd (f2 gMul (fVar 8) (fVar 8)) (f2 gMul (fC (.int 3)) (fVar 8))) (fVar 6)) (fNil))) (fC (.int 1000003))) (fNil))))))))
      (rgD 0 many) [some (.kst (iL ns)), some (.int many), some (.ref 0), none, some (.ref 1), some (.ref 2), none, none, none] [.lst (iL cells), .lst (iL cells), .lst []] = some (.nx ρ', M') ∧
      ∃ rest draws x6 x7 x8, ρ' = [some (.kst (iL ns)), some (.int many), some (.ref 0), none, some (.ref 1), some (.ref 2), x6, x7, x8] ∧ M' = [.lst (iL cells), .lst (iL rest), .lst (iL draws)] := by
    intro cells h0 h64
    have := loop_inv (c := chk none (rgD 0 many)) (xs := rgD 0 many) (ρ := [some (.kst (iL ns)), some (.int many), some (.ref 0), none, some (.ref 1), some (.ref 2), none, none, none]) (M := [.lst (iL cells), .lst (iL cells), .lst []])
      (fun k ρ' M' => ∃ (rest draws : List Int) (x6 x7 x8 : Option D), ρ' = [some (.kst (iL ns)), some (.int many), some (.ref 0), none, some (.ref 1), some (.ref 2), x6, x7, x8] ∧ M' = [.lst (iL cells), .lst (iL rest), .lst (iL draws)] ∧ rest.length = cells.length ∧ draws.length = k) (fun _ _ _ _ => rfl)
      (step := (sStep (tN 6)
      (sSeq (sSet 7 (f2 gMod (fVar 6) (fB gLen (fCons (fVar 2) (fNil)))))
      (sIf (fAnd (f2T (gCmp fun i j => decide (j ≤ i)) (f2 gIx (fVar 2) (fVar 7)) (f2 gPow (fC (.int 10)) (fC (.int 18)))) (f2T (gCmp fun i j => decide (j < i)) (f2 gIx (fVar 4) (fVar 7)) (fC (.int 0))))
      (sSeq (sDrop (fM "list" gAppend (fVar 5) (fCons (f2 gMod (fB gInt (fCons (f2 gIx (fVar 4) (fVar 7)) (fNil))) (fC (.int 1000))) (fNil))))
      (sSetIx (f2 gFdiv (f2 gIx (fVar 4) (fVar 7)) (fC (.int 1000))) (fVar 4) (fVar 7)))
      (sSeq (sSet 8 (f2 gMod (fB gInt (fCons (f2 gAdd (f2 gAdd (f2 gMul (f2 gIx (fVar 2) (fVar 7)) (fC (.int 48271))) (f2 gMul (fVar 6) (fC (.int 69621)))) (fC (.int 11))) (fNil))) (fC (.int 2147483647))))
      (sDrop (fM "list" gAppend (fVar 5) (fCons (f2 gMod (fB gInt (fCons (f2 gAdd (f2 gAdd (f2 gMul (fVar 8) (fVar 8)) (f2 gMul (fC (.int 3)) (fVar 8))) (fVar 6)) (fNil))) (fC (.int 1000003))) (fNil)))))))))
      ?_ ⟨cells, [], none, none, none, rfl, rfl, rfl, rfl⟩
    · obtain ⟨ρ', M', e, rest, draws, x6, x7, x8, e1, e2, _⟩ := this
      exact ⟨ρ', M', e, rest, draws, x6, x7, x8, e1, e2⟩
    · rintro k d ρ M hd ⟨rest, draws, x6, x7, x8, rfl, rfl, hr, hk⟩
      obtain ⟨hk2, rfl⟩ := rgD_at hd
      have lc : (iL cells).length = cells.length := by simp
      have lr : (iL rest).length = cells.length := by simp [hr]
      have hne : ¬ ((cells.length : Int) = 0) := by omega
      have hcn : cells ≠ [] := by rintro rfl; simp at h0
      have em : ((k : Int).fmod (cells.length : Int)) = ((k % cells.length : Nat) : Int) := by rw [Int.fmod_eq_emod_of_nonneg _ (by omega)]; rfl
      have hj : k % cells.length < cells.length := Nat.mod_lt _ h0
      generalize k % cells.length = j at em hj
      obtain ⟨c, hc⟩ : ∃ c, cells[j]? = some c := ⟨_, List.getElem?_eq_getElem hj⟩
      obtain ⟨r, hrr⟩ : ∃ c, rest[j]? = some c := ⟨_, List.getElem?_eq_getElem (by omega)⟩
      have a1 : L2.atI (iL cells) (j : Int) = some (.int c) := at_nat (by rw [iL_at, hc]; rfl)
      have a2 : L2.atI (iL rest) (j : Int) = some (.int r) := at_nat (by rw [iL_at, hrr]; rfl)
      have a3 : L2.ixN (iL rest).length (j : Int) = some j := by
        unfold L2.ixN
        rw [if_pos (by omega), if_pos (by omega)]; rfl
      have ld : (iL draws).length < LINE := by rw [iL_len, hk]; show k < 16777216; omega
      have op : okPow 10 18 = true := by decide
      have m1 : okMul c 48271 = true := okMul_r (by decide)
      have m2 : okMul (k : Int) 69621 = true := okMul_r (by decide)
      have d1 : okDiv 1000 = true := okDiv_of (by decide) (Nat.lt_of_lt_of_le (by decide : (1000 : Int).natAbs < 2 ^ 10) (Nat.pow_le_pow_right (by decide) (by decide)))
      by_cases hbig : (10 : Int) ^ 18 ≤ c ∧ 0 < r
      · refine ⟨_, _, ?_, rest.set j (r.fdiv 1000), draws ++ [r.fmod 1000], some (.int k), some (.int j), x8, rfl, rfl, by simp [hr], by simp [hk]⟩
        have e1 : (iL rest).set j (.int (r.fdiv 1000)) = iL (rest.set j (r.fdiv 1000)) := by simp [iL, List.map_set]
        have e2 : iL draws ++ [.int (r.fmod 1000)] = iL (draws ++ [r.fmod 1000]) := by simp [iL]
        have hb1 := hbig.1
        simp only [← e1, ← e2]
        clear e1 e2
        generalize iL cells = L1 at *
        generalize iL rest = L2 at *
        generalize iL draws = L3 at *
        simp [lc, hne, hcn, em, a1, a2, a3, op, d1, hbig.2, ld, show (10 : Int) ^ 18 ≤ c from hb1, show (1000000000000000000 : Int) ≤ c from hb1]
      · let v := (c * 48271 + (k : Int) * 69621 + 11).fmod 2147483647
        have hv : v = (c * 48271 + (k : Int) * 69621 + 11).fmod 2147483647 := rfl
        have hv1 : 0 ≤ v ∧ v < 2147483647 := by
          rw [hv, Int.fmod_eq_emod_of_nonneg _ (by decide)]
          omega
        have m3 : okMul v v = true := okMul_r (by omega)
        have m4 : okMul 3 v = true := okMul_r (by omega)
        refine ⟨_, _, ?_, rest, draws ++ [(v * v + 3 * v + k).fmod 1000003], some (.int k), some (.int j), some (.int v), rfl, rfl, hr, by simp [hk]⟩
        have e2 : iL draws ++ [.int ((v * v + 3 * v + k).fmod 1000003)] = iL (draws ++ [(v * v + 3 * v + k).fmod 1000003]) := by simp [iL]
        simp only [← e2]
        clear e2
        have hc3 : (1000000000000000000 : Int) ≤ c → ¬ (0 < r) := fun h1 h2 => hbig ⟨h1, h2⟩
        generalize iL cells = L1 at *
        generalize iL rest = L2 at *
        generalize iL draws = L3 at *
        by_cases h18 : (1000000000000000000 : Int) ≤ c
        · simp [lc, hne, hcn, em, a1, a2, a3, op, m1, m2, ← hv, m3, m4, ld, h18, hc3 h18]
        · simp [lc, hne, hcn, em, a1, a2, a3, op, m1, m2, ← hv, m3, m4, ld, h18]
  have hcells : ∀ M, lcLoop (chk none (iL ns)) (tN 3) fYes (fB gInt (fCons (fVar 3) fNil)) [some (.kst (iL ns)), some (.int many), none, none, none, none, none, none, none] (iL ns) [] M = some (iL ns, M) := by
    intro M
    have := lc_map (c := chk none (iL ns)) (t := tN 3) (ft := fYes) (fe := fB gInt (fCons (fVar 3) fNil)) (ρ := [some (.kst (iL ns)), some (.int many), none, none, none, none, none, none, none]) (M := M) id rfl (iL ns) [] (by
      intro d hd
      obtain ⟨i, _, rfl⟩ := List.mem_map.mp hd
      exact ⟨_, rfl, rfl, by simp⟩)
    simpa using this
  obtain ⟨cells, hc0, hc1, hcells2⟩ : ∃ cells : List Int, 0 < cells.length ∧ cells.length ≤ 64 ∧ cells = if ns = [] then [0] else ns := ⟨_, by split <;> simp [List.length_pos_iff, *], by split <;> (try simp) <;> omega, rfl⟩
  obtain ⟨ρ', M', e, rest, draws, x6, x7, x8, rfl, rfl⟩ := main cells hc0 hc1
  have ok : okR 0 (many : Int) = true := okR_of (by omega) (by omega) (by omega) (by omega)
  refine ⟨draws.reverse, ?_⟩
  have er : iL draws.reverse = (iL draws).reverse := by simp [iL]
  have hn := nrs_iL cells
  have hn2 := nrs_iL draws.reverse
  have l0 : (0 : Nat) < LINE := by decide
  rw [er] at hn2 ⊢
  have hn3 : D.nrs (iL draws).reverse = true := hn2
  by_cases hz : ns = []
  · rw [if_pos hz] at hcells2
    have hL : (iL ns).length = 0 := by rw [hz]; rfl
    have hc2 : iL cells = iL ns ++ [.int 0] := by rw [hcells2, hz]; rfl
    rw [hc2] at e hn
    generalize iL ns = L at *
    generalize (iL draws) = L2 at *
    simp [c_law_draws, b_law_draws, runFn, startR, fiSq, wipeR, hcells, hL, ev_rgh1 _ ok, e, l0, fin, Mem.nr]
    exact hn3
  · rw [if_neg hz] at hcells2
    subst hcells2
    have hL : ¬ ((iL cells).length = 0) := by rw [iL_len]; omega
    generalize iL cells = L at *
    generalize (iL draws) = L2 at *
    have hL2 : L ≠ [] := by rintro rfl; simp at hL
    simp [c_law_draws, b_law_draws, runFn, startR, fiSq, wipeR, hcells, hL, hL2, ev_rgh1 _ ok, e, l0, fin, Mem.nr]
    exact hn3
/-! _law_same of a thing with itself -/
mutual
def sok : Nat → D → Bool
  | 0, _ => false
  | _ + 1, .non => true
  | _ + 1, .bl _ => true
  | _ + 1, .int _ => true
  | n + 1, .tup xs => decide (xs.length ≤ 1000) && soks n xs
  | _, _ => false
def soks : Nat → List D → Bool
  | _, [] => true
  | n, x :: xs => sok n x && soks n xs
end
theorem soks_at : ∀ {n : Nat} {xs : List D} {k : Nat} {d : D}, soks n xs = true → xs[k]? = some d → sok n d = true
  | _, [], _, _, _, h => by simp at h
  | n, x :: xs, 0, d, h, e => by
    rw [soks, Bool.and_eq_true] at h
    simp at e; subst e; exact h.1
  | n, x :: xs, k + 1, d, h, e => by
    rw [soks, Bool.and_eq_true] at h
    exact soks_at h.2 (by simpa using e)
mutual
theorem sok_nr : ∀ (n : Nat) (d : D), sok n d = true → d.nr = true ∧ d.isRef = false
  | 0, _, h => by rw [sok] at h; cases h
  | _ + 1, .non, _ => ⟨rfl, rfl⟩
  | _ + 1, .bl _, _ => ⟨rfl, rfl⟩
  | _ + 1, .int _, _ => ⟨rfl, rfl⟩
  | n + 1, .tup xs, h => by
    rw [sok, Bool.and_eq_true] at h
    exact ⟨by rw [D.nr]; exact soks_nr n xs h.2, rfl⟩
  | _ + 1, .str _, h => by simp [sok] at h
  | _ + 1, .lst _, h => by simp [sok] at h
  | _ + 1, .kst _, h => by simp [sok] at h
  | _ + 1, .ref _, h => by simp [sok] at h
theorem soks_nr : ∀ (n : Nat) (xs : List D), soks n xs = true → D.nrs xs = true
  | _, [], _ => rfl
  | n, x :: xs, h => by
    rw [soks, Bool.and_eq_true] at h
    rw [D.nrs, (sok_nr n x h.1).1, soks_nr n xs h.2]; rfl
end
theorem argP_nr {d : D} (h : d.nr = true) (hr : d.isRef = false) (M : Mem) : argP M d = some d := by
  cases d with
  | ref n => cases hr
  | non => rfl
  | bl _ => rfl
  | int _ => rfl
  | str _ => rfl
  | tup _ => exact if_pos h
  | lst _ => exact if_pos h
  | kst _ => exact if_pos h
theorem same_ev : ∀ (n : Nat) (d : D), sok n d = true → c_law_same n [d, d] [] = some (.bl true, [])
  | 0, d, h => by simp [sok] at h
  | n + 1, .non, _ => by simp [c_law_same, b_law_same, runFn, startR, isi, tyOf, isNn, fin, Mem.nr, D.nr]
  | n + 1, .bl b, _ => by cases b <;> simp [c_law_same, b_law_same, runFn, startR, isi, tyOf, isNn, fin, Mem.nr, D.nr, gEq, D.val, D.dp, D.py, PyData.eqv]
  | n + 1, .int i, _ => by simp [c_law_same, b_law_same, runFn, startR, isi, tyOf, isNn, fin, Mem.nr, D.nr]
  | n + 1, .str _, h => by simp [sok] at h
  | n + 1, .lst _, h => by simp [sok] at h
  | n + 1, .kst _, h => by simp [sok] at h
  | n + 1, .ref _, h => by simp [sok] at h
  | n + 1, .tup xs, h => by
    rw [sok, Bool.and_eq_true] at h
    have hl : xs.length ≤ 1000 := of_decide_eq_true h.1
    have ok : okR 0 (xs.length : Int) = true := okR_of (by omega) (by omega) (by omega) (by omega)
    have hloop := loop_inv (c := chk none (rgD 0 xs.length)) (xs := rgD 0 xs.length) (ρ := [some (.tup xs), some (.tup xs), none]) (M := [])
      (fun k ρ' M' => ∃ x, ρ' = [some (.tup xs), some (.tup xs), x] ∧ M' = []) (fun _ _ _ _ => rfl)
      (step := sStep (tN 2) (sIf (fNot (fTru (fCall (c_law_same n) (fCons (f2 gIx (fVar 0) (fVar 2)) (fCons (f2 gIx (fVar 1) (fVar 2)) (fNil))))))
      (sRet (fC (.bl false)))
      (sNext))) (by
        rintro k d ρ M hd ⟨x, rfl, rfl⟩
        obtain ⟨hk, rfl⟩ := rgD_at hd
        obtain ⟨e, he⟩ : ∃ e, xs[k]? = some e := ⟨_, List.getElem?_eq_getElem hk⟩
        have hs := soks_at h.2 he
        obtain ⟨n1, n2⟩ := sok_nr n e hs
        have a1 : L2.atI xs (k : Int) = some e := at_nat he
        exact ⟨_, _, by simp [a1, callP, argsP, argP_nr n1 n2, same_ev n e hs, anyRef, n2], some (.int k), rfl, rfl⟩) ⟨none, rfl, rfl⟩
    obtain ⟨ρ', M', e, x, rfl, rfl⟩ := hloop
    simp [c_law_same, b_law_same, runFn, startR, isi, tyOf, isNn, gIs, ev_rgh1 _ ok, e, fin, Mem.nr, D.nr]
theorem same_bl (b : Bool) : q_law_same [.bl b, .bl b] [] = some (.bl true, []) := same_ev 12 (.bl b) (by simp [sok])
/-! _law_cell -/
theorem cell_ev (ns : List Int) (xs : List Int) (hl : ns.length ≤ 63) : ∃ (i : Int) (ys : List Int), c_law_cell [.kst (iL ns), .ref 0] [.lst (iL xs)] = some (.int i, [.lst (iL ys)]) := by
  by_cases hz : ns = []
  · have hL : (iL ns).length = 0 := by rw [hz]; rfl
    have hn := nrs_iL xs
    refine ⟨0, xs, ?_⟩
    have hL2 : iL ns = [] := by rw [hz]; rfl
    generalize iL ns = L at *
    generalize iL xs = L' at *
    subst hL2
    simp [c_law_cell, b_law_cell, runFn, startR, fin, Mem.nr, MO.nr, D.nr, hn]
  · have h0 : 0 < ns.length := List.length_pos_iff.mpr hz
    have hm : ((ns.length : Int)) ≠ 0 := by omega
    have ht := take_call (n := 0) (M := [.lst (iL xs)]) (xs := xs) (m := ns.length) rfl hm
    obtain ⟨t1, t2⟩ := tk_lt (xs := xs) (m := ns.length) (by omega)
    obtain ⟨j, hj⟩ : ∃ j : Nat, tk xs ns.length = j := ⟨(tk xs ns.length).toNat, by omega⟩
    have hjl : j < ns.length := by omega
    obtain ⟨c, hc⟩ : ∃ c, ns[j]? = some c := ⟨_, List.getElem?_eq_getElem hjl⟩
    have a1 : L2.atI (iL ns) (j : Int) = some (.int c) := at_nat (by rw [iL_at, hc]; rfl)
    have hn := nrs_iL xs.dropLast
    have p60 : okPow 10 60 = true := by decide
    rw [hj] at ht
    have hL : (iL ns).length = ns.length := iL_len ns
    have hnil : iL ns ≠ [] := by intro z; rw [z] at hL; simp at hL; omega
    generalize iL ns = L at *
    by_cases hc0 : c < 0
    · have m1 : ∀ v, okMul v (-1) = true := fun v => okMul_r (by decide)
      refine ⟨((c.natAbs : Int).fmod (10 ^ 60)) * -1, xs.dropLast, ?_⟩
      generalize iL xs.dropLast = L' at *
      simp [c_law_cell, b_law_cell, runFn, startR, hL, hnil, hz, ht, a1, p60, hc0, m1, fin, Mem.nr, MO.nr, D.nr, hn, q_law_take]
    · have m1 : ∀ v, okMul v 1 = true := fun v => okMul_r (by decide)
      refine ⟨((c.natAbs : Int).fmod (10 ^ 60)) * 1, xs.dropLast, ?_⟩
      generalize iL xs.dropLast = L' at *
      simp [c_law_cell, b_law_cell, runFn, startR, hL, hnil, hz, ht, a1, p60, hc0, m1, fin, Mem.nr, MO.nr, D.nr, hn, q_law_take]
@[simp] theorem take_c0 (xs : List Int) (m : Int) (M : Mem) (hm : m ≠ 0) : callS 0 c_law_take [.ref 0, .int m] (.lst (iL xs) :: M) = some (.int (tk xs m), .lst (iL xs.dropLast) :: M) := by
  rw [take_call (n := 0) (xs := xs) rfl hm]; rfl
theorem at4 {α} {a b c d : α} {i : Int} (h : 0 ≤ i ∧ i < 4) : L2.atI [a, b, c, d] i = some a ∨ L2.atI [a, b, c, d] i = some b ∨ L2.atI [a, b, c, d] i = some c ∨ L2.atI [a, b, c, d] i = some d := by
  obtain h | h | h | h : i = 0 ∨ i = 1 ∨ i = 2 ∨ i = 3 := by omega
  · subst h; exact .inl (at_nat (n := 0) rfl)
  · subst h; exact .inr (.inl (at_nat (n := 1) rfl))
  · subst h; exact .inr (.inr (.inl (at_nat (n := 2) rfl)))
  · subst h; exact .inr (.inr (.inr (at_nat (n := 3) rfl)))
theorem at3 {α} {a b c : α} {i : Int} (h : 0 ≤ i ∧ i < 3) : L2.atI [a, b, c] i = some a ∨ L2.atI [a, b, c] i = some b ∨ L2.atI [a, b, c] i = some c := by
  obtain h | h | h : i = 0 ∨ i = 1 ∨ i = 2 := by omega
  · subst h; exact .inl (at_nat (n := 0) rfl)
  · subst h; exact .inr (.inl (at_nat (n := 1) rfl))
  · subst h; exact .inr (.inr (at_nat (n := 2) rfl))
theorem at5 {α} {a b c d e : α} {i : Int} (h : 0 ≤ i ∧ i < 5) : ∃ x, L2.atI [a, b, c, d, e] i = some x ∧ (x = a ∨ x = b ∨ x = c ∨ x = d ∨ x = e) := by
  obtain h | h | h | h | h : i = 0 ∨ i = 1 ∨ i = 2 ∨ i = 3 ∨ i = 4 := by omega
  · subst h; exact ⟨a, at_nat (n := 0) rfl, by simp⟩
  · subst h; exact ⟨b, at_nat (n := 1) rfl, by simp⟩
  · subst h; exact ⟨c, at_nat (n := 2) rfl, by simp⟩
  · subst h; exact ⟨d, at_nat (n := 3) rfl, by simp⟩
  · subst h; exact ⟨e, at_nat (n := 4) rfl, by simp⟩
theorem kst_argP (ns : List Int) (M) : argP M (.kst (iL ns)) = some (.kst (iL ns)) := by
  have : (D.kst (iL ns)).nr = true := by rw [D.nr]; exact nrs_iL ns
  unfold argP
  simp [this]
theorem cell_call {ns xs ys : List Int} {i : Int} (h : c_law_cell [.kst (iL ns), .ref 0] [.lst (iL xs)] = some (.int i, [.lst (iL ys)])) : callS 1 c_law_cell [.kst (iL ns), .ref 0] [.lst (iL xs)] = some (.int i, [.lst (iL ys)]) := by
  have hn := nrs_iL xs
  have hn' := nrs_iL ys
  have hk := nrs_iL ns
  generalize iL ns = L at *
  simp [callS, MO.nr, hn, hn', refIn, argsP, argP, D.nr, hk, h, anyRef, D.isRef, D.nl]
end LP
namespace LP
open PySem PySem.Spec PyProof.Rows L2 PF
/-! _law_same of a thing with itself, called -/
theorem cpS {d : D} (h : sok 12 d = true) (M : Mem) : callP q_law_same [d, d] M = some (.bl true, M) := by
  obtain ⟨h1, h2⟩ := sok_nr 12 d h
  exact cpl (by simp [pls, h1, h2]) (same_ev 12 d h) M
theorem soks_map {α : Type} (n : Nat) (f : α → D) (h : ∀ a, sok n (f a) = true) : ∀ xs : List α, soks n (xs.map f) = true
  | [] => rfl
  | x :: xs => by
    show (sok n (f x) && soks n (xs.map f)) = true
    rw [h x, soks_map n f h xs]; rfl
theorem sok_map {α : Type} (f : α → D) (h : ∀ a, sok 11 (f a) = true) {xs : List α} (hl : xs.length ≤ 1000) : sok 12 (.tup (xs.map f)) = true := by
  rw [sok, soks_map 11 f h xs]
  simp [hl]
theorem sok_ints {s : List Int} (h : s.length ≤ 1000) : sok 12 (.tup (iL s)) = true := sok_map D.int (fun _ => rfl) h
end LP
namespace LP
open PySem PySem.Spec PyProof.Rows L2 PF
theorem chk_ref {n : Nat} {M : Mem} {L : List D} (h : M[n]? = some (.lst L)) : chk (some n) L M = true := by
  unfold chk
  simp only [h]
  exact D.beqs_refl L
/-- a loop that hands back at the first y with P -/
theorem loop_find {α : Type} (e : α → D) {c : Mem → Bool} {step : D → FS} (P : α → Bool) (r : α → D) (I : Rho → Prop) {M : Mem} (hc : c M = true) : ∀ (ys : List α) (ρ : Rho), I ρ →
    (∀ y, y ∈ ys → P y = true → ∀ ρ, I ρ → step (e y) ρ M = some (.ret (r y), M)) → (∀ y, y ∈ ys → P y = false → ∀ ρ, I ρ → ∃ ρ', step (e y) ρ M = some (.nx ρ', M) ∧ I ρ') →
    match ys.find? P with
    | some y => sLoop c step (ys.map e) ρ M = some (.ret (r y), M)
    | none => ∃ ρ', sLoop c step (ys.map e) ρ M = some (.nx ρ', M) ∧ I ρ'
  | [], ρ, hI, _, _ => ⟨ρ, by rw [List.map_nil, sLoop, if_pos hc], hI⟩
  | y :: ys, ρ, hI, h1, h2 => by
    by_cases hp : P y = true
    · rw [List.find?_cons_of_pos hp]
      show sLoop c step (e y :: ys.map e) ρ M = _
      rw [sLoop, if_pos hc, h1 y (by simp) hp ρ hI]; rfl
    · rw [List.find?_cons_of_neg hp]
      obtain ⟨ρ', e1, hI'⟩ := h2 y (by simp) (Bool.eq_false_iff.mpr hp) ρ hI
      have ih := loop_find e P r I hc ys ρ' hI' (fun z hz => h1 z (List.mem_cons_of_mem _ hz)) (fun z hz => h2 z (List.mem_cons_of_mem _ hz))
      have e2 : sLoop c step ((y :: ys).map e) ρ M = sLoop c step (ys.map e) ρ' M := by
        rw [List.map_cons, sLoop, if_pos hc, e1]; rfl
      cases q : ys.find? P with
      | some z => rw [q] at ih; exact e2.trans ih
      | none =>
        rw [q] at ih
        obtain ⟨ρ2, a, b⟩ := ih
        exact ⟨ρ2, e2.trans a, b⟩
theorem iext_ev {n : Nat} {M : Mem} {xs ys : List D} (h : M[n]? = some (.lst xs)) (hl : xs.length + ys.length ≤ 100000) : gIExt (.ref n) (.lst ys) M = some (.ref n, M.set n (.lst (xs ++ ys))) := by
  unfold gIExt
  rw [ev_ml, h]
  show (if xs.length + ys.length ≤ LINE then _ else _) = _
  rw [if_pos (by show _ ≤ 16777216; omega)]
theorem run_ret {n : Nat} {f : FS} {ds : List D} {d : D} {M' : Mem} (h : f (startR n ds) [] = some (.ret d, M')) (hd : d.nr = true) (hr : d.isRef = false) : runFn false n f ds [] = some (d, []) := by
  unfold runFn
  rw [h, Option.bind_some]
  cases d with
  | ref j => cases hr
  | _ => simp [fin, Mem.nr, hd]
theorem run_nx {n : Nat} {f : FS} {ds : List D} {ρ : Rho} {M' : Mem} (h : f (startR n ds) [] = some (.nx ρ, M')) : runFn false n f ds [] = some (.non, []) := by
  unfold runFn
  rw [h, Option.bind_some]
  simp [fin, Mem.nr, D.nr]
theorem run_ret1 {n : Nat} {f : FS} {ds : List D} {d : D} {X X' : MO} {M' : Mem} (h : f (startR n ds) [X] = some (.ret d, X' :: M')) (hd : d.nr = true) (hr : d.isRef = false) (hx : X'.nr = true) : runFn false n f ds [X] = some (d, [X']) := by
  unfold runFn
  rw [h, Option.bind_some]
  cases d with
  | ref j => cases hr
  | _ => simp [fin, Mem.nr, hd, hx]
theorem seq_assoc (a b c : FS) : sSeq (sSeq a b) c = sSeq a (sSeq b c) := by
  funext ρ M
  rw [ev_seq, ev_seq, ev_seq]
  cases h : a ρ M with
  | none => rfl
  | some o =>
    obtain ⟨o, M1⟩ := o
    cases o <;> rfl
end LP
namespace LP
open PySem PySem.Spec PyProof.Rows L2 PF
theorem lt_pow_of' {n k l : Nat} (h : n < 2 ^ k) (hk : k ≤ l) : n < 2 ^ l := Nat.lt_of_lt_of_le h (Nat.pow_le_pow_right (by decide) hk)
theorem rg0L {n : Nat} (h : n ≤ 1000) (M : Mem) : rg1 [.int n] M = some ((rgD 0 n, none), M) := by
  rw [ev_rgh1 M (okR_of (by omega) (by omega) (by omega) (by omega)), Int.toNat_natCast]
theorem rg0I {n : Int} (h0 : 0 ≤ n) (h : n ≤ 1000) (M : Mem) : rg1 [.int n] M = some ((rgD 0 n.toNat, none), M) := ev_rgh1 M (okR_of (by omega) (by omega) (by omega) (by omega))
/-! places, stations, fields, readings -/
abbrev P2 := Int × Int
def pD (p : P2) : D := .tup [.int p.1, .int p.2]
abbrev S3 := Int × Int × Int
def sD (s : S3) : D := .tup [.int s.1, .int s.2.1, .int s.2.2]
structure Fd where
  w : Int
  h : Int
  st : List S3
  l0 : Int
  h0 : Int
  l1 : Int
  h1 : Int
def fdD (F : Fd) : D := .tup [.int F.w, .int F.h, .tup (F.st.map sD), .tup [pD (F.l0, F.h0), pD (F.l1, F.h1)]]
structure FOk (F : Fd) : Prop where
  w1 : 1 ≤ F.w
  w2 : F.w ≤ 12
  h1' : 1 ≤ F.h
  h2 : F.h ≤ 12
  n : F.st.length ≤ 13
  s : ∀ s, s ∈ F.st → (0 ≤ s.1 ∧ s.1 < F.w) ∧ (0 ≤ s.2.1 ∧ s.2.1 < F.h) ∧ 0 ≤ s.2.2
  a : 1 ≤ F.l0 ∧ F.l0 ≤ F.h0
  c : 1 ≤ F.l1 ∧ F.l1 ≤ F.h1
  b0 : F.h0 < 2 ^ 100
  b1 : F.h1 < 2 ^ 100
  be : ∀ s, s ∈ F.st → s.2.2 < 2 ^ 100
def PIn (F : Fd) (p : P2) : Prop := (0 ≤ p.1 ∧ p.1 < F.w) ∧ (0 ≤ p.2 ∧ p.2 < F.h)
@[simp] theorem pD_0 (p : P2) (M) : gIx (pD p) (.int 0) M = some (.int p.1) := by simp [pD]
@[simp] theorem pD_1 (p : P2) (M) : gIx (pD p) (.int 1) M = some (.int p.2) := by simp [pD]
@[simp] theorem sD_0 (p : S3) (M) : gIx (sD p) (.int 0) M = some (.int p.1) := by simp [sD]
@[simp] theorem sD_1 (p : S3) (M) : gIx (sD p) (.int 1) M = some (.int p.2.1) := by simp [sD]
@[simp] theorem sD_2 (p : S3) (M) : gIx (sD p) (.int 2) M = some (.int p.2.2) := by simp [sD]
theorem pD_nr (p : P2) : (pD p).nr = true := rfl
theorem sD_nr (p : S3) : (sD p).nr = true := rfl
theorem ps_nr (ps : List P2) : D.nrs (ps.map pD) = true := nrs_map_of pD pD_nr ps
theorem ss_nr (ps : List S3) : D.nrs (ps.map sD) = true := nrs_map_of sD sD_nr ps
theorem fd_nr (F : Fd) : (fdD F).nr = true := by
  have := ss_nr F.st
  simp [fdD, D.nr, D.nrs, this, pD]
@[simp] theorem fd_ir (F : Fd) : (fdD F).isRef = false := rfl
@[simp] theorem pD_ir (p : P2) : (pD p).isRef = false := rfl
@[simp] theorem sD_ir (p : S3) : (sD p).isRef = false := rfl
@[simp] theorem fd_0 (F : Fd) (M) : gIx (fdD F) (.int 0) M = some (.int F.w) := by simp [fdD]
@[simp] theorem fd_1 (F : Fd) (M) : gIx (fdD F) (.int 1) M = some (.int F.h) := by simp [fdD]
@[simp] theorem fd_2 (F : Fd) (M) : gIx (fdD F) (.int 2) M = some (.tup (F.st.map sD)) := by simp [fdD]
theorem at3_ {α} (x y z u : α) (xs) : L2.atI (x :: y :: z :: u :: xs) 3 = some u := at_nat (n := 3) rfl
@[simp] theorem fd_3 (F : Fd) (M) : gIx (fdD F) (.int 3) M = some (.tup [pD (F.l0, F.h0), pD (F.l1, F.h1)]) := by simp [fdD, at3_]
def far2 (a b : P2) : Int := ((a.1 - b.1).natAbs : Int) + ((a.2 - b.2).natAbs : Int)
theorem far2_ge (a b : P2) : 0 ≤ far2 a b := by unfold far2; omega
theorem far2_lt {F : Fd} (h : FOk F) {a b : P2} (ha : PIn F a) (hb : PIn F b) : far2 a b < 24 := by
  obtain ⟨⟨a1, a2⟩, a3, a4⟩ := ha
  obtain ⟨⟨b1, b2⟩, b3, b4⟩ := hb
  have := h.w2; have := h.h2
  unfold far2; omega
theorem far2_comm (a b : P2) : far2 a b = far2 b a := by unfold far2; omega
theorem howf_ev (a b : P2) (M : Mem) : callP chow_far [pD a, pD b] M = some (.int (far2 a b), M) := by
  refine cpl rfl ?_ M
  simp [chow_far, bhow_far, runFn, startR, fin, Mem.nr, D.nr, far2]
theorem lfarf_ev (a b : P2) (M : Mem) : callP c_law_far [pD a, pD b] M = some (.int (far2 a b), M) := by
  refine cpl rfl ?_ M
  simp [c_law_far, b_law_far, runFn, startR, fin, Mem.nr, D.nr, far2]
def sxy (s : S3) : P2 := (s.1, s.2.1)
theorem sD_cut (s : S3) (M) : gSlice (sD s) none (some 2) M = some (pD (sxy s)) := rfl
def stx (F : Fd) (k : Nat) : S3 := F.st.getD k (0, 0, 0)
theorem st_at {F : Fd} {k : Nat} (hk : k < F.st.length) {i : Int} (hi : i = k) : L2.atI (F.st.map sD) i = some (sD (stx F k)) := by
  refine atI_int hi ?_
  have e : F.st[k]? = some F.st[k] := List.getElem?_eq_getElem hk
  rw [List.getElem?_map, e]
  unfold stx; rw [List.getD_eq_getElem?_getD, e]; rfl
theorem st_in {F : Fd} (h : FOk F) {k : Nat} (hk : k < F.st.length) : PIn F (sxy (stx F k)) ∧ 0 ≤ (stx F k).2.2 := by
  have e : stx F k = F.st[k] := by unfold stx; rw [List.getD_eq_getElem?_getD, List.getElem?_eq_getElem hk]; rfl
  have := h.s _ (List.getElem_mem hk)
  rw [e]
  exact ⟨⟨this.1, this.2.1⟩, this.2.2⟩
def wl (F : Fd) (k : Nat) : Int := if k = 0 then F.l0 else F.l1
def wh (F : Fd) (k : Nat) : Int := if k = 0 then F.h0 else F.h1
theorem wv_at (F : Fd) {k : Nat} (hk : k < 2) {i : Int} (hi : i = k) : L2.atI [pD (F.l0, F.h0), pD (F.l1, F.h1)] i = some (pD (wl F k, wh F k)) := by
  obtain rfl | rfl : k = 0 ∨ k = 1 := by omega
  · subst hi; rfl
  · subst hi; rfl
theorem wv_le {F : Fd} (h : FOk F) (k : Nat) : 1 ≤ wl F k ∧ wl F k ≤ wh F k := by
  unfold wl wh
  split
  · exact h.a
  · exact h.c
abbrev Rd := Nat × Nat × Int
def rD (r : Rd) : D := sD ((r.1 : Int), (r.2.1 : Int), r.2.2)
theorem rD_nr (r : Rd) : (rD r).nr = true := rfl
theorem rs_nr (rs : List Rd) : D.nrs (rs.map rD) = true := nrs_map_of rD rD_nr rs
structure RdOk (F : Fd) (r : Rd) : Prop where
  s : r.1 < F.st.length
  k : r.2.1 < 2
def fr_ (F : Fd) (r : Rd) (p : P2) : Int := far2 (sxy (stx F r.1)) p
def sp (F : Fd) (r : Rd) (p : P2) : P2 := (r.2.2 - (stx F r.1).2.2 - wh F r.2.1 * fr_ F r p, r.2.2 + (stx F r.1).2.2 - wl F r.2.1 * fr_ F r p)
theorem ffs_ev {F : Fd} {k : Nat} (hk : k < F.st.length) (p : P2) {i : Int} (hi : i = k) (M : Mem) : callP cfar_from_station [fdD F, .int i, pD p] M = some (.int (far2 (sxy (stx F k)) p), M) := by
  have a := st_at hk hi
  have e := howf_ev (sxy (stx F k)) p
  refine cpl (by simp [pls, fd_nr, pD_nr, D.nr]) ?_ M
  have g2 := fd_2 F
  have gp : ∀ M, gSlice (sD (stx F k)) none (some 2) M = some (pD (sxy (stx F k))) := sD_cut _
  generalize F.st.map sD = L at *
  generalize fdD F = X at *
  generalize pD p = Y at *
  simp [cfar_from_station, bfar_from_station, runFn, startR, g2, a, gp, qhow_far, e, fin, Mem.nr, D.nr]
theorem fr_in {F : Fd} (h : FOk F) {r : Rd} (hr : RdOk F r) {p : P2} (hp : PIn F p) : 0 ≤ fr_ F r p ∧ fr_ F r p < 24 := ⟨far2_ge _ _, far2_lt h (st_in h hr.s).1 hp⟩
theorem allowedF_ev {F : Fd} (h : FOk F) {r : Rd} (hr : RdOk F r) {p : P2} (hp : PIn F p) (M : Mem) : callP callowed_times [fdD F, rD r, pD p] M = some (pD (sp F r p), M) := by
  have a1 := st_at hr.s (i := (r.1 : Int)) rfl
  have a2 := wv_at F hr.k (i := (r.2.1 : Int)) rfl
  have e := ffs_ev hr.s p (i := (r.1 : Int)) rfl
  have f := fr_in h hr hp
  have ef : far2 (sxy (stx F r.1)) p = fr_ F r p := rfl
  rw [ef] at e
  have o1 : okMul (wh F r.2.1) (fr_ F r p) = true := okMul_r (by omega)
  have o2 : okMul (wl F r.2.1) (fr_ F r p) = true := okMul_r (by omega)
  refine cpl (by simp [pls, fd_nr, pD_nr, rD_nr]; rfl) ?_ M
  have g2 := fd_2 F
  have g3 := fd_3 F
  have er : rD r = .tup [.int r.1, .int r.2.1, .int r.2.2] := rfl
  have ew : pD (wl F r.2.1, wh F r.2.1) = .tup [.int (wl F r.2.1), .int (wh F r.2.1)] := rfl
  unfold sp
  rw [er]
  rw [ew] at a2
  have s2 := sD_2 (stx F r.1)
  generalize fr_ F r p = f at *
  generalize F.st.map sD = L at *
  generalize [pD (F.l0, F.h0), pD (F.l1, F.h1)] = LW at *
  generalize fdD F = X at *
  simp [callowed_times, ballowed_times, runFn, startR, g2, g3, a1, a2, s2, qfar_from_station, e, o1, o2, fin, Mem.nr, D.nr, D.nrs]
  rfl
def dm (F : Fd) (s k : Nat) (p : P2) (t : Int) : P2 := (t + wl F k * far2 (sxy (stx F s)) p - (stx F s).2.2, t + wh F k * far2 (sxy (stx F s)) p + (stx F s).2.2)
theorem dueF_ev {F : Fd} (h : FOk F) {s k : Nat} (hs : s < F.st.length) (hk : k < 2) {p : P2} (hp : PIn F p) (t : Int) (M : Mem) : callP cdue_minutes [fdD F, .int s, .int k, pD p, .int t] M = some (pD (dm F s k p t), M) := by
  have a1 := st_at hs (i := (s : Int)) rfl
  have a2 := wv_at F hk (i := (k : Int)) rfl
  have e := ffs_ev hs p (i := (s : Int)) rfl
  have f0 := far2_ge (sxy (stx F s)) p
  have f1 := far2_lt h (st_in h hs).1 hp
  have ew : pD (wl F k, wh F k) = .tup [.int (wl F k), .int (wh F k)] := rfl
  rw [ew] at a2
  unfold dm
  generalize far2 (sxy (stx F s)) p = f at *
  have o1 : okMul (wh F k) f = true := okMul_r (by omega)
  have o2 : okMul (wl F k) f = true := okMul_r (by omega)
  refine cpl (by simp [pls, fd_nr, pD_nr, D.nr]) ?_ M
  have g2 := fd_2 F
  have g3 := fd_3 F
  have s2 := sD_2 (stx F s)
  generalize F.st.map sD = L at *
  generalize [pD (F.l0, F.h0), pD (F.l1, F.h1)] = LW at *
  generalize fdD F = X at *
  simp [cdue_minutes, bdue_minutes, runFn, startR, g2, g3, s2, a1, a2, qfar_from_station, e, o1, o2, fin, Mem.nr, D.nr, D.nrs]
  rfl
def shD (p : P2) (t : Int) : D := .tup [pD p, .int t]
theorem sh_nr (p : P2) (t : Int) : (shD p t).nr = true := rfl
/-! the times that all allow -/
def los (F : Fd) (p : P2) (rs : List Rd) : List Int := rs.map fun r => (sp F r p).1
def his (F : Fd) (p : P2) (rs : List Rd) : List Int := rs.map fun r => (sp F r p).2
def mx (xs : List Int) : Int := match xs with | [] => 0 | x :: xs => maxI x xs
def mi (xs : List Int) : Int := match xs with | [] => 0 | x :: xs => minI x xs
theorem mx_ge {xs : List Int} {y : Int} (h : y ∈ xs) : y ≤ mx xs := by
  cases xs with
  | nil => simp at h
  | cons x xs =>
    obtain ⟨a, b⟩ := maxI_ge xs x
    rcases List.mem_cons.mp h with rfl | h
    · exact a
    · exact b y h
theorem mi_le {xs : List Int} {y : Int} (h : y ∈ xs) : mi xs ≤ y := by
  cases xs with
  | nil => simp at h
  | cons x xs =>
    obtain ⟨a, b⟩ := minI_le xs x
    rcases List.mem_cons.mp h with rfl | h
    · exact a
    · exact b y h
theorem mx_mem {xs : List Int} (h : xs ≠ []) : mx xs ∈ xs := by
  cases xs with
  | nil => exact absurd rfl h
  | cons x xs => exact maxI_mem xs x
theorem mi_mem {xs : List Int} (h : xs ≠ []) : mi xs ∈ xs := by
  cases xs with
  | nil => exact absurd rfl h
  | cons x xs => exact minI_mem xs x
theorem mx_ev {xs : List Int} (h : xs ≠ []) (M : Mem) : gMax1 [.lst (iL xs)] M = some (.int (mx xs)) := by
  cases xs with
  | nil => exact absurd rfl h
  | cons x xs => exact max_iL x xs M
theorem mi_ev {xs : List Int} (h : xs ≠ []) (M : Mem) : gMin1 [.lst (iL xs)] M = some (.int (mi xs)) := by
  cases xs with
  | nil => exact absurd rfl h
  | cons x xs => exact min_iL x xs M
def tA (F : Fd) (rs : List Rd) (p : P2) : D := if mx (los F p rs) ≤ mi (his F p rs) then pD (mx (los F p rs), mi (his F p rs)) else .non
theorem tA_nr (F : Fd) (rs : List Rd) (p : P2) : (tA F rs p).nr = true := by unfold tA; split <;> rfl
theorem times_ev {F : Fd} (h : FOk F) {rs : List Rd} (hr : ∀ r, r ∈ rs → RdOk F r) (hne : rs ≠ []) {p : P2} (hp : PIn F p) (M : Mem) : callP ctimes_at [fdD F, .tup (rs.map rD), pD p] M = some (tA F rs p, M) := by
  have hl1 : lcLoop (chk none (rs.map rD)) (tN 4) fYes (fCall qallowed_times (fCons (fVar 0) (fCons (fVar 4) (fCons (fVar 2) (fNil))))) [some (fdD F), some (.tup (rs.map rD)), some (pD p), none, none, none, none, none] (rs.map rD) [] [] = some ((rs.map fun r => sp F r p).map pD, []) := by
    rw [lc_all rD (fun r => pD (sp F r p)) rfl rs [] (fun r hr' => ⟨_, rfl, rfl, by
      have e := allowedF_ev h (hr r hr') hp
      generalize rD r = R at *
      generalize fdD F = X at *
      simp [qallowed_times, e]⟩), List.nil_append]
    simp
  have hl2 : lcLoop (chk none ((rs.map fun r => sp F r p).map pD)) (tN 7) fYes (f2 gIx (fVar 7) (fC (.int 0))) [some (fdD F), some (.tup (rs.map rD)), some (pD p), some (.lst ((rs.map fun r => sp F r p).map pD)), none, none, none, none] ((rs.map fun r => sp F r p).map pD) [] [] = some (iL (los F p rs), []) := by
    rw [lc_all pD (fun q => D.int q.1) rfl _ [] (fun r hr' => ⟨_, rfl, rfl, by simp⟩), List.nil_append]
    simp [iL, los]
  have hl3 : lcLoop (chk none ((rs.map fun r => sp F r p).map pD)) (tN 7) fYes (f2 gIx (fVar 7) (fC (.int 1))) [some (fdD F), some (.tup (rs.map rD)), some (pD p), some (.lst ((rs.map fun r => sp F r p).map pD)), none, none, none, none] ((rs.map fun r => sp F r p).map pD) [] [] = some (iL (his F p rs), []) := by
    rw [lc_all pD (fun q => D.int q.2) rfl _ [] (fun r hr' => ⟨_, rfl, rfl, by simp⟩), List.nil_append]
    simp [iL, his]
  have hlne : los F p rs ≠ [] := by unfold los; simpa using hne
  have hhne : his F p rs ≠ [] := by unfold his; simpa using hne
  have e1 := mx_ev hlne
  have e2 := mi_ev hhne
  refine cpl (by simp [pls, fd_nr, pD_nr, D.nr, rs_nr]) ?_ M
  unfold tA
  generalize mx (los F p rs) = A at *
  generalize mi (his F p rs) = B at *
  generalize iL (los F p rs) = LA at *
  generalize iL (his F p rs) = LB at *
  generalize (rs.map fun r => sp F r p).map pD = SP at *
  generalize rs.map rD = R at *
  generalize fdD F = X at *
  generalize hpp : pD p = Y at *
  by_cases hc : A ≤ B
  · simp [ctimes_at, btimes_at, runFn, startR, fiSq, wipeR, hl1, hl2, hl3, e1, e2, hc, fin, Mem.nr, D.nr, D.nrs]
    rfl
  · simp [ctimes_at, btimes_at, runFn, startR, fiSq, wipeR, hl1, hl2, hl3, e1, e2, hc, fin, Mem.nr, D.nr, D.nrs]
/-! all places -/
def AP (w h : Int) : List P2 := (List.range w.toNat).flatMap fun (x : Nat) => (List.range h.toNat).map fun (y : Nat) => ((x : Int), (y : Int))
theorem ap_mem {w h : Int} {p : P2} : p ∈ AP w h ↔ (0 ≤ p.1 ∧ p.1 < w) ∧ (0 ≤ p.2 ∧ p.2 < h) := by
  unfold AP
  rw [List.mem_flatMap]
  constructor
  · rintro ⟨x, hx, hp⟩
    obtain ⟨y, hy, rfl⟩ := List.mem_map.mp hp
    rw [List.mem_range] at hx hy
    exact ⟨⟨by show (0 : Int) ≤ x; omega, by show (x : Int) < w; omega⟩, by show (0 : Int) ≤ y; omega, by show (y : Int) < h; omega⟩
  · rintro ⟨⟨h1, h2⟩, h3, h4⟩
    refine ⟨p.1.toNat, List.mem_range.mpr (by omega), List.mem_map.mpr ⟨p.2.toNat, List.mem_range.mpr (by omega), ?_⟩⟩
    ext
    · show ((p.1.toNat : Nat) : Int) = p.1; omega
    · show ((p.2.toNat : Nat) : Int) = p.2; omega
theorem ap_len {w h : Int} (hw : w ≤ 12) (hh : h ≤ 12) : (AP w h).length ≤ 144 := by
  have : ∀ xs : List Nat, (xs.flatMap fun (x : Nat) => (List.range h.toNat).map fun (y : Nat) => (((x : Int), (y : Int)) : P2)).length = xs.length * h.toNat := by
    intro xs
    induction xs with
    | nil => simp
    | cons x xs ih => rw [List.flatMap_cons, List.length_append, ih, List.length_map, List.length_range, List.length_cons, Nat.add_mul]; omega
  unfold AP
  rw [this, List.length_range]
  exact Nat.le_trans (Nat.mul_le_mul (show w.toNat ≤ 12 by omega) (show h.toNat ≤ 12 by omega)) (by decide)
theorem lc2_ap {F : Fd} (h : FOk F) (c : Mem → Bool) (hc : ∀ M, c M = true) (x1 x2 : Option D) : ∀ (xs : List Nat) (acc : List D) (M : Mem), lc2Loop c (tN 1) fYes (fiRg1 (fCons (f2 gIx (fVar 0) (fC (.int 1))) (fNil))) [2] (tN 2) fYes (fTup (fCons (fVar 1) (fCons (fVar 2) (fNil)))) [some (fdD F), x1, x2] (xs.map fun (x : Nat) => D.int (0 + x)) acc M = some (acc ++ (xs.flatMap fun (x : Nat) => (List.range F.h.toNat).map fun (y : Nat) => (((x : Int), (y : Int)) : P2)).map pD, M)
  | [], acc, M => by
    rw [List.map_nil, lc2Loop, if_pos (hc M)]
    simp
  | x :: xs, acc, M => by
    have ih := lc2_ap h c hc x1 x2 xs
    have h1 := h.h1'; have h2 := h.h2
    have r1 := rg0I (n := F.h) (by omega) (by omega)
    have hin : ∀ acc M, lcLoop (chk none (rgD 0 F.h.toNat)) (tN 2) fYes (fTup (fCons (fVar 1) (fCons (fVar 2) (fNil)))) [some (fdD F), some (.int (0 + (x : Int))), none] (rgD 0 F.h.toNat) acc M = some (acc ++ (List.range F.h.toNat).map fun (y : Nat) => pD ((x : Int), (y : Int)), M) := fun acc M => by
      rw [rgD_map, lc_all (fun (k : Nat) => D.int (0 + k)) (fun (y : Nat) => pD ((x : Int), (y : Int))) rfl _ _ (fun y _ => ⟨_, rfl, rfl, by simp [pD]⟩)]
    have hr : (fiRg1 (fCons (f2 gIx (fVar 0) (fC (.int 1))) (fNil))) [some (fdD F), some (.int (0 + (x : Int))), x2] M = some ((rgD 0 F.h.toNat, none), M) := by simp [r1]
    rw [List.map_cons, lc2Loop, if_pos (hc M)]
    show ((some [some (fdD F), some (.int (0 + (x : Int))), x2]).bind _) = _
    rw [Option.bind_some]
    show ((some (true, M)).bind _) = _
    rw [Option.bind_some, if_pos rfl, hr, Option.bind_some]
    show ((lcLoop (chk none (rgD 0 F.h.toNat)) (tN 2) fYes (fTup (fCons (fVar 1) (fCons (fVar 2) (fNil)))) [some (fdD F), some (.int (0 + (x : Int))), none] (rgD 0 F.h.toNat) acc M).bind _) = _
    rw [hin, Option.bind_some, ih, List.flatMap_cons, List.map_append, List.append_assoc]
    simp [pD]
theorem ap_ev {F : Fd} (h : FOk F) (M : Mem) : callP call_places [fdD F] M = some (.tup ((AP F.w F.h).map pD), M) := by
  have r1 := rg0I (n := F.w) (by have := h.w1; omega) (by have := h.w2; omega)
  have e := lc2_ap h (chk none (rgD 0 F.w.toNat)) (fun _ => rfl) none none (List.range F.w.toNat) [] []
  rw [List.nil_append, show ((List.range F.w.toNat).flatMap fun (x : Nat) => (List.range F.h.toNat).map fun (y : Nat) => (((x : Int), (y : Int)) : P2)) = AP F.w F.h from rfl] at e
  rw [← rgD_map] at e
  have hl : ((AP F.w F.h).map pD).length ≤ LINE := by
    rw [List.length_map]
    have := ap_len h.w2 h.h2
    show _ ≤ 16777216; omega
  have hn := ps_nr (AP F.w F.h)
  refine cpl (by simp [pls, fd_nr]) ?_ M
  generalize (AP F.w F.h).map pD = L at *
  simp [call_places, ball_places, runFn, startR, r1, wipeR, e, hl, fin, Mem.nr, D.nr, hn]
def pos (F : Fd) (rs : List Rd) (p : P2) : Bool := rs.isEmpty || decide (mx (los F p rs) ≤ mi (his F p rs))
theorem isp_ev {F : Fd} (h : FOk F) {rs : List Rd} (hr : ∀ r, r ∈ rs → RdOk F r) {p : P2} (hp : PIn F p) (M : Mem) : callP cis_place_possible [fdD F, .tup (rs.map rD), pD p] M = some (.bl (pos F rs p), M) := by
  refine cpl (by simp [pls, fd_nr, pD_nr, D.nr, rs_nr]) ?_ M
  by_cases hne : rs = []
  · subst hne
    simp [cis_place_possible, bis_place_possible, runFn, startR, fin, Mem.nr, D.nr, pos]
  · have e := times_ev h hr hne hp
    have hL : (rs.map rD).length = rs.length := by simp
    have hz : ¬ ((rs.length : Int) = 0) := by have := List.length_pos_iff.mpr hne; omega
    have hne2 : rs.map rD ≠ [] := by simpa using hne
    unfold pos
    unfold tA at e
    generalize rs.map rD = R at *
    generalize fdD F = X at *
    generalize hpp : pD p = Y at *
    by_cases hc : mx (los F p rs) ≤ mi (his F p rs)
    · simp only [hc, if_true] at e
      have ep : ∀ a b, isNn (pD (a, b)) = false := fun _ _ => rfl
      simp [cis_place_possible, bis_place_possible, runFn, startR, hL, hz, hne, hne2, qtimes_at, e, hc, ep, fin, Mem.nr, D.nr]
    · simp only [hc, if_false] at e
      simp [cis_place_possible, bis_place_possible, runFn, startR, hL, hz, hne, hne2, qtimes_at, e, hc, isNn, fin, Mem.nr, D.nr]
def PP (F : Fd) (rs : List Rd) : List P2 := (AP F.w F.h).filter (pos F rs)
theorem pp_in {F : Fd} {rs : List Rd} {p : P2} (h : p ∈ PP F rs) : PIn F p ∧ pos F rs p = true := by
  obtain ⟨a, b⟩ := List.mem_filter.mp h
  exact ⟨ap_mem.mp a, b⟩
theorem in_pp {F : Fd} {rs : List Rd} {p : P2} (h : PIn F p) (hp : pos F rs p = true) : p ∈ PP F rs := List.mem_filter.mpr ⟨ap_mem.mpr h, hp⟩
theorem pp_len {F : Fd} (h : FOk F) (rs : List Rd) : (PP F rs).length ≤ 144 := Nat.le_trans (List.length_filter_le _ _) (ap_len h.w2 h.h2)
theorem pp_ev {F : Fd} (h : FOk F) {rs : List Rd} (hr : ∀ r, r ∈ rs → RdOk F r) (M : Mem) : callP cpossible_places [fdD F, .tup (rs.map rD)] M = some (.tup ((PP F rs).map pD), M) := by
  have e := ap_ev h
  have hlc : lcLoop (chk none ((AP F.w F.h).map pD)) (tN 2) (fTru (fCall qis_place_possible (fCons (fVar 0) (fCons (fVar 1) (fCons (fVar 2) (fNil)))))) (fVar 2) [some (fdD F), some (.tup (rs.map rD)), none] ((AP F.w F.h).map pD) [] [] = some ((PP F rs).map pD, []) := by
    rw [lc_gen pD (pos F rs) pD rfl (AP F.w F.h) [] (fun p hp => ⟨_, rfl, by
      have e := isp_ev h hr (ap_mem.mp hp) []
      generalize rs.map rD = R at *
      generalize fdD F = X at *
      generalize pD p = Y at *
      simp [qis_place_possible, e], fun _ => by simp⟩), List.nil_append]
    rfl
  have hn := ps_nr (PP F rs)
  refine cpl (by simp [pls, fd_nr, D.nr, rs_nr]) ?_ M
  generalize (PP F rs).map pD = L at *
  generalize (AP F.w F.h).map pD = A at *
  generalize rs.map rD = R at *
  generalize fdD F = X at *
  simp [cpossible_places, bpossible_places, runFn, startR, fiSq, qall_places, e, wipeR, hlc, fin, Mem.nr, D.nr, hn]
end LP
namespace LP
open PySem PySem.Spec PyProof.Rows L2 PF
@[simp] theorem ev_f2N (g) (a b : FE) (ρ : Rho) (M : Mem) : f2N g a b ρ M = (a ρ M).bind fun a => (b ρ a.2).bind fun b => (g a.1 b.1 b.2).bind fun d => some (d, b.2) := rfl
theorem cat_ev {n : Nat} {M : Mem} {G L : List D} (h : M[n]? = some (.lst G)) (hl : G.length + L.length ≤ LINE) : gCat (.ref n) (.lst L) M = some (G ++ L) := by
  have e1 : ltOf (.ref n) M = some G := by
    show (match M[n]? with | some (.lst xs) => some xs | _ => none) = some G
    rw [h]
  have e2 : ltOf (.lst L) M = some L := rfl
  unfold gCat
  rw [e1, e2]
  exact if_pos hl
def gridStep : FS := (sSet 2 (fMut (f2N gCat (fVar 2) (fFz (fLC [4] (fiRg1 (fCons (fVar 1) (fNil))) (tN 4) (fYes) (fTup (fCons (fVar 3) (fCons (fVar 4) (fNil)))))))))
def apx (h : Int) (xs : List Nat) : List P2 := xs.flatMap fun (x : Nat) => (List.range h.toNat).map fun (y : Nat) => ((x : Int), (y : Int))
theorem apx_len (h : Int) : ∀ xs : List Nat, (apx h xs).length = xs.length * h.toNat
  | [] => by simp [apx]
  | x :: xs => by
    have := apx_len h xs
    unfold apx at this ⊢
    rw [List.flatMap_cons, List.length_append, this, List.length_map, List.length_range, List.length_cons, Nat.add_mul]; omega
theorem grid_ev {w h : Int} (hw : 1 ≤ w ∧ w ≤ 12) (hh : 1 ≤ h ∧ h ≤ 12) : c_law_grid [.int w, .int h] [] = some (.ref 0, [.lst ((AP w h).map pD)]) := by
  have r1 := rg0I (n := w) (by omega) (by omega)
  have r2 := rg0I (n := h) (by omega) (by omega)
  have hloop := loop_map (fun (k : Nat) => D.int (0 + k)) (c := chk none (rgD 0 w.toNat)) (step := sStep (tN 3) gridStep) (fun pre ρ M => pre.length ≤ 12 ∧ ∃ (j : Nat) (x3 : Option D), ρ = [some (.int w), some (.int h), some (.ref j), x3, none] ∧ M.length = j + 1 ∧ M[j]? = some (.lst ((apx h pre).map pD))) (List.range w.toNat) (ρ := [some (.int w), some (.int h), some (.ref 0), none, none]) (M := [.lst []]) (fun _ _ _ _ => rfl) (by
      rintro pre k suf ρ M hys ⟨hpl, j, x3, rfl, hM, hj⟩
      obtain ⟨hk, hpre⟩ := rg_pre hys
      have hlc : lcLoop (chk none (rgD 0 h.toNat)) (tN 4) fYes (fTup (fCons (fVar 3) (fCons (fVar 4) fNil))) [some (.int w), some (.int h), some (.ref j), some (.int (0 + (k : Int))), none] (rgD 0 h.toNat) [] M = some (((List.range h.toNat).map fun (y : Nat) => (((k : Int), (y : Int)) : P2)).map pD, M) := by
        rw [rgD_map, lc_all (fun (k : Nat) => D.int (0 + k)) (fun (y : Nat) => pD ((k : Int), (y : Int))) rfl _ _ (fun y _ => ⟨_, rfl, rfl, by simp [pD]⟩), List.nil_append]
        simp
      have e1 : (apx h (pre ++ [k])).map pD = (apx h pre).map pD ++ ((List.range h.toNat).map fun (y : Nat) => (((k : Int), (y : Int)) : P2)).map pD := by simp [apx]
      have hlen := apx_len h pre
      have hcat : gCat (.ref j) (.lst (((List.range h.toNat).map fun (y : Nat) => (((k : Int), (y : Int)) : P2)).map pD)) M = some ((apx h pre).map pD ++ ((List.range h.toNat).map fun (y : Nat) => (((k : Int), (y : Int)) : P2)).map pD) := cat_ev hj (by
        have : (apx h pre).length ≤ 12 * 12 := by rw [hlen]; exact Nat.mul_le_mul hpl (by omega)
        simp only [List.length_map, List.length_range]
        show _ ≤ 16777216; omega)
      refine ⟨[some (.int w), some (.int h), some (.ref (j + 1)), some (.int (0 + (k : Int))), none], M ++ [.lst ((apx h (pre ++ [k])).map pD)], ?_, by rw [hpre]; simp; omega, j + 1, some (.int (0 + (k : Int))), rfl, by simp [hM], by rw [← hM]; simp⟩
      rw [e1]
      generalize ((List.range h.toNat).map fun (y : Nat) => (((k : Int), (y : Int)) : P2)).map pD = L at *
      generalize (apx h pre).map pD = G at *
      generalize (0 : Int) + (k : Int) = K at *
      simp [gridStep, r2, wipeR, hlc, hcat, hM]) ⟨by simp, 0, none, rfl, rfl, rfl⟩
  obtain ⟨ρ', M', e, _, j, x3, rfl, hM, hj⟩ := hloop
  rw [← rgD_map] at e
  have e6 : apx h (List.range w.toNat) = AP w h := rfl
  rw [e6] at hj
  have hn := ps_nr (AP w h)
  unfold gridStep at e
  generalize (AP w h).map pD = G at *
  simp [c_law_grid, b_law_grid, runFn, startR, r1, e, fin, Mem.nr, hj, hn]
theorem waves_ev (xs : List Int) (by_ : Int) (hb : 1 ≤ by_) (hb2 : by_ < 2 ^ 80) : ∃ (l h t u : Int) (ys : List Int), ((1 ≤ l ∧ l ≤ h) ∧ (1 ≤ t ∧ t ≤ u) ∧ h < 2 ^ 100 ∧ u < 2 ^ 100 ∧ h ≤ t) ∧ c_law_waves [.ref 0, .int by_] [.lst (iL xs)] = some (.tup [pD (l, h), pD (t, u)], [.lst (iL ys)]) := by
  have h1 := tk_lt (xs := xs) (m := 3) (by decide)
  have h2 := tk_lt (xs := xs.dropLast) (m := 3) (by decide)
  have h3 := tk_lt (xs := xs.dropLast.dropLast) (m := 4) (by decide)
  have h4 := tk_lt (xs := xs.dropLast.dropLast.dropLast) (m := 3) (by decide)
  obtain ⟨l, el⟩ : ∃ l, 1 + tk xs 3 = l := ⟨_, rfl⟩
  obtain ⟨h, eh⟩ : ∃ h, l + tk xs.dropLast 3 = h := ⟨_, rfl⟩
  obtain ⟨t, et⟩ : ∃ t, h + tk xs.dropLast.dropLast 4 = t := ⟨_, rfl⟩
  obtain ⟨u, eu⟩ : ∃ u, t + tk xs.dropLast.dropLast.dropLast 3 = u := ⟨_, rfl⟩
  have hn := nrs_iL xs.dropLast.dropLast.dropLast.dropLast
  have m1 : okMul by_ l = true := okMul_r (by omega)
  have m2 : okMul by_ h = true := okMul_r (by omega)
  have m3 : okMul by_ t = true := okMul_r (by omega)
  have m4 : okMul by_ u = true := okMul_r (by omega)
  have p1 : by_ * l ≤ by_ * h := Int.mul_le_mul_of_nonneg_left (by omega) (by omega)
  have p3 : by_ * t ≤ by_ * u := Int.mul_le_mul_of_nonneg_left (by omega) (by omega)
  have p0 : by_ * 1 ≤ by_ * l := Int.mul_le_mul_of_nonneg_left (by omega) (by omega)
  have p2 : by_ * 1 ≤ by_ * t := Int.mul_le_mul_of_nonneg_left (by omega) (by omega)
  refine ⟨by_ * l, by_ * h, by_ * t, by_ * u, xs.dropLast.dropLast.dropLast.dropLast, ⟨by omega, by omega, by have q : by_ * h ≤ by_ * 100 := Int.mul_le_mul_of_nonneg_left (by omega) (by omega); omega, by have q : by_ * u ≤ by_ * 100 := Int.mul_le_mul_of_nonneg_left (by omega) (by omega); omega, Int.mul_le_mul_of_nonneg_left (by omega) (by omega)⟩, ?_⟩
  unfold c_law_waves b_law_waves runFn q_law_take
  simp [startR, take_c0, el, eh, et, eu, m1, m2, m3, m4, fin, Mem.nr, MO.nr, hn, D.nr, D.nrs, pD]
def fieldStep : FS := (sSeq (sSet 9 (fM "list" gPop1 (fVar 6) (fCons (fCallS 0 q_law_take (fCons (fVar 0) (fCons (fB gLen (fCons (fVar 6) (fNil))) (fNil)))) (fNil))))
      (sDrop (fM "list" gAppend (fVar 7) (fCons (f2 gAdd (fVar 9) (fTup (fCons (f2 gMul (fVar 3) (f2 gIx (fFz (fLstD (fCons (fC (.int 0)) (fCons (fCallS 0 q_law_take (fCons (fVar 0) (fCons (fC (.int 3)) (fNil)))) (fCons (fCallS 0 q_law_take (fCons (fVar 0) (fCons (fC (.int 9)) (fNil)))) (fNil)))))) (fCallS 0 q_law_take (fCons (fVar 0) (fCons (fC (.int 3)) (fNil)))))) (fNil)))) (fNil)))))
theorem ev_pop1 (n : Nat) (i : Int) (M : Mem) : gPop1 (.ref n) [.int i] M = (mlOf (.ref n) M).bind fun l => (ixN l.2.length i).bind fun k => (l.2[k]?).bind fun d => some (d, M.set l.1 (.lst (l.2.eraseIdx k))) := rfl
def StOk (w h : Int) (s : S3) : Prop := (0 ≤ s.1 ∧ s.1 < w) ∧ (0 ≤ s.2.1 ∧ s.2.1 < h) ∧ 0 ≤ s.2.2 ∧ s.2.2 < 2 ^ 100
theorem add_p (p : P2) (z : Int) (M : Mem) : gAdd (pD p) (.tup [.int z]) M = some (sD (p.1, p.2, z)) := addTup [.int p.1, .int p.2] [.int z] M (by simp)
theorem erase_map {α β : Type} (f : α → β) (l : List α) (i : Nat) : (l.map f).eraseIdx i = (l.eraseIdx i).map f := by
  simp [List.eraseIdx_eq_take_drop_succ, List.map_take, List.map_drop]
theorem field_step {w h by_ x1 x2 : Int} (hb : 1 ≤ by_) (hb3 : by_ < 2 ^ 80) (P : List P2) (S : List S3) (xs : List Int) (k0 : D) (x8 x9 : Option D) (hP : ∀ d, d ∈ P → (0 ≤ d.1 ∧ d.1 < w) ∧ (0 ≤ d.2 ∧ d.2 < h)) (hS : ∀ d, d ∈ S → StOk w h d) (h0 : 0 < P.length) (hl : S.length < 1000) :
    ∃ (P' : List P2) (S' : List S3) (ys : List Int) (y9 : Option D), sStep (tN 8) fieldStep k0 [some (.ref 0), some (.int x1), some (.int x2), some (.int by_), some (.int w), some (.int h), some (.ref 1), some (.ref 2), x8, x9] [.lst (iL xs), .lst (P.map pD), .lst (S.map sD)] =
      some (.nx [some (.ref 0), some (.int x1), some (.int x2), some (.int by_), some (.int w), some (.int h), some (.ref 1), some (.ref 2), some k0, y9], [.lst (iL ys), .lst (P'.map pD), .lst (S'.map sD)]) ∧ (∀ d, d ∈ P' → (0 ≤ d.1 ∧ d.1 < w) ∧ (0 ≤ d.2 ∧ d.2 < h)) ∧ (∀ d, d ∈ S' → StOk w h d) ∧ P'.length + 1 = P.length ∧ S'.length = S.length + 1 := by
  have hm : ((P.length : Int)) ≠ 0 := by omega
  have hnil : P ≠ [] := by rintro rfl; simp at h0
  have ht := tk_lt (xs := xs) (m := P.length) (by omega)
  obtain ⟨i, ei⟩ : ∃ i : Nat, tk xs P.length = i := ⟨(tk xs P.length).toNat, by omega⟩
  have hi : i < P.length := by omega
  have hix : L2.ixN P.length (i : Int) = some i := by
    unfold L2.ixN
    rw [if_pos (by omega), if_pos (by omega)]; rfl
  obtain ⟨d, hd⟩ : ∃ d, P[i]? = some d := ⟨_, List.getElem?_eq_getElem hi⟩
  have hdD : (P.map pD)[i]? = some (pD d) := by rw [List.getElem?_map, hd]; rfl
  have hdm := hP d (List.mem_of_getElem? hd)
  obtain ⟨a, ea⟩ : ∃ a, tk xs.dropLast 3 = a := ⟨_, rfl⟩
  obtain ⟨b, eb⟩ : ∃ b, tk xs.dropLast.dropLast 9 = b := ⟨_, rfl⟩
  have ha := tk_lt (xs := xs.dropLast) (m := 3) (by decide)
  have hb2 := tk_lt (xs := xs.dropLast.dropLast) (m := 9) (by decide)
  rw [ea] at ha
  rw [eb] at hb2
  obtain ⟨v, hv, hv0⟩ : ∃ v : Int, L2.atI [D.int 0, .int a, .int b] (tk xs.dropLast.dropLast.dropLast 3) = some (.int v) ∧ (0 ≤ v ∧ v < 9) := by
    rcases at3 (a := D.int 0) (b := .int a) (c := .int b) (tk_lt (xs := xs.dropLast.dropLast.dropLast) (m := 3) (by decide)) with h | h | h
    · exact ⟨_, h, by omega⟩
    · exact ⟨_, h, by omega⟩
    · exact ⟨_, h, by omega⟩
  have m1 : okMul by_ v = true := okMul_r (by omega)
  have hlen : (S.map sD).length < LINE := by rw [List.length_map]; show S.length < 16777216; omega
  have at_ := add_p d (by_ * v)
  have hPl : (P.map pD).length = P.length := by simp
  have eP := erase_map pD P i
  have eS : (S ++ [(d.1, d.2, by_ * v)]).map sD = S.map sD ++ [sD (d.1, d.2, by_ * v)] := by simp
  have hnilD : P.map pD ≠ [] := by simpa using hnil
  refine ⟨P.eraseIdx i, S ++ [(d.1, d.2, by_ * v)], xs.dropLast.dropLast.dropLast.dropLast, some (pD d), ?_, fun d hd => hP d (List.mem_of_mem_eraseIdx hd), fun c hc => ?_, ?_, by simp⟩
  · rw [eS, ← eP]
    have tc := fun M => take_c0 xs P.length M hm
    rw [ei] at tc
    generalize sD (d.1, d.2, by_ * v) = X at *
    generalize pD d = Y at *
    generalize P.map pD = PD at *
    generalize S.map sD = SD at *
    unfold fieldStep q_law_take
    simp [tc, hPl, hnilD, ev_pop1, hix, hdD, ea, eb, hv, m1, at_, hlen]
  · rcases List.mem_append.mp hc with hc | hc
    · exact hS c hc
    · rw [List.mem_singleton] at hc
      rw [hc]
      exact ⟨hdm.1, hdm.2, Int.mul_nonneg (by omega) hv0.1, by have q : by_ * v ≤ by_ * 9 := Int.mul_le_mul_of_nonneg_left (by omega) (by omega); show by_ * v < 2 ^ 100; omega⟩
  · rw [List.length_eraseIdx_of_lt hi]; omega
theorem field_ev (xs : List Int) (by_ wide many : Int) (hby : 1 ≤ by_) (hby2 : by_ < 2 ^ 80) (hw : 1 ≤ wide ∧ wide ≤ 12) (hm : 0 ≤ many ∧ many ≤ 12) : ∃ (F : Fd) (ys : List Int), (FOk F ∧ (F.st.length : Int) ≤ many ∧ F.h0 ≤ F.l1 ∧ F.w ≤ wide ∧ F.h ≤ wide) ∧ c_law_field [.ref 0, .int wide, .int many, .int by_] [.lst (iL xs)] = some (fdD F, [.lst (iL ys)]) := by
  have t1 := tk_lt (xs := xs) (m := wide) (by omega)
  have t2 := tk_lt (xs := xs.dropLast) (m := wide) (by omega)
  have hw0 : wide ≠ 0 := by omega
  have hm0 : many + 1 ≠ 0 := by omega
  obtain ⟨w, ew⟩ : ∃ w, 1 + tk xs wide = w := ⟨_, rfl⟩
  obtain ⟨h, eh⟩ : ∃ h, 1 + tk xs.dropLast wide = h := ⟨_, rfl⟩
  have hG := grid_ev (w := w) (h := h) (by omega) (by omega)
  have hGn := ps_nr (AP w h)
  have hGi : ∀ d, d ∈ AP w h → (0 ≤ d.1 ∧ d.1 < w) ∧ (0 ≤ d.2 ∧ d.2 < h) := fun d hd => ap_mem.mp hd
  generalize AP w h = G at *
  have t3 := tk_lt (xs := xs.dropLast.dropLast) (m := many + 1) (by omega)
  obtain ⟨q, eq⟩ : ∃ q, tk xs.dropLast.dropLast (many + 1) = q := ⟨_, rfl⟩
  have tc3 := fun M => take_c0 xs.dropLast.dropLast (many + 1) M hm0
  rw [eq] at t3 tc3
  obtain ⟨n, en⟩ : ∃ n : Int, (if q < (G.length : Int) then q else (G.length : Int)) = n := ⟨_, rfl⟩
  have hn : 0 ≤ n ∧ n ≤ 12 ∧ n ≤ G.length := by
    rw [← en]; split <;> omega
  have hnm : n ≤ many := by rw [← en]; split <;> omega
  have okn := rg0I (n := n) (by omega) (by omega)
  have hloop := loop_map (fun (k : Nat) => D.int (0 + k)) (c := chk none (rgD 0 n.toNat)) (step := sStep (tN 8) fieldStep) (fun pre ρ M => ∃ (P : List P2) (S : List S3) (ys : List Int) (x8 x9 : Option D), ρ = [some (.ref 0), some (.int wide), some (.int many), some (.int by_), some (.int w), some (.int h), some (.ref 1), some (.ref 2), x8, x9] ∧ M = [.lst (iL ys), .lst (P.map pD), .lst (S.map sD)] ∧ (∀ d, d ∈ P → (0 ≤ d.1 ∧ d.1 < w) ∧ (0 ≤ d.2 ∧ d.2 < h)) ∧ (∀ d, d ∈ S → StOk w h d) ∧ P.length + pre.length = G.length ∧ S.length = pre.length) (List.range n.toNat) (ρ := [some (.ref 0), some (.int wide), some (.int many), some (.int by_), some (.int w), some (.int h), some (.ref 1), some (.ref 2), none, none]) (M := [.lst (iL xs.dropLast.dropLast.dropLast), .lst (G.map pD), .lst []]) (fun _ _ _ _ => rfl) (by
      rintro pre k suf ρ M hys ⟨P, S, ys, x8, x9, rfl, rfl, hP, hS, hl, hsl⟩
      obtain ⟨hk, hpre⟩ := rg_pre hys
      have hpk : pre.length = k := by rw [hpre]; simp
      obtain ⟨P', S', zs, y9, e, hP', hS', hl', hsl'⟩ := field_step (w := w) (h := h) (by_ := by_) (x1 := wide) (x2 := many) hby hby2 P S ys (.int (0 + k)) x8 x9 hP hS (by omega) (by omega)
      have hl1 : (pre ++ [k]).length = pre.length + 1 := by simp
      exact ⟨_, _, e, P', S', zs, _, y9, rfl, rfl, hP', hS', by omega, by omega⟩) ⟨G, [], xs.dropLast.dropLast.dropLast, none, none, rfl, rfl, hGi, (fun d h => by simp at h), rfl, rfl⟩
  obtain ⟨ρ', M', el, P, S, ys, x8, x9, rfl, rfl, hP, hS, _, hsl⟩ := hloop
  rw [← rgD_map] at el
  rw [List.length_range] at hsl
  unfold fieldStep at el
  obtain ⟨a, b, c, d, zs, hab, hwv⟩ := waves_ev ys by_ hby hby2
  have hwc := cs0 (ds := [.int by_]) rfl (nrs_iL ys) (nrs_iL zs) rfl hwv [.lst (P.map pD), .lst (S.map sD)]
  have hPn := ps_nr P
  have hSn := ss_nr S
  have hzn := nrs_iL zs
  refine ⟨⟨w, h, S, a, b, c, d⟩, zs, ⟨⟨by show 1 ≤ w; omega, by show w ≤ 12; omega, by show 1 ≤ h; omega, by show h ≤ 12; omega, by show S.length ≤ 13; omega, fun s hs => ⟨(hS s hs).1, (hS s hs).2.1, (hS s hs).2.2.1⟩, hab.1, hab.2.1, hab.2.2.1, hab.2.2.2.1, fun s hs => (hS s hs).2.2.2⟩, by show (S.length : Int) ≤ many; omega, hab.2.2.2.2, by show w ≤ wide; omega, by show h ≤ wide; omega⟩, ?_⟩
  have hfn : (fdD ⟨w, h, S, a, b, c, d⟩).nr = true := fd_nr _
  have efd : fdD ⟨w, h, S, a, b, c, d⟩ = .tup [.int w, .int h, .tup (S.map sD), .tup [pD (a, b), pD (c, d)]] := rfl
  rw [efd] at hfn ⊢
  have tc1 := fun M => take_c0 xs wide M hw0
  have tc2 := fun M => take_c0 xs.dropLast wide M hw0
  have hgl : (G.map pD).length = G.length := by simp
  generalize D.tup [pD (a, b), pD (c, d)] = WV at *
  generalize G.map pD = GD at *
  generalize S.map sD = SD at *
  generalize P.map pD = PD at *
  generalize tk xs wide = T1 at *
  generalize tk xs.dropLast wide = T2 at *
  unfold c_law_field b_law_field runFn q_law_take
  simp [startR, tc1, tc2, tc3, ew, eh, callP, argsP, anyRef, q_law_grid, hG, hGn, hgl, en, okn, el, q_law_waves]
  simp [hwc, fin, Mem.nr, MO.nr, hzn, hfn]
end LP
namespace LP
open PySem PySem.Spec PyProof.Rows L2 PF
def iN (s : List Nat) : List D := s.map fun (i : Nat) => D.int (i : Int)
def nD (s : List Nat) : D := .tup (iN s)
theorem iN_nr (s : List Nat) : D.nrs (iN s) = true := nrs_map_of _ (fun _ => rfl) s
theorem nD_nr (s : List Nat) : (nD s).nr = true := iN_nr s
theorem iN_len (s : List Nat) : (iN s).length = s.length := by simp [iN]
theorem iN_app (s t : List Nat) : iN (s ++ t) = iN s ++ iN t := by simp [iN]
theorem dps_iN (n : Nat) (s : List Nat) : D.dps n (iN s) = true := by
  induction s with
  | nil => cases n <;> rfl
  | cons x s ih =>
    show (D.dp n (.int (x : Int)) && D.dps n (iN s)) = true
    rw [ih]; cases n <;> rfl
theorem bls_map (bs : List Bool) : blsOf (bs.map D.bl) = some bs := by
  induction bs with
  | nil => rfl
  | cons b bs ih =>
    show (blsOf (bs.map D.bl)).map (b :: ·) = _
    rw [ih]; rfl
theorem any_bl (bs : List Bool) (M : Mem) : gAny [.lst (bs.map D.bl)] M = some (.bl (bs.any id)) := by
  show (blsOf (bs.map D.bl)).map (fun bs => D.bl (bs.any id)) = _
  rw [bls_map]; rfl
theorem eqvA_iN : ∀ (a b : List Nat), PyData.eqvAll (D.pys (iN a)) (D.pys (iN b)) = decide (a = b)
  | [], [] => by simp [iN, D.pys, PyData.eqvAll]
  | [], _ :: _ => by simp [iN, D.pys, PyData.eqvAll]
  | _ :: _, [] => by simp [iN, D.pys, PyData.eqvAll]
  | a :: s, b :: t => by
    have ih := eqvA_iN s t
    unfold iN at ih
    have e : PyData.eqv (.int (a : Int)) (.int (b : Int)) = decide (a = b) := by
      by_cases h : a = b
      · subst h; simp [PyData.eqv]
      · have : ¬ (a : Int) = (b : Int) := by omega
        simp [PyData.eqv, h, this]
    simp only [iN, List.map_cons, D.pys, D.py, PyData.eqvAll, ih, e]
    by_cases h1 : a = b <;> by_cases h2 : s = t <;> simp [h1, h2]
theorem rgD_iN (n : Nat) : rgD 0 n = iN (List.range n) := by
  rw [rgD_map]; unfold iN
  apply List.map_congr_left
  intro k _
  simp
theorem in_nD (i : Nat) (s : List Nat) (M : Mem) : gInX (.int (i : Int)) (nD s) M = some (decide (i ∈ s)) := by
  have d2 : (nD s).dp 60 = true := by
    show (decide (0 < 60) && D.dps 59 (iN s)) = true
    rw [dps_iN]; rfl
  have d1 : (D.int (i : Int)).dp 60 = true := rfl
  have e : gInX (.int (i : Int)) (nD s) M = if ((D.int (i : Int)).dp 60 && (nD s).dp 60) = true then some ((iN s).any fun z => PyData.eqv z.py (D.int (i : Int)).py) else none := rfl
  rw [e, d1, d2]
  show some ((iN s).any fun z => PyData.eqv z.py (D.int (i : Int)).py) = _
  congr 1
  unfold iN
  rw [List.any_map, Bool.eq_iff_iff]
  simp only [List.any_eq_true, Function.comp_apply, decide_eq_true_eq]
  constructor
  · rintro ⟨q, hq, e⟩
    have : (q : Int) = (i : Int) := by simpa [D.py, PyData.eqv] using e
    have : q = i := by omega
    rw [← this]; exact hq
  · intro h; exact ⟨i, h, by simp [D.py, PyData.eqv]⟩
theorem iN_iL (s : List Nat) : iN s = iL (s.map fun (i : Nat) => (i : Int)) := by unfold iN iL; rw [List.map_map]; rfl
theorem sortU_iN {s : List Nat} (hp : s.Pairwise (· < ·)) (hl : s.length < 64) (M : Mem) : gSortU [nD s] M = some (iN s) := by
  have e : sortU (s.map fun (i : Nat) => (i : Int)) = s.map fun (i : Nat) => (i : Int) := by
    refine lt_uniq (sortU_lt _) ?_ fun k => sortU_mem _ k
    rw [List.pairwise_map]
    exact hp.imp fun h => by omega
  show (intsOf (iN s)).bind _ = _
  rw [iN_iL, intsOf_iL, Option.bind_some, List.length_map, if_pos hl, e]; rfl
@[simp] theorem ev_tTL (n t xs) (ρ : Rho) : tTL n t (.lst xs) ρ = if xs.length = n then t xs ρ else none := rfl
abbrev Sh := P2 × Int
def sh (a : Sh) : D := shD a.1 a.2
@[simp] theorem sh_0 (a : Sh) (M) : gIx (sh a) (.int 0) M = some (pD a.1) := by simp [sh, shD]
@[simp] theorem sh_1 (a : Sh) (M) : gIx (sh a) (.int 1) M = some (.int a.2) := by simp [sh, shD]
theorem sh_n (a : Sh) : (sh a).nr = true := rfl
@[simp] theorem sh_ir (a : Sh) : (sh a).isRef = false := rfl
def du (F : Fd) (s : Nat) (a : Sh) : P2 := dm F s 0 a.1 a.2
theorem due_ev {F : Fd} (h : FOk F) {s : Nat} (hs : s < F.st.length) {a : Sh} (hp : PIn F a.1) (M : Mem) : callP cdue_minutes [fdD F, .int s, .int 0, pD a.1, .int a.2] M = some (pD (du F s a), M) := dueF_ev h hs (k := 0) (by decide) hp a.2 M
theorem du_le {F : Fd} (h : FOk F) {s : Nat} (hs : s < F.st.length) (a : Sh) : (du F s a).1 ≤ (du F s a).2 := by
  have e := (st_in h hs).2
  have f := far2_ge (sxy (stx F s)) a.1
  have hm := Int.mul_le_mul_of_nonneg_right h.a.2 f
  show a.2 + F.l0 * far2 (sxy (stx F s)) a.1 - (stx F s).2.2 ≤ a.2 + F.h0 * far2 (sxy (stx F s)) a.1 + (stx F s).2.2
  omega
def PT (F : Fd) (s : Nat) (a b : Sh) : Bool := decide ((du F s a).2 < (du F s b).1) || decide ((du F s b).2 < (du F s a).1)
theorem parts_ev {F : Fd} (h : FOk F) {s : Nat} (hs : s < F.st.length) {a b : Sh} (ha : PIn F a.1) (hb : PIn F b.1) (M : Mem) : callP cparts_two [fdD F, .int s, sh a, sh b] M = some (.bl (PT F s a b), M) := by
  have hlc : lcLoop (chk none ([a, b].map sh)) (tT 2 (tsC (tN 6) (tsC (tN 7) (tsN)))) fYes (fCall qdue_minutes (fCons (fVar 0) (fCons (fVar 1) (fCons (fC (.int 0)) (fCons (fVar 6) (fCons (fVar 7) (fNil))))))) [some (fdD F), some (.int s), some (sh a), some (sh b), none, none, none, none] ([a, b].map sh) [] [] = some ([pD (du F s a), pD (du F s b)], []) := by
    rw [lc_all sh (fun c => pD (du F s c)) rfl [a, b] [] (fun c hc => by
      have hc2 : PIn F c.1 := by
        simp only [List.mem_cons, List.not_mem_nil, or_false] at hc
        rcases hc with rfl | rfl <;> assumption
      have e := due_ev h hs hc2
      have es : sh c = .tup [pD c.1, .int c.2] := rfl
      refine ⟨_, rfl, rfl, ?_⟩
      generalize pD (du F s c) = Z at *
      generalize fdD F = X at *
      generalize sh a = SA at *
      generalize sh b = SB at *
      generalize pD c.1 = Y at *
      simp [qdue_minutes, e]), List.nil_append]
    rfl
  have emap : [a, b].map sh = [sh a, sh b] := rfl
  rw [emap] at hlc
  have a0 := pD_0 (du F s a); have a1 := pD_1 (du F s a); have b0 := pD_0 (du F s b); have b1 := pD_1 (du F s b)
  refine cpl (by simp [pls, fd_nr, D.nr, sh_n]) ?_ M
  unfold PT
  generalize du F s a = A at *
  generalize du F s b = B at *
  generalize pD A = PA at *
  generalize pD B = PB at *
  generalize fdD F = X at *
  generalize sh a = SA at *
  generalize sh b = SB at *
  by_cases hc : A.2 < B.1
  · simp [cparts_two, bparts_two, runFn, startR, fiSq, wipeR, hlc, a0, a1, b0, b1, hc, fin, Mem.nr, D.nr]
  · simp [cparts_two, bparts_two, runFn, startR, fiSq, wipeR, hlc, a0, a1, b0, b1, hc, fin, Mem.nr, D.nr]
def ptl (F : Fd) (a b : Sh) : List Nat := (List.range F.st.length).filter fun s => PT F s a b
theorem parted_ev {F : Fd} (h : FOk F) {a b : Sh} (ha : PIn F a.1) (hb : PIn F b.1) (M : Mem) : callP cparted_by [fdD F, sh a, sh b] M = some (nD (ptl F a b), M) := by
  have hn := h.n
  have hlc : lcLoop (chk none (rgD 0 F.st.length)) (tN 3) (fTru (fCall qparts_two (fCons (fVar 0) (fCons (fVar 3) (fCons (fVar 1) (fCons (fVar 2) (fNil))))))) (fVar 3) [some (fdD F), some (sh a), some (sh b), none] (rgD 0 F.st.length) [] [] = some (iN (ptl F a b), []) := by
    rw [rgD_map, lc_gen (fun (i : Nat) => D.int (0 + i)) (fun s => PT F s a b) (fun (i : Nat) => D.int (i : Int)) rfl (List.range F.st.length) [] (fun s hs => by
      have e := parts_ev h (List.mem_range.mp hs) ha hb
      have z : (0 : Int) + (s : Int) = s := by omega
      rw [z]
      refine ⟨_, rfl, ?_, fun _ => rfl⟩
      generalize fdD F = X at *
      generalize sh a = SA at *
      generalize sh b = SB at *
      simp [qparts_two, e]), List.nil_append]
    rfl
  have g2 := fd_2 F
  have hL : (F.st.map sD).length = F.st.length := by simp
  have rg := rg0L (n := F.st.length) (by omega)
  have hnr := iN_nr (ptl F a b)
  refine cpl (by simp [pls, fd_nr, sh_n]) ?_ M
  show _ = some (D.tup (iN (ptl F a b)), [])
  generalize iN (ptl F a b) = Z at *
  generalize F.st.map sD = L at *
  generalize F.st.length = n at *
  generalize fdD F = X at *
  generalize sh a = SA at *
  generalize sh b = SB at *
  simp [cparted_by, bparted_by, runFn, startR, g2, hL, rg, wipeR, hlc, fin, Mem.nr, D.nr, hnr]
end LP
namespace LP
open PySem PySem.Spec PyProof.Rows L2 PF
def np0 : FS := (sSet 3 (fMut (fLstD (fNil))))
def np1 : FS := (sFor (fiRg1 (fCons (fB gLen (fCons (fVar 2) (fNil))) (fNil))) (tN 4)
      (sFor (fiRg2 (fCons (f2 gAdd (fVar 4) (fC (.int 1))) (fCons (fB gLen (fCons (fVar 2) (fNil))) (fNil)))) (tN 5)
      (sIf (fNot (fTru (fB gAny (fCons (fFz (fLC [6] (fiSq (fVar 1)) (tN 6) (fYes) (fCall qparts_two (fCons (fVar 0) (fCons (fVar 6) (fCons (f2 gIx (fVar 2) (fVar 4)) (fCons (f2 gIx (fVar 2) (fVar 5)) (fNil)))))))) (fNil)))))
      (sDrop (fM "list" gAppend (fVar 3) (fCons (fTup (fCons (fVar 4) (fCons (fVar 5) (fNil)))) (fNil))))
      (sNext))))
def np2 : FS := (sRet (fB gTuple (fCons (fVar 3) (fNil))))
theorem np_eq : bnot_parted = sSeq np0 (sSeq np1 (np2)) := rfl
def npb1 : FS := (sFor (fiRg2 (fCons (f2 gAdd (fVar 4) (fC (.int 1))) (fCons (fB gLen (fCons (fVar 2) (fNil))) (fNil)))) (tN 5)
      (sIf (fNot (fTru (fB gAny (fCons (fFz (fLC [6] (fiSq (fVar 1)) (tN 6) (fYes) (fCall qparts_two (fCons (fVar 0) (fCons (fVar 6) (fCons (f2 gIx (fVar 2) (fVar 4)) (fCons (f2 gIx (fVar 2) (fVar 5)) (fNil)))))))) (fNil)))))
      (sDrop (fM "list" gAppend (fVar 3) (fCons (fTup (fCons (fVar 4) (fCons (fVar 5) (fNil)))) (fNil))))
      (sNext)))
theorem np1_eq : np1 = sFor (fiRg1 (fCons (fB gLen (fCons (fVar 2) (fNil))) (fNil))) (tN 4) npb1 := rfl
/-! shocks by number, pairs of them -/
def ax (as : List Sh) (k : Nat) : Sh := as.getD k ((0, 0), 0)
theorem ax_at {as : List Sh} {k : Nat} (hk : k < as.length) {i : Int} (hi : i = k) : L2.atI (as.map sh) i = some (sh (ax as k)) := by
  refine atI_int hi ?_
  rw [List.getElem?_map, List.getElem?_eq_getElem hk]
  unfold ax; rw [List.getD_eq_getElem?_getD, List.getElem?_eq_getElem hk]; rfl
theorem ax_get {as : List Sh} {k : Nat} (hk : k < as.length) : ax as k = as[k] := by
  unfold ax; rw [List.getD_eq_getElem?_getD, List.getElem?_eq_getElem hk]; rfl
theorem ax_in {as : List Sh} {F : Fd} (h : ∀ a, a ∈ as → PIn F a.1) {k : Nat} (hk : k < as.length) : PIn F (ax as k).1 := by
  rw [ax_get hk]; exact h _ (List.getElem_mem hk)
abbrev Pn := Nat × Nat
def pN (p : Pn) : D := .tup [.int p.1, .int p.2]
theorem pN_nr (p : Pn) : (pN p).nr = true := rfl
def inn (n i : Nat) : List Pn := (List.range (n - (i + 1))).map fun k => (i, i + 1 + k)
def prs (n m : Nat) : List Pn := (List.range m).flatMap (inn n)
theorem prs_succ (n m : Nat) : prs n (m + 1) = prs n m ++ inn n m := by
  unfold prs
  rw [List.range_succ, List.flatMap_append, List.flatMap_singleton]
theorem inn_mem {n i : Nat} {p : Pn} : p ∈ inn n i ↔ p.1 = i ∧ i < p.2 ∧ p.2 < n := by
  unfold inn
  rw [List.mem_map]
  constructor
  · rintro ⟨k, hk, rfl⟩
    rw [List.mem_range] at hk
    refine ⟨rfl, ?_, ?_⟩ <;> (show _ < _) <;> dsimp only <;> omega
  · rintro ⟨h1, h2, h3⟩
    refine ⟨p.2 - (i + 1), List.mem_range.mpr (by omega), ?_⟩
    obtain ⟨a, b⟩ := p
    simp only at h1 h2 h3 ⊢
    rw [h1, show i + 1 + (b - (i + 1)) = b by omega]
theorem prs_mem {n m : Nat} {p : Pn} : p ∈ prs n m ↔ p.1 < m ∧ p.1 < p.2 ∧ p.2 < n := by
  unfold prs
  rw [List.mem_flatMap]
  constructor
  · rintro ⟨i, hi, hp⟩
    rw [List.mem_range] at hi
    obtain ⟨a, b, c⟩ := inn_mem.mp hp
    omega
  · rintro ⟨a, b, c⟩
    exact ⟨p.1, List.mem_range.mpr a, inn_mem.mpr ⟨rfl, b, c⟩⟩
theorem inn_len (n i : Nat) : (inn n i).length ≤ n := by unfold inn; rw [List.length_map, List.length_range]; omega
theorem prs_len (n : Nat) : ∀ m, (prs n m).length ≤ m * n
  | 0 => by simp [prs]
  | m + 1 => by
    rw [prs_succ, List.length_append, Nat.succ_mul]
    have := prs_len n m
    have := inn_len n m
    omega
/-- whether a choice parts two -/
def pt (F : Fd) (s : List Nat) (a b : Sh) : Bool := s.any fun i => PT F i a b
def pq (F : Fd) (s : List Nat) (as : List Sh) (p : Pn) : Bool := pt F s (ax as p.1) (ax as p.2)
def NP (F : Fd) (s : List Nat) (as : List Sh) : List Pn := (prs as.length as.length).filter fun p => !pq F s as p
def PA (F : Fd) (s : List Nat) (as : List Sh) : Bool := decide ((NP F s as).length = 0)
theorem PA_iff {F : Fd} {s : List Nat} {as : List Sh} : PA F s as = true ↔ as.Pairwise fun a b => pt F s a b = true := by
  unfold PA NP
  rw [decide_eq_true_eq, List.length_eq_zero_iff, List.filter_eq_nil_iff, List.pairwise_iff_getElem]
  constructor
  · intro h i j hi hj hij
    have := h (i, j) (prs_mem.mpr ⟨hi, hij, hj⟩)
    have e : pq F s as (i, j) = true := by simpa using this
    unfold pq at e
    rw [ax_get hi, ax_get hj] at e
    exact e
  · intro h p hp
    obtain ⟨a, b, c⟩ := prs_mem.mp hp
    have := h p.1 p.2 (by omega) c b
    unfold pq
    rw [ax_get (by omega), ax_get c, this]
    decide
structure ASh (F : Fd) (as : List Sh) : Prop where
  i : ∀ a, a ∈ as → PIn F a.1
  n : as.length ≤ 30
theorem as_nr (as : List Sh) : D.nrs (as.map sh) = true := nrs_map_of sh sh_n as
theorem lcpt_ev {F : Fd} (h : FOk F) {as : List Sh} (ha : ASh F as) {s : List Nat} (hs : ∀ i, i ∈ s → i < F.st.length) {x y : Nat} (hx : x < as.length) (hy : y < as.length) (c : Mem → Bool) {M : Mem} (hc : c M = true) : lcLoop c (tN 6) fYes (fCall qparts_two (fCons (fVar 0) (fCons (fVar 6) (fCons (f2 gIx (fVar 2) (fVar 4)) (fCons (f2 gIx (fVar 2) (fVar 5)) (fNil)))))) [some (fdD F), some (nD s), some (.tup (as.map sh)), some (.ref 0), some (.int x), some (.int y), none] (iN s) [] M = some ((s.map fun i => PT F i (ax as x) (ax as y)).map D.bl, M) := by
  have i4 := ax_at hx (i := (x : Int)) rfl
  have i5 := ax_at hy (i := (y : Int)) rfl
  have := lc_all (fun (i : Nat) => D.int (i : Int)) (fun i => D.bl (PT F i (ax as x) (ax as y))) (c := c) (t := tN 6) (ft := fYes) (fe := (fCall qparts_two (fCons (fVar 0) (fCons (fVar 6) (fCons (f2 gIx (fVar 2) (fVar 4)) (fCons (f2 gIx (fVar 2) (fVar 5)) (fNil))))))) (ρ := [some (fdD F), some (nD s), some (.tup (as.map sh)), some (.ref 0), some (.int x), some (.int y), none]) (M := M) hc s [] (fun i hi => by
    have e := parts_ev h (hs i hi) (ax_in ha.i hx) (ax_in ha.i hy)
    refine ⟨_, rfl, rfl, ?_⟩
    generalize PT F i (ax as x) (ax as y) = b at *
    generalize sh (ax as x) = SA at *
    generalize sh (ax as y) = SB at *
    generalize as.map sh = L at *
    generalize nD s = S at *
    generalize fdD F = X at *
    simp [i4, i5, qparts_two, e])
  rw [List.nil_append] at this
  rw [List.map_map]
  exact this
theorem rgI {i n : Nat} (h : n ≤ 900) (hi : i ≤ n) (M : Mem) : rg2 [.int ((i : Int) + 1), .int n] M = some (((inn n i).map fun p => D.int (p.2 : Int), none), M) := by
  rw [ev_rgh2 M (okR_of (by omega) (by omega) (by omega) (by omega))]
  congr 3
  rw [show ((n : Int) - ((i : Int) + 1)).toNat = n - (i + 1) by omega, rgD_map]
  unfold inn
  rw [List.map_map]
  apply List.map_congr_left
  intro k _
  show D.int ((i : Int) + 1 + (k : Int)) = D.int ((i + 1 + k : Nat) : Int)
  congr 1
def npb : FS := (sIf (fNot (fTru (fB gAny (fCons (fFz (fLC [6] (fiSq (fVar 1)) (tN 6) (fYes) (fCall qparts_two (fCons (fVar 0) (fCons (fVar 6) (fCons (f2 gIx (fVar 2) (fVar 4)) (fCons (f2 gIx (fVar 2) (fVar 5)) (fNil)))))))) (fNil)))))
      (sDrop (fM "list" gAppend (fVar 3) (fCons (fTup (fCons (fVar 4) (fCons (fVar 5) (fNil)))) (fNil))))
      (sNext))
theorem npb_eq : npb1 = sFor (fiRg2 (fCons (f2 gAdd (fVar 4) (fC (.int 1))) (fCons (fB gLen (fCons (fVar 2) (fNil))) (fNil)))) (tN 5) npb := rfl
theorem npi_ev {F : Fd} (h : FOk F) {as : List Sh} (ha : ASh F as) {s : List Nat} (hs : ∀ i, i ∈ s → i < F.st.length) {i : Nat} (hi : i < as.length) (A : List Pn) (hA : A.length ≤ 1000) (x5 : Option D) : ∃ y5, npb1 [some (fdD F), some (nD s), some (.tup (as.map sh)), some (.ref 0), some (.int i), x5, none] [.lst (A.map pN)] = some (.nx [some (fdD F), some (nD s), some (.tup (as.map sh)), some (.ref 0), some (.int i), y5, none], [.lst ((A ++ (inn as.length i).filter fun p => !pq F s as p).map pN)]) := by
  have hn := ha.n
  have hloop := loop_map (fun (p : Pn) => D.int (p.2 : Int)) (c := chk none ((inn as.length i).map fun p => D.int (p.2 : Int))) (step := sStep (tN 5) npb) (fun pre ρ N => ∃ y5 : Option D, ρ = [some (fdD F), some (nD s), some (.tup (as.map sh)), some (.ref 0), some (.int i), y5, none] ∧ N = [.lst ((A ++ pre.filter fun p => !pq F s as p).map pN)]) (inn as.length i) (ρ := [some (fdD F), some (nD s), some (.tup (as.map sh)), some (.ref 0), some (.int i), x5, none]) (M := [.lst (A.map pN)]) (fun _ _ _ _ => rfl) (by
    rintro pre p suf ρ N hys ⟨y5, rfl, rfl⟩
    have hp : p ∈ inn as.length i := by rw [hys]; simp
    obtain ⟨p1, p2, p3⟩ := inn_mem.mp hp
    have hpl : pre.length ≤ 30 := by
      have := inn_len as.length i
      rw [hys, List.length_append] at this; omega
    have hlc := fun M => lcpt_ev h ha hs hi p3 (chk none (iN s)) (M := M) rfl
    have ea := any_bl (s.map fun k => PT F k (ax as i) (ax as p.2))
    have ean : ((s.map fun k => PT F k (ax as i) (ax as p.2)).any id) = pq F s as p := by
      rw [List.any_map]; unfold pq pt; rw [p1]; rfl
    rw [ean] at ea
    have fs : ∀ (ρ : Rho) (M : Mem), ρ[1]? = some (some (nD s)) → fiSq (fVar 1) ρ M = some ((iN s, none), M) := fun ρ M h3 => by
      unfold fiSq
      rw [ev_var, h3]; rfl
    have hlen : ((A ++ pre.filter fun p => !pq F s as p).map pN).length < LINE := by
      rw [List.length_map, List.length_append]
      have := List.length_filter_le (fun p => !pq F s as p) pre
      show _ < 16777216; omega
    refine ⟨_, _, ?_, some (.int (p.2 : Int)), rfl, rfl⟩
    have ep : pN p = .tup [.int (i : Int), .int (p.2 : Int)] := by unfold pN; rw [p1]
    rw [List.filter_append]
    by_cases hq : pq F s as p = true
    · have e0 : [p].filter (fun p => !pq F s as p) = [] := by simp [hq]
      rw [e0, List.append_nil]
      rw [hq] at ea
      generalize (s.map fun k => PT F k (ax as i) (ax as p.2)).map D.bl = Z at *
      generalize (A ++ pre.filter fun p => !pq F s as p).map pN = AP at *
      generalize iN s = IS at *
      generalize nD s = S at *
      generalize as.map sh = L at *
      generalize fdD F = X at *
      simp [npb, fs, wipeR, hlc, ea]
    · have e0 : [p].filter (fun p => !pq F s as p) = [p] := by simp [hq]
      rw [e0, ← List.append_assoc, List.map_append (l₂ := [p]), show [p].map pN = [pN p] from rfl, ep]
      rw [Bool.eq_false_iff.mpr hq] at ea
      generalize (s.map fun k => PT F k (ax as i) (ax as p.2)).map D.bl = Z at *
      generalize (A ++ pre.filter fun p => !pq F s as p).map pN = AP at *
      generalize iN s = IS at *
      generalize nD s = S at *
      generalize as.map sh = L at *
      generalize fdD F = X at *
      simp [npb, fs, wipeR, hlc, ea, hlen]) ⟨x5, rfl, by simp⟩
  obtain ⟨ρ', M', e, y5, rfl, rfl⟩ := hloop
  refine ⟨y5, ?_⟩
  have rg := rgI (i := i) (n := as.length) (by omega) (by omega)
  have hL : (as.map sh).length = as.length := by simp
  rw [npb_eq]
  generalize (inn as.length i).map (fun p => D.int (p.2 : Int)) = IL at *
  generalize (A ++ (inn as.length i).filter fun p => !pq F s as p).map pN = AP at *
  generalize A.map pN = A0 at *
  generalize nD s = S at *
  generalize as.map sh = L at *
  generalize fdD F = X at *
  simp [hL, rg, e]
theorem notp_ev {F : Fd} (h : FOk F) {as : List Sh} (ha : ASh F as) {s : List Nat} (hs : ∀ i, i ∈ s → i < F.st.length) (M : Mem) : callP cnot_parted [fdD F, nD s, .tup (as.map sh)] M = some (.tup ((NP F s as).map pN), M) := by
  have hn := ha.n
  have hloop := loop_map (fun (k : Nat) => D.int (0 + k)) (c := chk none (rgD 0 as.length)) (step := sStep (tN 4) npb1) (fun pre ρ N => ∃ y4 y5 : Option D, ρ = [some (fdD F), some (nD s), some (.tup (as.map sh)), some (.ref 0), y4, y5, none] ∧ N = [.lst (((prs as.length pre.length).filter fun p => !pq F s as p).map pN)]) (List.range as.length) (ρ := [some (fdD F), some (nD s), some (.tup (as.map sh)), some (.ref 0), none, none, none]) (M := [.lst []]) (fun _ _ _ _ => rfl) (by
    rintro pre i suf ρ N hys ⟨y4, y5, rfl, rfl⟩
    obtain ⟨hi, hpre⟩ := rg_pre hys
    have hpl : pre.length = i := by rw [hpre]; simp
    have hpl2 : (pre ++ [i]).length = i + 1 := by simp [hpl]
    rw [hpl, hpl2, prs_succ, List.filter_append]
    have hb := prs_len as.length i
    have hb2 : i * as.length ≤ 30 * 30 := Nat.mul_le_mul (by omega) hn
    have z : (0 : Int) + (i : Int) = i := by omega
    rw [z]
    obtain ⟨w5, e⟩ := npi_ev h ha hs hi ((prs as.length i).filter fun p => !pq F s as p) (Nat.le_trans (List.length_filter_le _ _) (by omega)) y5
    exact ⟨_, _, e, _, w5, rfl, rfl⟩) ⟨none, none, rfl, rfl⟩
  obtain ⟨ρ', M', e, y4, y5, rfl, rfl⟩ := hloop
  rw [← rgD_map, List.length_range] at e
  have rg := rg0L (n := as.length) (by omega)
  have hL : (as.map sh).length = as.length := by simp
  have eN : ((prs as.length as.length).filter fun p => !pq F s as p).map pN = (NP F s as).map pN := rfl
  rw [eN] at e
  have hnr : D.nrs ((NP F s as).map pN) = true := nrs_map_of pN pN_nr _
  have hlen : ((NP F s as).map pN).length ≤ LINE := by
    rw [List.length_map]
    have h1 := List.length_filter_le (fun p => !pq F s as p) (prs as.length as.length)
    have h2 := prs_len as.length as.length
    have h3 : as.length * as.length ≤ 30 * 30 := Nat.mul_le_mul hn hn
    show (NP F s as).length ≤ 16777216
    unfold NP; omega
  have l0 : (0 : Nat) ≤ LINE := Nat.zero_le _
  refine cpl (by simp [pls, fd_nr, nD_nr, D.nr, as_nr]; first | rfl | exact ⟨rfl, rfl⟩) ?_ M
  show runFn _ _ bnot_parted _ _ = _
  rw [np_eq]
  generalize (NP F s as).map pN = Z at *
  generalize nD s = S at *
  generalize as.map sh = L at *
  generalize fdD F = X at *
  simp [np0, np1_eq, np2, runFn, startR, hL, rg, e, hlen, l0, fin, Mem.nr, D.nr, D.nrs, hnr]
theorem pall_ev {F : Fd} (h : FOk F) {as : List Sh} (ha : ASh F as) {s : List Nat} (hs : ∀ i, i ∈ s → i < F.st.length) (M : Mem) : callP cparts_all [fdD F, nD s, .tup (as.map sh)] M = some (.bl (PA F s as), M) := by
  have e := notp_ev h ha hs
  have hl : ((NP F s as).map pN).length = (NP F s as).length := by simp
  refine cpl (by simp [pls, fd_nr, nD_nr, D.nr, as_nr]; first | rfl | exact ⟨rfl, rfl⟩) ?_ M
  unfold PA
  generalize (NP F s as).map pN = Z at *
  generalize (NP F s as).length = n at *
  generalize nD s = S at *
  generalize as.map sh = L at *
  generalize fdD F = X at *
  have hz : (Z = []) = (n = 0) := by rw [← hl, List.length_eq_zero_iff]
  simp [cparts_all, bparts_all, runFn, startR, qnot_parted, e, fin, Mem.nr, D.nr, hl, hz]
end LP
namespace LP
open PySem PySem.Spec PyProof.Rows L2 PF
def lk0 : FS := (sSet 4 (f2 gIx (f2 gIx (f2 gIx (fVar 0) (fC (.int 3))) (fVar 2)) (fC (.int 0))))
def lk1 : FS := (sSet 5 (fMut (fLstD (fNil))))
def lk2 : FS := (sFor (fiSq (fCall q_law_places (fCons (fVar 0) (fNil)))) (tN 6)
      (sSeq (sSet 7 (fFz (fBN gSortU (fCons (fFz (fLC [8] (fiSq (fVar 1)) (tN 8) (fYes) (f2 gSub (fCall q_law_far (fCons (fSlice (f2 gIx (f2 gIx (fVar 0) (fC (.int 2))) (fVar 8)) (fNoPart) (fPart (fC (.int 2)))) (fCons (f2 gIx (fVar 3) (fC (.int 0))) (fNil)))) (fCall q_law_far (fCons (fSlice (f2 gIx (f2 gIx (fVar 0) (fC (.int 2))) (fVar 8)) (fNoPart) (fPart (fC (.int 2)))) (fCons (fVar 6) (fNil))))))) (fNil)))))
      (sIf (f2T (gEq) (fB gLen (fCons (fVar 7) (fNil))) (fC (.int 1)))
      (sDrop (fM "list" gAppend (fVar 5) (fCons (fTup (fCons (fVar 6) (fCons (f2 gAdd (f2 gIx (fVar 3) (fC (.int 1))) (f2 gMul (fVar 4) (f2 gIx (fVar 7) (fC (.int 0))))) (fNil)))) (fNil))))
      (sNext))))
def lk3 : FS := (sRet (fVar 5))
theorem lk_eq : b_law_like = sSeq lk0 (sSeq lk1 (sSeq lk2 (lk3))) := rfl
def lkb2 : FS := (sSeq (sSet 7 (fFz (fBN gSortU (fCons (fFz (fLC [8] (fiSq (fVar 1)) (tN 8) (fYes) (f2 gSub (fCall q_law_far (fCons (fSlice (f2 gIx (f2 gIx (fVar 0) (fC (.int 2))) (fVar 8)) (fNoPart) (fPart (fC (.int 2)))) (fCons (f2 gIx (fVar 3) (fC (.int 0))) (fNil)))) (fCall q_law_far (fCons (fSlice (f2 gIx (f2 gIx (fVar 0) (fC (.int 2))) (fVar 8)) (fNoPart) (fPart (fC (.int 2)))) (fCons (fVar 6) (fNil))))))) (fNil)))))
      (sIf (f2T (gEq) (fB gLen (fCons (fVar 7) (fNil))) (fC (.int 1)))
      (sDrop (fM "list" gAppend (fVar 5) (fCons (fTup (fCons (fVar 6) (fCons (f2 gAdd (f2 gIx (fVar 3) (fC (.int 1))) (f2 gMul (fVar 4) (f2 gIx (fVar 7) (fC (.int 0))))) (fNil)))) (fNil))))
      (sNext)))
theorem lk2_eq : lk2 = sFor (fiSq (fCall q_law_places (fCons (fVar 0) (fNil)))) (tN 6) lkb2 := rfl
/-! sharp fields: no error, one slowness of each kind -/
structure Shp (F : Fd) : Prop where
  o : FOk F
  e : F.h0 = F.l0
  e1 : F.h1 = F.l1
  d : F.l1 = 2 * F.l0
  z : ∀ s, s ∈ F.st → s.2.2 = 0
  n : F.st.length ≤ 6
  w : F.w ≤ 5
  h : F.h ≤ 5
theorem stx_mem {F : Fd} {k : Nat} (hk : k < F.st.length) : stx F k ∈ F.st := by
  unfold stx; rw [List.getD_eq_getElem?_getD, List.getElem?_eq_getElem hk]; exact List.getElem_mem hk
def fa_ (F : Fd) (k : Nat) (p : P2) : Int := far2 (sxy (stx F k)) p
def ER (F : Fd) (s : List Nat) (kd : Nat) (a : Sh) : List Rd := s.map fun k => (k, kd, a.2 + wl F kd * fa_ F k a.1)
theorem er_ok {F : Fd} {s : List Nat} {kd : Nat} {a : Sh} (hs : ∀ i, i ∈ s → i < F.st.length) (hk : kd < 2) : ∀ r, r ∈ ER F s kd a → RdOk F r := fun r hr => by
  obtain ⟨k, hk2, rfl⟩ := List.mem_map.mp hr
  exact ⟨hs k hk2, hk⟩
def tms (F : Fd) (s : List Nat) (kd : Nat) (a : Sh) (p : P2) : List Int := s.map fun k => a.2 + wl F kd * fa_ F k a.1 - wl F kd * fa_ F k p
theorem shp_wh {F : Fd} (h : Shp F) (kd : Nat) : wh F kd = wl F kd := by
  unfold wh wl
  by_cases q : kd = 0
  · rw [if_pos q, if_pos q]; exact h.e
  · rw [if_neg q, if_neg q]; exact h.e1
theorem shp_sp {F : Fd} (h : Shp F) {k kd : Nat} (hk : k < F.st.length) (m : Int) (p : P2) : sp F (k, kd, m) p = (m - wl F kd * fa_ F k p, m - wl F kd * fa_ F k p) := by
  have z := h.z _ (stx_mem hk)
  unfold sp
  show (m - (stx F k).2.2 - wh F kd * far2 (sxy (stx F k)) p, m + (stx F k).2.2 - wl F kd * far2 (sxy (stx F k)) p) = _
  rw [z, shp_wh h, Int.sub_zero, Int.add_zero]; rfl
theorem er_los {F : Fd} (h : Shp F) {s : List Nat} (hs : ∀ i, i ∈ s → i < F.st.length) (kd : Nat) (a : Sh) (p : P2) : los F p (ER F s kd a) = tms F s kd a p ∧ his F p (ER F s kd a) = tms F s kd a p := by
  unfold los his ER tms
  rw [List.map_map, List.map_map]
  constructor
  · apply List.map_congr_left
    intro k hk
    show (sp F (k, kd, _) p).1 = _
    rw [shp_sp h (hs k hk)]
  · apply List.map_congr_left
    intro k hk
    show (sp F (k, kd, _) p).2 = _
    rw [shp_sp h (hs k hk)]
/-- all alike -/
theorem same_iff {xs : List Int} (h : xs ≠ []) : mx xs ≤ mi xs ↔ ∀ x, x ∈ xs → x = mx xs := by
  constructor
  · intro z x hx
    have := mx_ge hx; have := mi_le hx; omega
  · intro z
    have := z _ (mi_mem h); omega
def aps (F : Fd) (s : List Nat) (a : Sh) (p : P2) : List Int := s.map fun k => fa_ F k a.1 - fa_ F k p
def al (F : Fd) (s : List Nat) (a : Sh) (p : P2) : Bool := decide (mx (aps F s a p) ≤ mi (aps F s a p))
theorem tms_aps (F : Fd) (s : List Nat) (kd : Nat) (a : Sh) (p : P2) : tms F s kd a p = (aps F s a p).map fun v => a.2 + wl F kd * v := by
  unfold tms aps
  rw [List.map_map]
  apply List.map_congr_left
  intro k _
  show _ = a.2 + wl F kd * (fa_ F k a.1 - fa_ F k p)
  rw [Int.mul_sub]; omega
theorem mx_map {f : Int → Int} (hf : ∀ a b, a ≤ b → f a ≤ f b) {xs : List Int} (h : xs ≠ []) : mx (xs.map f) = f (mx xs) := by
  have h2 : xs.map f ≠ [] := by simpa using h
  obtain ⟨y, hy, e⟩ := List.mem_map.mp (mx_mem h2)
  have a := hf _ _ (mx_ge hy)
  have b := mx_ge (List.mem_map.mpr ⟨_, mx_mem h, rfl⟩ : f (mx xs) ∈ xs.map f)
  omega
theorem mi_map {f : Int → Int} (hf : ∀ a b, a ≤ b → f a ≤ f b) {xs : List Int} (h : xs ≠ []) : mi (xs.map f) = f (mi xs) := by
  have h2 : xs.map f ≠ [] := by simpa using h
  obtain ⟨y, hy, e⟩ := List.mem_map.mp (mi_mem h2)
  have a := hf _ _ (mi_le hy)
  have b := mi_le (List.mem_map.mpr ⟨_, mi_mem h, rfl⟩ : f (mi xs) ∈ xs.map f)
  omega
theorem wl_mono {F : Fd} (h : FOk F) (kd : Nat) (t : Int) : ∀ a b : Int, a ≤ b → t + wl F kd * a ≤ t + wl F kd * b := fun a b hab => by
  have := Int.mul_le_mul_of_nonneg_left hab (show 0 ≤ wl F kd by have := (wv_le h kd).1; omega)
  omega
theorem aps_ne {F : Fd} {s : List Nat} (hs : s ≠ []) (a : Sh) (p : P2) : aps F s a p ≠ [] := by unfold aps; simpa using hs
theorem tms_mx {F : Fd} (h : FOk F) {s : List Nat} (hs : s ≠ []) (kd : Nat) (a : Sh) (p : P2) : mx (tms F s kd a p) = a.2 + wl F kd * mx (aps F s a p) ∧ mi (tms F s kd a p) = a.2 + wl F kd * mi (aps F s a p) := by
  rw [tms_aps]
  exact ⟨mx_map (wl_mono h kd a.2) (aps_ne hs a p), mi_map (wl_mono h kd a.2) (aps_ne hs a p)⟩
theorem er_pos {F : Fd} (h : Shp F) {s : List Nat} (hne : s ≠ []) (hs : ∀ i, i ∈ s → i < F.st.length) (kd : Nat) (a : Sh) (p : P2) : pos F (ER F s kd a) p = al F s a p := by
  have hi : (ER F s kd a).isEmpty = false := by
    unfold ER
    cases s with
    | nil => exact absurd rfl hne
    | cons x s => rfl
  obtain ⟨e1, e2⟩ := er_los h hs kd a p
  obtain ⟨m1, m2⟩ := tms_mx h.o hne kd a p
  unfold pos al
  rw [hi, Bool.false_or, e1, e2, m1, m2, Bool.eq_iff_iff, decide_eq_true_eq, decide_eq_true_eq]
  have w := (wv_le h.o kd).1
  constructor
  · intro z
    by_cases q : mx (aps F s a p) ≤ mi (aps F s a p)
    · exact q
    · have := Int.mul_lt_mul_of_pos_left (show mi (aps F s a p) < mx (aps F s a p) by omega) (show 0 < wl F kd by omega)
      omega
  · intro z
    exact wl_mono h.o kd a.2 _ _ z
def LK (F : Fd) (s : List Nat) (kd : Nat) (a : Sh) : List Sh := ((AP F.w F.h).filter (al F s a)).map fun p => (p, a.2 + wl F kd * mx (aps F s a p))
theorem er_PP {F : Fd} (h : Shp F) {s : List Nat} (hne : s ≠ []) (hs : ∀ i, i ∈ s → i < F.st.length) (kd : Nat) (a : Sh) : PP F (ER F s kd a) = (AP F.w F.h).filter (al F s a) := by
  unfold PP
  apply List.filter_congr
  intro p _
  exact er_pos h hne hs kd a p
theorem er_tA {F : Fd} (h : Shp F) {s : List Nat} (hne : s ≠ []) (hs : ∀ i, i ∈ s → i < F.st.length) (kd : Nat) (a : Sh) {p : P2} (hp : al F s a p = true) : tA F (ER F s kd a) p = pD (a.2 + wl F kd * mx (aps F s a p), a.2 + wl F kd * mx (aps F s a p)) := by
  obtain ⟨e1, e2⟩ := er_los h hs kd a p
  obtain ⟨m1, m2⟩ := tms_mx h.o hne kd a p
  have hz : mx (aps F s a p) = mi (aps F s a p) := by
    have := of_decide_eq_true hp
    have := mx_ge (mi_mem (aps_ne (F := F) hne a p))
    omega
  unfold tA
  rw [e1, e2, m1, m2, ← hz, if_pos (Int.le_refl _)]
/-! the law's own rows -/
theorem places_ev {F : Fd} (h : FOk F) (M : Mem) : callP c_law_places [fdD F] M = some (.lst ((AP F.w F.h).map pD), M) := by
  have eg0 := grid_ev (w := F.w) (h := F.h) ⟨h.w1, h.w2⟩ ⟨h.h1', h.h2⟩
  have hn := ps_nr (AP F.w F.h)
  have g0 := fd_0 F; have g1 := fd_1 F
  refine cpl (by simp [pls, fd_nr]) ?_ M
  generalize (AP F.w F.h).map pD = G at *
  generalize fdD F = X at *
  simp [c_law_places, b_law_places, runFn, startR, g0, g1, q_law_grid, callP, argsP, eg0, anyRef, hn, fin, Mem.nr]
theorem exact_ev {F : Fd} (h : FOk F) {s : List Nat} (hl : s.length ≤ 100) (hs : ∀ i, i ∈ s → i < F.st.length) {kd : Nat} (hk : kd < 2) {a : Sh} (ha : PIn F a.1) (M : Mem) : callP c_law_exact [fdD F, nD s, .int kd, sh a] M = some (.tup ((ER F s kd a).map rD), M) := by
  have g2 := fd_2 F; have g3 := fd_3 F
  have wv := wv_at F hk (i := (kd : Int)) rfl
  have p0 := pD_0 (wl F kd, wh F kd)
  have s0 := sh_0 a; have s1 := sh_1 a
  have hlc : lcLoop (chk none (iN s)) (tN 5) fYes (fTup (fCons (fVar 5) (fCons (fVar 2) (fCons (f2 gAdd (f2 gIx (fVar 3) (fC (.int 1))) (f2 gMul (fVar 4) (fCall q_law_far (fCons (fSlice (f2 gIx (f2 gIx (fVar 0) (fC (.int 2))) (fVar 5)) (fNoPart) (fPart (fC (.int 2)))) (fCons (f2 gIx (fVar 3) (fC (.int 0))) (fNil)))))) (fNil))))) [some (fdD F), some (nD s), some (.int kd), some (sh a), some (.int (wl F kd)), none] (iN s) [] [] = some ((ER F s kd a).map rD, []) := by
    have := lc_all (fun (k : Nat) => D.int (k : Int)) (fun k => rD (k, kd, a.2 + wl F kd * fa_ F k a.1)) (c := chk none (iN s)) (t := tN 5) (ft := fYes) (fe := (fTup (fCons (fVar 5) (fCons (fVar 2) (fCons (f2 gAdd (f2 gIx (fVar 3) (fC (.int 1))) (f2 gMul (fVar 4) (fCall q_law_far (fCons (fSlice (f2 gIx (f2 gIx (fVar 0) (fC (.int 2))) (fVar 5)) (fNoPart) (fPart (fC (.int 2)))) (fCons (f2 gIx (fVar 3) (fC (.int 0))) (fNil)))))) (fNil)))))) (ρ := [some (fdD F), some (nD s), some (.int kd), some (sh a), some (.int (wl F kd)), none]) (M := []) rfl s [] (fun k hk2 => by
      have hk3 := hs k hk2
      have ak := st_at hk3 (i := (k : Int)) rfl
      have gp := sD_cut (stx F k)
      have e := lfarf_ev (sxy (stx F k)) a.1
      have f0 := far2_ge (sxy (stx F k)) a.1
      have f1 := far2_lt h (st_in h hk3).1 ha
      have om : okMul (wl F kd) (far2 (sxy (stx F k)) a.1) = true := okMul_r (by omega)
      have eR : rD (k, kd, a.2 + wl F kd * fa_ F k a.1) = .tup [.int (k : Int), .int (kd : Int), .int (a.2 + wl F kd * far2 (sxy (stx F k)) a.1)] := rfl
      rw [eR]
      refine ⟨_, rfl, rfl, ?_⟩
      generalize far2 (sxy (stx F k)) a.1 = f at *
      generalize pD (sxy (stx F k)) = Q at *
      generalize sD (stx F k) = S at *
      generalize F.st.map sD = LS at *
      generalize nD s = NS at *
      generalize pD a.1 = Y at *
      generalize sh a = SA at *
      generalize fdD F = X at *
      simp [g2, ak, gp, s0, s1, q_law_far, e, om])
    rw [List.nil_append] at this
    rw [show (ER F s kd a).map rD = s.map fun k => rD (k, kd, a.2 + wl F kd * fa_ F k a.1) by unfold ER; rw [List.map_map]; rfl]
    exact this
  have fs : ∀ (ρ : Rho) (M : Mem), ρ[1]? = some (some (nD s)) → fiSq (fVar 1) ρ M = some ((iN s, none), M) := fun ρ M h3 => by
    unfold fiSq
    rw [ev_var, h3]; rfl
  have hn := rs_nr (ER F s kd a)
  have hlen : ((ER F s kd a).map rD).length ≤ LINE := by
    rw [List.length_map]; unfold ER; rw [List.length_map]; show _ ≤ 16777216; omega
  refine cpl (by simp [pls, fd_nr, nD_nr, D.nr, sh_n]; first | rfl | exact ⟨rfl, rfl⟩) ?_ M
  generalize (ER F s kd a).map rD = Z at *
  generalize iN s = IS at *
  generalize nD s = NS at *
  generalize pD (wl F kd, wh F kd) = W at *
  generalize pD (F.l0, F.h0) = W0 at *
  generalize pD (F.l1, F.h1) = W1 at *
  generalize sh a = SA at *
  generalize fdD F = X at *
  simp [c_law_exact, b_law_exact, runFn, startR, g3, wv, p0, fs, wipeR, hlc, hlen, fin, Mem.nr, D.nr, hn]
/-! what looks alike -/
theorem alike_iff {F : Fd} {s : List Nat} (hne : s ≠ []) {a : Sh} {p : P2} : al F s a p = true ↔ ∀ x, x ∈ aps F s a p → x = mx (aps F s a p) := by
  unfold al
  rw [decide_eq_true_eq]
  exact same_iff (aps_ne hne a p)
theorem su_alike {F : Fd} {s : List Nat} (hne : s ≠ []) {a : Sh} {p : P2} (h : al F s a p = true) : sortU (aps F s a p) = [mx (aps F s a p)] := by
  refine lt_uniq (sortU_lt _) (by simp) fun k => ?_
  rw [sortU_mem, List.mem_singleton]
  constructor
  · exact fun hk => (alike_iff hne).mp h k hk
  · rintro rfl; exact mx_mem (aps_ne hne a p)
theorem su_not {F : Fd} {s : List Nat} (hne : s ≠ []) {a : Sh} {p : P2} (h : al F s a p = false) : (sortU (aps F s a p)).length ≠ 1 := by
  intro z
  have : al F s a p = true := by
    rw [alike_iff hne]
    intro x hx
    obtain ⟨y, hy⟩ := List.length_eq_one_iff.mp z
    have h1 := (sortU_mem _ x).mpr hx
    have h2 := (sortU_mem _ (mx (aps F s a p))).mpr (mx_mem (aps_ne hne a p))
    rw [hy, List.mem_singleton] at h1 h2
    rw [h1, h2]
  rw [h] at this; cases this
theorem like_ev {F : Fd} (h : FOk F) {s : List Nat} (hne : s ≠ []) (hl : s.length ≤ 50) (hs : ∀ i, i ∈ s → i < F.st.length) {kd : Nat} (hk : kd < 2) {a : Sh} (ha : PIn F a.1) (M : Mem) : callP c_law_like [fdD F, nD s, .int kd, sh a] M = some (.lst ((LK F s kd a).map sh), M) := by
  have g2 := fd_2 F; have g3 := fd_3 F
  have wv := wv_at F hk (i := (kd : Int)) rfl
  have p0 := pD_0 (wl F kd, wh F kd)
  have s0 := sh_0 a; have s1 := sh_1 a
  have cp := places_ev h
  have hap := ap_len h.w2 h.h2
  have fs : ∀ (ρ : Rho) (M : Mem), ρ[1]? = some (some (nD s)) → fiSq (fVar 1) ρ M = some ((iN s, none), M) := fun ρ M h3 => by
    unfold fiSq
    rw [ev_var, h3]; rfl
  have hloop := loop_map pD (c := chk none ((AP F.w F.h).map pD)) (step := sStep (tN 6) lkb2) (fun pre ρ N => pre.length ≤ 144 ∧ ∃ x6 x7 : Option D, ρ = [some (fdD F), some (nD s), some (.int kd), some (sh a), some (.int (wl F kd)), some (.ref 0), x6, x7, none] ∧ N = [.lst (((pre.filter (al F s a)).map fun p => ((p, a.2 + wl F kd * mx (aps F s a p)) : Sh)).map sh)]) (AP F.w F.h) (ρ := [some (fdD F), some (nD s), some (.int kd), some (sh a), some (.int (wl F kd)), some (.ref 0), none, none, none]) (M := [.lst []]) (fun _ _ _ _ => rfl) (by
    rintro pre p suf ρ N hys ⟨hpl, x6, x7, rfl, rfl⟩
    have hp : PIn F p := ap_mem.mp (by rw [hys]; simp)
    have hpl2 : (pre ++ [p]).length ≤ 144 := by
      rw [hys, List.length_append, List.length_cons] at hap
      rw [List.length_append, List.length_singleton]; omega
    have hlc : ∀ M, lcLoop (chk none (iN s)) (tN 8) fYes (f2 gSub (fCall q_law_far (fCons (fSlice (f2 gIx (f2 gIx (fVar 0) (fC (.int 2))) (fVar 8)) (fNoPart) (fPart (fC (.int 2)))) (fCons (f2 gIx (fVar 3) (fC (.int 0))) (fNil)))) (fCall q_law_far (fCons (fSlice (f2 gIx (f2 gIx (fVar 0) (fC (.int 2))) (fVar 8)) (fNoPart) (fPart (fC (.int 2)))) (fCons (fVar 6) (fNil))))) [some (fdD F), some (nD s), some (.int kd), some (sh a), some (.int (wl F kd)), some (.ref 0), some (pD p), x7, none] (iN s) [] M = some (iL (aps F s a p), M) := fun M => by
      have := lc_all (fun (k : Nat) => D.int (k : Int)) (fun k => D.int (fa_ F k a.1 - fa_ F k p)) (c := chk none (iN s)) (t := tN 8) (ft := fYes) (fe := (f2 gSub (fCall q_law_far (fCons (fSlice (f2 gIx (f2 gIx (fVar 0) (fC (.int 2))) (fVar 8)) (fNoPart) (fPart (fC (.int 2)))) (fCons (f2 gIx (fVar 3) (fC (.int 0))) (fNil)))) (fCall q_law_far (fCons (fSlice (f2 gIx (f2 gIx (fVar 0) (fC (.int 2))) (fVar 8)) (fNoPart) (fPart (fC (.int 2)))) (fCons (fVar 6) (fNil)))))) (ρ := [some (fdD F), some (nD s), some (.int kd), some (sh a), some (.int (wl F kd)), some (.ref 0), some (pD p), x7, none]) (M := M) rfl s [] (fun k hk2 => by
        have hk3 := hs k hk2
        have ak := st_at hk3 (i := (k : Int)) rfl
        have gp := sD_cut (stx F k)
        have e1 := lfarf_ev (sxy (stx F k)) a.1
        have e2 := lfarf_ev (sxy (stx F k)) p
        refine ⟨_, rfl, rfl, ?_⟩
        unfold fa_
        generalize far2 (sxy (stx F k)) a.1 = f at *
        generalize far2 (sxy (stx F k)) p = f' at *
        generalize pD (sxy (stx F k)) = Q at *
        generalize sD (stx F k) = S at *
        generalize F.st.map sD = LS at *
        generalize nD s = NS at *
        generalize pD a.1 = Y at *
        generalize pD p = Y2 at *
        generalize sh a = SA at *
        generalize fdD F = X at *
        simp [g2, ak, gp, s0, s1, q_law_far, e1, e2])
      rw [List.nil_append] at this
      rw [show iL (aps F s a p) = s.map fun k => D.int (fa_ F k a.1 - fa_ F k p) by unfold iL aps; rw [List.map_map]; rfl]
      exact this
    have su : ∀ M, gSortU [.lst (iL (aps F s a p))] M = some (iL (sortU (aps F s a p))) := fun M => by
      show (intsOf (iL (aps F s a p))).bind _ = _
      rw [intsOf_iL, Option.bind_some, if_pos (by unfold aps; rw [List.length_map]; omega)]; rfl
    by_cases hq : al F s a p = true
    · have hv := su_alike hne hq
      rw [hv] at su
      have om : okMul (wl F kd) (mx (aps F s a p)) = true := by
        obtain ⟨k, hk2, e⟩ := List.mem_map.mp (mx_mem (aps_ne (F := F) hne a p))
        have f0 := far2_ge (sxy (stx F k)) a.1
        have f1 := far2_lt h (st_in h (hs k hk2)).1 ha
        have f2 := far2_ge (sxy (stx F k)) p
        have f3 := far2_lt h (st_in h (hs k hk2)).1 hp
        refine okMul_r ?_
        have e' : fa_ F k a.1 - fa_ F k p = mx (aps F s a p) := e
        rw [← e']
        unfold fa_
        omega
      have hlen : (((pre.filter (al F s a)).map fun p => ((p, a.2 + wl F kd * mx (aps F s a p)) : Sh)).map sh).length < LINE := by
        rw [List.length_map, List.length_map]
        have := List.length_filter_le (al F s a) pre
        show _ < 16777216; omega
      refine ⟨_, _, ?_, hpl2, some (pD p), some (.lst [.int (mx (aps F s a p))]), rfl, rfl⟩
      have e0 : [p].filter (al F s a) = [p] := by simp [hq]
      have es : sh (p, a.2 + wl F kd * mx (aps F s a p)) = .tup [pD p, .int (a.2 + wl F kd * mx (aps F s a p))] := rfl
      rw [List.filter_append, e0, List.map_append, List.map_append, show ([p].map fun p => ((p, a.2 + wl F kd * mx (aps F s a p)) : Sh)).map sh = [sh (p, a.2 + wl F kd * mx (aps F s a p))] from rfl, es]
      have eL : iL [mx (aps F s a p)] = [.int (mx (aps F s a p))] := rfl
      rw [eL] at su
      generalize ((pre.filter (al F s a)).map fun p => ((p, a.2 + wl F kd * mx (aps F s a p)) : Sh)).map sh = RL at *
      generalize iL (aps F s a p) = AL at *
      generalize mx (aps F s a p) = v at *
      generalize iN s = IS at *
      generalize nD s = NS at *
      generalize pD p = Y2 at *
      generalize sh a = SA at *
      generalize fdD F = X at *
      simp [lkb2, fs, wipeR, hlc, su, s1, om, hlen]
    · have hv := su_not hne (Bool.eq_false_iff.mpr hq)
      refine ⟨_, _, ?_, hpl2, some (pD p), some (.lst (iL (sortU (aps F s a p)))), rfl, rfl⟩
      have e0 : [p].filter (al F s a) = [] := by simp [hq]
      rw [List.filter_append, e0, List.append_nil]
      have hv2 : ¬ ((iL (sortU (aps F s a p))).length : Int) = 1 := by rw [iL_len]; omega
      have hv3 : ¬ (iL (sortU (aps F s a p))).length = 1 := by rw [iL_len]; exact hv
      generalize ((pre.filter (al F s a)).map fun p => ((p, a.2 + wl F kd * mx (aps F s a p)) : Sh)).map sh = RL at *
      generalize iL (sortU (aps F s a p)) = SU at *
      generalize iL (aps F s a p) = AL at *
      generalize iN s = IS at *
      generalize nD s = NS at *
      generalize pD p = Y2 at *
      generalize sh a = SA at *
      generalize fdD F = X at *
      simp [lkb2, fs, wipeR, hlc, su, hv2, hv3]) ⟨by simp, none, none, rfl, rfl⟩
  obtain ⟨ρ', M', e, _, x6, x7, rfl, rfl⟩ := hloop
  have hn : D.nrs ((LK F s kd a).map sh) = true := nrs_map_of sh sh_n _
  have eL : ((AP F.w F.h).filter (al F s a)).map (fun p => ((p, a.2 + wl F kd * mx (aps F s a p)) : Sh)) = LK F s kd a := rfl
  rw [eL] at e
  refine cpl (by simp [pls, fd_nr, nD_nr, D.nr, sh_n]; first | rfl | exact ⟨rfl, rfl⟩) ?_ M
  show runFn _ _ b_law_like _ _ = _
  rw [lk_eq]
  generalize (LK F s kd a).map sh = Z at *
  generalize (AP F.w F.h).map pD = AD at *
  generalize nD s = NS at *
  generalize pD (wl F kd, wh F kd) = W at *
  generalize pD (F.l0, F.h0) = W0 at *
  generalize pD (F.l1, F.h1) = W1 at *
  generalize sh a = SA at *
  generalize fdD F = X at *
  simp [lk0, lk1, lk2_eq, lk3, runFn, startR, g3, wv, p0, q_law_places, cp, fiSq, e, fin, Mem.nr, D.nr, hn]
end LP
namespace LP
open PySem PySem.Spec PyProof.Rows L2 PF
def cr0 : FS := (sFor (fiSq (fFz (fLstD (fCons (fC (.int 0)) (fCons (fC (.int 1)) (fNil)))))) (tN 3)
      (sSeq (sSet 4 (fCall q_law_exact (fCons (fVar 0) (fCons (fVar 1) (fCons (fVar 3) (fCons (fVar 2) (fNil)))))))
      (sSeq (sSet 5 (fCall q_law_like (fCons (fVar 0) (fCons (fVar 1) (fCons (fVar 3) (fCons (fVar 2) (fNil)))))))
      (sSeq (sIf (fNot (fTru (fCall q_law_same (fCons (fCall qpossible_places (fCons (fVar 0) (fCons (fVar 4) (fNil)))) (fCons (fB gTuple (fCons (fFz (fLC [6] (fiSq (fVar 5)) (tN 6) (fYes) (f2 gIx (fVar 6) (fC (.int 0))))) (fNil))) (fNil))))))
      (sRet (fC (.bl false)))
      (sNext))
      (sFor (fiSq (fVar 5)) (tT 2 (tsC (tN 7) (tsC (tN 8) (tsN))))
      (sSeq (sIf (fNot (fTru (fCall q_law_same (fCons (fCall qtimes_at (fCons (fVar 0) (fCons (fVar 4) (fCons (fVar 7) (fNil))))) (fCons (fTup (fCons (fVar 8) (fCons (fVar 8) (fNil)))) (fNil))))))
      (sRet (fC (.bl false)))
      (sNext))
      (sSeq (sSet 9 (fCall qparted_by (fCons (fVar 0) (fCons (fVar 2) (fCons (fTup (fCons (fVar 7) (fCons (fVar 8) (fNil)))) (fNil))))))
      (sIf (fAnd (f2T (gEq) (fVar 3) (fC (.int 0))) (fOr (fNot (fTru (fIsi .tup (fVar 9)))) (f2T (gCmp fun i j => decide (j < i)) (fB gLen (fCons (fFz (fLC [10] (fiSq (fVar 9)) (tN 10) (f2T (gInX) (fVar 10) (fVar 1)) (fVar 10))) (fNil))) (fC (.int 0)))))
      (sRet (fC (.bl false)))
      (sNext)))))))))
def cr1 : FS := (sSet 5 (fCall q_law_like (fCons (fVar 0) (fCons (fVar 1) (fCons (fC (.int 0)) (fCons (fVar 2) (fNil)))))))
def cr2 : FS := (sIf (fNot (fTru (fCall q_law_same (fCons (fCall qparts_all (fCons (fVar 0) (fCons (fVar 1) (fCons (fB gTuple (fCons (fVar 5) (fNil))) (fNil))))) (fCons (f2 (gB (gEq)) (fB gLen (fCons (fVar 5) (fNil))) (fC (.int 1))) (fNil))))))
      (sRet (fC (.bl false)))
      (sNext))
def cr3 : FS := (sSet 11 (fFz (fLstD (fNil))))
def cr4 : FS := (sFor (fiRg1 (fCons (fB gLen (fCons (fVar 5) (fNil))) (fNil))) (tN 6)
      (sSet 11 (f2 gAdd (fVar 11) (fFz (fLC [12] (fiRg2 (fCons (f2 gAdd (fVar 6) (fC (.int 1))) (fCons (fB gLen (fCons (fVar 5) (fNil))) (fNil)))) (tN 12) (fYes) (fTup (fCons (fVar 6) (fCons (fVar 12) (fNil)))))))))
def cr5 : FS := (sRet (fCall q_law_same (fCons (fCall qnot_parted (fCons (fVar 0) (fCons (fVar 1) (fCons (fB gTuple (fCons (fVar 5) (fNil))) (fNil))))) (fCons (fB gTuple (fCons (fVar 11) (fNil))) (fNil)))))
theorem cr_eq : b_law_is_choice_right = sSeq cr0 (sSeq cr1 (sSeq cr2 (sSeq cr3 (sSeq cr4 (cr5))))) := rfl
def crb0 : FS := (sSeq (sSet 4 (fCall q_law_exact (fCons (fVar 0) (fCons (fVar 1) (fCons (fVar 3) (fCons (fVar 2) (fNil)))))))
      (sSeq (sSet 5 (fCall q_law_like (fCons (fVar 0) (fCons (fVar 1) (fCons (fVar 3) (fCons (fVar 2) (fNil)))))))
      (sSeq (sIf (fNot (fTru (fCall q_law_same (fCons (fCall qpossible_places (fCons (fVar 0) (fCons (fVar 4) (fNil)))) (fCons (fB gTuple (fCons (fFz (fLC [6] (fiSq (fVar 5)) (tN 6) (fYes) (f2 gIx (fVar 6) (fC (.int 0))))) (fNil))) (fNil))))))
      (sRet (fC (.bl false)))
      (sNext))
      (sFor (fiSq (fVar 5)) (tT 2 (tsC (tN 7) (tsC (tN 8) (tsN))))
      (sSeq (sIf (fNot (fTru (fCall q_law_same (fCons (fCall qtimes_at (fCons (fVar 0) (fCons (fVar 4) (fCons (fVar 7) (fNil))))) (fCons (fTup (fCons (fVar 8) (fCons (fVar 8) (fNil)))) (fNil))))))
      (sRet (fC (.bl false)))
      (sNext))
      (sSeq (sSet 9 (fCall qparted_by (fCons (fVar 0) (fCons (fVar 2) (fCons (fTup (fCons (fVar 7) (fCons (fVar 8) (fNil)))) (fNil))))))
      (sIf (fAnd (f2T (gEq) (fVar 3) (fC (.int 0))) (fOr (fNot (fTru (fIsi .tup (fVar 9)))) (f2T (gCmp fun i j => decide (j < i)) (fB gLen (fCons (fFz (fLC [10] (fiSq (fVar 9)) (tN 10) (f2T (gInX) (fVar 10) (fVar 1)) (fVar 10))) (fNil))) (fC (.int 0)))))
      (sRet (fC (.bl false)))
      (sNext))))))))
theorem cr0_eq : cr0 = sFor (fiSq (fFz (fLstD (fCons (fC (.int 0)) (fCons (fC (.int 1)) (fNil)))))) (tN 3) crb0 := rfl
def crx0 : FS := (sSet 4 (fCall q_law_exact (fCons (fVar 0) (fCons (fVar 1) (fCons (fVar 3) (fCons (fVar 2) (fNil)))))))
def crx1 : FS := (sSet 5 (fCall q_law_like (fCons (fVar 0) (fCons (fVar 1) (fCons (fVar 3) (fCons (fVar 2) (fNil)))))))
def crx2 : FS := (sIf (fNot (fTru (fCall q_law_same (fCons (fCall qpossible_places (fCons (fVar 0) (fCons (fVar 4) (fNil)))) (fCons (fB gTuple (fCons (fFz (fLC [6] (fiSq (fVar 5)) (tN 6) (fYes) (f2 gIx (fVar 6) (fC (.int 0))))) (fNil))) (fNil))))))
      (sRet (fC (.bl false)))
      (sNext))
def crx3 : FS := (sFor (fiSq (fVar 5)) (tT 2 (tsC (tN 7) (tsC (tN 8) (tsN))))
      (sSeq (sIf (fNot (fTru (fCall q_law_same (fCons (fCall qtimes_at (fCons (fVar 0) (fCons (fVar 4) (fCons (fVar 7) (fNil))))) (fCons (fTup (fCons (fVar 8) (fCons (fVar 8) (fNil)))) (fNil))))))
      (sRet (fC (.bl false)))
      (sNext))
      (sSeq (sSet 9 (fCall qparted_by (fCons (fVar 0) (fCons (fVar 2) (fCons (fTup (fCons (fVar 7) (fCons (fVar 8) (fNil)))) (fNil))))))
      (sIf (fAnd (f2T (gEq) (fVar 3) (fC (.int 0))) (fOr (fNot (fTru (fIsi .tup (fVar 9)))) (f2T (gCmp fun i j => decide (j < i)) (fB gLen (fCons (fFz (fLC [10] (fiSq (fVar 9)) (tN 10) (f2T (gInX) (fVar 10) (fVar 1)) (fVar 10))) (fNil))) (fC (.int 0)))))
      (sRet (fC (.bl false)))
      (sNext)))))
theorem crx_eq : crb0 = sSeq crx0 (sSeq crx1 (sSeq crx2 (crx3))) := rfl
def crb0x : FS := (sSeq (sIf (fNot (fTru (fCall q_law_same (fCons (fCall qtimes_at (fCons (fVar 0) (fCons (fVar 4) (fCons (fVar 7) (fNil))))) (fCons (fTup (fCons (fVar 8) (fCons (fVar 8) (fNil)))) (fNil))))))
      (sRet (fC (.bl false)))
      (sNext))
      (sSeq (sSet 9 (fCall qparted_by (fCons (fVar 0) (fCons (fVar 2) (fCons (fTup (fCons (fVar 7) (fCons (fVar 8) (fNil)))) (fNil))))))
      (sIf (fAnd (f2T (gEq) (fVar 3) (fC (.int 0))) (fOr (fNot (fTru (fIsi .tup (fVar 9)))) (f2T (gCmp fun i j => decide (j < i)) (fB gLen (fCons (fFz (fLC [10] (fiSq (fVar 9)) (tN 10) (f2T (gInX) (fVar 10) (fVar 1)) (fVar 10))) (fNil))) (fC (.int 0)))))
      (sRet (fC (.bl false)))
      (sNext))))
theorem crx3_eq : crx3 = sFor (fiSq (fVar 5)) (tT 2 (tsC (tN 7) (tsC (tN 8) (tsN)))) crb0x := rfl
def crb4 : FS := (sSet 11 (f2 gAdd (fVar 11) (fFz (fLC [12] (fiRg2 (fCons (f2 gAdd (fVar 6) (fC (.int 1))) (fCons (fB gLen (fCons (fVar 5) (fNil))) (fNil)))) (tN 12) (fYes) (fTup (fCons (fVar 6) (fCons (fVar 12) (fNil))))))))
theorem cr4_eq : cr4 = sFor (fiRg1 (fCons (fB gLen (fCons (fVar 5) (fNil))) (fNil))) (tN 6) crb4 := rfl
theorem cpS2 {d : D} (h : sok 12 d = true) : ∀ M, callP q_law_same [d, d] M = some (.bl true, M) := fun M => cpS h M
theorem filt_ff {α : Type} (L : List α) : L.filter (fun _ => false) = [] := List.filter_eq_nil_iff.mpr (fun _ _ => by decide)
theorem ap_len5 {w h : Int} (hw : w ≤ 5) (hh : h ≤ 5) : (AP w h).length ≤ 25 := by
  have : ∀ xs : List Nat, (xs.flatMap fun (x : Nat) => (List.range h.toNat).map fun (y : Nat) => (((x : Int), (y : Int)) : P2)).length = xs.length * h.toNat := by
    intro xs
    induction xs with
    | nil => simp
    | cons x xs ih => rw [List.flatMap_cons, List.length_append, ih, List.length_map, List.length_range, List.length_cons, Nat.succ_mul]; omega
  unfold AP
  rw [this, List.length_range]
  exact Nat.mul_le_mul (show w.toNat ≤ 5 by omega) (show h.toNat ≤ 5 by omega)
section
variable {F : Fd} {s : List Nat} {a : Sh}
theorem lk_in {kd : Nat} {c : Sh} (h : c ∈ LK F s kd a) : PIn F c.1 ∧ al F s a c.1 = true ∧ c.2 = a.2 + wl F kd * mx (aps F s a c.1) := by
  obtain ⟨p, hp, rfl⟩ := List.mem_map.mp h
  obtain ⟨h1, h2⟩ := List.mem_filter.mp hp
  exact ⟨ap_mem.mp h1, h2, rfl⟩
theorem lk_len (h : Shp F) (kd : Nat) : (LK F s kd a).length ≤ 25 := by
  unfold LK
  rw [List.length_map]
  exact Nat.le_trans (List.length_filter_le _ _) (ap_len5 h.w h.h)
theorem lk_fst (kd : Nat) : (LK F s kd a).map (fun c => pD c.1) = ((AP F.w F.h).filter (al F s a)).map pD := by
  unfold LK; rw [List.map_map]; rfl
theorem lk_time (hne : s ≠ []) {kd : Nat} {c : Sh} (h : c ∈ LK F s kd a) {k : Nat} (hk : k ∈ s) : c.2 + wl F kd * fa_ F k c.1 = a.2 + wl F kd * fa_ F k a.1 := by
  obtain ⟨_, h2, h3⟩ := lk_in h
  have e := (alike_iff hne).mp h2 _ (List.mem_map.mpr ⟨k, hk, rfl⟩)
  rw [h3, ← e, Int.mul_sub]; omega
theorem shp_du (h : Shp F) {k : Nat} (hk : k < F.st.length) (c : Sh) : du F k c = (c.2 + wl F 0 * fa_ F k c.1, c.2 + wl F 0 * fa_ F k c.1) := by
  have z := h.z _ (stx_mem hk)
  have e := shp_wh h 0
  unfold du dm
  show (c.2 + wl F 0 * far2 (sxy (stx F k)) c.1 - (stx F k).2.2, c.2 + wh F 0 * far2 (sxy (stx F k)) c.1 + (stx F k).2.2) = _
  rw [z, e, Int.sub_zero, Int.add_zero]; rfl
theorem pt_eq (h : Shp F) {k : Nat} (hk : k < F.st.length) {c d : Sh} (e : c.2 + wl F 0 * fa_ F k c.1 = d.2 + wl F 0 * fa_ F k d.1) : PT F k c d = false := by
  unfold PT
  rw [shp_du h hk, shp_du h hk, e]
  simp
theorem lk_a (h : Shp F) (hne : s ≠ []) (ha : PIn F a.1) (kd : Nat) : LK F s kd a ≠ [] := by
  have h0 : al F s a a.1 = true := by
    rw [alike_iff hne]
    have hz : ∀ x, x ∈ aps F s a a.1 → x = 0 := fun x hx => by
      obtain ⟨k, _, rfl⟩ := List.mem_map.mp hx
      exact Int.sub_self _
    intro x hx
    rw [hz x hx, hz _ (mx_mem (aps_ne hne a a.1))]
  have : (a.1, a.2 + wl F kd * mx (aps F s a a.1)) ∈ LK F s kd a := List.mem_map.mpr ⟨a.1, List.mem_filter.mpr ⟨ap_mem.mpr ha, h0⟩, rfl⟩
  intro z
  rw [z] at this; simp at this
theorem lk_np (h : Shp F) (hne : s ≠ []) (hs : ∀ i, i ∈ s → i < F.st.length) : NP F s (LK F s 0 a) = prs (LK F s 0 a).length (LK F s 0 a).length := by
  unfold NP
  rw [List.filter_eq_self]
  intro p hp
  obtain ⟨p1, p2, p3⟩ := prs_mem.mp hp
  unfold pq pt
  rw [Bool.not_eq_true', List.any_eq_false]
  intro k hk z
  have c1 : ax (LK F s 0 a) p.1 ∈ LK F s 0 a := by rw [ax_get p1]; exact List.getElem_mem p1
  have c2 : ax (LK F s 0 a) p.2 ∈ LK F s 0 a := by rw [ax_get p3]; exact List.getElem_mem p3
  rw [pt_eq h (hs k hk) ((lk_time hne c1 hk).trans (lk_time hne c2 hk).symm)] at z
  cases z
theorem prs_one {n : Nat} (hn : 1 ≤ n) : decide ((prs n n).length = 0) = decide (n = 1) := by
  rw [Bool.eq_iff_iff, decide_eq_true_eq, decide_eq_true_eq]
  constructor
  · intro z
    by_cases q : n = 1
    · exact q
    · have : ((0, 1) : Pn) ∈ prs n n := prs_mem.mpr ⟨by show 0 < n; omega, by show 0 < 1; omega, by show 1 < n; omega⟩
      rw [List.length_eq_zero_iff.mp z] at this; simp at this
  · rintro rfl; rfl
structure Ch (F : Fd) (s : List Nat) : Prop where
  ne : s ≠ []
  i : ∀ i, i ∈ s → i < F.st.length
  n : s.length ≤ 6
theorem cin_ev (h : Shp F) (hc : Ch F s) (ha : PIn F a.1) {kd : Nat} (hk : kd < 2) (LKD : D) (x6 x7 x8 x9 x10 x11 x12 : Option D) {c : Sh} (hm : c ∈ LK F s kd a) (M : Mem) : ∃ y9 : Option D, sStep (tT 2 (tsC (tN 7) (tsC (tN 8) (tsN)))) crb0x (sh c) [some (fdD F), some (nD s), some (sh a), some (.int kd), some (.tup ((ER F s kd a).map rD)), some LKD, x6, x7, x8, x9, x10, x11, x12] M = some (.nx [some (fdD F), some (nD s), some (sh a), some (.int kd), some (.tup ((ER F s kd a).map rD)), some LKD, x6, some (pD c.1), some (.int c.2), y9, x10, x11, x12], M) := by
  obtain ⟨c1, c2, c3⟩ := lk_in hm
  have hne : ER F s kd a ≠ [] := by unfold ER; simpa using hc.ne
  have t := times_ev h.o (er_ok (a := a) hc.i hk) hne c1
  rw [er_tA h hc.ne hc.i kd a c2, ← c3] at t
  have s1 := cpS2 (d := .tup [.int c.2, .int c.2]) rfl
  have ep : pD (c.2, c.2) = .tup [.int c.2, .int c.2] := rfl
  rw [ep] at t
  have pe := parted_ev h.o (a := a) (b := c) ha c1
  have es : sh c = .tup [pD c.1, .int c.2] := rfl
  rw [es] at pe ⊢
  have it : isi (tyOf (nD (ptl F a c))) .tup = true := rfl
  have fs : ∀ (ρ : Rho) (M : Mem), ρ[9]? = some (some (nD (ptl F a c))) → fiSq (fVar 9) ρ M = some ((iN (ptl F a c), none), M) := fun ρ M h3 => by
    unfold fiSq
    rw [ev_var, h3]; rfl
  refine ⟨some (nD (ptl F a c)), ?_⟩
  obtain rfl | rfl : kd = 0 ∨ kd = 1 := by omega
  · have hlc : ∀ M, lcLoop (chk none (iN (ptl F a c))) (tN 10) (f2T (gInX) (fVar 10) (fVar 1)) (fVar 10) [some (fdD F), some (nD s), some (sh a), some (.int ((0 : Nat) : Int)), some (.tup ((ER F s 0 a).map rD)), some LKD, x6, some (pD c.1), some (.int c.2), some (nD (ptl F a c)), none, x11, x12] (iN (ptl F a c)) [] M = some ([], M) := fun M => by
      have := lc_gen (fun (k : Nat) => D.int (k : Int)) (fun _ => false) (fun (k : Nat) => D.int (k : Int)) (c := chk none (iN (ptl F a c))) (t := tN 10) (ft := (f2T (gInX) (fVar 10) (fVar 1))) (fe := fVar 10) (ρ := [some (fdD F), some (nD s), some (sh a), some (.int ((0 : Nat) : Int)), some (.tup ((ER F s 0 a).map rD)), some LKD, x6, some (pD c.1), some (.int c.2), some (nD (ptl F a c)), none, x11, x12]) (M := M) rfl (ptl F a c) [] (fun k hk2 => by
        have nk : k ∉ s := fun hks => by
          have hp := (List.mem_filter.mp hk2).2
          rw [pt_eq h (hc.i k hks) (lk_time hc.ne hm hks).symm] at hp
          cases hp
        have e : ∀ M, gInX (.int (k : Int)) (nD s) M = some false := fun M => by rw [in_nD, decide_eq_false nk]
        refine ⟨_, rfl, ?_, fun z => by cases z⟩
        generalize nD (ptl F a c) = PL at *
        generalize nD s = NS at *
        generalize (ER F s 0 a).map rD = RD at *
        generalize pD c.1 = Y at *
        generalize sh a = SA at *
        generalize fdD F = X at *
        simp [e])
      rw [List.nil_append, filt_ff] at this
      exact this
    generalize iN (ptl F a c) = IP at *
    generalize nD (ptl F a c) = PL at *
    generalize nD s = NS at *
    generalize (ER F s 0 a).map rD = RD at *
    generalize pD c.1 = Y at *
    generalize sh a = SA at *
    generalize fdD F = X at *
    simp at hlc
    simp [crb0x, qtimes_at, t, s1, qparted_by, pe, it, fs, wipeR, hlc]
  · generalize iN (ptl F a c) = IP at *
    generalize nD (ptl F a c) = PL at *
    generalize nD s = NS at *
    generalize (ER F s 1 a).map rD = RD at *
    generalize pD c.1 = Y at *
    generalize sh a = SA at *
    generalize fdD F = X at *
    simp [crb0x, qtimes_at, t, s1, qparted_by, pe]
end
end LP
namespace LP
open PySem PySem.Spec PyProof.Rows L2 PF
section
variable {F : Fd} {s : List Nat} {a : Sh}
theorem kind_ev (h : Shp F) (hc : Ch F s) (ha : PIn F a.1) {kd : Nat} (hk : kd < 2) (x3 x4 x5 x6 x7 x8 x9 x10 x11 x12 : Option D) (M : Mem) : ∃ y4 y5 y7 y8 y9 : Option D, sStep (tN 3) crb0 (.int (kd : Int)) [some (fdD F), some (nD s), some (sh a), x3, x4, x5, x6, x7, x8, x9, x10, x11, x12] M = some (.nx [some (fdD F), some (nD s), some (sh a), some (.int kd), y4, y5, x6, y7, y8, y9, x10, x11, x12], M) := by
  have hl := hc.n
  have c1 := exact_ev h.o (s := s) (by omega) hc.i hk ha
  have c2 := like_ev h.o hc.ne (by omega) hc.i hk ha
  have c3 := pp_ev h.o (er_ok (a := a) hc.i hk)
  rw [er_PP h hc.ne hc.i, ← lk_fst kd] at c3
  have hll := lk_len (s := s) (a := a) h kd
  have s1 := cpS2 (d := .tup ((LK F s kd a).map fun c => pD c.1)) (sok_map (fun (c : Sh) => pD c.1) (fun _ => rfl) (by omega))
  have hlen : ((LK F s kd a).map fun c => pD c.1).length ≤ LINE := by rw [List.length_map]; show _ ≤ 16777216; omega
  have hlc : ∀ M, lcLoop (chk none ((LK F s kd a).map sh)) (tN 6) fYes (f2 gIx (fVar 6) (fC (.int 0))) [some (fdD F), some (nD s), some (sh a), some (.int kd), some (.tup ((ER F s kd a).map rD)), some (.lst ((LK F s kd a).map sh)), none, x7, x8, x9, x10, x11, x12] ((LK F s kd a).map sh) [] M = some ((LK F s kd a).map fun c => pD c.1, M) := fun M => by
    rw [lc_all sh (fun c => pD c.1) rfl (LK F s kd a) [] (fun c _ => by
      have g := sh_0 c
      refine ⟨_, rfl, rfl, ?_⟩
      generalize pD c.1 = Y at *
      generalize sh c = SC at *
      generalize (LK F s kd a).map sh = LL at *
      generalize (ER F s kd a).map rD = RD at *
      generalize nD s = NS at *
      generalize sh a = SA at *
      generalize fdD F = X at *
      simp [g]), List.nil_append]
  have hloop := loop_map sh (c := chk none ((LK F s kd a).map sh)) (step := sStep (tT 2 (tsC (tN 7) (tsC (tN 8) (tsN)))) crb0x) (fun pre ρ N => ∃ y7 y8 y9 : Option D, ρ = [some (fdD F), some (nD s), some (sh a), some (.int kd), some (.tup ((ER F s kd a).map rD)), some (.lst ((LK F s kd a).map sh)), x6, y7, y8, y9, x10, x11, x12] ∧ N = M) (LK F s kd a) (ρ := [some (fdD F), some (nD s), some (sh a), some (.int kd), some (.tup ((ER F s kd a).map rD)), some (.lst ((LK F s kd a).map sh)), x6, x7, x8, x9, x10, x11, x12]) (M := M) (fun _ _ _ _ => rfl) (by
    rintro pre c suf ρ N hys ⟨y7, y8, y9, rfl, rfl⟩
    obtain ⟨z9, e⟩ := cin_ev h hc ha hk (.lst ((LK F s kd a).map sh)) x6 y7 y8 y9 x10 x11 x12 (c := c) (by rw [hys]; simp) N
    exact ⟨_, _, e, _, _, z9, rfl, rfl⟩) ⟨x7, x8, x9, rfl, rfl⟩
  obtain ⟨ρ', M', e, y7, y8, y9, rfl, rfl⟩ := hloop
  refine ⟨some (.tup ((ER F s kd a).map rD)), some (.lst ((LK F s kd a).map sh)), y7, y8, y9, ?_⟩
  rw [ev_step, ev_tN, Option.bind_some, crx_eq]
  generalize (LK F s kd a).map (fun c => pD c.1) = PL at *
  generalize (LK F s kd a).map sh = LL at *
  generalize (ER F s kd a).map rD = RD at *
  generalize nD s = NS at *
  generalize sh a = SA at *
  generalize fdD F = X at *
  simp [crx0, crx1, crx2, crx3_eq, q_law_exact, c1, q_law_like, c2, qpossible_places, c3, fiSq, wipeR, hlc, hlen, s1, e]
theorem cr0_ev (h : Shp F) (hc : Ch F s) (ha : PIn F a.1) (M : Mem) : ∃ y3 y4 y5 y7 y8 y9 : Option D, cr0 [some (fdD F), some (nD s), some (sh a), none, none, none, none, none, none, none, none, none, none] M = some (.nx [some (fdD F), some (nD s), some (sh a), y3, y4, y5, none, y7, y8, y9, none, none, none], M) := by
  have hloop := loop_map (fun (k : Nat) => D.int (k : Int)) (c := chk none [.int 0, .int 1]) (step := sStep (tN 3) crb0) (fun pre ρ N => ∃ y3 y4 y5 y7 y8 y9 : Option D, ρ = [some (fdD F), some (nD s), some (sh a), y3, y4, y5, none, y7, y8, y9, none, none, none] ∧ N = M) [0, 1] (ρ := [some (fdD F), some (nD s), some (sh a), none, none, none, none, none, none, none, none, none, none]) (M := M) (fun _ _ _ _ => rfl) (by
    rintro pre k suf ρ N hys ⟨y3, y4, y5, y7, y8, y9, rfl, rfl⟩
    have hk : k < 2 := by
      have : k ∈ [0, 1] := by rw [hys]; simp
      simp at this; omega
    obtain ⟨z4, z5, z7, z8, z9, e⟩ := kind_ev h hc ha hk y3 y4 y5 none y7 y8 y9 none none none N
    exact ⟨_, _, e, _, z4, z5, z7, z8, z9, rfl, rfl⟩) ⟨none, none, none, none, none, none, rfl, rfl⟩
  obtain ⟨ρ', M', e, y3, y4, y5, y7, y8, y9, rfl, rfl⟩ := hloop
  refine ⟨y3, y4, y5, y7, y8, y9, ?_⟩
  have em : [0, 1].map (fun (k : Nat) => D.int (k : Int)) = [.int 0, .int 1] := rfl
  rw [em] at e
  rw [cr0_eq]
  generalize nD s = NS at *
  generalize sh a = SA at *
  generalize fdD F = X at *
  simp [fiSq, e]
theorem choice_ev (h : Shp F) (hc : Ch F s) (ha : PIn F a.1) (M : Mem) : callP c_law_is_choice_right [fdD F, nD s, sh a] M = some (.bl true, M) := by
  have hl := hc.n
  have c2 := like_ev h.o hc.ne (by omega) hc.i (kd := 0) (by decide) ha
  have hll := lk_len (s := s) (a := a) h 0
  have hne := lk_a h hc.ne ha 0
  have hlk : ASh F (LK F s 0 a) := ⟨fun c hc => (lk_in hc).1, by omega⟩
  have c3 := pall_ev h.o hlk hc.i
  have c4 := notp_ev h.o hlk hc.i
  have eNP := lk_np (a := a) h hc.ne hc.i
  rw [eNP] at c4
  have eP : PA F s (LK F s 0 a) = decide ((LK F s 0 a).length = 1) := by
    unfold PA
    rw [eNP]
    exact prs_one (List.length_pos_iff.mpr hne)
  rw [eP] at c3
  obtain ⟨n, hn⟩ : ∃ n, (LK F s 0 a).length = n := ⟨_, rfl⟩
  rw [hn] at c3 c4 hll
  have hL : ((LK F s 0 a).map sh).length = n := by rw [List.length_map]; exact hn
  have hlen : ((LK F s 0 a).map sh).length ≤ LINE := by rw [hL]; show _ ≤ 16777216; omega
  have s1 := cpS2 (d := .bl (decide (n = 1))) rfl
  have pl := prs_len n n
  have pl2 : n * n ≤ 25 * 25 := Nat.mul_le_mul hll hll
  have s2 := cpS2 (d := .tup ((prs n n).map pN)) (sok_map pN (fun _ => rfl) (by omega))
  have hlen2 : ((prs n n).map pN).length ≤ LINE := by rw [List.length_map]; show _ ≤ 16777216; omega
  obtain ⟨y3, y4, y5, y7, y8, y9, e0⟩ := cr0_ev h hc ha []
  have hloop := loop_map (fun (k : Nat) => D.int (0 + k)) (c := chk none (rgD 0 n)) (step := sStep (tN 6) crb4) (fun pre ρ N => ∃ y6 : Option D, ρ = [some (fdD F), some (nD s), some (sh a), y3, y4, some (.lst ((LK F s 0 a).map sh)), y6, y7, y8, y9, none, some (.lst ((prs n pre.length).map pN)), none] ∧ N = []) (List.range n) (ρ := [some (fdD F), some (nD s), some (sh a), y3, y4, some (.lst ((LK F s 0 a).map sh)), none, y7, y8, y9, none, some (.lst []), none]) (M := []) (fun _ _ _ _ => rfl) (by
    rintro pre i suf ρ N hys ⟨y6, rfl, rfl⟩
    obtain ⟨hi, hpre⟩ := rg_pre hys
    have hpl : pre.length = i := by rw [hpre]; simp
    have hpl2 : (pre ++ [i]).length = i + 1 := by simp [hpl]
    rw [hpl, hpl2, prs_succ, List.map_append (f := pN)]
    have z : (0 : Int) + (i : Int) = i := by omega
    rw [z]
    have rg := rgI (i := i) (n := n) (by omega) (by omega)
    have hlc : ∀ M, lcLoop (chk none ((inn n i).map fun p => D.int (p.2 : Int))) (tN 12) fYes (fTup (fCons (fVar 6) (fCons (fVar 12) (fNil)))) [some (fdD F), some (nD s), some (sh a), y3, y4, some (.lst ((LK F s 0 a).map sh)), some (.int i), y7, y8, y9, none, some (.lst ((prs n i).map pN)), none] ((inn n i).map fun p => D.int (p.2 : Int)) [] M = some ((inn n i).map pN, M) := fun M => by
      rw [lc_all (fun (p : Pn) => D.int (p.2 : Int)) pN rfl (inn n i) [] (fun p hp => by
        have p1 := (inn_mem.mp hp).1
        refine ⟨_, rfl, rfl, ?_⟩
        unfold pN
        rw [p1]
        generalize (prs n i).map (fun (p : Pn) => D.tup [.int p.1, .int p.2]) = PL at *
        generalize (LK F s 0 a).map sh = LL at *
        generalize nD s = NS at *
        generalize sh a = SA at *
        generalize fdD F = X at *
        simp), List.nil_append]
    have ad : ∀ M, gAdd (.lst ((prs n i).map pN)) (.lst ((inn n i).map pN)) M = some (.lst ((prs n i).map pN ++ (inn n i).map pN)) := fun M => addLst _ _ M (by
      have q1 := prs_len n i
      have q2 := inn_len n i
      have q3 : i * n ≤ 25 * 25 := Nat.mul_le_mul (by omega) hll
      rw [List.length_map, List.length_map]; omega)
    refine ⟨_, _, ?_, some (.int i), rfl, rfl⟩
    generalize (prs n i).map pN ++ (inn n i).map pN = PR at *
    generalize (prs n i).map pN = P1 at *
    generalize (inn n i).map pN = P2_ at *
    generalize (inn n i).map (fun p => D.int (p.2 : Int)) = IL at *
    generalize (LK F s 0 a).map sh = LL at *
    generalize nD s = NS at *
    generalize sh a = SA at *
    generalize fdD F = X at *
    simp [crb4, hL, rg, wipeR, hlc, ad]) ⟨none, rfl, rfl⟩
  obtain ⟨ρ', M', e4, y6, rfl, rfl⟩ := hloop
  rw [← rgD_map, List.length_range] at e4
  have rg := rg0L (n := n) (by omega)
  have e15 : sSeq cr1 (sSeq cr2 (sSeq cr3 (sSeq cr4 cr5))) [some (fdD F), some (nD s), some (sh a), y3, y4, y5, none, y7, y8, y9, none, none, none] [] = some (.ret (.bl true), []) := by
    have c2' := c2
    rw [show (((0 : Nat) : Int)) = 0 from rfl] at c2'
    have ez : decide ((n : Int) = 1) = decide (n = 1) := by
      rw [Bool.eq_iff_iff, decide_eq_true_eq, decide_eq_true_eq]; omega
    rw [ev_seq]
    clear c2 e0
    generalize (prs n n).map pN = PR at *
    generalize (LK F s 0 a).map sh = LL at *
    generalize nD s = NS at *
    generalize sh a = SA at *
    generalize fdD F = X at *
    simp [cr1, cr2, cr3, cr4_eq, cr5, q_law_like, c2', hL, hlen, qparts_all, c3, ez, s1, rg, e4, qnot_parted, c4, hlen2, s2]
  have main : b_law_is_choice_right [some (fdD F), some (nD s), some (sh a), none, none, none, none, none, none, none, none, none, none] [] = some (.ret (.bl true), []) := by
    rw [cr_eq, seq_step e0]
    exact e15
  exact cpl (by simp [pls, fd_nr, nD_nr, sh_n]; first | rfl | exact ⟨rfl, rfl⟩) (run_ret main rfl rfl) M
end
end LP
namespace LP
open PySem PySem.Spec PyProof.Rows L2 PF
def mo0 : FS := (sSet 4 (fCall qpossible_places (fCons (fVar 0) (fCons (fCall q_law_exact (fCons (fVar 0) (fCons (fVar 1) (fCons (fC (.int 0)) (fCons (fVar 3) (fNil)))))) (fNil)))))
def mo1 : FS := (sSet 5 (fCall qpossible_places (fCons (fVar 0) (fCons (fCall q_law_exact (fCons (fVar 0) (fCons (fB gTuple (fCons (fFz (fBN gSortU (fCons (f2 gAdd (fVar 1) (fTup (fCons (fVar 2) (fNil)))) (fNil)))) (fNil))) (fCons (fC (.int 0)) (fCons (fVar 3) (fNil)))))) (fNil)))))
def mo2 : FS := (sIf (fOr (fNot (fTru (fIsi .tup (fVar 4)))) (fOr (fNot (fTru (fIsi .tup (fVar 5)))) (f2T (gCmp fun i j => decide (j < i)) (fB gLen (fCons (fFz (fLC [6] (fiSq (fVar 5)) (tN 6) (f2T (gNotInX) (fVar 6) (fVar 4)) (fVar 6))) (fNil))) (fC (.int 0)))))
      (sRet (fC (.bl false)))
      (sNext))
def mo3 : FS := (sSet 7 (fSlice (f2 gIx (f2 gIx (fVar 0) (fC (.int 2))) (fVar 2)) (fNoPart) (fPart (fC (.int 2)))))
def mo4 : FS := (sSet 8 (f2 gAdd (fCall q_law_exact (fCons (fVar 0) (fCons (fTup (fCons (fVar 2) (fNil))) (fCons (fC (.int 0)) (fCons (fVar 3) (fNil)))))) (fCall q_law_exact (fCons (fVar 0) (fCons (fTup (fCons (fVar 2) (fNil))) (fCons (fC (.int 1)) (fCons (fVar 3) (fNil))))))))
def mo5 : FS := (sSet 9 (fB gTuple (fCons (fFz (fLC [6] (fiSq (fCall q_law_places (fCons (fVar 0) (fNil)))) (tN 6) (f2T (gEq) (fCall q_law_far (fCons (fVar 7) (fCons (fVar 6) (fNil)))) (fCall q_law_far (fCons (fVar 7) (fCons (f2 gIx (fVar 3) (fC (.int 0))) (fNil))))) (fVar 6))) (fNil))))
def mo6 : FS := (sIf (fNot (fTru (fCall q_law_same (fCons (fCall qpossible_places (fCons (fVar 0) (fCons (fVar 8) (fNil)))) (fCons (fVar 9) (fNil))))))
      (sRet (fC (.bl false)))
      (sNext))
def mo7 : FS := (sIf (fNot (fTru (fCall q_law_same (fCons (fCall qpossible_places (fCons (fVar 0) (fCons (fSlice (fVar 8) (fNoPart) (fPart (fC (.int 1)))) (fNil)))) (fCons (fB gTuple (fCons (fCall q_law_places (fCons (fVar 0) (fNil))) (fNil))) (fNil))))))
      (sRet (fC (.bl false)))
      (sNext))
def mo8 : FS := (sSet 10 (f2 gAdd (fSlice (fVar 8) (fNoPart) (fPart (fC (.int 1)))) (fTup (fCons (fTup (fCons (fVar 2) (fCons (fC (.int 1)) (fCons (f2 gAdd (f2 gAdd (f2 gIx (f2 gIx (fVar 8) (fC (.int 1))) (fC (.int 2))) (fC (.int 1))) (f2 gMul (f2 gIx (f2 gIx (f2 gIx (fVar 0) (fC (.int 3))) (fC (.int 1))) (fC (.int 0))) (f2 gAdd (f2 gIx (fVar 0) (fC (.int 0))) (f2 gIx (fVar 0) (fC (.int 1)))))) (fNil))))) (fNil)))))
def mo9 : FS := (sRet (fCall q_law_same (fCons (fCall qis_possible (fCons (fVar 0) (fCons (fVar 10) (fNil)))) (fCons (fC (.bl false)) (fNil)))))
theorem mo_eq : b_law_is_more_right = sSeq mo0 (sSeq mo1 (sSeq mo2 (sSeq mo3 (sSeq mo4 (sSeq mo5 (sSeq mo6 (sSeq mo7 (sSeq mo8 (mo9))))))))) := rfl
theorem dps_pD (n : Nat) (h : 0 < n) : ∀ ps : List P2, D.dps n (ps.map pD) = true
  | [] => rfl
  | p :: ps => by
    show (D.dp n (pD p) && D.dps n (ps.map pD)) = true
    rw [dps_pD n h ps]
    simp [pD, D.dp, D.dps, h]
theorem eqv_pD (p q : P2) : PyData.eqv (pD p).py (pD q).py = decide (p = q) := by
  obtain ⟨a, b⟩ := p
  obtain ⟨c, d⟩ := q
  have e : PyData.eqv (pD (a, b)).py (pD (c, d)).py = (decide (a = c) && decide (b = d)) := by
    by_cases h1 : a = c <;> by_cases h2 : b = d <;> simp [pD, D.py, D.pys, PyData.eqv, PyData.eqvAll, h1, h2]
  rw [e]
  by_cases h1 : a = c <;> by_cases h2 : b = d <;> simp [h1, h2]
theorem nin_tP (p : P2) (ps : List P2) (M : Mem) : gNotInX (pD p) (.tup (ps.map pD)) M = some (!decide (p ∈ ps)) := by
  have e : gInX (pD p) (.tup (ps.map pD)) M = if ((pD p).dp 60 && (D.tup (ps.map pD)).dp 60) = true then some ((ps.map pD).any fun z => PyData.eqv z.py (pD p).py) else none := rfl
  have d1 : (pD p).dp 60 = true := rfl
  have d2 : (D.tup (ps.map pD)).dp 60 = true := by
    rw [D.dp, dps_pD 59 (by decide)]; rfl
  have e2 : gInX (pD p) (.tup (ps.map pD)) M = some (decide (p ∈ ps)) := by
    rw [e, d1, d2, Bool.and_self, if_pos rfl, List.any_map]
    congr 1
    rw [Bool.eq_iff_iff]
    simp only [List.any_eq_true, Function.comp_apply, eqv_pD, decide_eq_true_eq]
    constructor
    · rintro ⟨q, hq, rfl⟩; exact hq
    · intro z; exact ⟨p, z, rfl⟩
  unfold gNotInX
  rw [e2]; rfl
theorem su_t (s : List Nat) (m : Nat) (hs : s.length ≤ 20) : ∃ t : List Nat, (∀ i, i ∈ t ↔ i ∈ s ∨ i = m) ∧ t.length ≤ 21 ∧ ∀ M, gSortU [nD (s ++ [m])] M = some (iN t) := by
  obtain ⟨ns, hns⟩ : ∃ ns : List Int, ns = (s ++ [m]).map fun (i : Nat) => (i : Int) := ⟨_, rfl⟩
  have hmem : ∀ k : Int, k ∈ sortU ns ↔ ∃ i : Nat, (i ∈ s ∨ i = m) ∧ (i : Int) = k := fun k => by
    rw [sortU_mem, hns, List.mem_map]
    constructor
    · rintro ⟨i, hi, e⟩
      exact ⟨i, by simpa using hi, e⟩
    · rintro ⟨i, hi, e⟩
      exact ⟨i, by simpa using hi, e⟩
  refine ⟨(sortU ns).map Int.toNat, fun i => ?_, ?_, fun M => ?_⟩
  · rw [List.mem_map]
    constructor
    · rintro ⟨k, hk, e⟩
      obtain ⟨j, hj, e2⟩ := (hmem k).mp hk
      have : i = j := by omega
      rw [this]; exact hj
    · intro hi
      exact ⟨(i : Int), (hmem _).mpr ⟨i, hi, rfl⟩, by omega⟩
  · rw [List.length_map]
    have := sortU_len ns
    rw [hns, List.length_map, List.length_append, List.length_singleton] at this
    rw [hns]; omega
  · have e : iN ((sortU ns).map Int.toNat) = (sortU ns).map D.int := by
      unfold iN
      rw [List.map_map]
      apply List.map_congr_left
      intro k hk
      obtain ⟨j, _, e2⟩ := (hmem k).mp hk
      show D.int ((k.toNat : Nat) : Int) = _
      congr 1
      omega
    show (intsOf (iN (s ++ [m]))).bind _ = _
    rw [iN_iL, intsOf_iL, Option.bind_some, ← hns, if_pos (by rw [hns, List.length_map, List.length_append, List.length_singleton]; omega), e]
section
variable {F : Fd} {s : List Nat} {a : Sh}
theorem al_sub {t : List Nat} (hs : s ≠ []) (ht : t ≠ []) (h : ∀ i, i ∈ s → i ∈ t) {p : P2} (e : al F t a p = true) : al F s a p = true := by
  rw [alike_iff ht] at e
  rw [alike_iff hs]
  have key : ∀ x, x ∈ aps F s a p → x = mx (aps F t a p) := fun x hx => by
    obtain ⟨k, hk, rfl⟩ := List.mem_map.mp hx
    exact e _ (List.mem_map.mpr ⟨k, h k hk, rfl⟩)
  intro x hx
  rw [key x hx, key _ (mx_mem (aps_ne hs a p))]
theorem pos2 (h : Shp F) {m : Nat} (hm : m < F.st.length) (u v : Int) (p : P2) : pos F [(m, 0, u), (m, 1, v)] p = decide (u - wl F 0 * fa_ F m p = v - wl F 1 * fa_ F m p) := by
  unfold pos los his
  rw [List.isEmpty_cons, Bool.false_or, List.map_cons, List.map_cons, List.map_nil, List.map_cons, List.map_cons, List.map_nil, shp_sp h hm, shp_sp h hm, Bool.eq_iff_iff, decide_eq_true_eq, decide_eq_true_eq]
  show maxI _ [_] ≤ minI _ [_] ↔ _
  simp only [maxI, minI, List.foldl_cons, List.foldl_nil]
  split <;> split <;> omega
theorem pos1 (h : Shp F) {m : Nat} (hm : m < F.st.length) (u : Int) (p : P2) : pos F [(m, 0, u)] p = true := by
  unfold pos los his
  rw [List.isEmpty_cons, Bool.false_or, List.map_cons, List.map_nil, List.map_cons, List.map_nil, shp_sp h hm, decide_eq_true_eq]
  show maxI _ [] ≤ minI _ []
  exact Int.le_refl _
theorem isp2_ev (h : FOk F) {rs : List Rd} (hr : ∀ r, r ∈ rs → RdOk F r) (M : Mem) : callP cis_possible [fdD F, .tup (rs.map rD)] M = some (.bl (decide (0 < (PP F rs).length)), M) := by
  have e := pp_ev h hr
  have hl : ((PP F rs).map pD).length = (PP F rs).length := List.length_map _
  refine cpl (by simp [pls, fd_nr, D.nr, rs_nr]) ?_ M
  generalize (PP F rs).length = n at *
  generalize (PP F rs).map pD = P at *
  generalize rs.map rD = RL at *
  generalize fdD F = X at *
  simp [cis_possible, bis_possible, runFn, startR, qpossible_places, e, hl, fin, Mem.nr, D.nr]
theorem more_ev (h : Shp F) (hc : Ch F s) {m : Nat} (hm : m < F.st.length) (ha : PIn F a.1) (M : Mem) : callP c_law_is_more_right [fdD F, nD s, .int m, sh a] M = some (.bl true, M) := by
  have hl := hc.n
  obtain ⟨t, tm, tl, ts⟩ := su_t s m (by omega)
  have ht0 : t ≠ [] := fun z => by have := (tm m).mpr (.inr rfl); rw [z] at this; simp at this
  have hti : ∀ i, i ∈ t → i < F.st.length := fun i hi => by
    rcases (tm i).mp hi with q | q
    · exact hc.i i q
    · rw [q]; exact hm
  have hm1 : ∀ i, i ∈ [m] → i < F.st.length := fun i hi => by rw [List.mem_singleton.mp hi]; exact hm
  have x1 : ∀ M, callP c_law_exact [fdD F, nD s, .int 0, sh a] M = some (.tup ((ER F s 0 a).map rD), M) := exact_ev h.o (kd := 0) (by omega) hc.i (by decide) ha
  have x2 : ∀ M, callP c_law_exact [fdD F, nD t, .int 0, sh a] M = some (.tup ((ER F t 0 a).map rD), M) := exact_ev h.o (kd := 0) (by omega) hti (by decide) ha
  have x3 : ∀ M, callP c_law_exact [fdD F, nD [m], .int 0, sh a] M = some (.tup ((ER F [m] 0 a).map rD), M) := exact_ev h.o (kd := 0) (by simp) hm1 (by decide) ha
  have x4 : ∀ M, callP c_law_exact [fdD F, nD [m], .int 1, sh a] M = some (.tup ((ER F [m] 1 a).map rD), M) := exact_ev h.o (kd := 1) (by simp) hm1 (by decide) ha
  have p1 := pp_ev h.o (er_ok (F := F) (a := a) hc.i (kd := 0) (by decide))
  have p2 := pp_ev h.o (er_ok (F := F) (a := a) hti (kd := 0) (by decide))
  rw [er_PP h hc.ne hc.i] at p1
  rw [er_PP h ht0 hti] at p2
  have ad1 : ∀ M, gAdd (nD s) (.tup [.int (m : Int)]) M = some (nD (s ++ [m])) := fun M => by
    have e := addTup (iN s) [.int (m : Int)] M (by rw [iN_len]; simp; omega)
    rw [show nD (s ++ [m]) = .tup (iN s ++ [.int (m : Int)]) by unfold nD; rw [iN_app]; rfl]
    exact e
  have htl : (iN t).length ≤ LINE := by rw [iN_len]; show _ ≤ 16777216; omega
  have it : ∀ xs : List D, isi (tyOf (.tup xs)) .tup = true := fun _ => rfl
  -- the first half
  have hlc1 : ∀ M, lcLoop (chk none (((AP F.w F.h).filter (al F t a)).map pD)) (tN 6) (f2T (gNotInX) (fVar 6) (fVar 4)) (fVar 6) [some (fdD F), some (nD s), some (.int m), some (sh a), some (.tup (((AP F.w F.h).filter (al F s a)).map pD)), some (.tup (((AP F.w F.h).filter (al F t a)).map pD)), none, none, none, none, none] (((AP F.w F.h).filter (al F t a)).map pD) [] M = some ([], M) := fun M => by
    have := lc_gen pD (fun _ => false) pD (c := chk none (((AP F.w F.h).filter (al F t a)).map pD)) (t := tN 6) (ft := (f2T (gNotInX) (fVar 6) (fVar 4))) (fe := fVar 6) (ρ := [some (fdD F), some (nD s), some (.int m), some (sh a), some (.tup (((AP F.w F.h).filter (al F s a)).map pD)), some (.tup (((AP F.w F.h).filter (al F t a)).map pD)), none, none, none, none, none]) (M := M) rfl ((AP F.w F.h).filter (al F t a)) [] (fun p hp => by
      obtain ⟨q1, q2⟩ := List.mem_filter.mp hp
      have hin : p ∈ (AP F.w F.h).filter (al F s a) := List.mem_filter.mpr ⟨q1, al_sub hc.ne ht0 (fun i hi => (tm i).mpr (.inl hi)) q2⟩
      have e : ∀ M, gNotInX (pD p) (.tup (((AP F.w F.h).filter (al F s a)).map pD)) M = some false := fun M => by
        rw [nin_tP, decide_eq_true hin]; rfl
      refine ⟨_, rfl, ?_, fun z => by cases z⟩
      generalize ((AP F.w F.h).filter (al F s a)).map pD = P1 at *
      generalize ((AP F.w F.h).filter (al F t a)).map pD = P2_ at *
      generalize nD s = NS at *
      generalize sh a = SA at *
      generalize pD p = Y at *
      generalize fdD F = X at *
      simp [e])
    rw [List.nil_append, filt_ff] at this
    exact this
  have e02 : ∀ M, sSeq mo0 (sSeq mo1 mo2) [some (fdD F), some (nD s), some (.int m), some (sh a), none, none, none, none, none, none, none] M = some (.nx [some (fdD F), some (nD s), some (.int m), some (sh a), some (.tup (((AP F.w F.h).filter (al F s a)).map pD)), some (.tup (((AP F.w F.h).filter (al F t a)).map pD)), none, none, none, none, none], M) := fun M => by
    rw [ev_seq]
    have ent : nD t = .tup (iN t) := rfl
    rw [ent] at x2
    generalize ((AP F.w F.h).filter (al F s a)).map pD = P1 at *
    generalize ((AP F.w F.h).filter (al F t a)).map pD = P2_ at *
    generalize (ER F s 0 a).map rD = R1 at *
    generalize (ER F t 0 a).map rD = R2 at *
    generalize iN t = IT at *
    generalize nD (s ++ [m]) = NSM at *
    generalize nD s = NS at *
    generalize sh a = SA at *
    generalize fdD F = X at *
    simp [mo0, mo1, mo2, q_law_exact, x1, qpossible_places, p1, ad1, ts, htl, x2, p2, it, fiSq, wipeR, hlc1]
  -- the second half
  have g0 := fd_0 F; have g1 := fd_1 F; have g2 := fd_2 F; have g3 := fd_3 F
  have am := st_at hm (i := (m : Int)) rfl
  have gp := sD_cut (stx F m)
  have s0 := sh_0 a
  obtain ⟨u, hu⟩ : ∃ u : Int, a.2 + wl F 0 * fa_ F m a.1 = u := ⟨_, rfl⟩
  obtain ⟨v, hv⟩ : ∃ v : Int, a.2 + wl F 1 * fa_ F m a.1 = v := ⟨_, rfl⟩
  have eR0 : (ER F [m] 0 a).map rD = [rD (m, 0, u)] := by rw [← hu]; rfl
  have eR1 : (ER F [m] 1 a).map rD = [rD (m, 1, v)] := by rw [← hv]; rfl
  rw [eR0] at x3
  rw [eR1] at x4
  have ad2 : ∀ M, gAdd (.tup [rD (m, 0, u)]) (.tup [rD (m, 1, v)]) M = some (.tup [rD (m, 0, u), rD (m, 1, v)]) := fun M => addTup _ _ M (by simp)
  have ok : ∀ w : Int, ∀ r, r ∈ [((m, 0, u) : Rd), (m, 1, w)] → RdOk F r := fun w r hr => by
    simp only [List.mem_cons, List.not_mem_nil, or_false] at hr
    rcases hr with rfl | rfl
    · exact ⟨hm, by show 0 < 2; decide⟩
    · exact ⟨hm, by show 1 < 2; decide⟩
  have ok1 : ∀ r, r ∈ [((m, 0, u) : Rd)] → RdOk F r := fun r hr => by
    rw [List.mem_singleton.mp hr]; exact ⟨hm, by show 0 < 2; decide⟩
  have b1 := (wv_le h.o 0).1
  have ed : wl F 1 = 2 * wl F 0 := h.d
  have pb := pp_ev h.o (ok v)
  have ePb : PP F [((m, 0, u) : Rd), (m, 1, v)] = (AP F.w F.h).filter fun p => decide (fa_ F m p = fa_ F m a.1) := by
    unfold PP
    apply List.filter_congr
    intro p _
    rw [pos2 h hm, Bool.eq_iff_iff, decide_eq_true_eq, decide_eq_true_eq, ← hu, ← hv, ed, Int.mul_assoc, Int.mul_assoc]
    constructor
    · intro z
      have z2 : wl F 0 * (fa_ F m a.1 - fa_ F m p) = 0 := by rw [Int.mul_sub]; omega
      rcases Int.mul_eq_zero.mp z2 with q | q
      · omega
      · omega
    · intro z; rw [z]; omega
  rw [ePb] at pb
  have po := pp_ev h.o ok1
  have ePo : PP F [((m, 0, u) : Rd)] = AP F.w F.h := by
    unfold PP
    rw [List.filter_eq_self]
    intro p _
    exact pos1 h hm u p
  rw [ePo] at po
  have pl := places_ev h.o
  have hap := ap_len5 h.w h.h
  have sA := cpS2 (d := .tup ((AP F.w F.h).map pD)) (sok_map pD (fun _ => rfl) (by omega))
  have hlf : ((AP F.w F.h).filter fun p => decide (fa_ F m p = fa_ F m a.1)).length ≤ 25 := Nat.le_trans (List.length_filter_le _ _) hap
  have sB := cpS2 (d := .tup (((AP F.w F.h).filter fun p => decide (fa_ F m p = fa_ F m a.1)).map pD)) (sok_map pD (fun _ => rfl) (by omega))
  have lA : ((AP F.w F.h).map pD).length ≤ LINE := by rw [List.length_map]; show _ ≤ 16777216; omega
  have lB : (((AP F.w F.h).filter fun p => decide (fa_ F m p = fa_ F m a.1)).map pD).length ≤ LINE := by rw [List.length_map]; show _ ≤ 16777216; omega
  -- the one that is off
  obtain ⟨w, hw⟩ : ∃ w : Int, v + 1 + F.l1 * (F.w + F.h) = w := ⟨_, rfl⟩
  have io := isp2_ev h.o (ok w)
  have ePz : PP F [((m, 0, u) : Rd), (m, 1, w)] = [] := by
    unfold PP
    rw [List.filter_eq_nil_iff]
    intro p hp z
    have hpI := ap_mem.mp hp
    rw [pos2 h hm, decide_eq_true_eq, ← hw, ← hu, ← hv, ed, show F.l1 = 2 * wl F 0 from h.d, Int.mul_assoc, Int.mul_assoc, Int.mul_assoc] at z
    have f0 := far2_ge (sxy (stx F m)) a.1
    have fp : fa_ F m p ≤ F.w + F.h := by
      have st := (st_in h.o hm).1
      have c1 := st.1; have c2 := st.2; have c3 := hpI.1; have c4 := hpI.2
      unfold fa_ far2; omega
    have q1 := Int.mul_le_mul_of_nonneg_left fp (show 0 ≤ wl F 0 by omega)
    have q2 := Int.mul_nonneg (show 0 ≤ wl F 0 by omega) (show 0 ≤ fa_ F m a.1 from f0)
    have q3 : 0 ≤ wl F 0 * (F.w + F.h) := Int.mul_nonneg (by omega) (by have := h.o.w1; have := h.o.h1'; omega)
    generalize wl F 0 * (F.w + F.h) = A at *
    generalize wl F 0 * fa_ F m a.1 = B at *
    generalize wl F 0 * fa_ F m p = C at *
    omega
  rw [ePz] at io
  have io' : ∀ M, callP cis_possible [fdD F, .tup [rD (m, 0, u), rD (m, 1, w)]] M = some (.bl false, M) := io
  have sF := cpS2 (d := .bl false) rfl
  have pb' : ∀ M, callP cpossible_places [fdD F, .tup [rD (m, 0, u), rD (m, 1, v)]] M = some (.tup (((AP F.w F.h).filter fun p => decide (fa_ F m p = fa_ F m a.1)).map pD), M) := pb
  have po' : ∀ M, callP cpossible_places [fdD F, .tup [rD (m, 0, u)]] M = some (.tup ((AP F.w F.h).map pD), M) := po
  have sl : ∀ M, gSlice (.tup [rD (m, 0, u), rD (m, 1, v)]) none (some 1) M = some (.tup [rD (m, 0, u)]) := fun M => rfl
  have hlc2 : ∀ M, lcLoop (chk none ((AP F.w F.h).map pD)) (tN 6) (f2T (gEq) (fCall q_law_far (fCons (fVar 7) (fCons (fVar 6) (fNil)))) (fCall q_law_far (fCons (fVar 7) (fCons (f2 gIx (fVar 3) (fC (.int 0))) (fNil))))) (fVar 6) [some (fdD F), some (nD s), some (.int m), some (sh a), some (.tup (((AP F.w F.h).filter (al F s a)).map pD)), some (.tup (((AP F.w F.h).filter (al F t a)).map pD)), none, some (pD (sxy (stx F m))), some (.tup [rD (m, 0, u), rD (m, 1, v)]), none, none] ((AP F.w F.h).map pD) [] M = some (((AP F.w F.h).filter fun p => decide (fa_ F m p = fa_ F m a.1)).map pD, M) := fun M => by
    have := lc_gen pD (fun p => decide (fa_ F m p = fa_ F m a.1)) pD (c := chk none ((AP F.w F.h).map pD)) (t := tN 6) (ft := (f2T (gEq) (fCall q_law_far (fCons (fVar 7) (fCons (fVar 6) (fNil)))) (fCall q_law_far (fCons (fVar 7) (fCons (f2 gIx (fVar 3) (fC (.int 0))) (fNil)))))) (fe := fVar 6) (ρ := [some (fdD F), some (nD s), some (.int m), some (sh a), some (.tup (((AP F.w F.h).filter (al F s a)).map pD)), some (.tup (((AP F.w F.h).filter (al F t a)).map pD)), none, some (pD (sxy (stx F m))), some (.tup [rD (m, 0, u), rD (m, 1, v)]), none, none]) (M := M) rfl (AP F.w F.h) [] (fun p hp => by
      have e1 := lfarf_ev (sxy (stx F m)) p
      have e2 := lfarf_ev (sxy (stx F m)) a.1
      refine ⟨_, rfl, ?_, fun _ => rfl⟩
      unfold fa_
      generalize far2 (sxy (stx F m)) p = f1 at *
      generalize far2 (sxy (stx F m)) a.1 = f2' at *
      generalize ((AP F.w F.h).filter (al F s a)).map pD = P1 at *
      generalize ((AP F.w F.h).filter (al F t a)).map pD = P2_ at *
      generalize rD (m, 0, u) = Q0 at *
      generalize rD (m, 1, v) = Q1 at *
      generalize pD (sxy (stx F m)) = HM at *
      generalize nD s = NS at *
      generalize pD a.1 = YA at *
      generalize sh a = SA at *
      generalize pD p = Y at *
      generalize fdD F = X at *
      simp [q_law_far, e1, s0, e2])
    rw [List.nil_append] at this
    exact this
  have r2 : ∀ M, gIx (rD (m, 1, v)) (.int 2) M = some (.int v) := fun M => by
    show gIx (sD ((m : Int), ((1 : Nat) : Int), v)) _ M = _
    exact sD_2 _ M
  have W1 := pD_0 (F.l1, F.h1)
  have om : okMul F.l1 (F.w + F.h) = true := okMul_r (by have := h.o.w1; have := h.o.h1'; have := h.w; have := h.h; omega)
  have eoff : rD (m, 1, w) = .tup [.int (m : Int), .int 1, .int w] := rfl
  have ad3 : ∀ M, gAdd (.tup [rD (m, 0, u)]) (.tup [.tup [.int (m : Int), .int 1, .int w]]) M = some (.tup [rD (m, 0, u), rD (m, 1, w)]) := fun M => by
    rw [addTup _ _ M (by simp)]; rfl
  have en1 : nD [m] = .tup [.int (m : Int)] := rfl
  rw [en1] at x3 x4
  have e39 : ∀ M, sSeq mo3 (sSeq mo4 (sSeq mo5 (sSeq mo6 (sSeq mo7 (sSeq mo8 mo9))))) [some (fdD F), some (nD s), some (.int m), some (sh a), some (.tup (((AP F.w F.h).filter (al F s a)).map pD)), some (.tup (((AP F.w F.h).filter (al F t a)).map pD)), none, none, none, none, none] M = some (.ret (.bl true), M) := fun M => by
    rw [ev_seq]
    clear e02 hlc1 x1 x2 p1 p2 pb po io
    generalize ((AP F.w F.h).filter (al F s a)).map pD = P1 at *
    generalize ((AP F.w F.h).filter (al F t a)).map pD = P2_ at *
    generalize ((AP F.w F.h).filter fun p => decide (fa_ F m p = fa_ F m a.1)).map pD = DUE at *
    generalize (AP F.w F.h).map pD = AD at *
    generalize rD (m, 0, u) = Q0 at *
    generalize rD (m, 1, v) = Q1 at *
    generalize rD (m, 1, w) = Q2 at *
    generalize pD (sxy (stx F m)) = HM at *
    generalize sD (stx F m) = SM_ at *
    generalize F.st.map sD = LS at *
    generalize pD (F.l0, F.h0) = W0 at *
    generalize pD (F.l1, F.h1) = W1_ at *
    generalize nD s = NS at *
    generalize sh a = SA at *
    generalize fdD F = X at *
    simp [mo3, mo4, mo5, mo6, mo7, mo8, mo9, g0, g1, g2, g3, am, gp, q_law_exact, x3, x4, ad2, q_law_places, pl, fiSq, wipeR, hlc2, lB, qpossible_places, pb', sB, sl, po', lA, sA, r2, W1, om, hw, ad3, qis_possible, io', sF]
  have main : b_law_is_more_right [some (fdD F), some (nD s), some (.int m), some (sh a), none, none, none, none, none, none, none] [] = some (.ret (.bl true), []) := by
    have ea : sSeq (sSeq mo0 (sSeq mo1 mo2)) (sSeq mo3 (sSeq mo4 (sSeq mo5 (sSeq mo6 (sSeq mo7 (sSeq mo8 mo9)))))) = b_law_is_more_right := by
      rw [mo_eq]; simp only [seq_assoc]
    rw [← ea, seq_step (e02 _)]
    exact e39 _
  exact cpl (by simp [pls, fd_nr, nD_nr, D.nr, sh_n]; first | rfl | exact ⟨rfl, rfl⟩) (run_ret main rfl rfl) M
end
end LP
namespace LP
open PySem PySem.Spec PyProof.Rows L2 PF
def li0 : FS := (sSet 1 (f2 gIx (fVar 0) (fC (.int 0))))
def li1 : FS := (sIf (f2T (gCmp fun i j => decide (i < j)) (fVar 1) (fC (.int 2)))
      (sRet (fC (.bl true)))
      (sNext))
def li2 : FS := (sSet 2 (fTup (fCons (fVar 1) (fCons (fC (.int 1)) (fCons (fTup (fCons (fTup (fCons (fC (.int 0)) (fCons (fC (.int 0)) (fCons (fC (.int 0)) (fNil))))) (fCons (fTup (fCons (f2 gSub (fVar 1) (fC (.int 1))) (fCons (fC (.int 0)) (fCons (fC (.int 0)) (fNil))))) (fNil)))) (fCons (f2 gIx (fVar 0) (fC (.int 3))) (fNil)))))))
def li3 : FS := (sFor (fiRg1 (fCons (fVar 1) (fNil))) (tN 3)
      (sSeq (sSet 4 (fCall q_law_exact (fCons (fVar 2) (fCons (fTup (fCons (fC (.int 0)) (fCons (fC (.int 1)) (fNil)))) (fCons (fC (.int 0)) (fCons (fTup (fCons (fTup (fCons (fVar 3) (fCons (fC (.int 0)) (fNil)))) (fCons (fC (.int 7)) (fNil)))) (fNil)))))))
      (sIf (fOr (fNot (fTru (fCall q_law_same (fCons (fCall qpossible_places (fCons (fVar 2) (fCons (fVar 4) (fNil)))) (fCons (fTup (fCons (fTup (fCons (fVar 3) (fCons (fC (.int 0)) (fNil)))) (fNil))) (fNil)))))) (fNot (fTru (fCall q_law_same (fCons (fCall qtimes_at (fCons (fVar 2) (fCons (fVar 4) (fCons (fTup (fCons (fVar 3) (fCons (fC (.int 0)) (fNil)))) (fNil))))) (fCons (fTup (fCons (fC (.int 7)) (fCons (fC (.int 7)) (fNil)))) (fNil)))))))
      (sRet (fC (.bl false)))
      (sNext))))
def li4 : FS := (sRet (fC (.bl true)))
theorem li_eq : b_law_is_line_right = sSeq li0 (sSeq li1 (sSeq li2 (sSeq li3 (li4)))) := rfl
def lib3 : FS := (sSeq (sSet 4 (fCall q_law_exact (fCons (fVar 2) (fCons (fTup (fCons (fC (.int 0)) (fCons (fC (.int 1)) (fNil)))) (fCons (fC (.int 0)) (fCons (fTup (fCons (fTup (fCons (fVar 3) (fCons (fC (.int 0)) (fNil)))) (fCons (fC (.int 7)) (fNil)))) (fNil)))))))
      (sIf (fOr (fNot (fTru (fCall q_law_same (fCons (fCall qpossible_places (fCons (fVar 2) (fCons (fVar 4) (fNil)))) (fCons (fTup (fCons (fTup (fCons (fVar 3) (fCons (fC (.int 0)) (fNil)))) (fNil))) (fNil)))))) (fNot (fTru (fCall q_law_same (fCons (fCall qtimes_at (fCons (fVar 2) (fCons (fVar 4) (fCons (fTup (fCons (fVar 3) (fCons (fC (.int 0)) (fNil)))) (fNil))))) (fCons (fTup (fCons (fC (.int 7)) (fCons (fC (.int 7)) (fNil)))) (fNil)))))))
      (sRet (fC (.bl false)))
      (sNext)))
theorem li3_eq : li3 = sFor (fiRg1 (fCons (fVar 1) (fNil))) (tN 3) lib3 := rfl
def PLt (a b : P2) : Prop := a.1 < b.1 ∨ (a.1 = b.1 ∧ a.2 < b.2)
theorem plt_asym (a b : P2) (h : PLt a b) (g : PLt b a) : False := by
  unfold PLt at h g; omega
theorem ap_srt (w h : Int) : (AP w h).Pairwise PLt := by
  unfold AP
  rw [List.pairwise_flatMap]
  constructor
  · intro x hx
    rw [List.pairwise_map]
    exact List.pairwise_lt_range.imp fun hab => .inr ⟨rfl, by show ((_ : Nat) : Int) < ((_ : Nat) : Int); omega⟩
  · exact List.pairwise_lt_range.imp fun hab x hx y hy => by
      obtain ⟨a, _, rfl⟩ := List.mem_map.mp hx
      obtain ⟨b, _, rfl⟩ := List.mem_map.mp hy
      exact .inl (by show ((_ : Nat) : Int) < ((_ : Nat) : Int); omega)
theorem pw_single {l : List P2} (hp : l.Pairwise PLt) {c : P2} (h : ∀ q, q ∈ l ↔ q = c) : l = [c] := by
  cases l with
  | nil => have := (h c).mpr rfl; simp at this
  | cons x l =>
    have hx := (h x).mp (by simp)
    subst hx
    cases l with
    | nil => rfl
    | cons y l =>
      have hy := (h y).mp (by simp)
      subst hy
      exact absurd (List.rel_of_pairwise_cons hp (by simp : y ∈ y :: l)) (fun z => plt_asym _ _ z z)
def LF (F : Fd) : Fd := ⟨F.w, 1, [(0, 0, 0), (F.w - 1, 0, 0)], F.l0, F.h0, F.l1, F.h1⟩
theorem lf_ok {F : Fd} (h : Shp F) (hw : 2 ≤ F.w) : Shp (LF F) where
  o := ⟨h.o.w1, h.o.w2, by show (1 : Int) ≤ 1; decide, by show (1 : Int) ≤ 12; decide, by show 2 ≤ 13; decide, fun s hs => by
    simp only [LF, List.mem_cons, List.not_mem_nil, or_false] at hs
    rcases hs with rfl | rfl
    · exact ⟨⟨by decide, by show (0 : Int) < F.w; omega⟩, ⟨by decide, by show (0 : Int) < 1; decide⟩, by decide⟩
    · exact ⟨⟨by show (0 : Int) ≤ F.w - 1; omega, by show F.w - 1 < F.w; omega⟩, ⟨by show (0 : Int) ≤ 0; decide, by show (0 : Int) < 1; decide⟩, by show (0 : Int) ≤ 0; decide⟩, h.o.a, h.o.c, h.o.b0, h.o.b1, fun s hs => by
    simp only [LF, List.mem_cons, List.not_mem_nil, or_false] at hs
    rcases hs with rfl | rfl <;> (show (0 : Int) < 2 ^ 100; decide)⟩
  e := h.e
  e1 := h.e1
  d := h.d
  z := fun s hs => by
    simp only [LF, List.mem_cons, List.not_mem_nil, or_false] at hs
    rcases hs with rfl | rfl <;> rfl
  n := by show 2 ≤ 6; decide
  w := h.w
  h := by show (1 : Int) ≤ 5; decide
theorem lf_PP {F : Fd} (h : Shp F) (hw : 2 ≤ F.w) {x : Int} (hx : 0 ≤ x ∧ x < F.w) : (AP (LF F).w (LF F).h).filter (al (LF F) [0, 1] ((x, 0), 7)) = [(x, 0)] := by
  refine pw_single (List.Pairwise.filter _ (ap_srt _ _)) fun q => ?_
  rw [List.mem_filter, ap_mem]
  have e : ∀ q : P2, 0 ≤ q.1 → q.1 < F.w → q.2 = 0 → aps (LF F) [0, 1] ((x, 0), 7) q = [x - q.1, q.1 - x] := fun q h1 h2 h3 => by
    have e1 : stx (LF F) 0 = (0, 0, 0) := rfl
    have e2 : stx (LF F) 1 = (F.w - 1, 0, 0) := rfl
    have w0 : fa_ (LF F) 0 (x, 0) - fa_ (LF F) 0 q = x - q.1 := by
      unfold fa_ far2; rw [e1]
      show ((((0 : Int) - x).natAbs : Int) + (((0 : Int) - 0).natAbs : Int)) - ((((0 : Int) - q.1).natAbs : Int) + (((0 : Int) - q.2).natAbs : Int)) = _
      omega
    have w1 : fa_ (LF F) 1 (x, 0) - fa_ (LF F) 1 q = q.1 - x := by
      unfold fa_ far2; rw [e2]
      show (((F.w - 1 - x).natAbs : Int) + (((0 : Int) - 0).natAbs : Int)) - (((F.w - 1 - q.1).natAbs : Int) + (((0 : Int) - q.2).natAbs : Int)) = _
      omega
    show [fa_ (LF F) 0 (x, 0) - fa_ (LF F) 0 q, fa_ (LF F) 1 (x, 0) - fa_ (LF F) 1 q] = _
    rw [w0, w1]
  constructor
  · rintro ⟨⟨h1, h2⟩, h3⟩
    have h2' : 0 ≤ q.2 ∧ q.2 < 1 := h2
    have h1' : 0 ≤ q.1 ∧ q.1 < F.w := h1
    unfold al at h3
    rw [e q h1'.1 h1'.2 (by omega)] at h3
    have h4 := of_decide_eq_true h3
    have a1 := mx_ge (xs := [x - q.1, q.1 - x]) (y := x - q.1) (by simp)
    have a2 := mx_ge (xs := [x - q.1, q.1 - x]) (y := q.1 - x) (by simp)
    have a3 := mi_le (xs := [x - q.1, q.1 - x]) (y := x - q.1) (by simp)
    have a4 := mi_le (xs := [x - q.1, q.1 - x]) (y := q.1 - x) (by simp)
    exact Prod.ext (by show q.1 = x; omega) (by show q.2 = 0; omega)
  · rintro rfl
    refine ⟨⟨hx, by show (0 : Int) ≤ 0 ∧ (0 : Int) < 1; decide⟩, ?_⟩
    unfold al
    rw [e (x, 0) hx.1 hx.2 rfl]
    show decide (mx [x - x, x - x] ≤ mi [x - x, x - x]) = true
    rw [Int.sub_self]; rfl
theorem line_ev {F : Fd} (h : Shp F) (M : Mem) : callP c_law_is_line_right [fdD F] M = some (.bl true, M) := by
  have g0 := fd_0 F; have g3 := fd_3 F
  by_cases hw : F.w < 2
  · refine cpl (by simp [pls, fd_nr]) ?_ M
    generalize fdD F = X at *
    simp [c_law_is_line_right, b_law_is_line_right, runFn, startR, g0, hw, fin, Mem.nr, D.nr]
  · have hw2 : 2 ≤ F.w := by omega
    have hL := lf_ok h hw2
    have eL : fdD (LF F) = .tup [.int F.w, .int 1, .tup [.tup [.int 0, .int 0, .int 0], .tup [.int (F.w - 1), .int 0, .int 0]], .tup [pD (F.l0, F.h0), pD (F.l1, F.h1)]] := rfl
    have hc : Ch (LF F) [0, 1] := ⟨by simp, fun i hi => by
      have : i = 0 ∨ i = 1 := by simpa using hi
      show i < 2; omega, by decide⟩
    have rg := rg0I (n := F.w) (by omega) (by have := h.w; omega)
    have hloop := loop_map (fun (k : Nat) => D.int (0 + k)) (c := chk none (rgD 0 F.w.toNat)) (step := sStep (tN 3) lib3) (fun pre ρ N => ∃ y3 y4 : Option D, ρ = [some (fdD F), some (.int F.w), some (fdD (LF F)), y3, y4] ∧ N = []) (List.range F.w.toNat) (ρ := [some (fdD F), some (.int F.w), some (fdD (LF F)), none, none]) (M := []) (fun _ _ _ _ => rfl) (by
      rintro pre k suf ρ N hys ⟨y3, y4, rfl, rfl⟩
      obtain ⟨hk, hpre⟩ := rg_pre hys
      have hx : 0 ≤ (k : Int) ∧ (k : Int) < F.w := by omega
      have hp := lf_PP h hw2 hx
      have hain : PIn (LF F) (((k : Int), 0) : P2) := ⟨hx, by show (0 : Int) ≤ 0 ∧ (0 : Int) < 1; decide⟩
      have ha : PIn (LF F) ((((k : Int), 0), 7) : Sh).1 := hain
      have z : (0 : Int) + (k : Int) = k := by omega
      rw [z]
      have en : nD [0, 1] = .tup [.int 0, .int 1] := rfl
      have es : sh (((k : Int), 0), 7) = .tup [.tup [.int (k : Int), .int 0], .int 7] := rfl
      have x1 := exact_ev hL.o (kd := 0) (s := [0, 1]) (by decide) hc.i (by decide) ha
      rw [en, es, show (((0 : Nat) : Int)) = 0 from rfl] at x1
      have p1' := pp_ev hL.o (er_ok (F := LF F) (a := (((k : Int), 0), 7)) hc.i (kd := 0) (by decide))
      rw [er_PP hL hc.ne hc.i, hp, show [(((k : Int), 0) : P2)].map pD = [.tup [.int (k : Int), .int 0]] from rfl] at p1'
      have hal : al (LF F) [0, 1] (((k : Int), 0), 7) ((k : Int), 0) = true := by
        have : (((k : Int), 0) : P2) ∈ (AP (LF F).w (LF F).h).filter (al (LF F) [0, 1] (((k : Int), 0), 7)) := by rw [hp]; simp
        exact (List.mem_filter.mp this).2
      have t1 := times_ev hL.o (er_ok (F := LF F) (a := (((k : Int), 0), 7)) hc.i (kd := 0) (by decide)) (by unfold ER; simp) hain
      rw [er_tA hL hc.ne hc.i 0 _ hal] at t1
      have hmx : mx (aps (LF F) [0, 1] (((k : Int), 0), 7) ((k : Int), 0)) = 0 := by
        obtain ⟨j, _, e⟩ := List.mem_map.mp (mx_mem (aps_ne (F := LF F) hc.ne (((k : Int), 0), 7) ((k : Int), 0)))
        have e' : fa_ (LF F) j ((k : Int), 0) - fa_ (LF F) j ((k : Int), 0) = mx (aps (LF F) [0, 1] (((k : Int), 0), 7) ((k : Int), 0)) := e
        rw [← e']; exact Int.sub_self _
      rw [hmx, Int.mul_zero] at t1
      rw [show pD ((((k : Int), 0), 7) : Sh).1 = .tup [.int (k : Int), .int 0] from rfl, Int.add_zero, show pD (((((k : Int), 0), 7) : Sh).2, ((((k : Int), 0), 7) : Sh).2) = .tup [.int 7, .int 7] from rfl] at t1
      have t1' := t1
      have s1 := cpS2 (d := .tup [.tup [.int (k : Int), .int 0]]) rfl
      have s2 := cpS2 (d := .tup [.int 7, .int 7]) rfl
      refine ⟨_, _, ?_, some (.int (k : Int)), some (.tup ((ER (LF F) [0, 1] 0 (((k : Int), 0), 7)).map rD)), rfl, rfl⟩
      generalize (ER (LF F) [0, 1] 0 (((k : Int), 0), 7)).map rD = RD at *
      generalize fdD (LF F) = XL at *
      generalize fdD F = X at *
      simp [lib3, q_law_exact, x1, qpossible_places, p1', s1, qtimes_at, t1', s2]) ⟨none, none, rfl, rfl⟩
    obtain ⟨ρ', M', e, y3, y4, rfl, rfl⟩ := hloop
    rw [← rgD_map] at e
    have hw' : ¬ F.w < 2 := hw
    have main : b_law_is_line_right [some (fdD F), none, none, none, none] [] = some (.ret (.bl true), []) := by
      rw [li_eq]
      rw [eL] at e
      generalize pD (F.l0, F.h0) = W0 at *
      generalize pD (F.l1, F.h1) = W1 at *
      generalize fdD F = X at *
      simp [li0, li1, li2, li3_eq, li4, g0, g3, hw', rg, e]
    exact cpl (by simp [pls, fd_nr]) (run_ret main rfl rfl) M
end LP
namespace LP
open PySem PySem.Spec PyProof.Rows L2 PF
def kw0 : FS := (sSet 1 (fCall q_law_draws (fCons (fVar 0) (fCons (fC (.int 260)) (fNil)))))
def kw1 : FS := (sSet 2 (f2 gIx (fFz (fLstD (fCons (fC (.int 1)) (fCons (fC (.int 1)) (fCons (f2 gAdd (fC (.int 1)) (f2 gMod (fB gAbs (fCons (fCallS 1 q_law_cell (fCons (fVar 0) (fCons (fVar 1) (fNil)))) (fNil))) (f2 gPow (fC (.int 10)) (fC (.int 20))))) (fNil)))))) (fCallS 0 q_law_take (fCons (fVar 1) (fCons (fC (.int 3)) (fNil))))))
def kw2 : FS := (sSet 3 (fCallS 0 q_law_sharp (fCons (fVar 1) (fCons (fCallS 0 q_law_field (fCons (fVar 1) (fCons (fC (.int 5)) (fCons (fC (.int 6)) (fCons (fVar 2) (fNil)))))) (fCons (fVar 2) (fNil))))))
def kw3 : FS := (sSet 4 (fTupRg1 (fCons (fB gLen (fCons (f2 gIx (fVar 3) (fC (.int 2))) (fNil))) (fNil))))
def kw4 : FS := (sFor (fiRg1 (fCons (fC (.int 3)) (fNil))) (tN 5)
      (sSeq (sSet 6 (fTup (fCons (fTup (fCons (fCallS 0 q_law_take (fCons (fVar 1) (fCons (f2 gIx (fVar 3) (fC (.int 0))) (fNil)))) (fCons (fCallS 0 q_law_take (fCons (fVar 1) (fCons (f2 gIx (fVar 3) (fC (.int 1))) (fNil)))) (fNil)))) (fCons (f2 gMul (fVar 2) (f2 gSub (fCallS 0 q_law_take (fCons (fVar 1) (fCons (fC (.int 60)) (fNil)))) (fC (.int 20)))) (fNil)))))
      (sSeq (sSet 7 (fB gTuple (fCons (fFz (fLC [8] (fiSq (fVar 4)) (tN 8) (f2T (gEq) (fCallS 0 q_law_take (fCons (fVar 1) (fCons (fC (.int 2)) (fNil)))) (fC (.int 0))) (fVar 8))) (fNil))))
      (sSeq (sSet 9 (f2 gIx (fFz (fLstD (fCons (fVar 4) (fCons (f2 gAdd (fVar 7) (f2 gRepZ (fSlice (fVar 4) (fNoPart) (fPart (fC (.int 1)))) (fB gInt (fCons (f2 (gB (gEq)) (fB gLen (fCons (fVar 7) (fNil))) (fC (.int 0))) (fNil))))) (fCons (fSlice (fVar 4) (fNoPart) (fPart (fC (.int 2)))) (fNil)))))) (fVar 5)))
      (sSeq (sIf (fNot (fTru (fCall q_law_is_choice_right (fCons (fVar 3) (fCons (fVar 9) (fCons (fVar 6) (fNil)))))))
      (sRet (fC (.bl false)))
      (sNext))
      (sIf (fNot (fTru (fCall q_law_is_more_right (fCons (fVar 3) (fCons (fVar 9) (fCons (fCallS 0 q_law_take (fCons (fVar 1) (fCons (fB gLen (fCons (fVar 4) (fNil))) (fNil)))) (fCons (fVar 6) (fNil))))))))
      (sRet (fC (.bl false)))
      (sNext)))))))
def kw5 : FS := (sIf (fNot (fTru (fCall q_law_is_line_right (fCons (fVar 3) (fNil)))))
      (sRet (fC (.bl false)))
      (sNext))
def kw6 : FS := (sSet 10 (fTup (fCons (fC (.int 2)) (fCons (fC (.int 2)) (fCons (fTup (fCons (fTup (fCons (fC (.int 0)) (fCons (fC (.int 0)) (fCons (fC (.int 0)) (fNil))))) (fCons (fTup (fCons (fC (.int 1)) (fCons (fC (.int 1)) (fCons (fC (.int 0)) (fNil))))) (fNil)))) (fCons (fTup (fCons (fTup (fCons (fC (.int 1)) (fCons (fC (.int 1)) (fNil)))) (fCons (fTup (fCons (fC (.int 2)) (fCons (fC (.int 2)) (fNil)))) (fNil)))) (fNil)))))))
def kw7 : FS := (sSet 11 (fCall q_law_exact (fCons (fVar 10) (fCons (fTup (fCons (fC (.int 0)) (fCons (fC (.int 1)) (fNil)))) (fCons (fC (.int 0)) (fCons (fTup (fCons (fTup (fCons (fC (.int 0)) (fCons (fC (.int 1)) (fNil)))) (fCons (fC (.int 4)) (fNil)))) (fNil)))))))
def kw8 : FS := (sIf (fOr (fNot (fTru (fCall q_law_same (fCons (fCall qpossible_places (fCons (fVar 10) (fCons (fVar 11) (fNil)))) (fCons (fTup (fCons (fTup (fCons (fC (.int 0)) (fCons (fC (.int 1)) (fNil)))) (fCons (fTup (fCons (fC (.int 1)) (fCons (fC (.int 0)) (fNil)))) (fNil)))) (fNil)))))) (fNot (fTru (fCall q_law_same (fCons (fCall qparts_all (fCons (fVar 10) (fCons (fTup (fCons (fC (.int 0)) (fCons (fC (.int 1)) (fNil)))) (fCons (fTup (fCons (fTup (fCons (fTup (fCons (fC (.int 0)) (fCons (fC (.int 1)) (fNil)))) (fCons (fC (.int 4)) (fNil)))) (fCons (fTup (fCons (fTup (fCons (fC (.int 1)) (fCons (fC (.int 0)) (fNil)))) (fCons (fC (.int 4)) (fNil)))) (fNil)))) (fNil))))) (fCons (fC (.bl false)) (fNil)))))))
      (sRet (fC (.bl false)))
      (sNext))
def kw9 : FS := (sRet (fAndV (fCall q_law_same (fCons (fCall qparts_all (fCons (fVar 10) (fCons (fTup (fCons (fC (.int 0)) (fCons (fC (.int 1)) (fNil)))) (fCons (fTup (fCons (fTup (fCons (fTup (fCons (fC (.int 0)) (fCons (fC (.int 0)) (fNil)))) (fCons (fC (.int 4)) (fNil)))) (fCons (fTup (fCons (fTup (fCons (fC (.int 1)) (fCons (fC (.int 0)) (fNil)))) (fCons (fC (.int 4)) (fNil)))) (fNil)))) (fNil))))) (fCons (fC (.bl true)) (fNil)))) (fCall q_law_is_choice_right (fCons (fVar 10) (fCons (fTup (fCons (fC (.int 0)) (fCons (fC (.int 1)) (fNil)))) (fCons (fTup (fCons (fTup (fCons (fC (.int 0)) (fCons (fC (.int 0)) (fNil)))) (fCons (fC (.int 4)) (fNil)))) (fNil)))))))
theorem kw_eq : blaw = sSeq kw0 (sSeq kw1 (sSeq kw2 (sSeq kw3 (sSeq kw4 (sSeq kw5 (sSeq kw6 (sSeq kw7 (sSeq kw8 (kw9))))))))) := rfl
def kwb4 : FS := (sSeq (sSet 6 (fTup (fCons (fTup (fCons (fCallS 0 q_law_take (fCons (fVar 1) (fCons (f2 gIx (fVar 3) (fC (.int 0))) (fNil)))) (fCons (fCallS 0 q_law_take (fCons (fVar 1) (fCons (f2 gIx (fVar 3) (fC (.int 1))) (fNil)))) (fNil)))) (fCons (f2 gMul (fVar 2) (f2 gSub (fCallS 0 q_law_take (fCons (fVar 1) (fCons (fC (.int 60)) (fNil)))) (fC (.int 20)))) (fNil)))))
      (sSeq (sSet 7 (fB gTuple (fCons (fFz (fLC [8] (fiSq (fVar 4)) (tN 8) (f2T (gEq) (fCallS 0 q_law_take (fCons (fVar 1) (fCons (fC (.int 2)) (fNil)))) (fC (.int 0))) (fVar 8))) (fNil))))
      (sSeq (sSet 9 (f2 gIx (fFz (fLstD (fCons (fVar 4) (fCons (f2 gAdd (fVar 7) (f2 gRepZ (fSlice (fVar 4) (fNoPart) (fPart (fC (.int 1)))) (fB gInt (fCons (f2 (gB (gEq)) (fB gLen (fCons (fVar 7) (fNil))) (fC (.int 0))) (fNil))))) (fCons (fSlice (fVar 4) (fNoPart) (fPart (fC (.int 2)))) (fNil)))))) (fVar 5)))
      (sSeq (sIf (fNot (fTru (fCall q_law_is_choice_right (fCons (fVar 3) (fCons (fVar 9) (fCons (fVar 6) (fNil)))))))
      (sRet (fC (.bl false)))
      (sNext))
      (sIf (fNot (fTru (fCall q_law_is_more_right (fCons (fVar 3) (fCons (fVar 9) (fCons (fCallS 0 q_law_take (fCons (fVar 1) (fCons (fB gLen (fCons (fVar 4) (fNil))) (fNil)))) (fCons (fVar 6) (fNil))))))))
      (sRet (fC (.bl false)))
      (sNext))))))
theorem kw4_eq : kw4 = sFor (fiRg1 (fCons (fC (.int 3)) (fNil))) (tN 5) kwb4 := rfl
theorem kw1_ev (ns xs : List Int) (hl : ns.length ≤ 63) : ∃ (b : Int) (ys : List Int), (1 ≤ b ∧ b < 2 ^ 80) ∧ kw1 [some (.kst (iL ns)), some (.ref 0), none, none, none, none, none, none, none, none, none, none] [.lst (iL xs)] = some (.nx [some (.kst (iL ns)), some (.ref 0), some (.int b), none, none, none, none, none, none, none, none, none], [.lst (iL ys)]) := by
  obtain ⟨i, ys, hc⟩ := cell_ev ns xs hl
  have hcc := cell_call hc
  have tc := take_c0 ys 3 [] (by decide)
  obtain ⟨t1, t2⟩ := tk_lt (xs := ys) (m := 3) (by omega)
  have p20 : okPow 10 20 = true := by decide
  have hm : 0 ≤ (i.natAbs : Int).fmod (10 ^ 20) ∧ (i.natAbs : Int).fmod (10 ^ 20) < 10 ^ 20 := by
    rw [Int.fmod_eq_emod_of_nonneg _ (by decide)]
    exact ⟨Int.emod_nonneg _ (by decide), Int.emod_lt_of_pos _ (by decide)⟩
  have hk := nrs_iL ns
  generalize iL ns = N at *
  rcases at3 (a := D.int 1) (b := D.int 1) (c := D.int (1 + (i.natAbs : Int).fmod (10 ^ 20))) (i := tk ys 3) ⟨t1, t2⟩ with h | h | h
  all_goals simp only [show (10 : Int) ^ 20 = 100000000000000000000 by decide] at h hm
  · exact ⟨1, ys.dropLast, ⟨by decide, by decide⟩, by simp [kw1, q_law_cell, q_law_take, hcc, tc, p20, h]⟩
  · exact ⟨1, ys.dropLast, ⟨by decide, by decide⟩, by simp [kw1, q_law_cell, q_law_take, hcc, tc, p20, h]⟩
  · exact ⟨1 + (i.natAbs : Int).fmod 100000000000000000000, ys.dropLast, ⟨by omega, by omega⟩, by simp [kw1, q_law_cell, q_law_take, hcc, tc, p20, h]⟩
/-! a sharp field from a field -/
def SFd (F : Fd) (st : List S3) (b : Int) : Fd := ⟨F.w, F.h, st, b, b, 2 * b, 2 * b⟩
theorem sfd_ok {F : Fd} (h : FOk F) (h5 : F.w ≤ 5 ∧ F.h ≤ 5) {st : List S3} (hn : st.length ≤ 6) (hs : ∀ s, s ∈ st → PIn F (sxy s) ∧ s.2.2 = 0) {b : Int} (hb : 1 ≤ b ∧ b < 2 ^ 90) : Shp (SFd F st b) where
  o := ⟨h.w1, h.w2, h.h1', h.h2, by show st.length ≤ 13; omega, fun s q => by
    have := hs s q
    exact ⟨this.1.1, this.1.2, by rw [this.2]; exact Int.le_refl _⟩, ⟨hb.1, Int.le_refl _⟩, ⟨by show 1 ≤ 2 * b; omega, Int.le_refl _⟩, by show b < 2 ^ 100; omega, by show 2 * b < 2 ^ 100; omega, fun s q => by rw [(hs s q).2]; decide⟩
  e := rfl
  e1 := rfl
  d := rfl
  z := fun s q => (hs s q).2
  n := hn
  w := h5.1
  h := h5.2
theorem sharp_ev {F : Fd} (h : FOk F) (h5 : F.w ≤ 5 ∧ F.h ≤ 5) (hn : F.st.length ≤ 6) {b : Int} (hb : 1 ≤ b ∧ b < 2 ^ 80) (xs : List Int) : ∃ (G : Fd) (ys : List Int), (Shp G ∧ G.st ≠ []) ∧ c_law_sharp [.ref 0, fdD F, .int b] [.lst (iL xs)] = some (fdD G, [.lst (iL ys)]) := by
  have g0 := fd_0 F; have g1 := fd_1 F; have g2 := fd_2 F
  have w1 := h.w1; have h1 := h.h1'
  have hlc : ∀ M, lcLoop (chk none (F.st.map sD)) (tN 4) fYes (f2 gAdd (fSlice (fVar 4) (fNoPart) (fPart (fC (.int 2)))) (fTup (fCons (fC (.int 0)) (fNil)))) [some (.ref 0), some (fdD F), some (.int b), none, none, none] (F.st.map sD) [] M = some ((F.st.map fun s => ((s.1, s.2.1, 0) : S3)).map sD, M) := fun M => by
    rw [lc_all sD (fun s => sD (s.1, s.2.1, 0)) rfl F.st [] (fun s _ => by
      have g := sD_cut s
      have ad := add_p (sxy s) 0
      have es : sD ((sxy s).1, (sxy s).2, 0) = sD (s.1, s.2.1, 0) := rfl
      rw [es] at ad
      refine ⟨_, rfl, rfl, ?_⟩
      generalize sD (s.1, s.2.1, 0) = S2 at *
      generalize pD (sxy s) = Q at *
      generalize sD s = S at *
      generalize fdD F = X at *
      simp [g, ad]), List.nil_append, List.map_map]
    rfl
  have hsl : ((F.st.map fun s => ((s.1, s.2.1, 0) : S3)).map sD).length = F.st.length := by simp
  have hlen : ((F.st.map fun s => ((s.1, s.2.1, 0) : S3)).map sD).length ≤ LINE := by rw [hsl]; show _ ≤ 16777216; omega
  have om : ∀ v : Int, 0 ≤ v ∧ v < 10 → okMul b v = true := fun v hv => okMul_r (by omega)
  have om2 : ∀ v : Int, okMul 2 v = true := fun v => okMul_l (by decide)
  by_cases hz : F.st = []
  · obtain ⟨a1, a2⟩ := tk_lt (xs := xs) (m := F.w) (by omega)
    obtain ⟨b1, b2⟩ := tk_lt (xs := xs.dropLast) (m := F.h) (by omega)
    obtain ⟨c1, c2⟩ := tk_lt (xs := xs.dropLast.dropLast) (m := 3) (by omega)
    have t1 := fun M => take_c0 xs F.w M (by omega)
    have t2 := fun M => take_c0 xs.dropLast F.h M (by omega)
    have t3 := fun M => take_c0 xs.dropLast.dropLast 3 M (by omega)
    have o1 := om (1 + tk xs.dropLast.dropLast 3) (by omega)
    obtain ⟨sl, hsl2⟩ : ∃ sl, b * (1 + tk xs.dropLast.dropLast 3) = sl := ⟨_, rfl⟩
    have hsb : 1 ≤ sl ∧ sl < 2 ^ 90 := by
      have p := Int.mul_le_mul_of_nonneg_left (show (1 : Int) ≤ 1 + tk xs.dropLast.dropLast 3 by omega) (show 0 ≤ b by omega)
      have q := Int.mul_le_mul_of_nonneg_left (show 1 + tk xs.dropLast.dropLast 3 ≤ 3 by omega) (show 0 ≤ b by omega)
      omega
    refine ⟨SFd F [(tk xs F.w, tk xs.dropLast F.h, 0)] sl, xs.dropLast.dropLast.dropLast, ⟨sfd_ok h h5 (by simp) (fun s q => by
      rw [List.mem_singleton.mp q]; exact ⟨⟨⟨a1, a2⟩, b1, b2⟩, rfl⟩) hsb, by simp [SFd]⟩, ?_⟩
    have ef : fdD (SFd F [(tk xs F.w, tk xs.dropLast F.h, 0)] sl) = .tup [.int F.w, .int F.h, .tup [.tup [.int (tk xs F.w), .int (tk xs.dropLast F.h), .int 0]], .tup [.tup [.int sl, .int sl], .tup [.int (2 * sl), .int (2 * sl)]]] := rfl
    rw [ef]
    refine run_ret1 (M' := []) (X' := .lst (iL xs.dropLast.dropLast.dropLast)) ?_ (by simp [D.nr, D.nrs]) rfl (nrs_iL _)
    show b_law_sharp [some (.ref 0), some (fdD F), some (.int b), none, none, none] _ = _
    rw [hz] at hlc g2
    generalize fdD F = X at *
    simp at hlc
    simp [b_law_sharp, g2, fiSq, wipeR, hlc, q_law_take, t1, t2, t3, g0, g1, o1, hsl2, om2]
  · have hp := List.length_pos_iff.mpr hz
    obtain ⟨c1, c2⟩ := tk_lt (xs := xs) (m := 3) (by omega)
    have t3 := fun M => take_c0 xs 3 M (by omega)
    have o1 := om (1 + tk xs 3) (by omega)
    obtain ⟨sl, hsl2⟩ : ∃ sl, b * (1 + tk xs 3) = sl := ⟨_, rfl⟩
    have hsb : 1 ≤ sl ∧ sl < 2 ^ 90 := by
      have p := Int.mul_le_mul_of_nonneg_left (show (1 : Int) ≤ 1 + tk xs 3 by omega) (show 0 ≤ b by omega)
      have q := Int.mul_le_mul_of_nonneg_left (show 1 + tk xs 3 ≤ 3 by omega) (show 0 ≤ b by omega)
      omega
    have hnr := ss_nr (F.st.map fun s => ((s.1, s.2.1, 0) : S3))
    refine ⟨SFd F (F.st.map fun s => (s.1, s.2.1, 0)) sl, xs.dropLast, ⟨sfd_ok h h5 (by rw [List.length_map]; exact hn) (fun s q => by
      obtain ⟨r, hr, rfl⟩ := List.mem_map.mp q
      have := h.s r hr
      exact ⟨⟨this.1, this.2.1⟩, rfl⟩) hsb, by simpa [SFd] using hz⟩, ?_⟩
    have ef : fdD (SFd F (F.st.map fun s => (s.1, s.2.1, 0)) sl) = .tup [.int F.w, .int F.h, .tup ((F.st.map fun s => ((s.1, s.2.1, 0) : S3)).map sD), .tup [.tup [.int sl, .int sl], .tup [.int (2 * sl), .int (2 * sl)]]] := rfl
    rw [ef]
    refine run_ret1 (M' := []) (X' := .lst (iL xs.dropLast)) ?_ (by rw [← ef]; exact fd_nr _) rfl (nrs_iL _)
    show b_law_sharp [some (.ref 0), some (fdD F), some (.int b), none, none, none] _ = _
    have n1 : ¬ F.st.length = 0 := by omega
    have n2 : (F.st.map fun s => ((s.1, s.2.1, 0) : S3)).map sD ≠ [] := by simpa using hz
    have n3 : ¬ ((F.st.length : Int) = 0) := by omega
    generalize (F.st.map fun s => ((s.1, s.2.1, 0) : S3)).map sD = LS2 at *
    generalize F.st.map sD = LS at *
    generalize F.st.length = n at *
    generalize fdD F = X at *
    simp [b_law_sharp, g2, fiSq, wipeR, hlc, hlen, hsl, n1, n2, n3, q_law_take, t3, g0, g1, o1, hsl2, om2]
theorem kw23_ev (ns xs : List Int) (b : Int) (hb : 1 ≤ b ∧ b < 2 ^ 80) : ∃ (G : Fd) (ys : List Int), (Shp G ∧ G.st ≠ []) ∧ sSeq kw2 kw3 [some (.kst (iL ns)), some (.ref 0), some (.int b), none, none, none, none, none, none, none, none, none] [.lst (iL xs)] = some (.nx [some (.kst (iL ns)), some (.ref 0), some (.int b), some (fdD G), some (nD (List.range G.st.length)), none, none, none, none, none, none, none], [.lst (iL ys)]) := by
  obtain ⟨F, ys, ⟨hG, hGl, hGh, h5, h6⟩, e1⟩ := field_ev xs b 5 6 hb.1 hb.2 (by omega) (by omega)
  obtain ⟨G, zs, ⟨hS, hne⟩, e2⟩ := sharp_ev hG ⟨h5, h6⟩ (by omega) hb ys
  have c1 := fun M => cs0 (ds := [.int 5, .int 6, .int b]) rfl (nrs_iL xs) (nrs_iL ys) (fd_nr F) e1 M
  have c2 := fun M => cs0 (ds := [fdD F, .int b]) (by simp [pls, fd_nr, D.nr]) (nrs_iL ys) (nrs_iL zs) (fd_nr G) e2 M
  have g2 := fd_2 G
  have hL : (G.st.map sD).length = G.st.length := List.length_map _
  have hn := hS.n
  refine ⟨G, zs, ⟨hS, hne⟩, ?_⟩
  have t0 : ∀ M, fTupRg1 (fCons (fB gLen (fCons (f2 gIx (fVar 3) (fC (.int 2))) (fNil))) (fNil)) [some (.kst (iL ns)), some (.ref 0), some (.int b), some (fdD G), none, none, none, none, none, none, none, none] M = some (nD (List.range G.st.length), M) := fun M => by
    have ok : okR 0 (G.st.length : Int) = true := okR_of (by omega) (by omega) (by omega) (by omega)
    have ef : (fCons (fB gLen (fCons (f2 gIx (fVar 3) (fC (.int 2))) (fNil))) (fNil)) [some (.kst (iL ns)), some (.ref 0), some (.int b), some (fdD G), none, none, none, none, none, none, none, none] M = some ([.int (G.st.length : Int)], M) := by
      generalize G.st.map sD = LS at *
      generalize iL ns = N at *
      generalize fdD G = X at *
      simp [g2, hL]
    unfold fTupRg1
    rw [ef, Option.bind_some]
    dsimp only
    rw [if_pos ok, Int.toNat_natCast, rgD_iN]; rfl
  rw [ev_seq]
  generalize nD (List.range G.st.length) = NR at *
  generalize iL ns = N at *
  generalize fdD F = X1 at *
  generalize fdD G = X at *
  simp [kw2, kw3, q_law_field, c1, q_law_sharp, c2, t0]
theorem pick2 {c : Mem → Bool} (hc : ∀ M, c M = true) (ρ : Rho) (h0 : ρ[1]? = some (some (.ref 0))) (hv : 8 < ρ.length) : ∀ (ks : List Nat) (acc : List D) (xs : List Int), ∃ (s : List Nat) (ys : List Int), (∀ i, i ∈ s → i ∈ ks) ∧ s.length ≤ ks.length ∧ lcLoop c (tN 8) (f2T (gEq) (fCallS 0 q_law_take (fCons (fVar 1) (fCons (fC (.int 2)) (fNil)))) (fC (.int 0))) (fVar 8) ρ (iN ks) acc [.lst (iL xs)] = some (acc ++ iN s, [.lst (iL ys)])
  | [], acc, xs => ⟨[], xs, fun _ h => h, Nat.le_refl _, by simp [lcLoop, hc, iN]⟩
  | k :: ks, acc, xs => by
    have t := take_c0 xs 2 [] (by decide)
    have h0' : (ρ.set 8 (some (D.int (k : Int))))[1]? = some (some (.ref 0)) := by rw [List.getElem?_set_ne (by decide)]; exact h0
    have hv' : (ρ.set 8 (some (D.int (k : Int))))[8]? = some (some (D.int (k : Int))) := by simp [hv]
    have et : (f2T (gEq) (fCallS 0 q_law_take (fCons (fVar 1) (fCons (fC (.int 2)) (fNil)))) (fC (.int 0))) (ρ.set 8 (some (D.int (k : Int)))) [.lst (iL xs)] = some (decide (tk xs 2 = 0), [.lst (iL xs.dropLast)]) := by
      simp only [ev_f2T, ev_callS, ev_cons, ev_var, h0', ev_c, ev_nil]
      simp [q_law_take, t]
    have ek : iN (k :: ks) = D.int (k : Int) :: iN ks := rfl
    by_cases hp : tk xs 2 = 0
    · obtain ⟨s, ys, h1, h2, h3⟩ := pick2 hc ρ h0 hv ks (acc ++ [.int (k : Int)]) xs.dropLast
      refine ⟨k :: s, ys, fun i hi => ?_, by simp; omega, ?_⟩
      · rcases List.mem_cons.mp hi with rfl | hi
        · simp
        · exact List.mem_cons_of_mem _ (h1 i hi)
      · rw [ek, lcLoop, if_pos (hc _)]
        show ((f2T _ _ _) (ρ.set 8 (some (D.int (k : Int)))) _).bind _ = _
        rw [et, decide_eq_true hp, Option.bind_some, if_pos rfl, ev_var, hv']
        show lcLoop _ _ _ _ _ _ _ _ = _
        rw [h3]
        simp [iN]
    · obtain ⟨s, ys, h1, h2, h3⟩ := pick2 hc ρ h0 hv ks acc xs.dropLast
      refine ⟨s, ys, fun i hi => List.mem_cons_of_mem _ (h1 i hi), by simp; omega, ?_⟩
      rw [ek, lcLoop, if_pos (hc _)]
      show ((f2T _ _ _) (ρ.set 8 (some (D.int (k : Int)))) _).bind _ = _
      rw [et, decide_eq_false hp, Option.bind_some, if_neg Bool.false_ne_true]
      exact h3
theorem turn_ev {G : Fd} (h : Shp G) (hne : G.st ≠ []) (ns xs : List Int) (b : Int) {k : Nat} (hk : k < 3) (x5 x6 x7 x9 : Option D) : ∃ (y6 y7 y9 : Option D) (ys : List Int), sStep (tN 5) kwb4 (.int (0 + (k : Int))) [some (.kst (iL ns)), some (.ref 0), some (.int b), some (fdD G), some (nD (List.range G.st.length)), x5, x6, x7, none, x9, none, none] [.lst (iL xs)] = some (.nx [some (.kst (iL ns)), some (.ref 0), some (.int b), some (fdD G), some (nD (List.range G.st.length)), some (.int (0 + (k : Int))), y6, y7, none, y9, none, none], [.lst (iL ys)]) := by
  have hN := List.length_pos_iff.mpr hne
  have hn := h.n
  have w1 := h.o.w1; have h1 := h.o.h1'
  obtain ⟨a1, a2⟩ := tk_lt (xs := xs) (m := G.w) (by omega)
  obtain ⟨b1, b2⟩ := tk_lt (xs := xs.dropLast) (m := G.h) (by omega)
  obtain ⟨c1, c2⟩ := tk_lt (xs := xs.dropLast.dropLast) (m := 60) (by omega)
  have t1 := fun M => take_c0 xs G.w M (by omega)
  have t2 := fun M => take_c0 xs.dropLast G.h M (by omega)
  have t3 := fun M => take_c0 xs.dropLast.dropLast 60 M (by omega)
  have g0 := fd_0 G; have g1 := fd_1 G
  have om : okMul b (tk xs.dropLast.dropLast 60 - 20) = true := okMul_r (by omega)
  let a : Sh := ((tk xs G.w, tk xs.dropLast G.h), b * (tk xs.dropLast.dropLast 60 - 20))
  have ha : PIn G a.1 := ⟨⟨a1, a2⟩, b1, b2⟩
  have es : sh a = .tup [.tup [.int (tk xs G.w), .int (tk xs.dropLast G.h)], .int (b * (tk xs.dropLast.dropLast 60 - 20))] := rfl
  have z : (0 : Int) + (k : Int) = k := by omega
  rw [z]
  obtain ⟨s, ys, s1, s2, s3⟩ := pick2 (c := chk none (iN (List.range G.st.length))) (fun _ => rfl) [some (.kst (iL ns)), some (.ref 0), some (.int b), some (fdD G), some (nD (List.range G.st.length)), some (.int (k : Int)), some (sh a), x7, none, x9, none, none] rfl (by simp) (List.range G.st.length) [] xs.dropLast.dropLast.dropLast
  rw [List.nil_append] at s3
  rw [List.length_range] at s2
  have fs : ∀ (ρ : Rho) (M : Mem), ρ[4]? = some (some (nD (List.range G.st.length))) → fiSq (fVar 4) ρ M = some ((iN (List.range G.st.length), none), M) := fun ρ M h3 => by
    unfold fiSq
    rw [ev_var, h3]; rfl
  have sl1 : ∀ M, gSlice (nD (List.range G.st.length)) none (some 1) M = some (nD ((List.range G.st.length).take 1)) := fun M => by
    have := slTake (iN (List.range G.st.length)) 1 M
    unfold iN at this
    rw [← List.map_take] at this
    exact this
  have sl2 : ∀ M, gSlice (nD (List.range G.st.length)) none (some 2) M = some (nD ((List.range G.st.length).take 2)) := fun M => by
    have := slTake (iN (List.range G.st.length)) 2 M
    unfold iN at this
    rw [← List.map_take] at this
    exact this
  have e1 : (List.range G.st.length).take 1 = [0] := by
    obtain ⟨n, hn2⟩ : ∃ n, G.st.length = n + 1 := ⟨G.st.length - 1, by omega⟩
    rw [hn2, List.range_succ_eq_map]; rfl
  rw [e1] at sl1
  have ls : ∀ M, gLen [nD s] M = some (.int (s.length : Int)) := fun M => by
    show some (D.int ((iN s).length : Int)) = _
    rw [iN_len]
  obtain ⟨u, hu, hu2⟩ : ∃ u : List Nat, Ch G u ∧ ∀ M, (gRepZ (nD [0]) (.int (if s.length = 0 then 1 else 0)) M).bind (fun d => gAdd (nD s) d M) = some (nD u) := by
    by_cases q : s = []
    · subst q
      refine ⟨[0], ⟨by simp, fun i hi => by rw [List.mem_singleton.mp hi]; exact hN, by simp⟩, fun M => ?_⟩
      exact addTup [] [.int 0] M (by simp)
    · refine ⟨s, ⟨q, fun i hi => List.mem_range.mp (s1 i hi), by omega⟩, fun M => ?_⟩
      have hq : ¬ s.length = 0 := by simpa using q
      rw [if_neg hq]
      show gAdd (nD s) (.tup []) M = _
      have := addTup (iN s) [] M (by rw [iN_len]; simp; omega)
      rw [List.append_nil] at this
      exact this
  obtain ⟨r0, hr0⟩ : ∃ d, ∀ M, gRepZ (nD [0]) (.int (if s.length = 0 then 1 else 0)) M = some d := by
    by_cases q : s.length = 0
    · rw [if_pos q]; exact ⟨nD [0], fun _ => rfl⟩
    · rw [if_neg q]; exact ⟨.tup [], fun _ => rfl⟩
  have hadd : ∀ M, gAdd (nD s) r0 M = some (nD u) := fun M => by
    have := hu2 M
    rw [hr0, Option.bind_some] at this
    exact this
  have hR : Ch G (List.range G.st.length) := ⟨by intro z; have := congrArg List.length z; rw [List.length_range] at this; simp at this; exact hne this, fun i hi => List.mem_range.mp hi, by rw [List.length_range]; exact hn⟩
  have hT : Ch G ((List.range G.st.length).take 2) := ⟨by intro z; have := congrArg List.length z; rw [List.length_take, List.length_range] at this; simp at this; exact hne this, fun i hi => List.mem_range.mp (List.mem_of_mem_take hi), by rw [List.length_take]; omega⟩
  obtain ⟨ch, hch, hat⟩ : ∃ ch : List Nat, Ch G ch ∧ L2.atI [nD (List.range G.st.length), nD u, nD ((List.range G.st.length).take 2)] (k : Int) = some (nD ch) := by
    obtain rfl | rfl | rfl : k = 0 ∨ k = 1 ∨ k = 2 := by omega
    · exact ⟨_, hR, rfl⟩
    · exact ⟨u, hu, rfl⟩
    · exact ⟨_, hT, rfl⟩
  have e2 := choice_ev h hch ha
  obtain ⟨d1, d2⟩ := tk_lt (xs := ys) (m := G.st.length) (by omega)
  have t4 := fun M => take_c0 ys (G.st.length : Int) M (by omega)
  obtain ⟨m, hm⟩ : ∃ m : Nat, tk ys G.st.length = (m : Int) := ⟨(tk ys G.st.length).toNat, by omega⟩
  rw [hm] at t4
  have e3 := more_ev h hch (m := m) (by omega) ha
  have lR : ∀ M, gLen [nD (List.range G.st.length)] M = some (.int (G.st.length : Int)) := fun M => by
    show some (D.int ((iN (List.range G.st.length)).length : Int)) = _
    rw [iN_len, List.length_range]
  have hsl : (iN s).length ≤ LINE := by rw [iN_len]; show _ ≤ 16777216; omega
  refine ⟨some (sh a), some (nD s), some (nD ch), ys.dropLast, ?_⟩
  have en : nD s = .tup (iN s) := rfl
  rw [en] at ls hadd ⊢
  have ez : decide ((s.length : Int) = 0) = decide (s.length = 0) := by
    rw [Bool.eq_iff_iff, decide_eq_true_eq, decide_eq_true_eq]; omega
  have ls2 : (iN s).length = s.length := iN_len s
  have es' := es
  clear_value a
  clear es
  generalize nD ((List.range G.st.length).take 2) = T2 at *
  generalize iN (List.range G.st.length) = IR at *
  generalize nD (List.range G.st.length) = NR at *
  generalize G.st.length = n at *
  generalize nD ch = CH at *
  generalize nD u = NU at *
  generalize nD [0] = N0 at *
  generalize iN s = S at *
  generalize s.length = ls0 at *
  generalize sh a = SA at *
  generalize iL ns = N1 at *
  generalize fdD G = X at *
  subst es'
  simp [kwb4, q_law_take, t1, t2, t3, g0, g1, om, fs, wipeR, s3, hsl, sl1, sl2, ls2, hr0, hadd, hat, q_law_is_choice_right, e2, lR, t4, q_law_is_more_right, e3]
/-! the constants -/
def SQ : Fd := ⟨2, 2, [(0, 0, 0), (1, 1, 0)], 1, 1, 2, 2⟩
theorem sq_ok : Shp SQ where
  o := ⟨by decide, by decide, by decide, by decide, by decide, fun s hs => by
    simp only [SQ, List.mem_cons, List.not_mem_nil, or_false] at hs
    rcases hs with rfl | rfl <;> decide, by decide, by decide, by decide, by decide, fun s hs => by
    simp only [SQ, List.mem_cons, List.not_mem_nil, or_false] at hs
    rcases hs with rfl | rfl <;> decide⟩
  e := rfl
  e1 := rfl
  d := rfl
  z := fun s hs => by
    simp only [SQ, List.mem_cons, List.not_mem_nil, or_false] at hs
    rcases hs with rfl | rfl <;> rfl
  n := by decide
  w := by decide
  h := by decide
theorem sq_ch : Ch SQ [0, 1] := ⟨by simp, fun i hi => by
  have : i = 0 ∨ i = 1 := by simpa using hi
  show i < 2; omega, by decide⟩
def B1 : List Sh := [((0, 1), 4), ((1, 0), 4)]
def B2 : List Sh := [((0, 0), 4), ((1, 0), 4)]
theorem b_ok {l : List Sh} (h : l = B1 ∨ l = B2) : ASh SQ l := by
  rcases h with rfl | rfl
  · exact ⟨fun a ha => by
      simp only [B1, List.mem_cons, List.not_mem_nil, or_false] at ha
      rcases ha with rfl | rfl <;> exact ⟨by decide, by decide⟩, by decide⟩
  · exact ⟨fun a ha => by
      simp only [B2, List.mem_cons, List.not_mem_nil, or_false] at ha
      rcases ha with rfl | rfl <;> exact ⟨by decide, by decide⟩, by decide⟩
theorem tail_ev (ns : List Int) (x2 x3 x4 x5 x6 x7 x9 : Option D) (M : Mem) : sSeq kw6 (sSeq kw7 (sSeq kw8 kw9)) [some (.kst (iL ns)), some (.ref 0), x2, x3, x4, x5, x6, x7, none, x9, none, none] M = some (.ret (.bl true), M) := by
  have i1 : PIn SQ (0, 1) := ⟨by decide, by decide⟩
  have i2 : PIn SQ (0, 0) := ⟨by decide, by decide⟩
  have ef : fdD SQ = .tup [.int 2, .int 2, .tup [.tup [.int 0, .int 0, .int 0], .tup [.int 1, .int 1, .int 0]], .tup [.tup [.int 1, .int 1], .tup [.int 2, .int 2]]] := rfl
  have en : nD [0, 1] = .tup [.int 0, .int 1] := rfl
  have ea : sh ((0, 1), 4) = .tup [.tup [.int 0, .int 1], .int 4] := rfl
  have eb : sh ((0, 0), 4) = .tup [.tup [.int 0, .int 0], .int 4] := rfl
  have x1 := exact_ev sq_ok.o (s := [0, 1]) (by decide) sq_ch.i (kd := 0) (by decide) (a := ((0, 1), 4)) i1
  rw [ef, en, ea, show (((0 : Nat) : Int)) = 0 from rfl] at x1
  have p1 := pp_ev sq_ok.o (er_ok (F := SQ) (a := ((0, 1), 4)) sq_ch.i (kd := 0) (by decide))
  rw [er_PP sq_ok sq_ch.ne sq_ch.i, show (AP SQ.w SQ.h).filter (al SQ [0, 1] ((0, 1), 4)) = [(0, 1), (1, 0)] by decide +kernel, show ([(0, 1), (1, 0)] : List P2).map pD = [.tup [.int 0, .int 1], .tup [.int 1, .int 0]] from rfl, ef] at p1
  have c1 := pall_ev sq_ok.o (b_ok (.inl rfl)) sq_ch.i
  rw [show PA SQ [0, 1] B1 = false by decide +kernel, ef, en, show B1.map sh = [.tup [.tup [.int 0, .int 1], .int 4], .tup [.tup [.int 1, .int 0], .int 4]] from rfl] at c1
  have c2 := pall_ev sq_ok.o (b_ok (.inr rfl)) sq_ch.i
  rw [show PA SQ [0, 1] B2 = true by decide +kernel, ef, en, show B2.map sh = [.tup [.tup [.int 0, .int 0], .int 4], .tup [.tup [.int 1, .int 0], .int 4]] from rfl] at c2
  have c3 := choice_ev sq_ok sq_ch (a := ((0, 0), 4)) i2
  rw [ef, en, eb] at c3
  have s1 := cpS2 (d := .tup [.tup [.int 0, .int 1], .tup [.int 1, .int 0]]) rfl
  have s2 := cpS2 (d := .bl false) rfl
  have s3 := cpS2 (d := .bl true) rfl
  rw [ev_seq]
  generalize (ER SQ [0, 1] 0 ((0, 1), 4)).map rD = RD at *
  generalize iL ns = N1 at *
  simp [kw6, kw7, kw8, kw9, q_law_exact, x1, qpossible_places, p1, s1, qparts_all, c1, s2, c2, s3, q_law_is_choice_right, c3]
theorem law_data : ∀ ns : List Int, ns.length ≤ 63 → claw [.kst (ns.map .int)] [] = some (.bl true, []) := by
  intro ns hl
  obtain ⟨xs, e⟩ := draws_ev ns hl 260 (by decide)
  have e0 : kw0 [some (.kst (iL ns)), none, none, none, none, none, none, none, none, none, none, none] [] = some (.nx [some (.kst (iL ns)), some (.ref 0), none, none, none, none, none, none, none, none, none, none], [.lst (iL xs)]) := by
    have ha := kst_argP ns []
    have hx := nrs_iL xs
    generalize iL ns = N at *
    generalize iL xs = X at *
    have e' : c_law_draws [.kst N, .int 260] [] = some (.ref 0, [.lst X]) := e
    simp [kw0, q_law_draws, callP, argsP, ha, e', anyRef, hx]
  obtain ⟨b, ys, hb, e1⟩ := kw1_ev ns xs hl
  obtain ⟨G, zs, ⟨h, hne⟩, e2⟩ := kw23_ev ns ys b hb
  have hloop := loop_map (fun (k : Nat) => D.int (0 + k)) (c := chk none (rgD 0 3)) (step := sStep (tN 5) kwb4) (fun pre ρ M => ∃ (y5 y6 y7 y9 : Option D) (us : List Int), ρ = [some (.kst (iL ns)), some (.ref 0), some (.int b), some (fdD G), some (nD (List.range G.st.length)), y5, y6, y7, none, y9, none, none] ∧ M = [.lst (iL us)]) (List.range 3) (ρ := [some (.kst (iL ns)), some (.ref 0), some (.int b), some (fdD G), some (nD (List.range G.st.length)), none, none, none, none, none, none, none]) (M := [.lst (iL zs)]) (fun _ _ _ _ => rfl) (by
    rintro pre k suf ρ M hys ⟨y5, y6, y7, y9, us, rfl, rfl⟩
    obtain ⟨hk, _⟩ := rg_pre hys
    obtain ⟨z6, z7, z9, vs, e⟩ := turn_ev h hne ns us b hk y5 y6 y7 y9
    exact ⟨_, _, e, _, z6, z7, z9, vs, rfl, rfl⟩) ⟨none, none, none, none, zs, rfl, rfl⟩
  obtain ⟨ρ', M', e4, y5, y6, y7, y9, us, rfl, rfl⟩ := hloop
  rw [← rgD_map] at e4
  have e4' : kw4 [some (.kst (iL ns)), some (.ref 0), some (.int b), some (fdD G), some (nD (List.range G.st.length)), none, none, none, none, none, none, none] [.lst (iL zs)] = some (.nx [some (.kst (iL ns)), some (.ref 0), some (.int b), some (fdD G), some (nD (List.range G.st.length)), y5, y6, y7, none, y9, none, none], [.lst (iL us)]) := by
    have r1 : ∀ M, rg1 [.int 3] M = some ((rgD 0 3, none), M) := fun M => rg0L (n := 3) (by decide) M
    rw [kw4_eq]
    generalize nD (List.range G.st.length) = NR at *
    generalize iL ns = N at *
    generalize iL zs = ZS at *
    generalize iL us = US at *
    generalize fdD G = X at *
    simp [r1, e4]
  have c5 := line_ev h
  have e5 : kw5 [some (.kst (iL ns)), some (.ref 0), some (.int b), some (fdD G), some (nD (List.range G.st.length)), y5, y6, y7, none, y9, none, none] [.lst (iL us)] = some (.nx [some (.kst (iL ns)), some (.ref 0), some (.int b), some (fdD G), some (nD (List.range G.st.length)), y5, y6, y7, none, y9, none, none], [.lst (iL us)]) := by
    clear e4 e4' e2
    generalize nD (List.range G.st.length) = NR at *
    generalize iL ns = N at *
    generalize fdD G = X at *
    simp [kw5, q_law_is_line_right, c5]
  have et := tail_ev ns (some (.int b)) (some (fdD G)) (some (nD (List.range G.st.length))) y5 y6 y7 y9 [.lst (iL us)]
  have ea : sSeq kw0 (sSeq kw1 (sSeq (sSeq kw2 kw3) (sSeq kw4 (sSeq kw5 (sSeq kw6 (sSeq kw7 (sSeq kw8 kw9))))))) = blaw := by
    rw [kw_eq]; simp only [seq_assoc]
  have main : blaw [some (.kst (iL ns)), none, none, none, none, none, none, none, none, none, none, none] [] = some (.ret (.bl true), [.lst (iL us)]) := by
    rw [← ea, seq_step e0, seq_step e1, seq_step e2, seq_step e4', seq_step e5]
    exact et
  show claw [.kst (iL ns)] [] = _
  exact run_ret main rfl rfl
end LP
namespace LP
open PySem PySem.Spec PyProof.Rows L2 PF
def topS (i : Nat) : Stmt := PySem.Challenge.pw_shocksknown_k28_whole_places_that_statio.main.body.getD i (.Pass ⟨0, 0, 0, 0⟩)
section
variable {P : Program} {w : World} {K : PySem.W.Frag} {mg : Str → Option Value} {base : Heap}
abbrev sthow_far : Stmt := topS 1
theorem schow_far : FnScope ["one", "other"] ["one", "other"] (defScope sthow_far) := ⟨rfl, rfl, rfl, by decide +kernel, rfl, by decide +kernel, by decide +kernel⟩
theorem okhow_far {f : Addr} {fd : FuncData} (F : FunD K "how_far" "how_far" (defArgs sthow_far) (defBody sthow_far) (defScope sthow_far) [] [] f fd) (g : mg "how_far" = some (.ref f)) (B : Bn mg)  : Cal P w K mg base 1 "how_far" chow_far 2 := by
  have nd := schow_far.nd
  refine cal_of (ps := ["one", "other"]) g F.kp (F.bindsN fun _ _ _ _ _ _ us hl => match us, hl with | [_, _], _ => rfl) (fn_ok (k := 0) F schow_far fun cdv A outer s H E hr => ?_)
  exact pfs_one (pfs_ret (pf_bin op_addA o_add (pf_b call_abs o_i1 (by rfl) B.abs boot_abs (pfa_cons (pf_bin op_sub o_sub (pf_ix ix_seq o_ix (pf_var 0) (pf_int) (fun _ _ => rfl)) (pf_ix ix_seq o_ix (pf_var 1) (pf_int) (fun _ _ => rfl))) (pfa_nil))) (pf_b call_abs o_i1 (by rfl) B.abs boot_abs (pfa_cons (pf_bin op_sub o_sub (pf_ix ix_seq o_ix (pf_var 0) (pf_int) (fun _ _ => rfl)) (pf_ix ix_seq o_ix (pf_var 1) (pf_int) (fun _ _ => rfl))) (pfa_nil)))))
abbrev stall_places : Stmt := topS 2
theorem scall_places : FnScope ["field", "x", "y"] ["field"] (defScope stall_places) := ⟨rfl, rfl, rfl, by decide +kernel, rfl, by decide +kernel, by decide +kernel⟩
theorem okall_places {f : Addr} {fd : FuncData} (F : FunD K "all_places" "all_places" (defArgs stall_places) (defBody stall_places) (defScope stall_places) [] [] f fd) (g : mg "all_places" = some (.ref f)) (B : Bn mg)  : Cal P w K mg base 1 "all_places" call_places 1 := by
  have nd := scall_places.nd
  refine cal_of (ps := ["field"]) g F.kp (F.bindsN fun _ _ _ _ _ _ us hl => match us, hl with | [_], _ => rfl) (fn_ok (k := 0) F scall_places fun cdv A outer s H E hr => ?_)
  exact pfs_one (pfs_ret (pf_ty call_tuple_of o_tuple (by rfl) B.tuple boot_tuple (pfa_cons (pf_fz (pfn_lc2 (own := [("x", 1), ("y", 2)]) rfl nd (pfi_rg1 (by rfl) B.range (pfa_cons (pf_ix ix_seq o_ix (pf_var 0) (pf_int) (fun _ _ => rfl)) (pfa_nil))) (blkOk_by (own := [("x", 1), ("y", 2)]) (N := ["field", "x", "y"]) (by with_unfolding_all rfl)) (vs1 := [2]) (by decide) (fun _ _ _ _ _ => pfg_name (i := 1) nd rfl (by first | exact Or.inl rfl | exact Or.inr rfl)) (fun _ _ _ _ _ => pfts_nil) (fun _ _ _ _ _ => pfr_rg1 (by rfl) B.range (pfa_cons (pf_ix ix_seq o_ix (pf_var 0) (pf_int) (fun _ _ => rfl)) (pfa_nil))) (fun _ _ _ _ _ => pfg_name (i := 2) nd rfl (by first | exact Or.inl rfl | exact Or.inr rfl)) (fun _ _ _ _ _ => pfts_nil) (fun _ _ _ _ _ => pf_tup (pfa_cons (pf_var 1) (pfa_cons (pf_var 2) (pfa_nil)))))) (pfa_nil))))
abbrev stfar_from_station : Stmt := topS 3
theorem scfar_from_station : FnScope ["field", "station", "place"] ["field", "station", "place"] (defScope stfar_from_station) := ⟨rfl, rfl, rfl, by decide +kernel, rfl, by decide +kernel, by decide +kernel⟩
theorem okfar_from_station {f : Addr} {fd : FuncData} (F : FunD K "far_from_station" "far_from_station" (defArgs stfar_from_station) (defBody stfar_from_station) (defScope stfar_from_station) [] [] f fd) (g : mg "far_from_station" = some (.ref f)) (B : Bn mg) (Chow_far : Cal P w K mg base 1 "how_far" qhow_far 2) : Cal P w K mg base 2 "far_from_station" cfar_from_station 3 := by
  have nd := scfar_from_station.nd
  refine cal_of (ps := ["field", "station", "place"]) g F.kp (F.bindsN fun _ _ _ _ _ _ us hl => match us, hl with | [_, _, _], _ => rfl) (fn_ok (k := 1) F scfar_from_station fun cdv A outer s H E hr => ?_)
  exact pfs_one (pfs_ret (pf_callC Chow_far (hr.mono (by decide)) (by rfl) (pfa_cons (pf_slice (pf_ix ix_seq o_ix (pf_ix ix_seq o_ix (pf_var 0) (pf_int) (fun _ _ => rfl)) (pf_var 1) (fun _ _ => rfl)) (pfo_none) (pfo_some (pf_int))) (pfa_cons (pf_var 2) (pfa_nil))) (len_cons (len_cons len_nil))))
abbrev stallowed_times : Stmt := topS 4
theorem scallowed_times : FnScope ["field", "reading", "place", "station", "kind", "minute", "error", "low", "high", "far"] ["field", "reading", "place"] (defScope stallowed_times) := ⟨rfl, rfl, rfl, by decide +kernel, rfl, by decide +kernel, by decide +kernel⟩
theorem okallowed_times {f : Addr} {fd : FuncData} (F : FunD K "allowed_times" "allowed_times" (defArgs stallowed_times) (defBody stallowed_times) (defScope stallowed_times) [] [] f fd) (g : mg "allowed_times" = some (.ref f)) (B : Bn mg) (Cfar_from_station : Cal P w K mg base 2 "far_from_station" qfar_from_station 3) : Cal P w K mg base 3 "allowed_times" callowed_times 3 := by
  have nd := scallowed_times.nd
  refine cal_of (ps := ["field", "reading", "place"]) g F.kp (F.bindsN fun _ _ _ _ _ _ us hl => match us, hl with | [_, _, _], _ => rfl) (fn_ok (k := 2) F scallowed_times fun cdv A outer s H E hr => ?_)
  exact pfs_cons (pfs_asg (vs := [3, 4, 5]) (pf_var 1) (pfg_tup rfl (pfgs_cons (pfg_name (i := 3) nd rfl (by first | exact Or.inl rfl | exact Or.inr rfl)) (pfgs_cons (pfg_name (i := 4) nd rfl (by first | exact Or.inl rfl | exact Or.inr rfl)) (pfgs_cons (pfg_name (i := 5) nd rfl (by first | exact Or.inl rfl | exact Or.inr rfl)) (pfgs_nil))))))
      (pfs_cons (pfs_set (i := 6) nd rfl (by first | exact Or.inl rfl | exact Or.inr rfl) (pf_ix ix_seq o_ix (pf_ix ix_seq o_ix (pf_ix ix_seq o_ix (pf_var 0) (pf_int) (fun _ _ => rfl)) (pf_var 3) (fun _ _ => rfl)) (pf_int) (fun _ _ => rfl)))
      (pfs_cons (pfs_asg (vs := [7, 8]) (pf_ix ix_seq o_ix (pf_ix ix_seq o_ix (pf_var 0) (pf_int) (fun _ _ => rfl)) (pf_var 4) (fun _ _ => rfl)) (pfg_tup rfl (pfgs_cons (pfg_name (i := 7) nd rfl (by first | exact Or.inl rfl | exact Or.inr rfl)) (pfgs_cons (pfg_name (i := 8) nd rfl (by first | exact Or.inl rfl | exact Or.inr rfl)) (pfgs_nil)))))
      (pfs_cons (pfs_set (i := 9) nd rfl (by first | exact Or.inl rfl | exact Or.inr rfl) (pf_callC Cfar_from_station (hr.mono (by decide)) (by rfl) (pfa_cons (pf_var 0) (pfa_cons (pf_var 3) (pfa_cons (pf_var 2) (pfa_nil)))) (len_cons (len_cons (len_cons len_nil)))))
      (pfs_one (pfs_ret (pf_tup (pfa_cons (pf_bin op_sub o_sub (pf_bin op_sub o_sub (pf_var 5) (pf_var 6)) (pf_bin op_mulA o_mul (pf_var 8) (pf_var 9))) (pfa_cons (pf_bin op_sub o_sub (pf_bin op_addA o_add (pf_var 5) (pf_var 6)) (pf_bin op_mulA o_mul (pf_var 7) (pf_var 9))) (pfa_nil)))))))))
abbrev stdue_minutes : Stmt := topS 5
theorem scdue_minutes : FnScope ["field", "station", "kind", "place", "time", "error", "low", "high", "far"] ["field", "station", "kind", "place", "time"] (defScope stdue_minutes) := ⟨rfl, rfl, rfl, by decide +kernel, rfl, by decide +kernel, by decide +kernel⟩
theorem okdue_minutes {f : Addr} {fd : FuncData} (F : FunD K "due_minutes" "due_minutes" (defArgs stdue_minutes) (defBody stdue_minutes) (defScope stdue_minutes) [] [] f fd) (g : mg "due_minutes" = some (.ref f)) (B : Bn mg) (Cfar_from_station : Cal P w K mg base 2 "far_from_station" qfar_from_station 3) : Cal P w K mg base 3 "due_minutes" cdue_minutes 5 := by
  have nd := scdue_minutes.nd
  refine cal_of (ps := ["field", "station", "kind", "place", "time"]) g F.kp (F.bindsN fun _ _ _ _ _ _ us hl => match us, hl with | [_, _, _, _, _], _ => rfl) (fn_ok (k := 2) F scdue_minutes fun cdv A outer s H E hr => ?_)
  exact pfs_cons (pfs_set (i := 5) nd rfl (by first | exact Or.inl rfl | exact Or.inr rfl) (pf_ix ix_seq o_ix (pf_ix ix_seq o_ix (pf_ix ix_seq o_ix (pf_var 0) (pf_int) (fun _ _ => rfl)) (pf_var 1) (fun _ _ => rfl)) (pf_int) (fun _ _ => rfl)))
      (pfs_cons (pfs_asg (vs := [6, 7]) (pf_ix ix_seq o_ix (pf_ix ix_seq o_ix (pf_var 0) (pf_int) (fun _ _ => rfl)) (pf_var 2) (fun _ _ => rfl)) (pfg_tup rfl (pfgs_cons (pfg_name (i := 6) nd rfl (by first | exact Or.inl rfl | exact Or.inr rfl)) (pfgs_cons (pfg_name (i := 7) nd rfl (by first | exact Or.inl rfl | exact Or.inr rfl)) (pfgs_nil)))))
      (pfs_cons (pfs_set (i := 8) nd rfl (by first | exact Or.inl rfl | exact Or.inr rfl) (pf_callC Cfar_from_station (hr.mono (by decide)) (by rfl) (pfa_cons (pf_var 0) (pfa_cons (pf_var 1) (pfa_cons (pf_var 3) (pfa_nil)))) (len_cons (len_cons (len_cons len_nil)))))
      (pfs_one (pfs_ret (pf_tup (pfa_cons (pf_bin op_sub o_sub (pf_bin op_addA o_add (pf_var 4) (pf_bin op_mulA o_mul (pf_var 6) (pf_var 8))) (pf_var 5)) (pfa_cons (pf_bin op_addA o_add (pf_bin op_addA o_add (pf_var 4) (pf_bin op_mulA o_mul (pf_var 7) (pf_var 8))) (pf_var 5)) (pfa_nil))))))))
abbrev stparts_two : Stmt := topS 7
theorem scparts_two : FnScope ["field", "station", "one", "other", "first", "second", "place", "time"] ["field", "station", "one", "other"] (defScope stparts_two) := ⟨rfl, rfl, rfl, by decide +kernel, rfl, by decide +kernel, by decide +kernel⟩
theorem okparts_two {f : Addr} {fd : FuncData} (F : FunD K "parts_two" "parts_two" (defArgs stparts_two) (defBody stparts_two) (defScope stparts_two) [] [] f fd) (g : mg "parts_two" = some (.ref f)) (B : Bn mg) (Cdue_minutes : Cal P w K mg base 3 "due_minutes" qdue_minutes 5) : Cal P w K mg base 4 "parts_two" cparts_two 4 := by
  have nd := scparts_two.nd
  refine cal_of (ps := ["field", "station", "one", "other"]) g F.kp (F.bindsN fun _ _ _ _ _ _ us hl => match us, hl with | [_, _, _, _], _ => rfl) (fn_ok (k := 3) F scparts_two fun cdv A outer s H E hr => ?_)
  exact pfs_cons (pfs_asg (vs := [4, 5]) (pf_fz (pfn_lc (own := [("place", 6), ("time", 7)]) rfl nd (pfi_sq (pf_tup (pfa_cons (pf_var 2) (pfa_cons (pf_var 3) (pfa_nil))))) (blkOk_by (own := [("place", 6), ("time", 7)]) (N := ["field", "station", "one", "other", "first", "second", "place", "time"]) (by with_unfolding_all rfl)) (fun _ _ _ _ _ => pfg_tup rfl (pfgs_cons (pfg_name (i := 6) nd rfl (by first | exact Or.inl rfl | exact Or.inr rfl)) (pfgs_cons (pfg_name (i := 7) nd rfl (by first | exact Or.inl rfl | exact Or.inr rfl)) (pfgs_nil)))) (fun _ _ _ _ _ => pfts_nil) (fun _ _ _ _ _ => pf_callC Cdue_minutes (hr.mono (by decide)) (by rfl) (pfa_cons (pf_var 0) (pfa_cons (pf_var 1) (pfa_cons (pf_int) (pfa_cons (pf_var 6) (pfa_cons (pf_var 7) (pfa_nil)))))) (len_cons (len_cons (len_cons (len_cons (len_cons len_nil)))))))) (pfg_lst rfl (pfgs_cons (pfg_name (i := 4) nd rfl (by first | exact Or.inl rfl | exact Or.inr rfl)) (pfgs_cons (pfg_name (i := 5) nd rfl (by first | exact Or.inl rfl | exact Or.inr rfl)) (pfgs_nil)))))
      (pfs_one (pfs_ret (pf_or (pf_cmp op_lt o_cmp (pf_ix ix_seq o_ix (pf_var 4) (pf_int) (fun _ _ => rfl)) (pf_ix ix_seq o_ix (pf_var 5) (pf_int) (fun _ _ => rfl)) (nomark _)) (pf_one (pf_cmp op_lt o_cmp (pf_ix ix_seq o_ix (pf_var 5) (pf_int) (fun _ _ => rfl)) (pf_ix ix_seq o_ix (pf_var 4) (pf_int) (fun _ _ => rfl)) (nomark _))))))
abbrev stparted_by : Stmt := topS 8
theorem scparted_by : FnScope ["field", "one", "other", "station"] ["field", "one", "other"] (defScope stparted_by) := ⟨rfl, rfl, rfl, by decide +kernel, rfl, by decide +kernel, by decide +kernel⟩
theorem okparted_by {f : Addr} {fd : FuncData} (F : FunD K "parted_by" "parted_by" (defArgs stparted_by) (defBody stparted_by) (defScope stparted_by) [] [] f fd) (g : mg "parted_by" = some (.ref f)) (B : Bn mg) (Cparts_two : Cal P w K mg base 4 "parts_two" qparts_two 4) : Cal P w K mg base 5 "parted_by" cparted_by 3 := by
  have nd := scparted_by.nd
  refine cal_of (ps := ["field", "one", "other"]) g F.kp (F.bindsN fun _ _ _ _ _ _ us hl => match us, hl with | [_, _, _], _ => rfl) (fn_ok (k := 4) F scparted_by fun cdv A outer s H E hr => ?_)
  exact pfs_one (pfs_ret (pf_ty call_tuple_of o_tuple (by rfl) B.tuple boot_tuple (pfa_cons (pf_fz (pfn_lc (own := [("station", 3)]) rfl nd (pfi_rg1 (by rfl) B.range (pfa_cons (pf_b call_len o_len (by rfl) B.len boot_len (pfa_cons (pf_ix ix_seq o_ix (pf_var 0) (pf_int) (fun _ _ => rfl)) (pfa_nil))) (pfa_nil))) (blkOk_by (own := [("station", 3)]) (N := ["field", "one", "other", "station"]) (by with_unfolding_all rfl)) (fun _ _ _ _ _ => pfg_name (i := 3) nd rfl (by first | exact Or.inl rfl | exact Or.inr rfl)) (fun _ _ _ _ _ => pfts_one (pft_tru (pf_callC Cparts_two (hr.mono (by decide)) (by rfl) (pfa_cons (pf_var 0) (pfa_cons (pf_var 3) (pfa_cons (pf_var 1) (pfa_cons (pf_var 2) (pfa_nil))))) (len_cons (len_cons (len_cons (len_cons len_nil))))))) (fun _ _ _ _ _ => pf_var 3))) (pfa_nil))))
abbrev stnot_parted : Stmt := topS 9
theorem scnot_parted : FnScope ["field", "chosen", "shocks", "found", "one", "other", "station"] ["field", "chosen", "shocks"] (defScope stnot_parted) := ⟨rfl, rfl, rfl, by decide +kernel, rfl, by decide +kernel, by decide +kernel⟩
theorem oknot_parted {f : Addr} {fd : FuncData} (F : FunD K "not_parted" "not_parted" (defArgs stnot_parted) (defBody stnot_parted) (defScope stnot_parted) [] [] f fd) (g : mg "not_parted" = some (.ref f)) (B : Bn mg) (Cparts_two : Cal P w K mg base 4 "parts_two" qparts_two 4) : Cal P w K mg base 5 "not_parted" cnot_parted 3 := by
  have nd := scnot_parted.nd
  refine cal_of (ps := ["field", "chosen", "shocks"]) g F.kp (F.bindsN fun _ _ _ _ _ _ us hl => match us, hl with | [_, _, _], _ => rfl) (fn_ok (k := 4) F scnot_parted fun cdv A outer s H E hr => ?_)
  exact pfs_cons (pfs_set (i := 3) nd rfl (by first | exact Or.inl rfl | exact Or.inr rfl) (pf_mut (pfn_lst (pfa_nil))))
      (pfs_cons (pfs_for (vs := [4]) PassesOwn.never rfl (pfi_rg1 (by rfl) B.range (pfa_cons (pf_b call_len o_len (by rfl) B.len boot_len (pfa_cons (pf_var 2) (pfa_nil))) (pfa_nil))) (pfg_name (i := 4) nd rfl (by first | exact Or.inl rfl | exact Or.inr rfl))
      (pfs_one (pfs_for (vs := [5]) PassesOwn.never rfl (pfi_rg2 (by rfl) B.range (pfa_cons (pf_bin op_addA o_add (pf_var 4) (pf_int)) (pfa_cons (pf_b call_len o_len (by rfl) B.len boot_len (pfa_cons (pf_var 2) (pfa_nil))) (pfa_nil)))) (pfg_name (i := 5) nd rfl (by first | exact Or.inl rfl | exact Or.inr rfl))
      (pfs_one (pfs_if (pft_not (pft_tru (pf_b (cr_any rfl) o_any (by rfl) B.any boot_any (pfa_cons (pf_fz (pfn_lc (own := [("station", 6)]) rfl nd (pfi_sq (pf_var 1)) (blkOk_by (own := [("station", 6)]) (N := ["field", "chosen", "shocks", "found", "one", "other", "station"]) (by with_unfolding_all rfl)) (fun _ _ _ _ _ => pfg_name (i := 6) nd rfl (by first | exact Or.inl rfl | exact Or.inr rfl)) (fun _ _ _ _ _ => pfts_nil) (fun _ _ _ _ _ => pf_callC Cparts_two (hr.mono (by decide)) (by rfl) (pfa_cons (pf_var 0) (pfa_cons (pf_var 6) (pfa_cons (pf_ix ix_seq o_ix (pf_var 2) (pf_var 4) (fun _ _ => rfl)) (pfa_cons (pf_ix ix_seq o_ix (pf_var 2) (pf_var 5) (fun _ _ => rfl)) (pfa_nil))))) (len_cons (len_cons (len_cons (len_cons len_nil))))))) (pfa_nil)))))
      (pfs_one (pfs_expr (pf_m PySem.F.plainAttrs_list PySem.F.slot_list_append PySem.F.type_list_append mt_append o_append (pf_var 3) (pfa_cons (pf_tup (pfa_cons (pf_var 4) (pfa_cons (pf_var 5) (pfa_nil)))) (pfa_nil)))))
      (pfs_nil))))))
      (pfs_one (pfs_ret (pf_ty call_tuple_of o_tuple (by rfl) B.tuple boot_tuple (pfa_cons (pf_var 3) (pfa_nil))))))
abbrev stparts_all : Stmt := topS 10
theorem scparts_all : FnScope ["field", "chosen", "shocks"] ["field", "chosen", "shocks"] (defScope stparts_all) := ⟨rfl, rfl, rfl, by decide +kernel, rfl, by decide +kernel, by decide +kernel⟩
theorem okparts_all {f : Addr} {fd : FuncData} (F : FunD K "parts_all" "parts_all" (defArgs stparts_all) (defBody stparts_all) (defScope stparts_all) [] [] f fd) (g : mg "parts_all" = some (.ref f)) (B : Bn mg) (Cnot_parted : Cal P w K mg base 5 "not_parted" qnot_parted 3) : Cal P w K mg base 6 "parts_all" cparts_all 3 := by
  have nd := scparts_all.nd
  refine cal_of (ps := ["field", "chosen", "shocks"]) g F.kp (F.bindsN fun _ _ _ _ _ _ us hl => match us, hl with | [_, _, _], _ => rfl) (fn_ok (k := 5) F scparts_all fun cdv A outer s H E hr => ?_)
  exact pfs_one (pfs_ret (pf_cmp (op_eqD hr.units) o_eq (pf_b call_len o_len (by rfl) B.len boot_len (pfa_cons (pf_callC Cnot_parted (hr.mono (by decide)) (by rfl) (pfa_cons (pf_var 0) (pfa_cons (pf_var 1) (pfa_cons (pf_var 2) (pfa_nil)))) (len_cons (len_cons (len_cons len_nil)))) (pfa_nil))) (pf_int) (nomark _)))
abbrev sttimes_at : Stmt := topS 12
theorem sctimes_at : FnScope ["field", "readings", "place", "spans", "reading", "least", "greatest", "span"] ["field", "readings", "place"] (defScope sttimes_at) := ⟨rfl, rfl, rfl, by decide +kernel, rfl, by decide +kernel, by decide +kernel⟩
theorem oktimes_at {f : Addr} {fd : FuncData} (F : FunD K "times_at" "times_at" (defArgs sttimes_at) (defBody sttimes_at) (defScope sttimes_at) [] [] f fd) (g : mg "times_at" = some (.ref f)) (B : Bn mg) (Callowed_times : Cal P w K mg base 3 "allowed_times" qallowed_times 3) : Cal P w K mg base 4 "times_at" ctimes_at 3 := by
  have nd := sctimes_at.nd
  refine cal_of (ps := ["field", "readings", "place"]) g F.kp (F.bindsN fun _ _ _ _ _ _ us hl => match us, hl with | [_, _, _], _ => rfl) (fn_ok (k := 3) F sctimes_at fun cdv A outer s H E hr => ?_)
  exact pfs_cons (pfs_setLcF (own := [("reading", 4)]) (i := 3) rfl nd rfl rfl (sw_true rfl rfl rfl (by decide +kernel)) (pfi_sq (pf_var 1)) (blkOk_by (own := [("reading", 4)]) (N := ["field", "readings", "place", "spans", "reading", "least", "greatest", "span"]) (by with_unfolding_all rfl)) (fun _ _ _ _ _ => pfg_name (i := 4) nd rfl (by first | exact Or.inl rfl | exact Or.inr rfl)) (fun _ _ _ _ _ => pfts_nil) (fun _ _ _ _ _ => pf_callC Callowed_times (hr.mono (by decide)) (by rfl) (pfa_cons (pf_var 0) (pfa_cons (pf_var 4) (pfa_cons (pf_var 2) (pfa_nil)))) (len_cons (len_cons (len_cons len_nil)))))
      (pfs_cons (pfs_par (i := 5) (j := 6) rfl nd rfl rfl (by decide) rfl rfl (pfa_cons (pf_b (cr_maxDt rfl hr.units) o_max1 (by rfl) B.max boot_max (pfa_cons (pf_fz (pfn_lc (own := [("span", 7)]) rfl nd (pfi_sq (pf_var 3)) (blkOk_by (own := [("span", 7)]) (N := ["field", "readings", "place", "spans", "reading", "least", "greatest", "span"]) (by with_unfolding_all rfl)) (fun _ _ _ _ _ => pfg_name (i := 7) nd rfl (by first | exact Or.inl rfl | exact Or.inr rfl)) (fun _ _ _ _ _ => pfts_nil) (fun _ _ _ _ _ => pf_ix ix_seq o_ix (pf_var 7) (pf_int) (fun _ _ => rfl)))) (pfa_nil))) (pfa_cons (pf_b (cr_minDt rfl hr.units) o_min1 (by rfl) B.min boot_min (pfa_cons (pf_fz (pfn_lc (own := [("span", 7)]) rfl nd (pfi_sq (pf_var 3)) (blkOk_by (own := [("span", 7)]) (N := ["field", "readings", "place", "spans", "reading", "least", "greatest", "span"]) (by with_unfolding_all rfl)) (fun _ _ _ _ _ => pfg_name (i := 7) nd rfl (by first | exact Or.inl rfl | exact Or.inr rfl)) (fun _ _ _ _ _ => pfts_nil) (fun _ _ _ _ _ => pf_ix ix_seq o_ix (pf_var 7) (pf_int) (fun _ _ => rfl)))) (pfa_nil))) (pfa_nil))) (by rfl))
      (pfs_one (pfs_ret (pf_if (pft_cmp op_le o_cmp (pf_var 5) (pf_var 6) (nomark _)) (pf_tup (pfa_cons (pf_var 5) (pfa_cons (pf_var 6) (pfa_nil)))) (pf_non)))))
abbrev stis_place_possible : Stmt := topS 13
theorem scis_place_possible : FnScope ["field", "readings", "place"] ["field", "readings", "place"] (defScope stis_place_possible) := ⟨rfl, rfl, rfl, by decide +kernel, rfl, by decide +kernel, by decide +kernel⟩
theorem okis_place_possible {f : Addr} {fd : FuncData} (F : FunD K "is_place_possible" "is_place_possible" (defArgs stis_place_possible) (defBody stis_place_possible) (defScope stis_place_possible) [] [] f fd) (g : mg "is_place_possible" = some (.ref f)) (B : Bn mg) (Ctimes_at : Cal P w K mg base 4 "times_at" qtimes_at 3) : Cal P w K mg base 5 "is_place_possible" cis_place_possible 3 := by
  have nd := scis_place_possible.nd
  refine cal_of (ps := ["field", "readings", "place"]) g F.kp (F.bindsN fun _ _ _ _ _ _ us hl => match us, hl with | [_, _, _], _ => rfl) (fn_ok (k := 4) F scis_place_possible fun cdv A outer s H E hr => ?_)
  exact pfs_one (pfs_ret (pf_or (pf_cmp (op_eqD hr.units) o_eq (pf_b call_len o_len (by rfl) B.len boot_len (pfa_cons (pf_var 1) (pfa_nil))) (pf_int) (nomark _)) (pf_one (pf_cmp op_isNotA o_isNot (pf_callC Ctimes_at (hr.mono (by decide)) (by rfl) (pfa_cons (pf_var 0) (pfa_cons (pf_var 1) (pfa_cons (pf_var 2) (pfa_nil)))) (len_cons (len_cons (len_cons len_nil)))) (pf_non) (nomark _)))))
abbrev stpossible_places : Stmt := topS 14
theorem scpossible_places : FnScope ["field", "readings", "place"] ["field", "readings"] (defScope stpossible_places) := ⟨rfl, rfl, rfl, by decide +kernel, rfl, by decide +kernel, by decide +kernel⟩
theorem okpossible_places {f : Addr} {fd : FuncData} (F : FunD K "possible_places" "possible_places" (defArgs stpossible_places) (defBody stpossible_places) (defScope stpossible_places) [] [] f fd) (g : mg "possible_places" = some (.ref f)) (B : Bn mg) (Call_places : Cal P w K mg base 1 "all_places" qall_places 1) (Cis_place_possible : Cal P w K mg base 5 "is_place_possible" qis_place_possible 3) : Cal P w K mg base 6 "possible_places" cpossible_places 2 := by
  have nd := scpossible_places.nd
  refine cal_of (ps := ["field", "readings"]) g F.kp (F.bindsN fun _ _ _ _ _ _ us hl => match us, hl with | [_, _], _ => rfl) (fn_ok (k := 5) F scpossible_places fun cdv A outer s H E hr => ?_)
  exact pfs_one (pfs_ret (pf_ty call_tuple_of o_tuple (by rfl) B.tuple boot_tuple (pfa_cons (pf_fz (pfn_lc (own := [("place", 2)]) rfl nd (pfi_sq (pf_callC Call_places (hr.mono (by decide)) (by rfl) (pfa_cons (pf_var 0) (pfa_nil)) (len_cons len_nil))) (blkOk_by (own := [("place", 2)]) (N := ["field", "readings", "place"]) (by with_unfolding_all rfl)) (fun _ _ _ _ _ => pfg_name (i := 2) nd rfl (by first | exact Or.inl rfl | exact Or.inr rfl)) (fun _ _ _ _ _ => pfts_one (pft_tru (pf_callC Cis_place_possible (hr.mono (by decide)) (by rfl) (pfa_cons (pf_var 0) (pfa_cons (pf_var 1) (pfa_cons (pf_var 2) (pfa_nil)))) (len_cons (len_cons (len_cons len_nil)))))) (fun _ _ _ _ _ => pf_var 2))) (pfa_nil))))
abbrev stis_possible : Stmt := topS 15
theorem scis_possible : FnScope ["field", "readings"] ["field", "readings"] (defScope stis_possible) := ⟨rfl, rfl, rfl, by decide +kernel, rfl, by decide +kernel, by decide +kernel⟩
theorem okis_possible {f : Addr} {fd : FuncData} (F : FunD K "is_possible" "is_possible" (defArgs stis_possible) (defBody stis_possible) (defScope stis_possible) [] [] f fd) (g : mg "is_possible" = some (.ref f)) (B : Bn mg) (Cpossible_places : Cal P w K mg base 6 "possible_places" qpossible_places 2) : Cal P w K mg base 7 "is_possible" cis_possible 2 := by
  have nd := scis_possible.nd
  refine cal_of (ps := ["field", "readings"]) g F.kp (F.bindsN fun _ _ _ _ _ _ us hl => match us, hl with | [_, _], _ => rfl) (fn_ok (k := 6) F scis_possible fun cdv A outer s H E hr => ?_)
  exact pfs_one (pfs_ret (pf_cmp op_gt o_cmp (pf_b call_len o_len (by rfl) B.len boot_len (pfa_cons (pf_callC Cpossible_places (hr.mono (by decide)) (by rfl) (pfa_cons (pf_var 0) (pfa_cons (pf_var 1) (pfa_nil))) (len_cons (len_cons len_nil))) (pfa_nil))) (pf_int) (nomark _)))
abbrev st_law_draws : Stmt := topS 17
theorem sc_law_draws : FnScope ["script", "many", "cells", "cell", "rest", "draws", "k", "at", "mingled"] ["script", "many"] (defScope st_law_draws) := ⟨rfl, rfl, rfl, by decide +kernel, rfl, by decide +kernel, by decide +kernel⟩
theorem ok_law_draws {f : Addr} {fd : FuncData} (F : FunD K "_law_draws" "_law_draws" (defArgs st_law_draws) (defBody st_law_draws) (defScope st_law_draws) [] [] f fd) (g : mg "_law_draws" = some (.ref f)) (B : Bn mg)  : Cal P w K mg base 1 "_law_draws" c_law_draws 2 := by
  have nd := sc_law_draws.nd
  refine cal_of (ps := ["script", "many"]) g F.kp (F.bindsN fun _ _ _ _ _ _ us hl => match us, hl with | [_, _], _ => rfl) (fn_ok (k := 0) F sc_law_draws fun cdv A outer s H E hr => ?_)
  exact pfs_cons (pfs_setLcM (own := [("cell", 3)]) (i := 2) rfl nd rfl rfl (sw_true rfl rfl rfl (by decide +kernel)) (pfi_sq (pf_var 0)) (blkOk_by (own := [("cell", 3)]) (N := ["script", "many", "cells", "cell", "rest", "draws", "k", "at", "mingled"]) (by with_unfolding_all rfl)) (fun _ _ _ _ _ => pfg_name (i := 3) nd rfl (by first | exact Or.inl rfl | exact Or.inr rfl)) (fun _ _ _ _ _ => pfts_nil) (fun _ _ _ _ _ => pf_ty call_int1 o_int (by rfl) B.int boot_int (pfa_cons (pf_var 3) (pfa_nil))))
      (pfs_cons (pfs_if (pft_cmp (op_eqD hr.units) o_eq (pf_b call_len o_len (by rfl) B.len boot_len (pfa_cons (pf_var 2) (pfa_nil))) (pf_int) (nomark _))
      (pfs_one (pfs_expr (pf_m PySem.F.plainAttrs_list PySem.F.slot_list_append PySem.F.type_list_append mt_append o_append (pf_var 2) (pfa_cons (pf_int) (pfa_nil)))))
      (pfs_nil))
      (pfs_cons (pfs_set (i := 4) nd rfl (by first | exact Or.inl rfl | exact Or.inr rfl) (pf_mut (pfn_ty call_list_of o_list (by rfl) B.list boot_list (pfa_cons (pf_var 2) (pfa_nil)))))
      (pfs_cons (pfs_set (i := 5) nd rfl (by first | exact Or.inl rfl | exact Or.inr rfl) (pf_mut (pfn_lst (pfa_nil))))
      (pfs_cons (pfs_for (vs := [6]) PassesOwn.never rfl (pfi_rg1 (by rfl) B.range (pfa_cons (pf_var 1) (pfa_nil))) (pfg_name (i := 6) nd rfl (by first | exact Or.inl rfl | exact Or.inr rfl))
      (pfs_cons (pfs_set (i := 7) nd rfl (by first | exact Or.inl rfl | exact Or.inr rfl) (pf_bin op_modN o_mod (pf_var 6) (pf_b call_len o_len (by rfl) B.len boot_len (pfa_cons (pf_var 2) (pfa_nil)))))
      (pfs_one (pfs_if (PW.pt (pfw_and (pft_cmp op_ge o_cmp (pf_ix ix_seq o_ix (pf_var 2) (pf_var 7) (fun _ _ => rfl)) (pf_bin op_pow o_pow (pf_int) (pf_int)) (nomark _)) (pfw_and1 (pft_cmp op_gt o_cmp (pf_ix ix_seq o_ix (pf_var 4) (pf_var 7) (fun _ _ => rfl)) (pf_int) (nomark _)))))
      (pfs_cons (pfs_expr (pf_m PySem.F.plainAttrs_list PySem.F.slot_list_append PySem.F.type_list_append mt_append o_append (pf_var 5) (pfa_cons (pf_bin op_modN o_mod (pf_ty call_int1 o_int (by rfl) B.int boot_int (pfa_cons (pf_ix ix_seq o_ix (pf_var 4) (pf_var 7) (fun _ _ => rfl)) (pfa_nil))) (pf_int)) (pfa_nil))))
      (pfs_one (pfs_setIx (pf_bin op_fdivA o_fdiv (pf_ix ix_seq o_ix (pf_var 4) (pf_var 7) (fun _ _ => rfl)) (pf_int)) (pf_var 4) (pf_var 7))))
      (pfs_cons (pfs_set (i := 8) nd rfl (by first | exact Or.inl rfl | exact Or.inr rfl) (pf_bin op_modN o_mod (pf_ty call_int1 o_int (by rfl) B.int boot_int (pfa_cons (pf_bin op_addA o_add (pf_bin op_addA o_add (pf_bin op_mulA o_mul (pf_ix ix_seq o_ix (pf_var 2) (pf_var 7) (fun _ _ => rfl)) (pf_int)) (pf_bin op_mulA o_mul (pf_var 6) (pf_int))) (pf_int)) (pfa_nil))) (pf_int)))
      (pfs_one (pfs_expr (pf_m PySem.F.plainAttrs_list PySem.F.slot_list_append PySem.F.type_list_append mt_append o_append (pf_var 5) (pfa_cons (pf_bin op_modN o_mod (pf_ty call_int1 o_int (by rfl) B.int boot_int (pfa_cons (pf_bin op_addA o_add (pf_bin op_addA o_add (pf_bin op_mulA o_mul (pf_var 8) (pf_var 8)) (pf_bin op_mulA o_mul (pf_int) (pf_var 8))) (pf_var 6)) (pfa_nil))) (pf_int)) (pfa_nil))))))))))
      (pfs_cons (pfs_expr (pf_m0 PySem.F.plainAttrs_list PySem.F.slot_list_reverse PySem.F.type_list_reverse mt_reverse o_reverse (pf_var 5)))
      (pfs_one (pfs_ret (pf_var 5))))))))
abbrev st_law_take : Stmt := topS 18
theorem sc_law_take : FnScope ["draws", "many"] ["draws", "many"] (defScope st_law_take) := ⟨rfl, rfl, rfl, by decide +kernel, rfl, by decide +kernel, by decide +kernel⟩
theorem ok_law_take {f : Addr} {fd : FuncData} (F : FunD K "_law_take" "_law_take" (defArgs st_law_take) (defBody st_law_take) (defScope st_law_take) [] [] f fd) (g : mg "_law_take" = some (.ref f)) (B : Bn mg)  : Cal P w K mg base 1 "_law_take" c_law_take 2 := by
  have nd := sc_law_take.nd
  refine cal_of (ps := ["draws", "many"]) g F.kp (F.bindsN fun _ _ _ _ _ _ us hl => match us, hl with | [_, _], _ => rfl) (fn_ok (k := 0) F sc_law_take fun cdv A outer s H E hr => ?_)
  exact pfs_cons (pfs_if (pft_cmp (op_eqD hr.units) o_eq (pf_b call_len o_len (by rfl) B.len boot_len (pfa_cons (pf_var 0) (pfa_nil))) (pf_int) (nomark _))
      (pfs_one (pfs_ret (pf_int)))
      (pfs_nil))
      (pfs_one (pfs_ret (pf_bin op_modN o_mod (pf_ty call_int1 o_int (by rfl) B.int boot_int (pfa_cons (pf_m0 PySem.F.plainAttrs_list PySem.F.slot_list_pop PySem.F.type_list_pop mt_pop o_pop (pf_var 0)) (pfa_nil))) (pf_var 1))))
abbrev st_law_cell : Stmt := topS 19
theorem sc_law_cell : FnScope ["script", "draws", "cell"] ["script", "draws"] (defScope st_law_cell) := ⟨rfl, rfl, rfl, by decide +kernel, rfl, by decide +kernel, by decide +kernel⟩
theorem ok_law_cell {f : Addr} {fd : FuncData} (F : FunD K "_law_cell" "_law_cell" (defArgs st_law_cell) (defBody st_law_cell) (defScope st_law_cell) [] [] f fd) (g : mg "_law_cell" = some (.ref f)) (B : Bn mg) (C_law_take : Cal P w K mg base 1 "_law_take" q_law_take 2) : Cal P w K mg base 2 "_law_cell" c_law_cell 2 := by
  have nd := sc_law_cell.nd
  refine cal_of (ps := ["script", "draws"]) g F.kp (F.bindsN fun _ _ _ _ _ _ us hl => match us, hl with | [_, _], _ => rfl) (fn_ok (k := 1) F sc_law_cell fun cdv A outer s H E hr => ?_)
  exact pfs_cons (pfs_if (pft_cmp (op_eqD hr.units) o_eq (pf_b call_len o_len (by rfl) B.len boot_len (pfa_cons (pf_var 0) (pfa_nil))) (pf_int) (nomark _))
      (pfs_one (pfs_ret (pf_int)))
      (pfs_nil))
      (pfs_cons (pfs_set (i := 2) nd rfl (by first | exact Or.inl rfl | exact Or.inr rfl) (pf_ty call_int1 o_int (by rfl) B.int boot_int (pfa_cons (pf_ix ix_seq o_ix (pf_var 0) (pf_callCS 0 C_law_take (hr.mono (by decide)) (by rfl) (pfa_cons (pf_var 1) (pfa_cons (pf_b call_len o_len (by rfl) B.len boot_len (pfa_cons (pf_var 0) (pfa_nil))) (pfa_nil))) (len_cons (len_cons len_nil))) (fun _ _ => rfl)) (pfa_nil))))
      (pfs_one (pfs_ret (pf_bin op_mulA o_mul (pf_bin op_modN o_mod (pf_b call_abs o_i1 (by rfl) B.abs boot_abs (pfa_cons (pf_var 2) (pfa_nil))) (pf_bin op_pow o_pow (pf_int) (pf_int))) (pf_ix ix_seq o_ix (pf_fz (pfn_lst (pfa_cons (pf_int) (pfa_cons (pf_un un_neg o_neg (pf_int)) (pfa_nil))))) (pf_ty call_int1 o_int (by rfl) B.int boot_int (pfa_cons (pf_cmp op_lt o_cmp (pf_var 2) (pf_int) (nomark _)) (pfa_nil))) (fun _ _ => rfl))))))
abbrev st_law_same : Stmt := topS 20
theorem sc_law_same : FnScope ["actual", "due", "k"] ["actual", "due"] (defScope st_law_same) := ⟨rfl, rfl, rfl, by decide +kernel, rfl, by decide +kernel, by decide +kernel⟩
theorem ok_law_same {f : Addr} {fd : FuncData} (F : FunD K "_law_same" "_law_same" (defArgs st_law_same) (defBody st_law_same) (defScope st_law_same) [] [] f fd) (g : mg "_law_same" = some (.ref f)) (B : Bn mg)  : ∀ n, Cal P w K mg base (1 + n) "_law_same" (c_law_same n) 2 := by
  have nd := sc_law_same.nd
  intro n
  induction n with
  | zero => exact cal_none (ps := ["actual", "due"]) g F.kp (F.bindsN fun _ _ _ _ _ _ us hl => match us, hl with | [_, _], _ => rfl) F (fun _ _ => rfl)
  | succ n ih =>
    refine cal_of (ps := ["actual", "due"]) g F.kp (F.bindsN fun _ _ _ _ _ _ us hl => match us, hl with | [_, _], _ => rfl) (fn_ok (k := 1 + n) F sc_law_same fun cdv A outer s H E hr => ?_)
    exact pfs_cons (pfs_if (pft_tru (pf_isi .bl (by decide) (by rfl) B.isinstance (pf_var 1) (by rfl) B.bool boot_bool))
      (pfs_one (pfs_ret (pf_and (pf_isi .bl (by decide) (by rfl) B.isinstance (pf_var 0) (by rfl) B.bool boot_bool) (pf_one (pf_cmp (op_eqD hr.units) o_eq (pf_var 0) (pf_var 1) (nomark _))))))
      (pfs_nil))
      (pfs_cons (pfs_if (pft_tru (pf_isi .int (by decide) (by rfl) B.isinstance (pf_var 1) (by rfl) B.int boot_int))
      (pfs_one (pfs_ret (pf_and (pf_isi .int (by decide) (by rfl) B.isinstance (pf_var 0) (by rfl) B.int boot_int) (pf_and (pf_not (pf_isi .bl (by decide) (by rfl) B.isinstance (pf_var 0) (by rfl) B.bool boot_bool)) (pf_one (pf_cmp (op_eqD hr.units) o_eq (pf_var 0) (pf_var 1) (nomark _)))))))
      (pfs_nil))
      (pfs_cons (pfs_if (pft_tru (pf_isi .str (by decide) (by rfl) B.isinstance (pf_var 1) (by rfl) B.str boot_str))
      (pfs_one (pfs_ret (pf_and (pf_isi .str (by decide) (by rfl) B.isinstance (pf_var 0) (by rfl) B.str boot_str) (pf_one (pf_cmp (op_eqD hr.units) o_eq (pf_var 0) (pf_var 1) (nomark _))))))
      (pfs_nil))
      (pfs_cons (pfs_if (pft_cmp op_isA o_is (pf_var 1) (pf_non) (nomark _))
      (pfs_one (pfs_ret (pf_cmp op_isA o_is (pf_var 0) (pf_non) (nomark _))))
      (pfs_nil))
      (pfs_cons (pfs_if (PW.pt (pfw_or (pft_not (pft_tru (pf_isi .tup (by decide) (by rfl) B.isinstance (pf_var 0) (by rfl) B.tuple boot_tuple))) (pfw_or1 (pft_cmp (op_neD hr.units) o_ne (pf_b call_len o_len (by rfl) B.len boot_len (pfa_cons (pf_var 0) (pfa_nil))) (pf_b call_len o_len (by rfl) B.len boot_len (pfa_cons (pf_var 1) (pfa_nil))) (nomark _)))))
      (pfs_one (pfs_ret (pf_bl)))
      (pfs_nil))
      (pfs_cons (pfs_for (vs := [2]) PassesOwn.never rfl (pfi_rg1 (by rfl) B.range (pfa_cons (pf_b call_len o_len (by rfl) B.len boot_len (pfa_cons (pf_var 1) (pfa_nil))) (pfa_nil))) (pfg_name (i := 2) nd rfl (by first | exact Or.inl rfl | exact Or.inr rfl))
      (pfs_one (pfs_if (pft_not (pft_tru (pf_callC ih (hr.mono (Nat.le_refl _)) (by rfl) (pfa_cons (pf_ix ix_seq o_ix (pf_var 0) (pf_var 2) (fun _ _ => rfl)) (pfa_cons (pf_ix ix_seq o_ix (pf_var 1) (pf_var 2) (fun _ _ => rfl)) (pfa_nil))) (len_cons (len_cons len_nil)))))
      (pfs_one (pfs_ret (pf_bl)))
      (pfs_nil))))
      (pfs_one (pfs_ret (pf_bl))))))))
abbrev st_law_grid : Stmt := topS 21
theorem sc_law_grid : FnScope ["width", "height", "found", "x", "y"] ["width", "height"] (defScope st_law_grid) := ⟨rfl, rfl, rfl, by decide +kernel, rfl, by decide +kernel, by decide +kernel⟩
theorem ok_law_grid {f : Addr} {fd : FuncData} (F : FunD K "_law_grid" "_law_grid" (defArgs st_law_grid) (defBody st_law_grid) (defScope st_law_grid) [] [] f fd) (g : mg "_law_grid" = some (.ref f)) (B : Bn mg)  : Cal P w K mg base 1 "_law_grid" c_law_grid 2 := by
  have nd := sc_law_grid.nd
  refine cal_of (ps := ["width", "height"]) g F.kp (F.bindsN fun _ _ _ _ _ _ us hl => match us, hl with | [_, _], _ => rfl) (fn_ok (k := 0) F sc_law_grid fun cdv A outer s H E hr => ?_)
  exact pfs_cons (pfs_set (i := 2) nd rfl (by first | exact Or.inl rfl | exact Or.inr rfl) (pf_mut (pfn_lst (pfa_nil))))
      (pfs_cons (pfs_for (vs := [3]) PassesOwn.never rfl (pfi_rg1 (by rfl) B.range (pfa_cons (pf_var 0) (pfa_nil))) (pfg_name (i := 3) nd rfl (by first | exact Or.inl rfl | exact Or.inr rfl))
      (pfs_one (pfs_set (i := 2) nd rfl (by first | exact Or.inl rfl | exact Or.inr rfl) (pf_mut (pfn_cat (pf_var 2) (pf_fz (pfn_lc (own := [("y", 4)]) rfl nd (pfi_rg1 (by rfl) B.range (pfa_cons (pf_var 1) (pfa_nil))) (blkOk_by (own := [("y", 4)]) (N := ["width", "height", "found", "x", "y"]) (by with_unfolding_all rfl)) (fun _ _ _ _ _ => pfg_name (i := 4) nd rfl (by first | exact Or.inl rfl | exact Or.inr rfl)) (fun _ _ _ _ _ => pfts_nil) (fun _ _ _ _ _ => pf_tup (pfa_cons (pf_var 3) (pfa_cons (pf_var 4) (pfa_nil)))))))))))
      (pfs_one (pfs_ret (pf_var 2))))
abbrev st_law_waves : Stmt := topS 22
theorem sc_law_waves : FnScope ["draws", "by", "low", "high", "later"] ["draws", "by"] (defScope st_law_waves) := ⟨rfl, rfl, rfl, by decide +kernel, rfl, by decide +kernel, by decide +kernel⟩
theorem ok_law_waves {f : Addr} {fd : FuncData} (F : FunD K "_law_waves" "_law_waves" (defArgs st_law_waves) (defBody st_law_waves) (defScope st_law_waves) [] [] f fd) (g : mg "_law_waves" = some (.ref f)) (B : Bn mg) (C_law_take : Cal P w K mg base 1 "_law_take" q_law_take 2) : Cal P w K mg base 2 "_law_waves" c_law_waves 2 := by
  have nd := sc_law_waves.nd
  refine cal_of (ps := ["draws", "by"]) g F.kp (F.bindsN fun _ _ _ _ _ _ us hl => match us, hl with | [_, _], _ => rfl) (fn_ok (k := 1) F sc_law_waves fun cdv A outer s H E hr => ?_)
  exact pfs_cons (pfs_set (i := 2) nd rfl (by first | exact Or.inl rfl | exact Or.inr rfl) (pf_bin op_addA o_add (pf_int) (pf_callCS 0 C_law_take (hr.mono (by decide)) (by rfl) (pfa_cons (pf_var 0) (pfa_cons (pf_int) (pfa_nil))) (len_cons (len_cons len_nil)))))
      (pfs_cons (pfs_set (i := 3) nd rfl (by first | exact Or.inl rfl | exact Or.inr rfl) (pf_bin op_addA o_add (pf_var 2) (pf_callCS 0 C_law_take (hr.mono (by decide)) (by rfl) (pfa_cons (pf_var 0) (pfa_cons (pf_int) (pfa_nil))) (len_cons (len_cons len_nil)))))
      (pfs_cons (pfs_set (i := 4) nd rfl (by first | exact Or.inl rfl | exact Or.inr rfl) (pf_bin op_addA o_add (pf_var 3) (pf_callCS 0 C_law_take (hr.mono (by decide)) (by rfl) (pfa_cons (pf_var 0) (pfa_cons (pf_int) (pfa_nil))) (len_cons (len_cons len_nil)))))
      (pfs_one (pfs_ret (pf_tup (pfa_cons (pf_tup (pfa_cons (pf_bin op_mulA o_mul (pf_var 1) (pf_var 2)) (pfa_cons (pf_bin op_mulA o_mul (pf_var 1) (pf_var 3)) (pfa_nil)))) (pfa_cons (pf_tup (pfa_cons (pf_bin op_mulA o_mul (pf_var 1) (pf_var 4)) (pfa_cons (pf_bin op_mulA o_mul (pf_var 1) (pf_bin op_addA o_add (pf_var 4) (pf_callCS 0 C_law_take (hr.mono (by decide)) (by rfl) (pfa_cons (pf_var 0) (pfa_cons (pf_int) (pfa_nil))) (len_cons (len_cons len_nil))))) (pfa_nil)))) (pfa_nil))))))))
abbrev st_law_field : Stmt := topS 23
theorem sc_law_field : FnScope ["draws", "wide", "many", "by", "width", "height", "places", "stations", "k", "place"] ["draws", "wide", "many", "by"] (defScope st_law_field) := ⟨rfl, rfl, rfl, by decide +kernel, rfl, by decide +kernel, by decide +kernel⟩
theorem ok_law_field {f : Addr} {fd : FuncData} (F : FunD K "_law_field" "_law_field" (defArgs st_law_field) (defBody st_law_field) (defScope st_law_field) [] [] f fd) (g : mg "_law_field" = some (.ref f)) (B : Bn mg) (C_law_take : Cal P w K mg base 1 "_law_take" q_law_take 2) (C_law_grid : Cal P w K mg base 1 "_law_grid" q_law_grid 2) (C_law_waves : Cal P w K mg base 2 "_law_waves" q_law_waves 2) : Cal P w K mg base 3 "_law_field" c_law_field 4 := by
  have nd := sc_law_field.nd
  refine cal_of (ps := ["draws", "wide", "many", "by"]) g F.kp (F.bindsN fun _ _ _ _ _ _ us hl => match us, hl with | [_, _, _, _], _ => rfl) (fn_ok (k := 2) F sc_law_field fun cdv A outer s H E hr => ?_)
  exact pfs_cons (pfs_set (i := 4) nd rfl (by first | exact Or.inl rfl | exact Or.inr rfl) (pf_bin op_addA o_add (pf_int) (pf_callCS 0 C_law_take (hr.mono (by decide)) (by rfl) (pfa_cons (pf_var 0) (pfa_cons (pf_var 1) (pfa_nil))) (len_cons (len_cons len_nil)))))
      (pfs_cons (pfs_set (i := 5) nd rfl (by first | exact Or.inl rfl | exact Or.inr rfl) (pf_bin op_addA o_add (pf_int) (pf_callCS 0 C_law_take (hr.mono (by decide)) (by rfl) (pfa_cons (pf_var 0) (pfa_cons (pf_var 1) (pfa_nil))) (len_cons (len_cons len_nil)))))
      (pfs_cons (pfs_set (i := 6) nd rfl (by first | exact Or.inl rfl | exact Or.inr rfl) (pf_callC C_law_grid (hr.mono (by decide)) (by rfl) (pfa_cons (pf_var 4) (pfa_cons (pf_var 5) (pfa_nil))) (len_cons (len_cons len_nil))))
      (pfs_cons (pfs_set (i := 7) nd rfl (by first | exact Or.inl rfl | exact Or.inr rfl) (pf_mut (pfn_lst (pfa_nil))))
      (pfs_cons (pfs_for (vs := [8]) PassesOwn.never rfl (pfi_rg1 (by rfl) B.range (pfa_cons (pf_b (call_min2 rfl) o_i2 (by rfl) B.min boot_min (pfa_cons (pf_b call_len o_len (by rfl) B.len boot_len (pfa_cons (pf_var 6) (pfa_nil))) (pfa_cons (pf_callCS 0 C_law_take (hr.mono (by decide)) (by rfl) (pfa_cons (pf_var 0) (pfa_cons (pf_bin op_addA o_add (pf_var 2) (pf_int)) (pfa_nil))) (len_cons (len_cons len_nil))) (pfa_nil)))) (pfa_nil))) (pfg_name (i := 8) nd rfl (by first | exact Or.inl rfl | exact Or.inr rfl))
      (pfs_cons (pfs_set (i := 9) nd rfl (by first | exact Or.inl rfl | exact Or.inr rfl) (pf_m PySem.F.plainAttrs_list PySem.F.slot_list_pop PySem.F.type_list_pop mt_popAt o_pop1 (pf_var 6) (pfa_cons (pf_callCS 0 C_law_take (hr.mono (by decide)) (by rfl) (pfa_cons (pf_var 0) (pfa_cons (pf_b call_len o_len (by rfl) B.len boot_len (pfa_cons (pf_var 6) (pfa_nil))) (pfa_nil))) (len_cons (len_cons len_nil))) (pfa_nil))))
      (pfs_one (pfs_expr (pf_m PySem.F.plainAttrs_list PySem.F.slot_list_append PySem.F.type_list_append mt_append o_append (pf_var 7) (pfa_cons (pf_bin op_addA o_add (pf_var 9) (pf_tup (pfa_cons (pf_bin op_mulA o_mul (pf_var 3) (pf_ix ix_seq o_ix (pf_fz (pfn_lst (pfa_cons (pf_int) (pfa_cons (pf_callCS 0 C_law_take (hr.mono (by decide)) (by rfl) (pfa_cons (pf_var 0) (pfa_cons (pf_int) (pfa_nil))) (len_cons (len_cons len_nil))) (pfa_cons (pf_callCS 0 C_law_take (hr.mono (by decide)) (by rfl) (pfa_cons (pf_var 0) (pfa_cons (pf_int) (pfa_nil))) (len_cons (len_cons len_nil))) (pfa_nil)))))) (pf_callCS 0 C_law_take (hr.mono (by decide)) (by rfl) (pfa_cons (pf_var 0) (pfa_cons (pf_int) (pfa_nil))) (len_cons (len_cons len_nil))) (fun _ _ => rfl))) (pfa_nil)))) (pfa_nil)))))))
      (pfs_one (pfs_ret (pf_tup (pfa_cons (pf_var 4) (pfa_cons (pf_var 5) (pfa_cons (pf_ty call_tuple_of o_tuple (by rfl) B.tuple boot_tuple (pfa_cons (pf_var 7) (pfa_nil))) (pfa_cons (pf_callCS 0 C_law_waves (hr.mono (by decide)) (by rfl) (pfa_cons (pf_var 0) (pfa_cons (pf_var 3) (pfa_nil))) (len_cons (len_cons len_nil))) (pfa_nil))))))))))))
abbrev st_law_far : Stmt := topS 24
theorem sc_law_far : FnScope ["one", "other"] ["one", "other"] (defScope st_law_far) := ⟨rfl, rfl, rfl, by decide +kernel, rfl, by decide +kernel, by decide +kernel⟩
theorem ok_law_far {f : Addr} {fd : FuncData} (F : FunD K "_law_far" "_law_far" (defArgs st_law_far) (defBody st_law_far) (defScope st_law_far) [] [] f fd) (g : mg "_law_far" = some (.ref f)) (B : Bn mg)  : Cal P w K mg base 1 "_law_far" c_law_far 2 := by
  have nd := sc_law_far.nd
  refine cal_of (ps := ["one", "other"]) g F.kp (F.bindsN fun _ _ _ _ _ _ us hl => match us, hl with | [_, _], _ => rfl) (fn_ok (k := 0) F sc_law_far fun cdv A outer s H E hr => ?_)
  exact pfs_one (pfs_ret (pf_bin op_addA o_add (pf_b call_abs o_i1 (by rfl) B.abs boot_abs (pfa_cons (pf_bin op_sub o_sub (pf_ix ix_seq o_ix (pf_var 0) (pf_int) (fun _ _ => rfl)) (pf_ix ix_seq o_ix (pf_var 1) (pf_int) (fun _ _ => rfl))) (pfa_nil))) (pf_b call_abs o_i1 (by rfl) B.abs boot_abs (pfa_cons (pf_bin op_sub o_sub (pf_ix ix_seq o_ix (pf_var 0) (pf_int) (fun _ _ => rfl)) (pf_ix ix_seq o_ix (pf_var 1) (pf_int) (fun _ _ => rfl))) (pfa_nil)))))
abbrev st_law_places : Stmt := topS 25
theorem sc_law_places : FnScope ["field"] ["field"] (defScope st_law_places) := ⟨rfl, rfl, rfl, by decide +kernel, rfl, by decide +kernel, by decide +kernel⟩
theorem ok_law_places {f : Addr} {fd : FuncData} (F : FunD K "_law_places" "_law_places" (defArgs st_law_places) (defBody st_law_places) (defScope st_law_places) [] [] f fd) (g : mg "_law_places" = some (.ref f)) (B : Bn mg) (C_law_grid : Cal P w K mg base 1 "_law_grid" q_law_grid 2) : Cal P w K mg base 2 "_law_places" c_law_places 1 := by
  have nd := sc_law_places.nd
  refine cal_of (ps := ["field"]) g F.kp (F.bindsN fun _ _ _ _ _ _ us hl => match us, hl with | [_], _ => rfl) (fn_ok (k := 1) F sc_law_places fun cdv A outer s H E hr => ?_)
  exact pfs_one (pfs_ret (pf_callC C_law_grid (hr.mono (by decide)) (by rfl) (pfa_cons (pf_ix ix_seq o_ix (pf_var 0) (pf_int) (fun _ _ => rfl)) (pfa_cons (pf_ix ix_seq o_ix (pf_var 0) (pf_int) (fun _ _ => rfl)) (pfa_nil))) (len_cons (len_cons len_nil))))
abbrev st_law_sharp : Stmt := topS 26
theorem sc_law_sharp : FnScope ["draws", "field", "by", "stations", "row", "slow"] ["draws", "field", "by"] (defScope st_law_sharp) := ⟨rfl, rfl, rfl, by decide +kernel, rfl, by decide +kernel, by decide +kernel⟩
theorem ok_law_sharp {f : Addr} {fd : FuncData} (F : FunD K "_law_sharp" "_law_sharp" (defArgs st_law_sharp) (defBody st_law_sharp) (defScope st_law_sharp) [] [] f fd) (g : mg "_law_sharp" = some (.ref f)) (B : Bn mg) (C_law_take : Cal P w K mg base 1 "_law_take" q_law_take 2) : Cal P w K mg base 2 "_law_sharp" c_law_sharp 3 := by
  have nd := sc_law_sharp.nd
  refine cal_of (ps := ["draws", "field", "by"]) g F.kp (F.bindsN fun _ _ _ _ _ _ us hl => match us, hl with | [_, _, _], _ => rfl) (fn_ok (k := 1) F sc_law_sharp fun cdv A outer s H E hr => ?_)
  exact pfs_cons (pfs_set (i := 3) nd rfl (by first | exact Or.inl rfl | exact Or.inr rfl) (pf_ty call_tuple_of o_tuple (by rfl) B.tuple boot_tuple (pfa_cons (pf_fz (pfn_lc (own := [("row", 4)]) rfl nd (pfi_sq (pf_ix ix_seq o_ix (pf_var 1) (pf_int) (fun _ _ => rfl))) (blkOk_by (own := [("row", 4)]) (N := ["draws", "field", "by", "stations", "row", "slow"]) (by with_unfolding_all rfl)) (fun _ _ _ _ _ => pfg_name (i := 4) nd rfl (by first | exact Or.inl rfl | exact Or.inr rfl)) (fun _ _ _ _ _ => pfts_nil) (fun _ _ _ _ _ => pf_bin op_addA o_add (pf_slice (pf_var 4) (pfo_none) (pfo_some (pf_int))) (pf_tup (pfa_cons (pf_int) (pfa_nil)))))) (pfa_nil))))
      (pfs_cons (pfs_if (pft_cmp (op_eqD hr.units) o_eq (pf_b call_len o_len (by rfl) B.len boot_len (pfa_cons (pf_var 3) (pfa_nil))) (pf_int) (nomark _))
      (pfs_one (pfs_set (i := 3) nd rfl (by first | exact Or.inl rfl | exact Or.inr rfl) (pf_tup (pfa_cons (pf_tup (pfa_cons (pf_callCS 0 C_law_take (hr.mono (by decide)) (by rfl) (pfa_cons (pf_var 0) (pfa_cons (pf_ix ix_seq o_ix (pf_var 1) (pf_int) (fun _ _ => rfl)) (pfa_nil))) (len_cons (len_cons len_nil))) (pfa_cons (pf_callCS 0 C_law_take (hr.mono (by decide)) (by rfl) (pfa_cons (pf_var 0) (pfa_cons (pf_ix ix_seq o_ix (pf_var 1) (pf_int) (fun _ _ => rfl)) (pfa_nil))) (len_cons (len_cons len_nil))) (pfa_cons (pf_int) (pfa_nil))))) (pfa_nil)))))
      (pfs_nil))
      (pfs_cons (pfs_set (i := 5) nd rfl (by first | exact Or.inl rfl | exact Or.inr rfl) (pf_bin op_mulA o_mul (pf_var 2) (pf_bin op_addA o_add (pf_int) (pf_callCS 0 C_law_take (hr.mono (by decide)) (by rfl) (pfa_cons (pf_var 0) (pfa_cons (pf_int) (pfa_nil))) (len_cons (len_cons len_nil))))))
      (pfs_one (pfs_ret (pf_tup (pfa_cons (pf_ix ix_seq o_ix (pf_var 1) (pf_int) (fun _ _ => rfl)) (pfa_cons (pf_ix ix_seq o_ix (pf_var 1) (pf_int) (fun _ _ => rfl)) (pfa_cons (pf_var 3) (pfa_cons (pf_tup (pfa_cons (pf_tup (pfa_cons (pf_var 5) (pfa_cons (pf_var 5) (pfa_nil)))) (pfa_cons (pf_tup (pfa_cons (pf_bin op_mulA o_mul (pf_int) (pf_var 5)) (pfa_cons (pf_bin op_mulA o_mul (pf_int) (pf_var 5)) (pfa_nil)))) (pfa_nil)))) (pfa_nil))))))))))
abbrev st_law_exact : Stmt := topS 27
theorem sc_law_exact : FnScope ["field", "chosen", "kind", "shock", "slow", "k"] ["field", "chosen", "kind", "shock"] (defScope st_law_exact) := ⟨rfl, rfl, rfl, by decide +kernel, rfl, by decide +kernel, by decide +kernel⟩
theorem ok_law_exact {f : Addr} {fd : FuncData} (F : FunD K "_law_exact" "_law_exact" (defArgs st_law_exact) (defBody st_law_exact) (defScope st_law_exact) [] [] f fd) (g : mg "_law_exact" = some (.ref f)) (B : Bn mg) (C_law_far : Cal P w K mg base 1 "_law_far" q_law_far 2) : Cal P w K mg base 2 "_law_exact" c_law_exact 4 := by
  have nd := sc_law_exact.nd
  refine cal_of (ps := ["field", "chosen", "kind", "shock"]) g F.kp (F.bindsN fun _ _ _ _ _ _ us hl => match us, hl with | [_, _, _, _], _ => rfl) (fn_ok (k := 1) F sc_law_exact fun cdv A outer s H E hr => ?_)
  exact pfs_cons (pfs_set (i := 4) nd rfl (by first | exact Or.inl rfl | exact Or.inr rfl) (pf_ix ix_seq o_ix (pf_ix ix_seq o_ix (pf_ix ix_seq o_ix (pf_var 0) (pf_int) (fun _ _ => rfl)) (pf_var 2) (fun _ _ => rfl)) (pf_int) (fun _ _ => rfl)))
      (pfs_one (pfs_ret (pf_ty call_tuple_of o_tuple (by rfl) B.tuple boot_tuple (pfa_cons (pf_fz (pfn_lc (own := [("k", 5)]) rfl nd (pfi_sq (pf_var 1)) (blkOk_by (own := [("k", 5)]) (N := ["field", "chosen", "kind", "shock", "slow", "k"]) (by with_unfolding_all rfl)) (fun _ _ _ _ _ => pfg_name (i := 5) nd rfl (by first | exact Or.inl rfl | exact Or.inr rfl)) (fun _ _ _ _ _ => pfts_nil) (fun _ _ _ _ _ => pf_tup (pfa_cons (pf_var 5) (pfa_cons (pf_var 2) (pfa_cons (pf_bin op_addA o_add (pf_ix ix_seq o_ix (pf_var 3) (pf_int) (fun _ _ => rfl)) (pf_bin op_mulA o_mul (pf_var 4) (pf_callC C_law_far (hr.mono (by decide)) (by rfl) (pfa_cons (pf_slice (pf_ix ix_seq o_ix (pf_ix ix_seq o_ix (pf_var 0) (pf_int) (fun _ _ => rfl)) (pf_var 5) (fun _ _ => rfl)) (pfo_none) (pfo_some (pf_int))) (pfa_cons (pf_ix ix_seq o_ix (pf_var 3) (pf_int) (fun _ _ => rfl)) (pfa_nil))) (len_cons (len_cons len_nil))))) (pfa_nil))))))) (pfa_nil)))))
abbrev st_law_like : Stmt := topS 28
theorem sc_law_like : FnScope ["field", "chosen", "kind", "shock", "slow", "found", "place", "apart", "k"] ["field", "chosen", "kind", "shock"] (defScope st_law_like) := ⟨rfl, rfl, rfl, by decide +kernel, rfl, by decide +kernel, by decide +kernel⟩
theorem ok_law_like {f : Addr} {fd : FuncData} (F : FunD K "_law_like" "_law_like" (defArgs st_law_like) (defBody st_law_like) (defScope st_law_like) [] [] f fd) (g : mg "_law_like" = some (.ref f)) (B : Bn mg) (C_law_places : Cal P w K mg base 2 "_law_places" q_law_places 1) (C_law_far : Cal P w K mg base 1 "_law_far" q_law_far 2) : Cal P w K mg base 3 "_law_like" c_law_like 4 := by
  have nd := sc_law_like.nd
  refine cal_of (ps := ["field", "chosen", "kind", "shock"]) g F.kp (F.bindsN fun _ _ _ _ _ _ us hl => match us, hl with | [_, _, _, _], _ => rfl) (fn_ok (k := 2) F sc_law_like fun cdv A outer s H E hr => ?_)
  exact pfs_cons (pfs_set (i := 4) nd rfl (by first | exact Or.inl rfl | exact Or.inr rfl) (pf_ix ix_seq o_ix (pf_ix ix_seq o_ix (pf_ix ix_seq o_ix (pf_var 0) (pf_int) (fun _ _ => rfl)) (pf_var 2) (fun _ _ => rfl)) (pf_int) (fun _ _ => rfl)))
      (pfs_cons (pfs_set (i := 5) nd rfl (by first | exact Or.inl rfl | exact Or.inr rfl) (pf_mut (pfn_lst (pfa_nil))))
      (pfs_cons (pfs_for (vs := [6]) PassesOwn.never rfl (pfi_sq (pf_callC C_law_places (hr.mono (by decide)) (by rfl) (pfa_cons (pf_var 0) (pfa_nil)) (len_cons len_nil))) (pfg_name (i := 6) nd rfl (by first | exact Or.inl rfl | exact Or.inr rfl))
      (pfs_cons (pfs_set (i := 7) nd rfl (by first | exact Or.inl rfl | exact Or.inr rfl) (pf_fz (pfn_sortU (by rfl) B.sorted (by rfl) B.set (pfa_cons (pf_fz (pfn_lc (own := [("k", 8)]) rfl nd (pfi_sq (pf_var 1)) (blkOk_by (own := [("k", 8)]) (N := ["field", "chosen", "kind", "shock", "slow", "found", "place", "apart", "k"]) (by with_unfolding_all rfl)) (fun _ _ _ _ _ => pfg_name (i := 8) nd rfl (by first | exact Or.inl rfl | exact Or.inr rfl)) (fun _ _ _ _ _ => pfts_nil) (fun _ _ _ _ _ => pf_bin op_sub o_sub (pf_callC C_law_far (hr.mono (by decide)) (by rfl) (pfa_cons (pf_slice (pf_ix ix_seq o_ix (pf_ix ix_seq o_ix (pf_var 0) (pf_int) (fun _ _ => rfl)) (pf_var 8) (fun _ _ => rfl)) (pfo_none) (pfo_some (pf_int))) (pfa_cons (pf_ix ix_seq o_ix (pf_var 3) (pf_int) (fun _ _ => rfl)) (pfa_nil))) (len_cons (len_cons len_nil))) (pf_callC C_law_far (hr.mono (by decide)) (by rfl) (pfa_cons (pf_slice (pf_ix ix_seq o_ix (pf_ix ix_seq o_ix (pf_var 0) (pf_int) (fun _ _ => rfl)) (pf_var 8) (fun _ _ => rfl)) (pfo_none) (pfo_some (pf_int))) (pfa_cons (pf_var 6) (pfa_nil))) (len_cons (len_cons len_nil)))))) (pfa_nil)))))
      (pfs_one (pfs_if (pft_cmp (op_eqD hr.units) o_eq (pf_b call_len o_len (by rfl) B.len boot_len (pfa_cons (pf_var 7) (pfa_nil))) (pf_int) (nomark _))
      (pfs_one (pfs_expr (pf_m PySem.F.plainAttrs_list PySem.F.slot_list_append PySem.F.type_list_append mt_append o_append (pf_var 5) (pfa_cons (pf_tup (pfa_cons (pf_var 6) (pfa_cons (pf_bin op_addA o_add (pf_ix ix_seq o_ix (pf_var 3) (pf_int) (fun _ _ => rfl)) (pf_bin op_mulA o_mul (pf_var 4) (pf_ix ix_seq o_ix (pf_var 7) (pf_int) (fun _ _ => rfl)))) (pfa_nil)))) (pfa_nil)))))
      (pfs_nil)))))
      (pfs_one (pfs_ret (pf_var 5)))))
abbrev st_law_is_choice_right : Stmt := topS 29
theorem sc_law_is_choice_right : FnScope ["field", "chosen", "shock", "kind", "rows", "like", "one", "place", "time", "parting", "k", "pairs", "other"] ["field", "chosen", "shock"] (defScope st_law_is_choice_right) := ⟨rfl, rfl, rfl, by decide +kernel, rfl, by decide +kernel, by decide +kernel⟩
theorem ok_law_is_choice_right {f : Addr} {fd : FuncData} (F : FunD K "_law_is_choice_right" "_law_is_choice_right" (defArgs st_law_is_choice_right) (defBody st_law_is_choice_right) (defScope st_law_is_choice_right) [] [] f fd) (g : mg "_law_is_choice_right" = some (.ref f)) (B : Bn mg) (C_law_exact : Cal P w K mg base 2 "_law_exact" q_law_exact 4) (C_law_like : Cal P w K mg base 3 "_law_like" q_law_like 4) (C_law_same : Cal P w K mg base 13 "_law_same" q_law_same 2) (Cpossible_places : Cal P w K mg base 6 "possible_places" qpossible_places 2) (Ctimes_at : Cal P w K mg base 4 "times_at" qtimes_at 3) (Cparted_by : Cal P w K mg base 5 "parted_by" qparted_by 3) (Cparts_all : Cal P w K mg base 6 "parts_all" qparts_all 3) (Cnot_parted : Cal P w K mg base 5 "not_parted" qnot_parted 3) : Cal P w K mg base 14 "_law_is_choice_right" c_law_is_choice_right 3 := by
  have nd := sc_law_is_choice_right.nd
  refine cal_of (ps := ["field", "chosen", "shock"]) g F.kp (F.bindsN fun _ _ _ _ _ _ us hl => match us, hl with | [_, _, _], _ => rfl) (fn_ok (k := 13) F sc_law_is_choice_right fun cdv A outer s H E hr => ?_)
  exact pfs_cons (pfs_for (vs := [3]) PassesOwn.never rfl (pfi_sq (pf_fz (pfn_lst (pfa_cons (pf_int) (pfa_cons (pf_int) (pfa_nil)))))) (pfg_name (i := 3) nd rfl (by first | exact Or.inl rfl | exact Or.inr rfl))
      (pfs_cons (pfs_set (i := 4) nd rfl (by first | exact Or.inl rfl | exact Or.inr rfl) (pf_callC C_law_exact (hr.mono (by decide)) (by rfl) (pfa_cons (pf_var 0) (pfa_cons (pf_var 1) (pfa_cons (pf_var 3) (pfa_cons (pf_var 2) (pfa_nil))))) (len_cons (len_cons (len_cons (len_cons len_nil))))))
      (pfs_cons (pfs_set (i := 5) nd rfl (by first | exact Or.inl rfl | exact Or.inr rfl) (pf_callC C_law_like (hr.mono (by decide)) (by rfl) (pfa_cons (pf_var 0) (pfa_cons (pf_var 1) (pfa_cons (pf_var 3) (pfa_cons (pf_var 2) (pfa_nil))))) (len_cons (len_cons (len_cons (len_cons len_nil))))))
      (pfs_cons (pfs_if (pft_not (pft_tru (pf_callC C_law_same (hr.mono (by decide)) (by rfl) (pfa_cons (pf_callC Cpossible_places (hr.mono (by decide)) (by rfl) (pfa_cons (pf_var 0) (pfa_cons (pf_var 4) (pfa_nil))) (len_cons (len_cons len_nil))) (pfa_cons (pf_ty call_tuple_of o_tuple (by rfl) B.tuple boot_tuple (pfa_cons (pf_fz (pfn_lc (own := [("one", 6)]) rfl nd (pfi_sq (pf_var 5)) (blkOk_by (own := [("one", 6)]) (N := ["field", "chosen", "shock", "kind", "rows", "like", "one", "place", "time", "parting", "k", "pairs", "other"]) (by with_unfolding_all rfl)) (fun _ _ _ _ _ => pfg_name (i := 6) nd rfl (by first | exact Or.inl rfl | exact Or.inr rfl)) (fun _ _ _ _ _ => pfts_nil) (fun _ _ _ _ _ => pf_ix ix_seq o_ix (pf_var 6) (pf_int) (fun _ _ => rfl)))) (pfa_nil))) (pfa_nil))) (len_cons (len_cons len_nil)))))
      (pfs_one (pfs_ret (pf_bl)))
      (pfs_nil))
      (pfs_one (pfs_for (vs := [7, 8]) PassesOwn.never rfl (pfi_sq (pf_var 5)) (pfg_tup rfl (pfgs_cons (pfg_name (i := 7) nd rfl (by first | exact Or.inl rfl | exact Or.inr rfl)) (pfgs_cons (pfg_name (i := 8) nd rfl (by first | exact Or.inl rfl | exact Or.inr rfl)) (pfgs_nil))))
      (pfs_cons (pfs_if (pft_not (pft_tru (pf_callC C_law_same (hr.mono (by decide)) (by rfl) (pfa_cons (pf_callC Ctimes_at (hr.mono (by decide)) (by rfl) (pfa_cons (pf_var 0) (pfa_cons (pf_var 4) (pfa_cons (pf_var 7) (pfa_nil)))) (len_cons (len_cons (len_cons len_nil)))) (pfa_cons (pf_tup (pfa_cons (pf_var 8) (pfa_cons (pf_var 8) (pfa_nil)))) (pfa_nil))) (len_cons (len_cons len_nil)))))
      (pfs_one (pfs_ret (pf_bl)))
      (pfs_nil))
      (pfs_cons (pfs_set (i := 9) nd rfl (by first | exact Or.inl rfl | exact Or.inr rfl) (pf_callC Cparted_by (hr.mono (by decide)) (by rfl) (pfa_cons (pf_var 0) (pfa_cons (pf_var 2) (pfa_cons (pf_tup (pfa_cons (pf_var 7) (pfa_cons (pf_var 8) (pfa_nil)))) (pfa_nil)))) (len_cons (len_cons (len_cons len_nil)))))
      (pfs_one (pfs_if (PW.pt (pfw_and (pft_cmp (op_eqD hr.units) o_eq (pf_var 3) (pf_int) (nomark _)) (pfw_and1 (PW.pt (pfw_or (pft_not (pft_tru (pf_isi .tup (by decide) (by rfl) B.isinstance (pf_var 9) (by rfl) B.tuple boot_tuple))) (pfw_or1 (pft_cmp op_gt o_cmp (pf_b call_len o_len (by rfl) B.len boot_len (pfa_cons (pf_fz (pfn_lc (own := [("k", 10)]) rfl nd (pfi_sq (pf_var 9)) (blkOk_by (own := [("k", 10)]) (N := ["field", "chosen", "shock", "kind", "rows", "like", "one", "place", "time", "parting", "k", "pairs", "other"]) (by with_unfolding_all rfl)) (fun _ _ _ _ _ => pfg_name (i := 10) nd rfl (by first | exact Or.inl rfl | exact Or.inr rfl)) (fun _ _ _ _ _ => pfts_one (pft_cmp (op_inX hr.units) o_inX (pf_var 10) (pf_var 1) (by with_unfolding_all rfl))) (fun _ _ _ _ _ => pf_var 10))) (pfa_nil))) (pf_int) (nomark _))))))))
      (pfs_one (pfs_ret (pf_bl)))
      (pfs_nil)))))))))))
      (pfs_cons (pfs_set (i := 5) nd rfl (by first | exact Or.inl rfl | exact Or.inr rfl) (pf_callC C_law_like (hr.mono (by decide)) (by rfl) (pfa_cons (pf_var 0) (pfa_cons (pf_var 1) (pfa_cons (pf_int) (pfa_cons (pf_var 2) (pfa_nil))))) (len_cons (len_cons (len_cons (len_cons len_nil))))))
      (pfs_cons (pfs_if (pft_not (pft_tru (pf_callC C_law_same (hr.mono (by decide)) (by rfl) (pfa_cons (pf_callC Cparts_all (hr.mono (by decide)) (by rfl) (pfa_cons (pf_var 0) (pfa_cons (pf_var 1) (pfa_cons (pf_ty call_tuple_of o_tuple (by rfl) B.tuple boot_tuple (pfa_cons (pf_var 5) (pfa_nil))) (pfa_nil)))) (len_cons (len_cons (len_cons len_nil)))) (pfa_cons (pf_cmp (op_eqD hr.units) o_eq (pf_b call_len o_len (by rfl) B.len boot_len (pfa_cons (pf_var 5) (pfa_nil))) (pf_int) (nomark _)) (pfa_nil))) (len_cons (len_cons len_nil)))))
      (pfs_one (pfs_ret (pf_bl)))
      (pfs_nil))
      (pfs_cons (pfs_set (i := 11) nd rfl (by first | exact Or.inl rfl | exact Or.inr rfl) (pf_fz (pfn_lst (pfa_nil))))
      (pfs_cons (pfs_for (vs := [6]) PassesOwn.never rfl (pfi_rg1 (by rfl) B.range (pfa_cons (pf_b call_len o_len (by rfl) B.len boot_len (pfa_cons (pf_var 5) (pfa_nil))) (pfa_nil))) (pfg_name (i := 6) nd rfl (by first | exact Or.inl rfl | exact Or.inr rfl))
      (pfs_one (pfs_set (i := 11) nd rfl (by first | exact Or.inl rfl | exact Or.inr rfl) (pf_bin op_addA o_add (pf_var 11) (pf_fz (pfn_lc (own := [("other", 12)]) rfl nd (pfi_rg2 (by rfl) B.range (pfa_cons (pf_bin op_addA o_add (pf_var 6) (pf_int)) (pfa_cons (pf_b call_len o_len (by rfl) B.len boot_len (pfa_cons (pf_var 5) (pfa_nil))) (pfa_nil)))) (blkOk_by (own := [("other", 12)]) (N := ["field", "chosen", "shock", "kind", "rows", "like", "one", "place", "time", "parting", "k", "pairs", "other"]) (by with_unfolding_all rfl)) (fun _ _ _ _ _ => pfg_name (i := 12) nd rfl (by first | exact Or.inl rfl | exact Or.inr rfl)) (fun _ _ _ _ _ => pfts_nil) (fun _ _ _ _ _ => pf_tup (pfa_cons (pf_var 6) (pfa_cons (pf_var 12) (pfa_nil))))))))))
      (pfs_one (pfs_ret (pf_callC C_law_same (hr.mono (by decide)) (by rfl) (pfa_cons (pf_callC Cnot_parted (hr.mono (by decide)) (by rfl) (pfa_cons (pf_var 0) (pfa_cons (pf_var 1) (pfa_cons (pf_ty call_tuple_of o_tuple (by rfl) B.tuple boot_tuple (pfa_cons (pf_var 5) (pfa_nil))) (pfa_nil)))) (len_cons (len_cons (len_cons len_nil)))) (pfa_cons (pf_ty call_tuple_of o_tuple (by rfl) B.tuple boot_tuple (pfa_cons (pf_var 11) (pfa_nil))) (pfa_nil))) (len_cons (len_cons len_nil)))))))))
abbrev st_law_is_more_right : Stmt := topS 30
theorem sc_law_is_more_right : FnScope ["field", "chosen", "more", "shock", "before", "now", "place", "home", "both", "due", "off"] ["field", "chosen", "more", "shock"] (defScope st_law_is_more_right) := ⟨rfl, rfl, rfl, by decide +kernel, rfl, by decide +kernel, by decide +kernel⟩
theorem ok_law_is_more_right {f : Addr} {fd : FuncData} (F : FunD K "_law_is_more_right" "_law_is_more_right" (defArgs st_law_is_more_right) (defBody st_law_is_more_right) (defScope st_law_is_more_right) [] [] f fd) (g : mg "_law_is_more_right" = some (.ref f)) (B : Bn mg) (Cpossible_places : Cal P w K mg base 6 "possible_places" qpossible_places 2) (C_law_exact : Cal P w K mg base 2 "_law_exact" q_law_exact 4) (C_law_places : Cal P w K mg base 2 "_law_places" q_law_places 1) (C_law_far : Cal P w K mg base 1 "_law_far" q_law_far 2) (C_law_same : Cal P w K mg base 13 "_law_same" q_law_same 2) (Cis_possible : Cal P w K mg base 7 "is_possible" qis_possible 2) : Cal P w K mg base 14 "_law_is_more_right" c_law_is_more_right 4 := by
  have nd := sc_law_is_more_right.nd
  refine cal_of (ps := ["field", "chosen", "more", "shock"]) g F.kp (F.bindsN fun _ _ _ _ _ _ us hl => match us, hl with | [_, _, _, _], _ => rfl) (fn_ok (k := 13) F sc_law_is_more_right fun cdv A outer s H E hr => ?_)
  exact pfs_cons (pfs_set (i := 4) nd rfl (by first | exact Or.inl rfl | exact Or.inr rfl) (pf_callC Cpossible_places (hr.mono (by decide)) (by rfl) (pfa_cons (pf_var 0) (pfa_cons (pf_callC C_law_exact (hr.mono (by decide)) (by rfl) (pfa_cons (pf_var 0) (pfa_cons (pf_var 1) (pfa_cons (pf_int) (pfa_cons (pf_var 3) (pfa_nil))))) (len_cons (len_cons (len_cons (len_cons len_nil))))) (pfa_nil))) (len_cons (len_cons len_nil))))
      (pfs_cons (pfs_set (i := 5) nd rfl (by first | exact Or.inl rfl | exact Or.inr rfl) (pf_callC Cpossible_places (hr.mono (by decide)) (by rfl) (pfa_cons (pf_var 0) (pfa_cons (pf_callC C_law_exact (hr.mono (by decide)) (by rfl) (pfa_cons (pf_var 0) (pfa_cons (pf_ty call_tuple_of o_tuple (by rfl) B.tuple boot_tuple (pfa_cons (pf_fz (pfn_sortU (by rfl) B.sorted (by rfl) B.set (pfa_cons (pf_bin op_addA o_add (pf_var 1) (pf_tup (pfa_cons (pf_var 2) (pfa_nil)))) (pfa_nil)))) (pfa_nil))) (pfa_cons (pf_int) (pfa_cons (pf_var 3) (pfa_nil))))) (len_cons (len_cons (len_cons (len_cons len_nil))))) (pfa_nil))) (len_cons (len_cons len_nil))))
      (pfs_cons (pfs_if (PW.pt (pfw_or (pft_not (pft_tru (pf_isi .tup (by decide) (by rfl) B.isinstance (pf_var 4) (by rfl) B.tuple boot_tuple))) (pfw_or (pft_not (pft_tru (pf_isi .tup (by decide) (by rfl) B.isinstance (pf_var 5) (by rfl) B.tuple boot_tuple))) (pfw_or1 (pft_cmp op_gt o_cmp (pf_b call_len o_len (by rfl) B.len boot_len (pfa_cons (pf_fz (pfn_lc (own := [("place", 6)]) rfl nd (pfi_sq (pf_var 5)) (blkOk_by (own := [("place", 6)]) (N := ["field", "chosen", "more", "shock", "before", "now", "place", "home", "both", "due", "off"]) (by with_unfolding_all rfl)) (fun _ _ _ _ _ => pfg_name (i := 6) nd rfl (by first | exact Or.inl rfl | exact Or.inr rfl)) (fun _ _ _ _ _ => pfts_one (pft_cmp (op_notInX hr.units) o_notInX (pf_var 6) (pf_var 4) (by with_unfolding_all rfl))) (fun _ _ _ _ _ => pf_var 6))) (pfa_nil))) (pf_int) (nomark _))))))
      (pfs_one (pfs_ret (pf_bl)))
      (pfs_nil))
      (pfs_cons (pfs_set (i := 7) nd rfl (by first | exact Or.inl rfl | exact Or.inr rfl) (pf_slice (pf_ix ix_seq o_ix (pf_ix ix_seq o_ix (pf_var 0) (pf_int) (fun _ _ => rfl)) (pf_var 2) (fun _ _ => rfl)) (pfo_none) (pfo_some (pf_int))))
      (pfs_cons (pfs_set (i := 8) nd rfl (by first | exact Or.inl rfl | exact Or.inr rfl) (pf_bin op_addA o_add (pf_callC C_law_exact (hr.mono (by decide)) (by rfl) (pfa_cons (pf_var 0) (pfa_cons (pf_tup (pfa_cons (pf_var 2) (pfa_nil))) (pfa_cons (pf_int) (pfa_cons (pf_var 3) (pfa_nil))))) (len_cons (len_cons (len_cons (len_cons len_nil))))) (pf_callC C_law_exact (hr.mono (by decide)) (by rfl) (pfa_cons (pf_var 0) (pfa_cons (pf_tup (pfa_cons (pf_var 2) (pfa_nil))) (pfa_cons (pf_int) (pfa_cons (pf_var 3) (pfa_nil))))) (len_cons (len_cons (len_cons (len_cons len_nil)))))))
      (pfs_cons (pfs_set (i := 9) nd rfl (by first | exact Or.inl rfl | exact Or.inr rfl) (pf_ty call_tuple_of o_tuple (by rfl) B.tuple boot_tuple (pfa_cons (pf_fz (pfn_lc (own := [("place", 6)]) rfl nd (pfi_sq (pf_callC C_law_places (hr.mono (by decide)) (by rfl) (pfa_cons (pf_var 0) (pfa_nil)) (len_cons len_nil))) (blkOk_by (own := [("place", 6)]) (N := ["field", "chosen", "more", "shock", "before", "now", "place", "home", "both", "due", "off"]) (by with_unfolding_all rfl)) (fun _ _ _ _ _ => pfg_name (i := 6) nd rfl (by first | exact Or.inl rfl | exact Or.inr rfl)) (fun _ _ _ _ _ => pfts_one (pft_cmp (op_eqD hr.units) o_eq (pf_callC C_law_far (hr.mono (by decide)) (by rfl) (pfa_cons (pf_var 7) (pfa_cons (pf_var 6) (pfa_nil))) (len_cons (len_cons len_nil))) (pf_callC C_law_far (hr.mono (by decide)) (by rfl) (pfa_cons (pf_var 7) (pfa_cons (pf_ix ix_seq o_ix (pf_var 3) (pf_int) (fun _ _ => rfl)) (pfa_nil))) (len_cons (len_cons len_nil))) (nomark _))) (fun _ _ _ _ _ => pf_var 6))) (pfa_nil))))
      (pfs_cons (pfs_if (pft_not (pft_tru (pf_callC C_law_same (hr.mono (by decide)) (by rfl) (pfa_cons (pf_callC Cpossible_places (hr.mono (by decide)) (by rfl) (pfa_cons (pf_var 0) (pfa_cons (pf_var 8) (pfa_nil))) (len_cons (len_cons len_nil))) (pfa_cons (pf_var 9) (pfa_nil))) (len_cons (len_cons len_nil)))))
      (pfs_one (pfs_ret (pf_bl)))
      (pfs_nil))
      (pfs_cons (pfs_if (pft_not (pft_tru (pf_callC C_law_same (hr.mono (by decide)) (by rfl) (pfa_cons (pf_callC Cpossible_places (hr.mono (by decide)) (by rfl) (pfa_cons (pf_var 0) (pfa_cons (pf_slice (pf_var 8) (pfo_none) (pfo_some (pf_int))) (pfa_nil))) (len_cons (len_cons len_nil))) (pfa_cons (pf_ty call_tuple_of o_tuple (by rfl) B.tuple boot_tuple (pfa_cons (pf_callC C_law_places (hr.mono (by decide)) (by rfl) (pfa_cons (pf_var 0) (pfa_nil)) (len_cons len_nil)) (pfa_nil))) (pfa_nil))) (len_cons (len_cons len_nil)))))
      (pfs_one (pfs_ret (pf_bl)))
      (pfs_nil))
      (pfs_cons (pfs_set (i := 10) nd rfl (by first | exact Or.inl rfl | exact Or.inr rfl) (pf_bin op_addA o_add (pf_slice (pf_var 8) (pfo_none) (pfo_some (pf_int))) (pf_tup (pfa_cons (pf_tup (pfa_cons (pf_var 2) (pfa_cons (pf_int) (pfa_cons (pf_bin op_addA o_add (pf_bin op_addA o_add (pf_ix ix_seq o_ix (pf_ix ix_seq o_ix (pf_var 8) (pf_int) (fun _ _ => rfl)) (pf_int) (fun _ _ => rfl)) (pf_int)) (pf_bin op_mulA o_mul (pf_ix ix_seq o_ix (pf_ix ix_seq o_ix (pf_ix ix_seq o_ix (pf_var 0) (pf_int) (fun _ _ => rfl)) (pf_int) (fun _ _ => rfl)) (pf_int) (fun _ _ => rfl)) (pf_bin op_addA o_add (pf_ix ix_seq o_ix (pf_var 0) (pf_int) (fun _ _ => rfl)) (pf_ix ix_seq o_ix (pf_var 0) (pf_int) (fun _ _ => rfl))))) (pfa_nil))))) (pfa_nil)))))
      (pfs_one (pfs_ret (pf_callC C_law_same (hr.mono (by decide)) (by rfl) (pfa_cons (pf_callC Cis_possible (hr.mono (by decide)) (by rfl) (pfa_cons (pf_var 0) (pfa_cons (pf_var 10) (pfa_nil))) (len_cons (len_cons len_nil))) (pfa_cons (pf_bl) (pfa_nil))) (len_cons (len_cons len_nil)))))))))))))
abbrev st_law_is_line_right : Stmt := topS 31
theorem sc_law_is_line_right : FnScope ["field", "width", "row", "x", "rows"] ["field"] (defScope st_law_is_line_right) := ⟨rfl, rfl, rfl, by decide +kernel, rfl, by decide +kernel, by decide +kernel⟩
theorem ok_law_is_line_right {f : Addr} {fd : FuncData} (F : FunD K "_law_is_line_right" "_law_is_line_right" (defArgs st_law_is_line_right) (defBody st_law_is_line_right) (defScope st_law_is_line_right) [] [] f fd) (g : mg "_law_is_line_right" = some (.ref f)) (B : Bn mg) (C_law_exact : Cal P w K mg base 2 "_law_exact" q_law_exact 4) (C_law_same : Cal P w K mg base 13 "_law_same" q_law_same 2) (Cpossible_places : Cal P w K mg base 6 "possible_places" qpossible_places 2) (Ctimes_at : Cal P w K mg base 4 "times_at" qtimes_at 3) : Cal P w K mg base 14 "_law_is_line_right" c_law_is_line_right 1 := by
  have nd := sc_law_is_line_right.nd
  refine cal_of (ps := ["field"]) g F.kp (F.bindsN fun _ _ _ _ _ _ us hl => match us, hl with | [_], _ => rfl) (fn_ok (k := 13) F sc_law_is_line_right fun cdv A outer s H E hr => ?_)
  exact pfs_cons (pfs_set (i := 1) nd rfl (by first | exact Or.inl rfl | exact Or.inr rfl) (pf_ix ix_seq o_ix (pf_var 0) (pf_int) (fun _ _ => rfl)))
      (pfs_cons (pfs_if (pft_cmp op_lt o_cmp (pf_var 1) (pf_int) (nomark _))
      (pfs_one (pfs_ret (pf_bl)))
      (pfs_nil))
      (pfs_cons (pfs_set (i := 2) nd rfl (by first | exact Or.inl rfl | exact Or.inr rfl) (pf_tup (pfa_cons (pf_var 1) (pfa_cons (pf_int) (pfa_cons (pf_tup (pfa_cons (pf_tup (pfa_cons (pf_int) (pfa_cons (pf_int) (pfa_cons (pf_int) (pfa_nil))))) (pfa_cons (pf_tup (pfa_cons (pf_bin op_sub o_sub (pf_var 1) (pf_int)) (pfa_cons (pf_int) (pfa_cons (pf_int) (pfa_nil))))) (pfa_nil)))) (pfa_cons (pf_ix ix_seq o_ix (pf_var 0) (pf_int) (fun _ _ => rfl)) (pfa_nil)))))))
      (pfs_cons (pfs_for (vs := [3]) PassesOwn.never rfl (pfi_rg1 (by rfl) B.range (pfa_cons (pf_var 1) (pfa_nil))) (pfg_name (i := 3) nd rfl (by first | exact Or.inl rfl | exact Or.inr rfl))
      (pfs_cons (pfs_set (i := 4) nd rfl (by first | exact Or.inl rfl | exact Or.inr rfl) (pf_callC C_law_exact (hr.mono (by decide)) (by rfl) (pfa_cons (pf_var 2) (pfa_cons (pf_tup (pfa_cons (pf_int) (pfa_cons (pf_int) (pfa_nil)))) (pfa_cons (pf_int) (pfa_cons (pf_tup (pfa_cons (pf_tup (pfa_cons (pf_var 3) (pfa_cons (pf_int) (pfa_nil)))) (pfa_cons (pf_int) (pfa_nil)))) (pfa_nil))))) (len_cons (len_cons (len_cons (len_cons len_nil))))))
      (pfs_one (pfs_if (PW.pt (pfw_or (pft_not (pft_tru (pf_callC C_law_same (hr.mono (by decide)) (by rfl) (pfa_cons (pf_callC Cpossible_places (hr.mono (by decide)) (by rfl) (pfa_cons (pf_var 2) (pfa_cons (pf_var 4) (pfa_nil))) (len_cons (len_cons len_nil))) (pfa_cons (pf_tup (pfa_cons (pf_tup (pfa_cons (pf_var 3) (pfa_cons (pf_int) (pfa_nil)))) (pfa_nil))) (pfa_nil))) (len_cons (len_cons len_nil))))) (pfw_or1 (pft_not (pft_tru (pf_callC C_law_same (hr.mono (by decide)) (by rfl) (pfa_cons (pf_callC Ctimes_at (hr.mono (by decide)) (by rfl) (pfa_cons (pf_var 2) (pfa_cons (pf_var 4) (pfa_cons (pf_tup (pfa_cons (pf_var 3) (pfa_cons (pf_int) (pfa_nil)))) (pfa_nil)))) (len_cons (len_cons (len_cons len_nil)))) (pfa_cons (pf_tup (pfa_cons (pf_int) (pfa_cons (pf_int) (pfa_nil)))) (pfa_nil))) (len_cons (len_cons len_nil))))))))
      (pfs_one (pfs_ret (pf_bl)))
      (pfs_nil)))))
      (pfs_one (pfs_ret (pf_bl))))))
abbrev stlaw : Stmt := topS 32
theorem sclaw : FnScope ["script", "draws", "by", "field", "every", "turn", "shock", "some", "k", "chosen", "square", "rows"] ["script"] (defScope stlaw) := ⟨rfl, rfl, rfl, by decide +kernel, rfl, by decide +kernel, by decide +kernel⟩
theorem oklaw {f : Addr} {fd : FuncData} (F : FunD K "law" "law" (defArgs stlaw) (defBody stlaw) (defScope stlaw) [] [] f fd) (g : mg "law" = some (.ref f)) (B : Bn mg) (C_law_draws : Cal P w K mg base 1 "_law_draws" q_law_draws 2) (C_law_cell : Cal P w K mg base 2 "_law_cell" q_law_cell 2) (C_law_take : Cal P w K mg base 1 "_law_take" q_law_take 2) (C_law_sharp : Cal P w K mg base 2 "_law_sharp" q_law_sharp 3) (C_law_field : Cal P w K mg base 3 "_law_field" q_law_field 4) (C_law_is_choice_right : Cal P w K mg base 14 "_law_is_choice_right" q_law_is_choice_right 3) (C_law_is_more_right : Cal P w K mg base 14 "_law_is_more_right" q_law_is_more_right 4) (C_law_is_line_right : Cal P w K mg base 14 "_law_is_line_right" q_law_is_line_right 1) (C_law_exact : Cal P w K mg base 2 "_law_exact" q_law_exact 4) (C_law_same : Cal P w K mg base 13 "_law_same" q_law_same 2) (Cpossible_places : Cal P w K mg base 6 "possible_places" qpossible_places 2) (Cparts_all : Cal P w K mg base 6 "parts_all" qparts_all 3) : FnOk P w K mg base CX0 15 f fd ["script"] (spOf K claw 1) := by
  have nd := sclaw.nd
  refine (fn_ok (k := 14) F sclaw fun cdv A outer s H E hr => ?_)
  exact pfs_cons (pfs_set (i := 1) nd rfl (by first | exact Or.inl rfl | exact Or.inr rfl) (pf_callC C_law_draws (hr.mono (by decide)) (by rfl) (pfa_cons (pf_var 0) (pfa_cons (pf_int) (pfa_nil))) (len_cons (len_cons len_nil))))
      (pfs_cons (pfs_set (i := 2) nd rfl (by first | exact Or.inl rfl | exact Or.inr rfl) (pf_ix ix_seq o_ix (pf_fz (pfn_lst (pfa_cons (pf_int) (pfa_cons (pf_int) (pfa_cons (pf_bin op_addA o_add (pf_int) (pf_bin op_modN o_mod (pf_b call_abs o_i1 (by rfl) B.abs boot_abs (pfa_cons (pf_callCS 1 C_law_cell (hr.mono (by decide)) (by rfl) (pfa_cons (pf_var 0) (pfa_cons (pf_var 1) (pfa_nil))) (len_cons (len_cons len_nil))) (pfa_nil))) (pf_bin op_pow o_pow (pf_int) (pf_int)))) (pfa_nil)))))) (pf_callCS 0 C_law_take (hr.mono (by decide)) (by rfl) (pfa_cons (pf_var 1) (pfa_cons (pf_int) (pfa_nil))) (len_cons (len_cons len_nil))) (fun _ _ => rfl)))
      (pfs_cons (pfs_set (i := 3) nd rfl (by first | exact Or.inl rfl | exact Or.inr rfl) (pf_callCS 0 C_law_sharp (hr.mono (by decide)) (by rfl) (pfa_cons (pf_var 1) (pfa_cons (pf_callCS 0 C_law_field (hr.mono (by decide)) (by rfl) (pfa_cons (pf_var 1) (pfa_cons (pf_int) (pfa_cons (pf_int) (pfa_cons (pf_var 2) (pfa_nil))))) (len_cons (len_cons (len_cons (len_cons len_nil))))) (pfa_cons (pf_var 2) (pfa_nil)))) (len_cons (len_cons (len_cons len_nil)))))
      (pfs_cons (pfs_set (i := 4) nd rfl (by first | exact Or.inl rfl | exact Or.inr rfl) (pf_tupRg1 rfl (by rfl) B.tuple (by rfl) B.range (pfa_cons (pf_b call_len o_len (by rfl) B.len boot_len (pfa_cons (pf_ix ix_seq o_ix (pf_var 3) (pf_int) (fun _ _ => rfl)) (pfa_nil))) (pfa_nil))))
      (pfs_cons (pfs_for (vs := [5]) PassesOwn.never rfl (pfi_rg1 (by rfl) B.range (pfa_cons (pf_int) (pfa_nil))) (pfg_name (i := 5) nd rfl (by first | exact Or.inl rfl | exact Or.inr rfl))
      (pfs_cons (pfs_set (i := 6) nd rfl (by first | exact Or.inl rfl | exact Or.inr rfl) (pf_tup (pfa_cons (pf_tup (pfa_cons (pf_callCS 0 C_law_take (hr.mono (by decide)) (by rfl) (pfa_cons (pf_var 1) (pfa_cons (pf_ix ix_seq o_ix (pf_var 3) (pf_int) (fun _ _ => rfl)) (pfa_nil))) (len_cons (len_cons len_nil))) (pfa_cons (pf_callCS 0 C_law_take (hr.mono (by decide)) (by rfl) (pfa_cons (pf_var 1) (pfa_cons (pf_ix ix_seq o_ix (pf_var 3) (pf_int) (fun _ _ => rfl)) (pfa_nil))) (len_cons (len_cons len_nil))) (pfa_nil)))) (pfa_cons (pf_bin op_mulA o_mul (pf_var 2) (pf_bin op_sub o_sub (pf_callCS 0 C_law_take (hr.mono (by decide)) (by rfl) (pfa_cons (pf_var 1) (pfa_cons (pf_int) (pfa_nil))) (len_cons (len_cons len_nil))) (pf_int))) (pfa_nil)))))
      (pfs_cons (pfs_set (i := 7) nd rfl (by first | exact Or.inl rfl | exact Or.inr rfl) (pf_ty call_tuple_of o_tuple (by rfl) B.tuple boot_tuple (pfa_cons (pf_fz (pfn_lc (own := [("k", 8)]) rfl nd (pfi_sq (pf_var 4)) (blkOk_by (own := [("k", 8)]) (N := ["script", "draws", "by", "field", "every", "turn", "shock", "some", "k", "chosen", "square", "rows"]) (by with_unfolding_all rfl)) (fun _ _ _ _ _ => pfg_name (i := 8) nd rfl (by first | exact Or.inl rfl | exact Or.inr rfl)) (fun _ _ _ _ _ => pfts_one (pft_cmp (op_eqD hr.units) o_eq (pf_callCS 0 C_law_take (hr.mono (by decide)) (by rfl) (pfa_cons (pf_var 1) (pfa_cons (pf_int) (pfa_nil))) (len_cons (len_cons len_nil))) (pf_int) (nomark _))) (fun _ _ _ _ _ => pf_var 8))) (pfa_nil))))
      (pfs_cons (pfs_set (i := 9) nd rfl (by first | exact Or.inl rfl | exact Or.inr rfl) (pf_ix ix_seq o_ix (pf_fz (pfn_lst (pfa_cons (pf_var 4) (pfa_cons (pf_bin op_addA o_add (pf_var 7) (pf_bin op_repZ o_repZ (pf_slice (pf_var 4) (pfo_none) (pfo_some (pf_int))) (pf_ty call_int1 o_int (by rfl) B.int boot_int (pfa_cons (pf_cmp (op_eqD hr.units) o_eq (pf_b call_len o_len (by rfl) B.len boot_len (pfa_cons (pf_var 7) (pfa_nil))) (pf_int) (nomark _)) (pfa_nil))))) (pfa_cons (pf_slice (pf_var 4) (pfo_none) (pfo_some (pf_int))) (pfa_nil)))))) (pf_var 5) (fun _ _ => rfl)))
      (pfs_cons (pfs_if (pft_not (pft_tru (pf_callC C_law_is_choice_right (hr.mono (by decide)) (by rfl) (pfa_cons (pf_var 3) (pfa_cons (pf_var 9) (pfa_cons (pf_var 6) (pfa_nil)))) (len_cons (len_cons (len_cons len_nil))))))
      (pfs_one (pfs_ret (pf_bl)))
      (pfs_nil))
      (pfs_one (pfs_if (pft_not (pft_tru (pf_callC C_law_is_more_right (hr.mono (by decide)) (by rfl) (pfa_cons (pf_var 3) (pfa_cons (pf_var 9) (pfa_cons (pf_callCS 0 C_law_take (hr.mono (by decide)) (by rfl) (pfa_cons (pf_var 1) (pfa_cons (pf_b call_len o_len (by rfl) B.len boot_len (pfa_cons (pf_var 4) (pfa_nil))) (pfa_nil))) (len_cons (len_cons len_nil))) (pfa_cons (pf_var 6) (pfa_nil))))) (len_cons (len_cons (len_cons (len_cons len_nil)))))))
      (pfs_one (pfs_ret (pf_bl)))
      (pfs_nil))))))))
      (pfs_cons (pfs_if (pft_not (pft_tru (pf_callC C_law_is_line_right (hr.mono (by decide)) (by rfl) (pfa_cons (pf_var 3) (pfa_nil)) (len_cons len_nil))))
      (pfs_one (pfs_ret (pf_bl)))
      (pfs_nil))
      (pfs_cons (pfs_set (i := 10) nd rfl (by first | exact Or.inl rfl | exact Or.inr rfl) (pf_tup (pfa_cons (pf_int) (pfa_cons (pf_int) (pfa_cons (pf_tup (pfa_cons (pf_tup (pfa_cons (pf_int) (pfa_cons (pf_int) (pfa_cons (pf_int) (pfa_nil))))) (pfa_cons (pf_tup (pfa_cons (pf_int) (pfa_cons (pf_int) (pfa_cons (pf_int) (pfa_nil))))) (pfa_nil)))) (pfa_cons (pf_tup (pfa_cons (pf_tup (pfa_cons (pf_int) (pfa_cons (pf_int) (pfa_nil)))) (pfa_cons (pf_tup (pfa_cons (pf_int) (pfa_cons (pf_int) (pfa_nil)))) (pfa_nil)))) (pfa_nil)))))))
      (pfs_cons (pfs_set (i := 11) nd rfl (by first | exact Or.inl rfl | exact Or.inr rfl) (pf_callC C_law_exact (hr.mono (by decide)) (by rfl) (pfa_cons (pf_var 10) (pfa_cons (pf_tup (pfa_cons (pf_int) (pfa_cons (pf_int) (pfa_nil)))) (pfa_cons (pf_int) (pfa_cons (pf_tup (pfa_cons (pf_tup (pfa_cons (pf_int) (pfa_cons (pf_int) (pfa_nil)))) (pfa_cons (pf_int) (pfa_nil)))) (pfa_nil))))) (len_cons (len_cons (len_cons (len_cons len_nil))))))
      (pfs_cons (pfs_if (PW.pt (pfw_or (pft_not (pft_tru (pf_callC C_law_same (hr.mono (by decide)) (by rfl) (pfa_cons (pf_callC Cpossible_places (hr.mono (by decide)) (by rfl) (pfa_cons (pf_var 10) (pfa_cons (pf_var 11) (pfa_nil))) (len_cons (len_cons len_nil))) (pfa_cons (pf_tup (pfa_cons (pf_tup (pfa_cons (pf_int) (pfa_cons (pf_int) (pfa_nil)))) (pfa_cons (pf_tup (pfa_cons (pf_int) (pfa_cons (pf_int) (pfa_nil)))) (pfa_nil)))) (pfa_nil))) (len_cons (len_cons len_nil))))) (pfw_or1 (pft_not (pft_tru (pf_callC C_law_same (hr.mono (by decide)) (by rfl) (pfa_cons (pf_callC Cparts_all (hr.mono (by decide)) (by rfl) (pfa_cons (pf_var 10) (pfa_cons (pf_tup (pfa_cons (pf_int) (pfa_cons (pf_int) (pfa_nil)))) (pfa_cons (pf_tup (pfa_cons (pf_tup (pfa_cons (pf_tup (pfa_cons (pf_int) (pfa_cons (pf_int) (pfa_nil)))) (pfa_cons (pf_int) (pfa_nil)))) (pfa_cons (pf_tup (pfa_cons (pf_tup (pfa_cons (pf_int) (pfa_cons (pf_int) (pfa_nil)))) (pfa_cons (pf_int) (pfa_nil)))) (pfa_nil)))) (pfa_nil)))) (len_cons (len_cons (len_cons len_nil)))) (pfa_cons (pf_bl) (pfa_nil))) (len_cons (len_cons len_nil))))))))
      (pfs_one (pfs_ret (pf_bl)))
      (pfs_nil))
      (pfs_one (pfs_ret (pf_and (pf_callC C_law_same (hr.mono (by decide)) (by rfl) (pfa_cons (pf_callC Cparts_all (hr.mono (by decide)) (by rfl) (pfa_cons (pf_var 10) (pfa_cons (pf_tup (pfa_cons (pf_int) (pfa_cons (pf_int) (pfa_nil)))) (pfa_cons (pf_tup (pfa_cons (pf_tup (pfa_cons (pf_tup (pfa_cons (pf_int) (pfa_cons (pf_int) (pfa_nil)))) (pfa_cons (pf_int) (pfa_nil)))) (pfa_cons (pf_tup (pfa_cons (pf_tup (pfa_cons (pf_int) (pfa_cons (pf_int) (pfa_nil)))) (pfa_cons (pf_int) (pfa_nil)))) (pfa_nil)))) (pfa_nil)))) (len_cons (len_cons (len_cons len_nil)))) (pfa_cons (pf_bl) (pfa_nil))) (len_cons (len_cons len_nil))) (pf_one (pf_callC C_law_is_choice_right (hr.mono (by decide)) (by rfl) (pfa_cons (pf_var 10) (pfa_cons (pf_tup (pfa_cons (pf_int) (pfa_cons (pf_int) (pfa_nil)))) (pfa_cons (pf_tup (pfa_cons (pf_tup (pfa_cons (pf_int) (pfa_cons (pf_int) (pfa_nil)))) (pfa_cons (pf_int) (pfa_nil)))) (pfa_nil)))) (len_cons (len_cons (len_cons len_nil))))))))))))))))
end
end LP
namespace LP
open PySem PySem.Spec PyProof.Rows L2 PF
section
open L2
def imL : List (Str × String) := []
def fnL : List He.DefD := [⟨("how_far", none), "how_far", "how_far", defArgs sthow_far, defBody sthow_far, defScope sthow_far, [], []⟩,
  ⟨("all_places", none), "all_places", "all_places", defArgs stall_places, defBody stall_places, defScope stall_places, [], []⟩,
  ⟨("far_from_station", none), "far_from_station", "far_from_station", defArgs stfar_from_station, defBody stfar_from_station, defScope stfar_from_station, [], []⟩,
  ⟨("allowed_times", none), "allowed_times", "allowed_times", defArgs stallowed_times, defBody stallowed_times, defScope stallowed_times, [], []⟩,
  ⟨("due_minutes", none), "due_minutes", "due_minutes", defArgs stdue_minutes, defBody stdue_minutes, defScope stdue_minutes, [], []⟩,
  ⟨("parts_two", none), "parts_two", "parts_two", defArgs stparts_two, defBody stparts_two, defScope stparts_two, [], []⟩,
  ⟨("parted_by", none), "parted_by", "parted_by", defArgs stparted_by, defBody stparted_by, defScope stparted_by, [], []⟩,
  ⟨("not_parted", none), "not_parted", "not_parted", defArgs stnot_parted, defBody stnot_parted, defScope stnot_parted, [], []⟩,
  ⟨("parts_all", none), "parts_all", "parts_all", defArgs stparts_all, defBody stparts_all, defScope stparts_all, [], []⟩,
  ⟨("times_at", none), "times_at", "times_at", defArgs sttimes_at, defBody sttimes_at, defScope sttimes_at, [], []⟩,
  ⟨("is_place_possible", none), "is_place_possible", "is_place_possible", defArgs stis_place_possible, defBody stis_place_possible, defScope stis_place_possible, [], []⟩,
  ⟨("possible_places", none), "possible_places", "possible_places", defArgs stpossible_places, defBody stpossible_places, defScope stpossible_places, [], []⟩,
  ⟨("is_possible", none), "is_possible", "is_possible", defArgs stis_possible, defBody stis_possible, defScope stis_possible, [], []⟩,
  ⟨("_law_draws", none), "_law_draws", "_law_draws", defArgs st_law_draws, defBody st_law_draws, defScope st_law_draws, [], []⟩,
  ⟨("_law_take", none), "_law_take", "_law_take", defArgs st_law_take, defBody st_law_take, defScope st_law_take, [], []⟩,
  ⟨("_law_cell", none), "_law_cell", "_law_cell", defArgs st_law_cell, defBody st_law_cell, defScope st_law_cell, [], []⟩,
  ⟨("_law_same", none), "_law_same", "_law_same", defArgs st_law_same, defBody st_law_same, defScope st_law_same, [], []⟩,
  ⟨("_law_grid", none), "_law_grid", "_law_grid", defArgs st_law_grid, defBody st_law_grid, defScope st_law_grid, [], []⟩,
  ⟨("_law_waves", none), "_law_waves", "_law_waves", defArgs st_law_waves, defBody st_law_waves, defScope st_law_waves, [], []⟩,
  ⟨("_law_field", none), "_law_field", "_law_field", defArgs st_law_field, defBody st_law_field, defScope st_law_field, [], []⟩,
  ⟨("_law_far", none), "_law_far", "_law_far", defArgs st_law_far, defBody st_law_far, defScope st_law_far, [], []⟩,
  ⟨("_law_places", none), "_law_places", "_law_places", defArgs st_law_places, defBody st_law_places, defScope st_law_places, [], []⟩,
  ⟨("_law_sharp", none), "_law_sharp", "_law_sharp", defArgs st_law_sharp, defBody st_law_sharp, defScope st_law_sharp, [], []⟩,
  ⟨("_law_exact", none), "_law_exact", "_law_exact", defArgs st_law_exact, defBody st_law_exact, defScope st_law_exact, [], []⟩,
  ⟨("_law_like", none), "_law_like", "_law_like", defArgs st_law_like, defBody st_law_like, defScope st_law_like, [], []⟩,
  ⟨("_law_is_choice_right", none), "_law_is_choice_right", "_law_is_choice_right", defArgs st_law_is_choice_right, defBody st_law_is_choice_right, defScope st_law_is_choice_right, [], []⟩,
  ⟨("_law_is_more_right", none), "_law_is_more_right", "_law_is_more_right", defArgs st_law_is_more_right, defBody st_law_is_more_right, defScope st_law_is_more_right, [], []⟩,
  ⟨("_law_is_line_right", none), "_law_is_line_right", "_law_is_line_right", defArgs st_law_is_line_right, defBody st_law_is_line_right, defScope st_law_is_line_right, [], []⟩,
  ⟨("law", none), "law", "law", defArgs stlaw, defBody stlaw, defScope stlaw, [], []⟩]
def faL : List He.Fa := [.free "len", .free "int", .free "abs", .free "tuple", .free "list", .free "range", .free "isinstance", .free "bool", .free "str", .free "min", .free "max", .free "sum", .free "sorted", .free "any", .free "all", .free "set", .free "dict", .free "type", .glo "how_far", .glo "all_places", .glo "far_from_station", .glo "allowed_times", .glo "due_minutes", .glo "parts_two", .glo "parted_by", .glo "not_parted", .glo "parts_all", .glo "times_at", .glo "is_place_possible", .glo "possible_places", .glo "is_possible", .glo "_law_draws", .glo "_law_take", .glo "_law_cell", .glo "_law_same", .glo "_law_grid", .glo "_law_waves", .glo "_law_field", .glo "_law_far", .glo "_law_places", .glo "_law_sharp", .glo "_law_exact", .glo "_law_like", .glo "_law_is_choice_right", .glo "_law_is_more_right", .glo "_law_is_line_right", .glo "law"]
abbrev LR : PySem.W.OpenRow := PySem.W.OpenLaw.row PySem.Challenge.rw_shocksknown_k28_whole_places_that_statio
abbrev hkL : PySem.W.Hook := hkX 4 imL faL fnL
def obL (s : PySem.W.SharedT) : Bool × He.AlD := obX 4 imL faL fnL (HandSHeadRun.getT s)
theorem obL_eq (s : PySem.W.SharedT) : obL s = hkL.obs s.abs := obX_eq (HandSHeadRun.getT_eq s)
theorem runL (w : World) : HandSHeadRun.RunEq LR (PySem.W.view LR.prog [32]) hkL obL 3000 [("how_far" : Str), ("all_places" : Str), ("far_from_station" : Str), ("allowed_times" : Str), ("due_minutes" : Str), ("parts_two" : Str), ("parted_by" : Str), ("not_parted" : Str), ("parts_all" : Str), ("times_at" : Str), ("is_place_possible" : Str), ("possible_places" : Str), ("is_possible" : Str), ("_law_draws" : Str), ("_law_take" : Str), ("_law_cell" : Str), ("_law_same" : Str), ("_law_grid" : Str), ("_law_waves" : Str), ("_law_field" : Str), ("_law_far" : Str), ("_law_places" : Str), ("_law_sharp" : Str), ("_law_exact" : Str), ("_law_like" : Str), ("_law_is_choice_right" : Str), ("_law_is_more_right" : Str), ("_law_is_line_right" : Str)] w := by
  intro os
  kernel_rfl
theorem bnL : ∀ (i : Nat) (x : Str), bnNames[i]? = some x → faL[i]? = some (He.Fa.free x) := by
  intro i x h
  match i, h with
  | 0, h => cases h; rfl
  | 1, h => cases h; rfl
  | 2, h => cases h; rfl
  | 3, h => cases h; rfl
  | 4, h => cases h; rfl
  | 5, h => cases h; rfl
  | 6, h => cases h; rfl
  | 7, h => cases h; rfl
  | 8, h => cases h; rfl
  | 9, h => cases h; rfl
  | 10, h => cases h; rfl
  | 11, h => cases h; rfl
  | 12, h => cases h; rfl
  | 13, h => cases h; rfl
  | 14, h => cases h; rfl
  | 15, h => cases h; rfl
  | 16, h => cases h; rfl
  | 17, h => cases h; rfl
  | n + 18, h => cases (show (none : Option Str) = _ from h)
theorem factsL {P : Program} {w : World} {K : PySem.W.Frag} {h : Heap} {mg : Str → Option Value} {f : Addr} (X : K.In h) (G : h.Ns mainGlobals mg) (hfa : mg ("law" : Str) = some (.ref f)) (c : SaysX imL faL fnL K) :
    ∃ fd : FuncData, (∀ (s : Shared) (v : Value), BindsTo s fd ⟨[v], []⟩ [("script", v)]) ∧ ∀ base : Heap, K.In base → base.Ns mainGlobals mg → FnOk P w K mg base CX0 15 f fd ["script"] (spLaw K) := by
  have B : Bn mg := bn_at X G c bnL
  obtain ⟨fd, F⟩ := c.d.def_ 28 rfl
  have e := hfa.symm.trans (fun_at X G c (x := "law") 46 rfl)
  cases e
  have b := FunD.bindsA (ps := ["script"]) F fun _ _ _ _ _ _ us hl => match us, hl with | [_], _ => rfl
  refine ⟨fd, fun s v => b s [v] rfl, fun base _ _ => ?_⟩
  obtain ⟨_, Fhow_far⟩ := c.d.def_ 0 rfl
  have Chow_far : Cal P w K mg base 1 "how_far" qhow_far 2 := (okhow_far Fhow_far (fun_at X G c (x := "how_far") 18 rfl) B).as hqhow_far
  obtain ⟨_, Fall_places⟩ := c.d.def_ 1 rfl
  have Call_places : Cal P w K mg base 1 "all_places" qall_places 1 := (okall_places Fall_places (fun_at X G c (x := "all_places") 19 rfl) B).as hqall_places
  obtain ⟨_, Ffar_from_station⟩ := c.d.def_ 2 rfl
  have Cfar_from_station : Cal P w K mg base 2 "far_from_station" qfar_from_station 3 := (okfar_from_station Ffar_from_station (fun_at X G c (x := "far_from_station") 20 rfl) B Chow_far).as hqfar_from_station
  obtain ⟨_, Fallowed_times⟩ := c.d.def_ 3 rfl
  have Callowed_times : Cal P w K mg base 3 "allowed_times" qallowed_times 3 := (okallowed_times Fallowed_times (fun_at X G c (x := "allowed_times") 21 rfl) B Cfar_from_station).as hqallowed_times
  obtain ⟨_, Fdue_minutes⟩ := c.d.def_ 4 rfl
  have Cdue_minutes : Cal P w K mg base 3 "due_minutes" qdue_minutes 5 := (okdue_minutes Fdue_minutes (fun_at X G c (x := "due_minutes") 22 rfl) B Cfar_from_station).as hqdue_minutes
  obtain ⟨_, Fparts_two⟩ := c.d.def_ 5 rfl
  have Cparts_two : Cal P w K mg base 4 "parts_two" qparts_two 4 := (okparts_two Fparts_two (fun_at X G c (x := "parts_two") 23 rfl) B Cdue_minutes).as hqparts_two
  obtain ⟨_, Fparted_by⟩ := c.d.def_ 6 rfl
  have Cparted_by : Cal P w K mg base 5 "parted_by" qparted_by 3 := (okparted_by Fparted_by (fun_at X G c (x := "parted_by") 24 rfl) B Cparts_two).as hqparted_by
  obtain ⟨_, Fnot_parted⟩ := c.d.def_ 7 rfl
  have Cnot_parted : Cal P w K mg base 5 "not_parted" qnot_parted 3 := (oknot_parted Fnot_parted (fun_at X G c (x := "not_parted") 25 rfl) B Cparts_two).as hqnot_parted
  obtain ⟨_, Fparts_all⟩ := c.d.def_ 8 rfl
  have Cparts_all : Cal P w K mg base 6 "parts_all" qparts_all 3 := (okparts_all Fparts_all (fun_at X G c (x := "parts_all") 26 rfl) B Cnot_parted).as hqparts_all
  obtain ⟨_, Ftimes_at⟩ := c.d.def_ 9 rfl
  have Ctimes_at : Cal P w K mg base 4 "times_at" qtimes_at 3 := (oktimes_at Ftimes_at (fun_at X G c (x := "times_at") 27 rfl) B Callowed_times).as hqtimes_at
  obtain ⟨_, Fis_place_possible⟩ := c.d.def_ 10 rfl
  have Cis_place_possible : Cal P w K mg base 5 "is_place_possible" qis_place_possible 3 := (okis_place_possible Fis_place_possible (fun_at X G c (x := "is_place_possible") 28 rfl) B Ctimes_at).as hqis_place_possible
  obtain ⟨_, Fpossible_places⟩ := c.d.def_ 11 rfl
  have Cpossible_places : Cal P w K mg base 6 "possible_places" qpossible_places 2 := (okpossible_places Fpossible_places (fun_at X G c (x := "possible_places") 29 rfl) B Call_places Cis_place_possible).as hqpossible_places
  obtain ⟨_, Fis_possible⟩ := c.d.def_ 12 rfl
  have Cis_possible : Cal P w K mg base 7 "is_possible" qis_possible 2 := (okis_possible Fis_possible (fun_at X G c (x := "is_possible") 30 rfl) B Cpossible_places).as hqis_possible
  obtain ⟨_, F_law_draws⟩ := c.d.def_ 13 rfl
  have C_law_draws : Cal P w K mg base 1 "_law_draws" q_law_draws 2 := (ok_law_draws F_law_draws (fun_at X G c (x := "_law_draws") 31 rfl) B).as hq_law_draws
  obtain ⟨_, F_law_take⟩ := c.d.def_ 14 rfl
  have C_law_take : Cal P w K mg base 1 "_law_take" q_law_take 2 := (ok_law_take F_law_take (fun_at X G c (x := "_law_take") 32 rfl) B).as hq_law_take
  obtain ⟨_, F_law_cell⟩ := c.d.def_ 15 rfl
  have C_law_cell : Cal P w K mg base 2 "_law_cell" q_law_cell 2 := (ok_law_cell F_law_cell (fun_at X G c (x := "_law_cell") 33 rfl) B C_law_take).as hq_law_cell
  obtain ⟨_, F_law_same⟩ := c.d.def_ 16 rfl
  have C_law_same : Cal P w K mg base 13 "_law_same" q_law_same 2 := (ok_law_same F_law_same (fun_at X G c (x := "_law_same") 34 rfl) B 12).as hq_law_same
  obtain ⟨_, F_law_grid⟩ := c.d.def_ 17 rfl
  have C_law_grid : Cal P w K mg base 1 "_law_grid" q_law_grid 2 := (ok_law_grid F_law_grid (fun_at X G c (x := "_law_grid") 35 rfl) B).as hq_law_grid
  obtain ⟨_, F_law_waves⟩ := c.d.def_ 18 rfl
  have C_law_waves : Cal P w K mg base 2 "_law_waves" q_law_waves 2 := (ok_law_waves F_law_waves (fun_at X G c (x := "_law_waves") 36 rfl) B C_law_take).as hq_law_waves
  obtain ⟨_, F_law_field⟩ := c.d.def_ 19 rfl
  have C_law_field : Cal P w K mg base 3 "_law_field" q_law_field 4 := (ok_law_field F_law_field (fun_at X G c (x := "_law_field") 37 rfl) B C_law_take C_law_grid C_law_waves).as hq_law_field
  obtain ⟨_, F_law_far⟩ := c.d.def_ 20 rfl
  have C_law_far : Cal P w K mg base 1 "_law_far" q_law_far 2 := (ok_law_far F_law_far (fun_at X G c (x := "_law_far") 38 rfl) B).as hq_law_far
  obtain ⟨_, F_law_places⟩ := c.d.def_ 21 rfl
  have C_law_places : Cal P w K mg base 2 "_law_places" q_law_places 1 := (ok_law_places F_law_places (fun_at X G c (x := "_law_places") 39 rfl) B C_law_grid).as hq_law_places
  obtain ⟨_, F_law_sharp⟩ := c.d.def_ 22 rfl
  have C_law_sharp : Cal P w K mg base 2 "_law_sharp" q_law_sharp 3 := (ok_law_sharp F_law_sharp (fun_at X G c (x := "_law_sharp") 40 rfl) B C_law_take).as hq_law_sharp
  obtain ⟨_, F_law_exact⟩ := c.d.def_ 23 rfl
  have C_law_exact : Cal P w K mg base 2 "_law_exact" q_law_exact 4 := (ok_law_exact F_law_exact (fun_at X G c (x := "_law_exact") 41 rfl) B C_law_far).as hq_law_exact
  obtain ⟨_, F_law_like⟩ := c.d.def_ 24 rfl
  have C_law_like : Cal P w K mg base 3 "_law_like" q_law_like 4 := (ok_law_like F_law_like (fun_at X G c (x := "_law_like") 42 rfl) B C_law_places C_law_far).as hq_law_like
  obtain ⟨_, F_law_is_choice_right⟩ := c.d.def_ 25 rfl
  have C_law_is_choice_right : Cal P w K mg base 14 "_law_is_choice_right" q_law_is_choice_right 3 := (ok_law_is_choice_right F_law_is_choice_right (fun_at X G c (x := "_law_is_choice_right") 43 rfl) B C_law_exact C_law_like C_law_same Cpossible_places Ctimes_at Cparted_by Cparts_all Cnot_parted).as hq_law_is_choice_right
  obtain ⟨_, F_law_is_more_right⟩ := c.d.def_ 26 rfl
  have C_law_is_more_right : Cal P w K mg base 14 "_law_is_more_right" q_law_is_more_right 4 := (ok_law_is_more_right F_law_is_more_right (fun_at X G c (x := "_law_is_more_right") 44 rfl) B Cpossible_places C_law_exact C_law_places C_law_far C_law_same Cis_possible).as hq_law_is_more_right
  obtain ⟨_, F_law_is_line_right⟩ := c.d.def_ 27 rfl
  have C_law_is_line_right : Cal P w K mg base 14 "_law_is_line_right" q_law_is_line_right 1 := (ok_law_is_line_right F_law_is_line_right (fun_at X G c (x := "_law_is_line_right") 45 rfl) B C_law_exact C_law_same Cpossible_places Ctimes_at).as hq_law_is_line_right
  exact (oklaw F (fun_at X G c (x := "law") 46 rfl) B C_law_draws C_law_cell C_law_take C_law_sharp C_law_field C_law_is_choice_right C_law_is_more_right C_law_is_line_right C_law_exact C_law_same Cpossible_places Cparts_all).imp (law_sp law_data)
end
end LP
open PySem PySem.W PySem.Calls PyProof.Rows
theorem PySem.Challenge.cw_shocksknown_k28_whole_places_that_statio_holds : PySem.Challenge.rw_shocksknown_k28_whole_places_that_statio.Holds := by
  w_on; o_law
  refine HandSHeadRun.head_any (r := LP.LR) (q := view LP.LR.prog [32]) (H := LP.hkL) (ob := LP.obL) (M := 3000) (loose := [("how_far" : Str), ("all_places" : Str), ("far_from_station" : Str), ("allowed_times" : Str), ("due_minutes" : Str), ("parts_two" : Str), ("parted_by" : Str), ("not_parted" : Str), ("parts_all" : Str), ("times_at" : Str), ("is_place_possible" : Str), ("possible_places" : Str), ("is_possible" : Str), ("_law_draws" : Str), ("_law_take" : Str), ("_law_cell" : Str), ("_law_same" : Str), ("_law_grid" : Str), ("_law_waves" : Str), ("_law_field" : Str), ("_law_far" : Str), ("_law_places" : Str), ("_law_sharp" : Str), ("_law_exact" : Str), ("_law_like" : Str), ("_law_is_choice_right" : Str), ("_law_is_more_right" : Str), ("_law_is_line_right" : Str)]) (d := HandSHeadRun.topDef LP.LR.prog 32) (kwd := []) LP.obL_eq
    (by kernel_rfl) (fun s => by kernel_rfl) LP.runL (by kernel_rfl) (by kernel_rfl) (by kernel_rfl) (by rfl) (by first | assumption | decide +kernel) (by decide +kernel) ⟨rfl, rfl, rfl, rfl, rfl, by decide +kernel⟩ ?hw ?hc
  case hw => w_witness2
  case hc =>
    refine L2.walk_ofE (l := PySem.Challenge.rw_shocksknown_k28_whole_places_that_statio) (n := 63) (k := 15) (x := "script") (CX := L2.CX0) rfl (by decide) (by kernel_rfl) ⟨rfl, by decide, by decide⟩ ?F (fun _ _ _ _ z => z)
    intro w mg fa h Y G hmg0
    obtain ⟨K, KX, c⟩ := Y
    have hmg : mg ("law" : PySem.Str) = some (.ref fa) := by
      have e : (HandSHeadRun.topDef LP.LR.prog 32).name = ("law" : PySem.Str) := by kernel_rfl
      rw [← e]
      exact hmg0
    obtain ⟨fd, hb, hF⟩ := LP.factsL (P := (PySem.Challenge.rw_shocksknown_k28_whole_places_that_statio).prog) (w := w) KX G hmg c
    exact ⟨K, fd, PF.spLaw K, KX, hb, fun H a ns hl hO hS => ⟨a, ns, rfl, hS, hO, hl, fun _ => rfl⟩, hF⟩
