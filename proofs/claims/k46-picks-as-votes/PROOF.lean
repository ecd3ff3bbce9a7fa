import PyProof.Rows.All
import Wide.All
import OpenK.AllK
import Wide.FinOn
import KE.KStateDown
import HandS.ForMost
import HandS.IsInst
import HandS.Wide
import HandS.Gcd
import HandS.Style
import HandS.Flow
import HandS.TupAny
import HandS.Conv
import HandS.Comp
import HandS.HeadHook2
import HandS.HeadEnd
import HandS.Head0
import HandS.Head1
import HandS.Head2
import HandS.HeadHook1
import HandS.Head3
import HandS.Deep
import KE.DataMinMax
import HandS.TupMul
import KE.KTupSum
import KE.SortData
import HandS.SetFor
import HandS.Strs
import HandS.TupSets
import HandS.TryOnly
import KE.DataCmp
import KE.KRevSl
import HandS.Flt
import PySem.Challenge.RW_shocksknown_k46_whole_picks_as_votes
set_option Elab.async false
set_option linter.all false
set_option maxRecDepth 100000
set_option maxHeartbeats 0
set_option exponentiation.threshold 500
set_option synthInstance.maxSize 5000
set_option synthInstance.maxHeartbeats 0
namespace PF
open PySem PySem.Spec PyProof.Rows L2
/-- data as the proofs see it: ref n is the n-th changeable list of the state; lst: a list that nobody changes any more; kst: a list that stood before (the script) -/
inductive D where
  | non | bl (b : Bool) | int (i : Int) | str (x : Str) | tup (xs : List D) | lst (xs : List D) | kst (xs : List D) | ref (n : Nat)
inductive MO where
  | lst (xs : List D)
abbrev Mem := List MO
abbrev Rho := List (Option D)
structure Wo where
  as : List Addr
  bad : Addr → Prop
  H : Hp
abbrev LINE : Nat := 16777216
theorem line_eq : sizeLine = LINE := sizeLine_eq
section
variable (K : PySem.W.Frag) (W : Wo)
def FzL (a : Addr) (vs : List V) : Prop := (W.H a = some (.lst vs) ∧ ¬ W.bad a) ∧ vs.length ≤ LINE
def FzK (a : Addr) (vs : List V) : Prop := (((∃ o, W.H a = some (.frz o (.lst vs))) ∧ ¬ W.bad a) ∨ SqL K (fun _ => none) a vs) ∧ vs.length ≤ LINE
def FzT (a : Addr) (vs : List V) : Prop := ((W.H a = some (.tup vs) ∧ ¬ W.bad a) ∨ SqT K (fun _ => none) a vs) ∧ vs.length ≤ LINE
mutual
def Rp : D → V → Prop
  | .non, v => v = .non
  | .bl b, v => v = .bl b
  | .int i, v => v = .int i
  | .str x, v => v = .str x
  | .tup ds, v => ∃ a vs, v = .ref a ∧ FzT K W a vs ∧ RpL ds vs
  | .lst ds, v => ∃ a vs, v = .ref a ∧ FzL W a vs ∧ RpL ds vs
  | .kst ds, v => ∃ a vs, v = .ref a ∧ FzK K W a vs ∧ RpL ds vs
  | .ref n, v => ∃ a, W.as[n]? = some a ∧ v = .ref a
def RpL : List D → List V → Prop
  | [], vs => vs = []
  | d :: ds, vs => ∃ v r, vs = v :: r ∧ Rp d v ∧ RpL ds r
end
def MoOk (a : Addr) : MO → Prop
  | .lst ds => ∃ vs, (W.H a = some (.lst vs) ∧ vs.length ≤ LINE) ∧ RpL K W ds vs
structure SR (M : Mem) : Prop where
  len : W.as.length = M.length
  nd : W.as.Nodup
  sub : ∀ a ∈ W.as, W.bad a
  bt : ∀ a, W.bad a → ∃ o, W.H a = some o
  obj : ∀ (n : Nat) (a : Addr) (mo : MO), W.as[n]? = some a → M[n]? = some mo → MoOk K W a mo
structure Sl (ρ : Rho) (σ : L2.St) : Prop where
  len : ρ.length = σ.length
  at_ : ∀ (i : Nat) (d : D), ρ[i]? = some (some d) → ∃ v, σ[i]? = some (some v) ∧ Rp K W d v
end
/-- one state behind another -/
structure Ext (W W' : Wo) : Prop where
  as : ∃ new, W'.as = W.as ++ new ∧ ∀ a ∈ new, W.H a = none
  bad : ∀ a, W.bad a → W'.bad a
  new : ∀ a, W'.bad a → W.bad a ∨ W.H a = none
  keep : ∀ a o, a ∉ W.as → W.H a = some o → W'.H a = some o
  live : ∀ a o, W.H a = some o → ∃ o', W'.H a = some o'
theorem Ext.refl (W : Wo) : Ext W W := ⟨⟨[], by simp, fun _ h => by simp at h⟩, fun _ h => h, fun _ h => .inl h, fun _ _ _ h => h, fun _ o h => ⟨o, h⟩⟩
theorem none_of_live {W W' : Wo} (e : Ext W W') {a : Addr} (h : W'.H a = none) : W.H a = none := by
  cases q : W.H a with
  | none => rfl
  | some o => obtain ⟨o', h'⟩ := e.live a o q; rw [h] at h'; cases h'
theorem Ext.trans {W W1 W2 : Wo} (e : Ext W W1) (e' : Ext W1 W2) : Ext W W2 := by
  obtain ⟨n1, h1, f1⟩ := e.as
  obtain ⟨n2, h2, f2⟩ := e'.as
  refine ⟨⟨n1 ++ n2, by rw [h2, h1, List.append_assoc], fun a ha => ?_⟩, fun a h => e'.bad a (e.bad a h), fun a h => ?_, fun a o ha h => ?_, fun a o h => ?_⟩
  · rcases List.mem_append.mp ha with h | h
    · exact f1 a h
    · exact none_of_live e (f2 a h)
  · rcases e'.new a h with h | h
    · exact e.new a h
    · exact .inr (none_of_live e h)
  · refine e'.keep a o (fun z => ?_) (e.keep a o ha h)
    rw [h1] at z
    rcases List.mem_append.mp z with z | z
    · exact ha z
    · rw [f1 a z] at h; cases h
  · obtain ⟨o', h'⟩ := e.live a o h
    exact e'.live a o' h'
section
variable {K : PySem.W.Frag} {W W' : Wo}
theorem Ext.frz {a : Addr} {u : HO} (e : Ext W W') (hs : ∀ a ∈ W.as, W.bad a) (h : W.H a = some u ∧ ¬ W.bad a) : W'.H a = some u ∧ ¬ W'.bad a := by
  obtain ⟨h, nb⟩ := h
  have na : a ∉ W.as := fun z => nb (hs a z)
  refine ⟨e.keep a _ na h, fun z => ?_⟩
  rcases e.new a z with z | z
  · exact nb z
  · rw [h] at z; cases z
mutual
theorem Rp.ext (e : Ext W W') (hs : ∀ a ∈ W.as, W.bad a) : ∀ (d : D) (v : V), Rp K W d v → Rp K W' d v
  | .non, _, h => h
  | .bl _, _, h => h
  | .int _, _, h => h
  | .str _, _, h => h
  | .tup ds, v, h => by
    obtain ⟨a, vs, e1, f, r⟩ := h
    exact ⟨a, vs, e1, ⟨f.1.imp (fun q => e.frz hs q) fun q => q, f.2⟩, RpL.ext e hs ds vs r⟩
  | .lst ds, v, h => by
    obtain ⟨a, vs, e1, f, r⟩ := h
    exact ⟨a, vs, e1, ⟨e.frz hs f.1, f.2⟩, RpL.ext e hs ds vs r⟩
  | .kst ds, v, h => by
    obtain ⟨a, vs, e1, f, r⟩ := h
    refine ⟨a, vs, e1, ⟨f.1.imp (fun q => ?_) fun q => q, f.2⟩, RpL.ext e hs ds vs r⟩
    obtain ⟨⟨o, q⟩, nb⟩ := q
    obtain ⟨q', nb'⟩ := e.frz hs ⟨q, nb⟩
    exact ⟨⟨o, q'⟩, nb'⟩
  | .ref n, v, h => by
    obtain ⟨a, h1, h2⟩ := h
    obtain ⟨new, h3, _⟩ := e.as
    refine ⟨a, ?_, h2⟩
    rw [h3]
    exact (List.getElem?_append_left (List.getElem?_eq_some_iff.mp h1).1).trans h1
theorem RpL.ext (e : Ext W W') (hs : ∀ a ∈ W.as, W.bad a) : ∀ (ds : List D) (vs : List V), RpL K W ds vs → RpL K W' ds vs
  | [], _, h => h
  | d :: ds, vs, h => by
    obtain ⟨v, r, e1, h1, h2⟩ := h
    exact ⟨v, r, e1, Rp.ext e hs d v h1, RpL.ext e hs ds r h2⟩
end
theorem Sl.ext {ρ : Rho} {σ : L2.St} (e : Ext W W') (hs : ∀ a ∈ W.as, W.bad a) (h : Sl K W ρ σ) : Sl K W' ρ σ :=
  ⟨h.len, fun i d hd => let ⟨v, h1, h2⟩ := h.at_ i d hd; ⟨v, h1, h2.ext e hs⟩⟩
theorem RpL.len : ∀ {ds : List D} {vs : List V}, RpL K W ds vs → ds.length = vs.length
  | [], _, h => by cases (show _ = _ from h); rfl
  | _ :: _, _, h => by
    obtain ⟨v, r, rfl, _, h2⟩ := h
    simp [RpL.len h2]
theorem RpL.get : ∀ {ds : List D} {vs : List V} {i : Nat} {d : D}, RpL K W ds vs → ds[i]? = some d → ∃ v, vs[i]? = some v ∧ Rp K W d v
  | [], _, _, _, _, h => by simp at h
  | x :: _, _, 0, d, h, e => by
    obtain ⟨v, r, rfl, h1, _⟩ := h
    simp at e; subst e
    exact ⟨v, rfl, h1⟩
  | _ :: _, _, i + 1, d, h, e => by
    obtain ⟨v, r, rfl, _, h2⟩ := h
    obtain ⟨u, a, b⟩ := RpL.get (i := i) (d := d) h2 (by simpa using e)
    exact ⟨u, by simpa using a, b⟩
theorem RpL.append : ∀ {ds es : List D} {vs us : List V}, RpL K W ds vs → RpL K W es us → RpL K W (ds ++ es) (vs ++ us)
  | [], _, _, _, h, h' => by cases (show _ = _ from h); exact h'
  | _ :: _, _, _, _, h, h' => by
    obtain ⟨v, r, rfl, h1, h2⟩ := h
    exact ⟨v, r ++ _, rfl, h1, RpL.append h2 h'⟩
theorem RpL.one {d : D} {v : V} (h : Rp K W d v) : RpL K W [d] [v] := ⟨v, [], rfl, h, rfl⟩
theorem RpL.take : ∀ {ds : List D} {vs : List V} (n : Nat), RpL K W ds vs → RpL K W (ds.take n) (vs.take n)
  | _, _, 0, _ => rfl
  | [], _, _ + 1, h => by cases (show _ = _ from h); rfl
  | _ :: _, _, n + 1, h => by
    obtain ⟨v, r, rfl, h1, h2⟩ := h
    exact ⟨v, _, rfl, h1, RpL.take n h2⟩
theorem RpL.drop : ∀ {ds : List D} {vs : List V} (n : Nat), RpL K W ds vs → RpL K W (ds.drop n) (vs.drop n)
  | _, _, 0, h => h
  | [], _, _ + 1, h => by cases (show _ = _ from h); rfl
  | _ :: _, _, n + 1, h => by
    obtain ⟨v, r, rfl, h1, h2⟩ := h
    exact RpL.drop n h2
theorem RpL.set : ∀ {ds : List D} {vs : List V} {d : D} {v : V} (n : Nat), RpL K W ds vs → Rp K W d v → RpL K W (ds.set n d) (vs.set n v)
  | [], _, _, _, _, h, _ => by cases (show _ = _ from h); exact rfl
  | _ :: _, _, _, _, 0, h, q => by
    obtain ⟨v, r, rfl, h1, h2⟩ := h
    exact ⟨_, _, rfl, q, h2⟩
  | _ :: _, _, _, _, n + 1, h, q => by
    obtain ⟨v, r, rfl, h1, h2⟩ := h
    exact ⟨_, _, rfl, h1, RpL.set n h2 q⟩
theorem RpL.reverse : ∀ {ds : List D} {vs : List V}, RpL K W ds vs → RpL K W ds.reverse vs.reverse
  | [], _, h => by cases (show _ = _ from h); exact rfl
  | d :: ds, _, h => by
    obtain ⟨v, r, rfl, h1, h2⟩ := h
    rw [List.reverse_cons, List.reverse_cons]
    exact (RpL.reverse h2).append (.one h1)
end
/-! ### what a piece of code computes -/
inductive Out where
  | nx (ρ : Rho) | ret (d : D) | bk (ρ : Rho) | ct (ρ : Rho)
abbrev FE := Rho → Mem → Option (D × Mem)
abbrev FT := Rho → Mem → Option (Bool × Mem)
abbrev FA := Rho → Mem → Option (List D × Mem)
abbrev FS := Rho → Mem → Option (Out × Mem)
def liftE (K : PySem.W.Frag) (f : FE) : TE := fun σ H Q => ∃ W ρ M, W.H = H ∧ SR K W M ∧ Sl K W ρ σ ∧ ∃ d M', f ρ M = some (d, M') ∧
  ∀ W' v, Ext W W' → SR K W' M' → Rp K W' d v → Q v W'.H
def liftT (K : PySem.W.Frag) (f : FT) : TT := fun σ H Q => ∃ W ρ M, W.H = H ∧ SR K W M ∧ Sl K W ρ σ ∧ ∃ d M', f ρ M = some (d, M') ∧
  ∀ W', Ext W W' → SR K W' M' → Q d W'.H
def liftA (K : PySem.W.Frag) (f : FA) : TA := fun σ H Q => ∃ W ρ M, W.H = H ∧ SR K W M ∧ Sl K W ρ σ ∧ ∃ d M', f ρ M = some (d, M') ∧
  ∀ W' v, Ext W W' → SR K W' M' → RpL K W' d v → Q v W'.H
/-- a new list comes last, nothing else knows it -/
def liftN (K : PySem.W.Frag) (f : FA) : TE := fun σ H Q => ∃ W ρ M, W.H = H ∧ SR K W M ∧ Sl K W ρ σ ∧ ∃ d M', f ρ M = some (d, M') ∧
  ∀ W' p vs, Ext W W' → SR K W' M' → W'.H p = none → RpL K W' d vs → vs.length ≤ LINE → Q (.ref p) (upd W'.H p (.lst vs))
def liftS (K : PySem.W.Frag) (f : FS) : TS := fun E σ H => ∃ W ρ M, W.H = H ∧ SR K W M ∧ Sl K W ρ σ ∧ ∃ o M', f ρ M = some (o, M') ∧
  match o with
  | .nx ρ' => ∀ W' σ', Ext W W' → SR K W' M' → Sl K W' ρ' σ' → E.nx σ' W'.H
  | .bk ρ' => ∀ W' σ', Ext W W' → SR K W' M' → Sl K W' ρ' σ' → E.bk σ' W'.H
  | .ct ρ' => ∀ W' σ', Ext W W' → SR K W' M' → Sl K W' ρ' σ' → E.ct σ' W'.H
  | .ret d => ∀ W' v, Ext W W' → SR K W' M' → Rp K W' d v → E.rt v W'.H
/-! ### weakening -/
section
variable {X : Cx}
theorem pe_weak {e : Expr} {t t' : TE} (h : PE X e t) (i : ∀ σ H Q, t' σ H Q → t σ H Q) : PE X e t' := ⟨fun pins s σ H Q I q => h.run pins s σ H Q I (i σ H Q q)⟩
theorem pt_weak {e : Expr} {t t' : TT} (h : PT X e t) (i : ∀ σ H Q, t' σ H Q → t σ H Q) : PT X e t' := ⟨fun pins s σ H Q I q => h.run pins s σ H Q I (i σ H Q q)⟩
theorem pw_weak {e : Expr} {t t' : TT} (h : PW X e t) (i : ∀ σ H Q, t' σ H Q → t σ H Q) : PW X e t' := ⟨fun wh pins s σ H Q I q => h.run wh pins s σ H Q I (i σ H Q q)⟩
theorem pa_weak {e : List Expr} {t t' : TA} (h : PA X e t) (i : ∀ σ H Q, t' σ H Q → t σ H Q) : PA X e t' := ⟨fun pos pins s σ H Q I q => h.run pos pins s σ H Q I (i σ H Q q)⟩
theorem ps_weak {e : Stmt} {t t' : TS} (h : PS X e t) (i : ∀ σ H Q, t' σ H Q → t σ H Q) : PS X e t' := ⟨fun pins s σ H D I q => h.run pins s σ H D I (i D σ H q)⟩
theorem pss_weak {e : List Stmt} {t t' : TS} (h : PSs X e t) (i : ∀ σ H Q, t' σ H Q → t σ H Q) : PSs X e t' := ⟨fun pins s σ H D I q => h.run pins s σ H D I (i D σ H q)⟩
abbrev PFE (X : Cx) (e : Expr) (f : FE) : Prop := PE X e (liftE X.K f)
abbrev PFN (X : Cx) (e : Expr) (f : FA) : Prop := PE X e (liftN X.K f)
abbrev PFT (X : Cx) (e : Expr) (f : FT) : Prop := PT X e (liftT X.K f)
abbrev PFW (X : Cx) (e : Expr) (f : FT) : Prop := PW X e (liftT X.K f)
abbrev PFA (X : Cx) (e : List Expr) (f : FA) : Prop := PA X e (liftA X.K f)
abbrev PFS (X : Cx) (e : Stmt) (f : FS) : Prop := PS X e (liftS X.K f)
abbrev PFSs (X : Cx) (e : List Stmt) (f : FS) : Prop := PSs X e (liftS X.K f)
end
end PF
namespace PF
open PySem PySem.Spec PyProof.Rows L2
/-! ### the state's steps -/
section
variable {K : PySem.W.Frag} {W W' : Wo} {M : Mem}
def Wo.put (W : Wo) (p : Addr) (o : HO) : Wo := { W with H := upd W.H p o }
theorem Ext.put {p : Addr} {o : HO} (hp : W.H p = none) : Ext W (W.put p o) :=
  ⟨⟨[], by simp [Wo.put], fun _ h => by simp at h⟩, fun _ h => h, fun _ h => .inl h, fun a u _ h => (upd_ne (ne_of_none h hp)).trans h, fun a u h => ⟨u, (upd_ne (ne_of_none h hp)).trans h⟩⟩
theorem MoOk.ext {a : Addr} {mo : MO} (e : Ext W W') (hs : ∀ a ∈ W.as, W.bad a) (h : MoOk K W a mo) (ha : W'.H a = W.H a) : MoOk K W' a mo := by
  cases mo with
  | lst ds => obtain ⟨vs, h1, h2⟩ := h; exact ⟨vs, ⟨ha.trans h1.1, h1.2⟩, h2.ext e hs⟩
theorem MoOk.there {a : Addr} {mo : MO} (h : MoOk K W a mo) : ∃ o, W.H a = some o := by
  cases mo with
  | lst ds => obtain ⟨vs, h1, h2⟩ := h; exact ⟨_, h1.1⟩
theorem SR.at_ (sr : SR K W M) {n : Nat} {a : Addr} (h : W.as[n]? = some a) : ∃ mo, M[n]? = some mo ∧ MoOk K W a mo := by
  have hn : n < M.length := by rw [← sr.len]; exact (List.getElem?_eq_some_iff.mp h).1
  exact ⟨M[n], by simp [hn], sr.obj n a _ h (by simp [hn])⟩
theorem SR.addr (sr : SR K W M) {n : Nat} {mo : MO} (h : M[n]? = some mo) : ∃ a, W.as[n]? = some a ∧ MoOk K W a mo := by
  have hn : n < W.as.length := by rw [sr.len]; exact (List.getElem?_eq_some_iff.mp h).1
  exact ⟨W.as[n], by simp [hn], sr.obj n _ mo (by simp [hn]) h⟩
theorem SR.put {p : Addr} {o : HO} (sr : SR K W M) (hp : W.H p = none) : SR K (W.put p o) M := by
  refine ⟨sr.len, sr.nd, sr.sub, fun a h => ?_, fun n a mo h1 h2 => ?_⟩
  · obtain ⟨o, q⟩ := sr.bt a h
    exact (Ext.put hp).live a o q
  · have m := sr.obj n a mo h1 h2
    obtain ⟨o', q⟩ := m.there
    exact m.ext (Ext.put hp) sr.sub (upd_ne (ne_of_none q hp))
theorem SR.nb {p : Addr} (sr : SR K W M) (hp : W.H p = none) : ¬ W.bad p := fun z => by
  obtain ⟨o, q⟩ := sr.bt p z
  rw [hp] at q; cases q
theorem Rp.newTup {p : Addr} {ds : List D} {vs : List V} (sr : SR K W M) (hp : W.H p = none) (h : RpL K W ds vs) (hl : vs.length ≤ LINE) : Rp K (W.put p (.tup vs)) (.tup ds) (.ref p) :=
  ⟨p, vs, rfl, ⟨.inl ⟨upd_same, sr.nb hp⟩, hl⟩, h.ext (Ext.put hp) sr.sub⟩
theorem Rp.newLst {p : Addr} {ds : List D} {vs : List V} (sr : SR K W M) (hp : W.H p = none) (h : RpL K W ds vs) (hl : vs.length ≤ LINE) : Rp K (W.put p (.lst vs)) (.lst ds) (.ref p) :=
  ⟨p, vs, rfl, ⟨⟨upd_same, sr.nb hp⟩, hl⟩, h.ext (Ext.put hp) sr.sub⟩
/-- a new changeable list -/
def Wo.mk2 (W : Wo) (p : Addr) (o : HO) : Wo := ⟨W.as ++ [p], fun a => W.bad a ∨ a = p, upd W.H p o⟩
theorem Ext.mk2 {p : Addr} {o : HO} (hp : W.H p = none) : Ext W (W.mk2 p o) := by
  refine ⟨⟨[p], rfl, fun a h => ?_⟩, fun _ h => .inl h, fun a h => ?_, fun a u _ h => (upd_ne (ne_of_none h hp)).trans h, fun a u h => ⟨u, (upd_ne (ne_of_none h hp)).trans h⟩⟩
  · have e : a = p := by simpa using h
    rw [e]; exact hp
  · rcases h with h | h
    · exact .inl h
    · rw [h]; exact .inr hp
theorem SR.mk2 {p : Addr} {ds : List D} {vs : List V} (sr : SR K W M) (hp : W.H p = none) (h : RpL K W ds vs) (hl : vs.length ≤ LINE) : SR K (W.mk2 p (.lst vs)) (M ++ [.lst ds]) := by
  have npa : p ∉ W.as := fun z => sr.nb hp (sr.sub p z)
  have E := Ext.mk2 (W := W) (o := .lst vs) hp
  refine ⟨by simp [Wo.mk2, sr.len], ?_, fun a h => ?_, fun a h => ?_, fun n a mo h1 h2 => ?_⟩
  · show (W.as ++ [p]).Nodup
    rw [List.nodup_append]
    refine ⟨sr.nd, by simp, fun a ha b hb => ?_⟩
    have e : b = p := by simpa using hb
    rw [e]; rintro rfl; exact npa ha
  · rcases List.mem_append.mp h with h | h
    · exact .inl (sr.sub a h)
    · exact .inr (by simpa using h)
  · rcases h with h | h
    · obtain ⟨o, q⟩ := sr.bt a h
      exact E.live a o q
    · rw [h]; exact ⟨_, upd_same⟩
  · have h1' : (W.as ++ [p])[n]? = some a := h1
    by_cases hn : n < W.as.length
    · rw [List.getElem?_append_left hn] at h1'
      rw [List.getElem?_append_left (by rw [← sr.len]; exact hn)] at h2
      have m := sr.obj n a mo h1' h2
      obtain ⟨o', q⟩ := m.there
      exact m.ext E sr.sub (upd_ne (ne_of_none q hp))
    · have e : n = W.as.length := by
        have := (List.getElem?_eq_some_iff.mp h1').1
        simp at this; omega
      subst e
      have ea : p = a := by simpa using h1'
      have em : MO.lst ds = mo := by
        rw [sr.len] at h2
        simpa using h2
      subst ea em
      exact ⟨vs, ⟨upd_same, hl⟩, h.ext E sr.sub⟩
theorem Rp.mk2 {p : Addr} {o : HO} (sr : SR K W M) : Rp K (W.mk2 p o) (.ref M.length) (.ref p) := ⟨p, by show (W.as ++ [p])[M.length]? = _; rw [← sr.len]; simp, rfl⟩
/-- a changeable list is written -/
theorem Ext.wr {a : Addr} {o : HO} (ha : a ∈ W.as) : Ext W (W.put a o) := by
  refine ⟨⟨[], by simp [Wo.put], fun _ h => by simp at h⟩, fun _ h => h, fun _ h => .inl h, fun b u hb h => (upd_ne fun z => hb (by rw [z]; exact ha)).trans h, fun b u h => ?_⟩
  by_cases hb : b = a
  · subst hb; exact ⟨_, upd_same⟩
  · exact ⟨u, (upd_ne hb).trans h⟩
theorem SR.wr {n : Nat} {a : Addr} {ds : List D} {vs : List V} (sr : SR K W M) (hn : W.as[n]? = some a) (h : RpL K W ds vs) (hl : vs.length ≤ LINE) : SR K (W.put a (.lst vs)) (M.set n (.lst ds)) := by
  have ha : a ∈ W.as := List.mem_of_getElem? hn
  have E := Ext.wr (W := W) (o := .lst vs) ha
  refine ⟨by rw [List.length_set]; exact sr.len, sr.nd, sr.sub, fun b hb => ?_, fun m b mo h1 h2 => ?_⟩
  · obtain ⟨o, q⟩ := sr.bt b hb
    exact E.live b o q
  · have h1' : W.as[m]? = some b := h1
    by_cases e : m = n
    · subst e
      rw [hn] at h1'; cases h1'
      have hm : m < M.length := by rw [← sr.len]; exact (List.getElem?_eq_some_iff.mp hn).1
      rw [List.getElem?_set_self hm] at h2
      cases h2
      exact ⟨vs, ⟨upd_same, hl⟩, h.ext E sr.sub⟩
    · rw [List.getElem?_set_ne (Ne.symm e)] at h2
      refine (sr.obj m b mo h1' h2).ext E sr.sub (upd_ne fun z => e ?_)
      subst z
      obtain ⟨q1, q2⟩ := List.getElem?_eq_some_iff.mp h1'
      obtain ⟨q3, q4⟩ := List.getElem?_eq_some_iff.mp hn
      exact (List.getElem_inj sr.nd).mp (q2.trans q4.symm)
end
/-! ### lists and tuples, read -/
def lsOf : D → Mem → Option (List D)
  | .lst xs, _ => some xs
  | .kst xs, _ => some xs
  | .ref n, M => match M[n]? with | some (.lst xs) => some xs | _ => none
  | _, _ => none
def sqOf : D → Mem → Option (List D)
  | .tup xs, _ => some xs
  | d, M => lsOf d M
section
variable {K : PySem.W.Frag} {W W' : Wo} {M : Mem} {d : D} {v : V} {xs : List D}
theorem SqL.any {H : Hp} {a : Addr} {vs : List V} (h : SqL K (fun _ => none) a vs) : SqL K H a vs := by
  rcases h with (h | ⟨o, h⟩) | h
  · cases (show (none : Option HO) = _ from h)
  · cases (show (none : Option HO) = _ from h)
  · exact .inr h
theorem SqT.any {H : Hp} {a : Addr} {vs : List V} (h : SqT K (fun _ => none) a vs) : SqT K H a vs := by
  rcases h with (h | ⟨o, h⟩) | h
  · cases (show (none : Option HO) = _ from h)
  · cases (show (none : Option HO) = _ from h)
  · exact .inr h
theorem ls_sq (sr : SR K W M) (h : Rp K W d v) (e : lsOf d M = some xs) : ∃ a vs, v = .ref a ∧ SqL K W.H a vs ∧ RpL K W xs vs := by
  cases d with
  | lst ds =>
    cases e
    obtain ⟨a, vs, e1, f, r⟩ := h
    exact ⟨a, vs, e1, .of f.1.1, r⟩
  | kst ds =>
    cases e
    obtain ⟨a, vs, e1, f, r⟩ := h
    refine ⟨a, vs, e1, ?_, r⟩
    rcases f.1 with ⟨⟨o, f⟩, _⟩ | f
    · exact .inl (.inr ⟨o, f⟩)
    · exact SqL.any f
  | ref n =>
    obtain ⟨a, h1, e1⟩ := h
    obtain ⟨mo, h2, m⟩ := sr.at_ h1
    have e' : (match M[n]? with | some (.lst xs) => some xs | _ => none) = some xs := e
    rw [h2] at e'
    cases mo with
    | lst ds =>
      cases e'
      obtain ⟨vs, q1, q2⟩ := m
      exact ⟨a, vs, e1, .of q1.1, q2⟩
  | _ => cases e
theorem ls_len (sr : SR K W M) (h : Rp K W d v) (e : lsOf d M = some xs) : xs.length ≤ LINE := by
  cases d with
  | lst ds =>
    cases e
    obtain ⟨a, vs, e1, f, r⟩ := h
    rw [r.len]; exact f.2
  | kst ds =>
    cases e
    obtain ⟨a, vs, e1, f, r⟩ := h
    rw [r.len]; exact f.2
  | ref n =>
    obtain ⟨a, h1, e1⟩ := h
    obtain ⟨mo, h2, m⟩ := sr.at_ h1
    have e' : (match M[n]? with | some (.lst xs) => some xs | _ => none) = some xs := e
    rw [h2] at e'
    cases mo with
    | lst ds =>
      cases e'
      obtain ⟨vs, q1, q2⟩ := m
      rw [q2.len]; exact q1.2
  | _ => cases e
theorem tp_sq (h : Rp K W (.tup xs) v) : ∃ a vs, v = .ref a ∧ SqT K W.H a vs ∧ RpL K W xs vs := by
  obtain ⟨a, vs, e1, f, r⟩ := h
  refine ⟨a, vs, e1, ?_, r⟩
  rcases f.1 with ⟨f, _⟩ | f
  · exact .of f
  · exact SqT.any f
theorem sq_len (sr : SR K W M) (h : Rp K W d v) (e : sqOf d M = some xs) : xs.length ≤ LINE := by
  cases d with
  | tup ds =>
    cases e
    obtain ⟨a, vs, e1, f, r⟩ := h
    rw [r.len]; exact f.2
  | lst ds => exact ls_len sr h e
  | kst ds => exact ls_len sr h e
  | ref n => exact ls_len sr h e
  | _ => cases e
theorem sq_sq (sr : SR K W M) (h : Rp K W d v) (e : sqOf d M = some xs) : ∃ a vs, v = .ref a ∧ (SqL K W.H a vs ∨ SqT K W.H a vs) ∧ RpL K W xs vs := by
  have l : lsOf d M = some xs → ∃ a vs, v = .ref a ∧ (SqL K W.H a vs ∨ SqT K W.H a vs) ∧ RpL K W xs vs := fun e => by
    obtain ⟨a, vs, h1, h2, h3⟩ := ls_sq sr h e
    exact ⟨a, vs, h1, .inl h2, h3⟩
  cases d with
  | tup ds =>
    cases e
    obtain ⟨a, vs, h1, h2, h3⟩ := tp_sq h
    exact ⟨a, vs, h1, .inr h2, h3⟩
  | _ => exact l e
end
/-! ### names, constants, two-place operations -/
def fVar (i : Nat) : FE := fun ρ M => match ρ[i]? with | some (some d) => some (d, M) | _ => none
def fC (d : D) : FE := fun _ M => some (d, M)
abbrev G1 := D → Mem → Option D
abbrev G2 := D → D → Mem → Option D
abbrev G2B := D → D → Mem → Option Bool
def f1 (g : G1) (fa : FE) : FE := fun ρ M => (fa ρ M).bind fun a => (g a.1 a.2).bind fun d => some (d, a.2)
def f2 (g : G2) (fa fb : FE) : FE := fun ρ M => (fa ρ M).bind fun a => (fb ρ a.2).bind fun b => (g a.1 b.1 b.2).bind fun d => some (d, b.2)
def gB (g : G2B) : G2 := fun x y M => (g x y M).map .bl
def f2T (g : G2B) (fa fb : FE) : FT := fun ρ M => (fa ρ M).bind fun a => (fb ρ a.2).bind fun b => (g a.1 b.1 b.2).bind fun d => some (d, b.2)
/-- the operation's reading follows from what it computes -/
def Op1 (K : PySem.W.Frag) (r : V → Hp → VK → Prop) (g : G1) : Prop := ∀ (W : Wo) (M : Mem) (x d : D) (v : V) (Q : VK), SR K W M → Rp K W x v → g x M = some d →
  (∀ W' v', Ext W W' → SR K W' M → Rp K W' d v' → Q v' W'.H) → r v W.H Q
def Op2 (K : PySem.W.Frag) (r : R2) (g : G2) : Prop := ∀ (W : Wo) (M : Mem) (x y d : D) (v u : V) (Q : VK), SR K W M → Rp K W x v → Rp K W y u → g x y M = some d →
  (∀ W' v', Ext W W' → SR K W' M → Rp K W' d v' → Q v' W'.H) → r v u W.H Q
section
variable {K : PySem.W.Frag}
theorem lift1 {r : V → Hp → VK → Prop} {g : G1} {fa : FE} (op : Op1 K r g) : ∀ σ H Q, liftE K (f1 g fa) σ H Q → tUn r (liftE K fa) σ H Q := by
  rintro σ H Q ⟨W, ρ, M, rfl, sr, sl, d, M', hf, k⟩
  obtain ⟨⟨x, M1⟩, hx, hf⟩ := Option.bind_eq_some_iff.mp hf
  obtain ⟨d', hg, hf⟩ := Option.bind_eq_some_iff.mp hf
  cases hf
  exact ⟨W, ρ, M, rfl, sr, sl, x, M1, hx, fun W1 v e1 s1 r1 => op W1 _ x d v Q s1 r1 hg fun W2 v' e2 s2 r2 => k W2 v' (e1.trans e2) s2 r2⟩
theorem lift2 {r : R2} {g : G2} {fa fb : FE} (op : Op2 K r g) : ∀ σ H Q, liftE K (f2 g fa fb) σ H Q → tOp r (liftE K fa) (liftE K fb) σ H Q := by
  rintro σ H Q ⟨W, ρ, M, rfl, sr, sl, d, M', hf, k⟩
  obtain ⟨⟨x, M1⟩, hx, hf⟩ := Option.bind_eq_some_iff.mp hf
  obtain ⟨⟨y, M2⟩, hy, hf⟩ := Option.bind_eq_some_iff.mp hf
  obtain ⟨d', hg, hf⟩ := Option.bind_eq_some_iff.mp hf
  cases hf
  exact ⟨W, ρ, M, rfl, sr, sl, x, M1, hx, fun W1 v e1 s1 r1 => ⟨W1, ρ, M1, rfl, s1, sl.ext e1 sr.sub, y, M2, hy, fun W2 u e2 s2 r2 =>
    op W2 _ x y d v u Q s2 (r1.ext e2 s1.sub) r2 hg fun W3 v' e3 s3 r3 => k W3 v' ((e1.trans e2).trans e3) s3 r3⟩⟩
theorem lift2T {r : R2} {g : G2B} {fa fb : FE} (op : Op2 K r (gB g)) : ∀ σ H Q, liftT K (f2T g fa fb) σ H Q → tTest (tOp r (liftE K fa) (liftE K fb)) σ H Q := by
  rintro σ H Q ⟨W, ρ, M, rfl, sr, sl, d, M', hf, k⟩
  obtain ⟨⟨x, M1⟩, hx, hf⟩ := Option.bind_eq_some_iff.mp hf
  obtain ⟨⟨y, M2⟩, hy, hf⟩ := Option.bind_eq_some_iff.mp hf
  obtain ⟨d', hg, hf⟩ := Option.bind_eq_some_iff.mp hf
  cases hf
  exact ⟨W, ρ, M, rfl, sr, sl, x, M1, hx, fun W1 v e1 s1 r1 => ⟨W1, ρ, M1, rfl, s1, sl.ext e1 sr.sub, y, M2, hy, fun W2 u e2 s2 r2 =>
    op W2 _ x y (.bl d) v u _ s2 (r1.ext e2 s1.sub) r2 (by rw [gB, hg]; rfl) fun W3 v' e3 s3 r3 => ⟨d, r3, k W3 ((e1.trans e2).trans e3) s3⟩⟩⟩
theorem Op2.or {r r' : R2} {g g' : G2} (h : Op2 K r g) (h' : Op2 K r' g') : Op2 K (fun x y H Q => r x y H Q ∨ r' x y H Q) (fun x y M => (g x y M).orElse fun _ => g' x y M) := by
  intro W M x y d v u Q sr rx ry hg k
  cases q : g x y M with
  | some z =>
    simp only [q, Option.orElse_some, Option.some.injEq] at hg
    subst hg
    exact .inl (h W M x y z v u Q sr rx ry q k)
  | none =>
    simp only [q, Option.orElse_none] at hg
    exact .inr (h' W M x y d v u Q sr rx ry hg k)
theorem Op2.sum {r r' : R2} {g : G2} (h : ∀ (W : Wo) (M : Mem) (x y d : D) (v u : V) (Q : VK), SR K W M → Rp K W x v → Rp K W y u → g x y M = some d →
  (∀ W' v', Ext W W' → SR K W' M → Rp K W' d v' → Q v' W'.H) → r v u W.H Q ∨ r' v u W.H Q) : Op2 K (fun x y H Q => r x y H Q ∨ r' x y H Q) g := h
end
section
variable {X : Cx} {a b c : Expr} {fa fb fc : FE} {pos : Pos}
theorem pf_var (i : Nat) {x : Str} {pos : Pos} (hN : X.N[i]? = some x := by rfl) (hv : Vis X.env.scope x := by first | exact Or.inl rfl | exact Or.inr (Or.inl rfl) | exact Or.inr (Or.inr rfl)) (hd : (x == ("__debug__" : Str)) = false := by decide)
    (hcd : (x == ("__classdict__" : Str)) = false := by decide) : PFE X (.Name x pos) (fVar i) := pe_weak (pe_var hN hv hd hcd) fun σ H Q ⟨W, ρ, M, hW, sr, sl, d, M', hf, k⟩ => by
  subst hW
  unfold fVar at hf
  split at hf
  · rename_i d' hd'
    cases hf
    obtain ⟨v, h1, h2⟩ := sl.at_ i _ hd'
    exact ⟨v, h1, k W v (.refl W) sr h2⟩
  · cases hf
theorem pf_c {d : D} {v : V} {e : Expr} (h : PE X e (tC v)) (r : ∀ W, Rp X.K W d v) : PFE X e (fC d) := pe_weak h fun σ H Q ⟨W, ρ, M, hW, sr, sl, d, M', hf, k⟩ => by
  subst hW
  cases hf
  exact k W v (.refl W) sr (r W)
theorem pf_int {i : Int} {j pos} : PFE X (.Constant (.int i) j pos) (fC (.int i)) := pf_c pe_int fun _ => rfl
theorem pf_bl {i : Bool} {j pos} : PFE X (.Constant (.bool i) j pos) (fC (.bl i)) := pf_c pe_bl fun _ => rfl
theorem pf_non {j pos} : PFE X (.Constant .none j pos) (fC .non) := pf_c pe_non fun _ => rfl
theorem pf_str {i : Str} {j pos} : PFE X (.Constant (.str i) j pos) (fC (.str i)) := pf_c pe_str fun _ => rfl
theorem pf_un {op : UnaryOp} {r : V → Hp → VK → Prop} {g : G1} (ho : UnR X (unaryOp op) r) (o : Op1 X.K r g) (ha : PFE X a fa) : PFE X (.UnaryOp op a pos) (f1 g fa) := pe_weak (pe_un ho ha) (lift1 o)
theorem pf_bin {op : Operator} {r : R2} {g : G2} (ho : OpR X (binaryOp op) r) (o : Op2 X.K r g) (ha : PFE X a fa) (hb : PFE X b fb) : PFE X (.BinOp a op b pos) (f2 g fa fb) := pe_weak (pe_op ho ha hb) (lift2 o)
theorem pf_cmp {op : CmpOp} {r : R2} {g : G2B} (ho : OpR X (compareOp op) r) (o : Op2 X.K r (gB g)) (ha : PFE X a fa) (hb : PFE X b fb) (hm : behindInMarks op b = false) : PFE X (.Compare a [op] [b] pos) (f2 (gB g) fa fb) := pe_weak (pe_cmpR ho ha hb hm) (lift2 o)
theorem pft_cmp {op : CmpOp} {r : R2} {g : G2B} (ho : OpR X (compareOp op) r) (o : Op2 X.K r (gB g)) (ha : PFE X a fa) (hb : PFE X b fb) (hm : behindInMarks op b = false) : PFT X (.Compare a [op] [b] pos) (f2T g fa fb) := pt_weak (pt_cmpR ho ha hb hm) (lift2T o)
theorem pf_ix {r : R2} {g : G2} (hr : IxR X r) (o : Op2 X.K r g) (ha : PFE X a fa) (hb : PFE X b fb) (hs : PlainIx b) : PFE X (.Subscript a b pos) (f2 g fa fb) := pe_weak (pe_ix hr ha hb hs) (lift2 o)
end
end PF
namespace PF
open PySem PySem.Spec PyProof.Rows L2
/-! ### arithmetic -/
/-- lists that are tracked as they are -/
def ltOf : D → Mem → Option (List D)
  | .lst xs, _ => some xs
  | .ref n, M => match M[n]? with | some (.lst xs) => some xs | _ => none
  | _, _ => none
theorem lt_sq {K : PySem.W.Frag} {W : Wo} {M : Mem} {d : D} {v : V} {xs : List D} (sr : SR K W M) (h : Rp K W d v) (e : ltOf d M = some xs) : ∃ a vs, v = .ref a ∧ W.H a = some (.lst vs) ∧ RpL K W xs vs := by
  cases d with
  | lst ds =>
    cases e
    obtain ⟨a, vs, e1, f, r⟩ := h
    exact ⟨a, vs, e1, f.1.1, r⟩
  | ref n =>
    obtain ⟨a, h1, e1⟩ := h
    obtain ⟨mo, h2, m⟩ := sr.at_ h1
    have e' : (match M[n]? with | some (.lst xs) => some xs | _ => none) = some xs := e
    rw [h2] at e'
    cases mo with
    | lst ds =>
      cases e'
      obtain ⟨vs, q1, q2⟩ := m
      exact ⟨a, vs, e1, q1.1, q2⟩
  | _ => cases e
def gAdd : G2 := fun x y M => match x, y with
  | .int i, .int j => some (.int (i + j))
  | .str a, .str b => if a.length + b.length ≤ LINE then some (.str (a ++ b)) else none
  | .tup a, .tup b => if a.length + b.length ≤ LINE then some (.tup (a ++ b)) else none
  | x, y => match ltOf x M, ltOf y M with
    | some a, some b => if a.length + b.length ≤ LINE then some (.lst (a ++ b)) else none
    | _, _ => none
def rAddA (K : PySem.W.Frag) : R2 := fun x y H Q => rI0 (fun i j => .int (i + j)) x y H Q ∨ (∃ i j, x = .str i ∧ y = .str j ∧ i.length + j.length ≤ sizeLine ∧ Q (.str (i ++ j)) H) ∨ rCatA K x y H Q ∨ rCat x y H Q
theorem op_addA {X : Cx} : OpR X (binaryOp .Add) (rAddA X.K) := op_add.or (op_add_str.or (op_catA.or op_cat))
theorem o_add {K : PySem.W.Frag} : Op2 K (rAddA K) gAdd := by
  intro W M x y d v u Q sr rx ry hg k
  have lists : (match ltOf x M, ltOf y M with
    | some a, some b => if a.length + b.length ≤ LINE then some (D.lst (a ++ b)) else none
    | _, _ => none) = some d → rCat v u W.H Q := fun e => by
    split at e
    · rename_i a b ha hb
      split at e
      · rename_i hl
        cases e
        obtain ⟨p, vs, rfl, h1, r1⟩ := lt_sq sr rx ha
        obtain ⟨q, us, rfl, h2, r2⟩ := lt_sq sr ry hb
        exact ⟨p, q, vs, us, rfl, rfl, h1, h2, by rw [line_eq, ← r1.len, ← r2.len]; exact hl, fun t nt => k _ _ (Ext.put nt) (sr.put nt) (.newLst sr nt (r1.append r2) (by rw [List.length_append, ← r1.len, ← r2.len]; exact hl))⟩
      · cases e
    · cases e
  unfold gAdd at hg
  split at hg
  · cases hg
    cases rx; cases ry
    exact .inl ⟨_, _, rfl, rfl, k W _ (.refl W) sr rfl⟩
  · split at hg
    · rename_i hl
      cases hg
      cases rx; cases ry
      exact .inr (.inl ⟨_, _, rfl, rfl, by rw [line_eq]; exact hl, k W _ (.refl W) sr rfl⟩)
    · cases hg
  · split at hg
    · rename_i a b hl
      cases hg
      obtain ⟨p, vs, rfl, h1, r1⟩ := tp_sq rx
      obtain ⟨q, us, rfl, h2, r2⟩ := tp_sq ry
      refine .inr (.inr (.inl ⟨p, q, vs, us, rfl, rfl, h1, h2, by rw [line_eq, ← r1.len, ← r2.len]; exact hl, fun e => ?_, fun _ e => ?_, fun _ _ t nt => k _ _ (Ext.put nt) (sr.put nt) (.newTup sr nt (r1.append r2) (by rw [List.length_append, ← r1.len, ← r2.len]; exact hl))⟩))
      · subst e
        have : a = [] := List.eq_nil_of_length_eq_zero r1.len
        subst this
        exact k W _ (.refl W) sr ry
      · subst e
        have : b = [] := List.eq_nil_of_length_eq_zero r2.len
        subst this
        exact k W _ (.refl W) sr (by rw [List.append_nil]; exact rx)
    · cases hg
  · exact .inr (.inr (.inr (lists hg)))
def rInts (f : Int → Int → Int) : G2 := fun x y _ => match x, y with | .int i, .int j => some (.int (f i j)) | _, _ => none
def gInts (c : Int → Int → Bool) (f : Int → Int → Int) : G2 := fun x y _ => match x, y with | .int i, .int j => if c i j then some (.int (f i j)) else none | _, _ => none
theorem o_ints0 {K : PySem.W.Frag} {f : Int → Int → Int} : Op2 K (rI0 fun i j => .int (f i j)) (rInts f) := by
  intro W M x y d v u Q sr rx ry hg k
  unfold rInts at hg
  split at hg
  · cases hg
    cases rx; cases ry
    exact ⟨_, _, rfl, rfl, k W _ (.refl W) sr rfl⟩
  · cases hg
theorem o_ints {K : PySem.W.Frag} {C : Int → Int → Prop} {c : Int → Int → Bool} {f : Int → Int → Int} (hc : ∀ i j, c i j = true → C i j) : Op2 K (rI C fun i j => .int (f i j)) (gInts c f) := by
  intro W M x y d v u Q sr rx ry hg k
  unfold gInts at hg
  split at hg
  · split at hg
    · rename_i h
      cases hg
      cases rx; cases ry
      exact ⟨_, _, rfl, rfl, hc _ _ h, k W _ (.refl W) sr rfl⟩
    · cases hg
  · cases hg
def gSub : G2 := rInts fun i j => i - j
def okMul (i j : Int) : Bool := decide (i.natAbs < 18446744073709551616) || (decide (j.natAbs < 18446744073709551616) || decide (i.natAbs.log2 + j.natAbs.log2 < 1000000))
def okDiv (j : Int) : Bool := decide (j ≠ 0) && decide (j.natAbs.log2 < 9000)
def okPow (i j : Int) : Bool := decide (0 ≤ j) && (decide (j ≤ 1000000) && decide (i.natAbs < 18446744073709551616))
def gMul : G2 := fun x y M => match x, y with
  | .int i, .int j => if okMul i j then some (.int (i * j)) else none
  | x, .int j => match ltOf x M with
    | some xs => if decide (-(9223372036854775808) ≤ j) && (decide (j < 9223372036854775808) && decide (xs.length * j.toNat ≤ LINE)) then some (.lst (List.replicate j.toNat xs).flatten) else none
    | none => none
  | _, _ => none
def gFdiv : G2 := gInts (fun _ j => okDiv j) Int.fdiv
def gMod : G2 := gInts (fun _ j => decide (j ≠ 0)) Int.fmod
def gPow : G2 := gInts okPow fun i j => i ^ j.toNat
theorem op_fdivA {X : Cx} : OpR X (binaryOp .FloorDiv) (rI (fun _ j => j ≠ 0 ∧ j.natAbs.log2 < 9000) fun i j => .int (i.fdiv j)) := opI fun _ _ _ _ _ _ _ hc q => floordiv_int hc.1 q (.inl (PyProof.noPylong_of_log2 hc.2))
theorem o_sub {K : PySem.W.Frag} : Op2 K (rI0 fun i j => .int (i - j)) gSub := o_ints0
theorem RpL.rep {K : PySem.W.Frag} {W : Wo} {xs : List D} {vs : List V} (h : RpL K W xs vs) : ∀ n : Nat, RpL K W (List.replicate n xs).flatten (List.replicate n vs).flatten
  | 0 => rfl
  | n + 1 => by
    rw [List.replicate_succ, List.replicate_succ, List.flatten_cons, List.flatten_cons]
    exact h.append (RpL.rep h n)
theorem okMul_ok {i j : Int} (h : okMul i j = true) : IntMulOk i j := by
  unfold okMul at h
  simp only [Bool.or_eq_true, decide_eq_true_eq] at h
  rcases h with h | h | h
  · exact CMul.ok (.inl ⟨by omega, by omega⟩)
  · exact CMul.ok (.inr ⟨by omega, by omega⟩)
  · exact CMulW.ok h
def rMulA : R2 := fun x y H Q => rI IntMulOk (fun i j => .int (i * j)) x y H Q ∨ rRep x y H Q
theorem op_mulA {X : Cx} : OpR X (binaryOp .Mult) rMulA := OpR.or (opI fun _ _ _ _ _ _ _ hc q => mul_int q hc) op_rep
theorem o_mul {K : PySem.W.Frag} : Op2 K rMulA gMul := by
  intro W M x y d v u Q sr rx ry hg k
  unfold gMul at hg
  split at hg
  · split at hg
    · rename_i h
      cases hg
      cases rx; cases ry
      exact .inl ⟨_, _, rfl, rfl, okMul_ok h, k W _ (.refl W) sr rfl⟩
    · cases hg
  · split at hg
    · rename_i xs hx
      split at hg
      · rename_i h
        cases hg
        simp only [Bool.and_eq_true, decide_eq_true_eq] at h
        obtain ⟨p, vs, rfl, h1, r1⟩ := lt_sq sr rx hx
        cases ry
        exact .inr ⟨p, _, vs, rfl, rfl, h1, h.1, h.2.1, by rw [line_eq, ← r1.len]; exact h.2.2, fun t nt => k _ _ (Ext.put nt) (sr.put nt) (.newLst sr nt (r1.rep _) (by rw [← (r1.rep _).len, PyProof.Rows.lm_len_rep_flat, Nat.mul_comm]; exact h.2.2))⟩
      · cases hg
    · cases hg
  · cases hg
theorem o_fdiv {K : PySem.W.Frag} : Op2 K (rI (fun _ j => j ≠ 0 ∧ j.natAbs.log2 < 9000) fun i j => .int (i.fdiv j)) gFdiv := o_ints fun i j h => by
  unfold okDiv at h
  simp only [Bool.and_eq_true, decide_eq_true_eq] at h
  exact h
theorem o_mod {K : PySem.W.Frag} : Op2 K (rI (fun _ j => j ≠ 0) fun i j => .int (i.fmod j)) gMod := o_ints fun i j h => of_decide_eq_true h
theorem o_pow {K : PySem.W.Frag} : Op2 K (rI CPow fun i j => .int (i ^ j.toNat)) gPow := o_ints fun i j h => by
  unfold okPow at h
  simp only [Bool.and_eq_true, decide_eq_true_eq] at h
  exact ⟨h.1, h.2.1, h.2.2⟩
def gNeg : G1 := fun x _ => match x with | .int i => some (.int (-i)) | _ => none
theorem o_neg {K : PySem.W.Frag} : Op1 K (rU fun i => .int (-i)) gNeg := by
  intro W M x d v Q sr rx hg k
  unfold gNeg at hg
  split at hg
  · cases hg
    cases rx
    exact ⟨_, rfl, k W _ (.refl W) sr rfl⟩
  · cases hg
/-! ### comparisons -/
def gCmp (c : Int → Int → Bool) : G2B := fun x y _ => match x, y with | .int i, .int j => some (c i j) | _, _ => none
theorem o_cmp {K : PySem.W.Frag} {c : Int → Int → Bool} : Op2 K (rI0 fun i j => .bl (c i j)) (gB (gCmp c)) := by
  intro W M x y d v u Q sr rx ry hg k
  unfold gB gCmp at hg
  split at hg
  · cases hg
    cases rx; cases ry
    exact ⟨_, _, rfl, rfl, k W _ (.refl W) sr rfl⟩
  · cases hg
/-! Python's == -/
mutual
def D.py : D → PyData
  | .non => .none
  | .bl b => .bool b
  | .int i => .int i
  | .str x => .str x
  | .tup xs => .tuple (D.pys xs)
  | .lst xs => .list (D.pys xs)
  | .kst xs => .list (D.pys xs)
  | .ref _ => .none
def D.pys : List D → List PyData
  | [] => []
  | x :: xs => x.py :: D.pys xs
end
mutual
/-- without references, at most n deep -/
def D.dp : Nat → D → Bool
  | _, .non => true
  | _, .bl _ => true
  | _, .int _ => true
  | _, .str x => PyData.strOk x
  | n, .tup xs => decide (0 < n) && D.dps (n - 1) xs
  | n, .lst xs => decide (0 < n) && D.dps (n - 1) xs
  | n, .kst xs => decide (0 < n) && D.dps (n - 1) xs
  | _, .ref _ => false
def D.dps : Nat → List D → Bool
  | _, [] => true
  | n, x :: xs => D.dp n x && D.dps n xs
end
/-- a list that is referred to, as a list -/
def D.val (d : D) (M : Mem) : Option D := match d with
  | .ref n => match M[n]? with | some (.lst xs) => some (.lst xs) | _ => none
  | d => some d
def gEq : G2B := fun x y M => match x.val M, y.val M with
  | some a, some b => if a.dp 60 && b.dp 60 then some (PyData.eqv a.py b.py) else none
  | _, _ => none
def gNe : G2B := fun x y M => (gEq x y M).map (! ·)
section
variable {K : PySem.W.Frag} {W : Wo} {M : Mem}
mutual
theorem dp_Dp : ∀ (n : Nat) (d : D) (v : V), d.dp n = true → Rp K W d v → Dp K W.H v d.py
  | _, .non, v, _, h => by cases (show _ = _ from h); exact .non
  | _, .bl b, v, _, h => by cases (show _ = _ from h); exact .bl b
  | _, .int b, v, _, h => by cases (show _ = _ from h); exact .int b
  | _, .str b, v, _, h => by cases (show _ = _ from h); exact .str b
  | n, .tup xs, v, hd, h => by
    obtain ⟨a, vs, e, h1, r⟩ := tp_sq h
    subst e
    rw [D.dp, Bool.and_eq_true] at hd
    rw [D.py]
    exact .tup h1 (dp_Dps (n - 1) xs vs hd.2 r)
  | n, .lst xs, v, hd, h => by
    obtain ⟨a, vs, e, f, r⟩ := h
    subst e
    rw [D.dp, Bool.and_eq_true] at hd
    rw [D.py]
    exact .lst (.of f.1.1) (dp_Dps (n - 1) xs vs hd.2 r)
  | n, .kst xs, v, hd, h => by
    obtain ⟨a, vs, e, f, r⟩ := h
    subst e
    rw [D.dp, Bool.and_eq_true] at hd
    rw [D.py]
    refine .lst ?_ (dp_Dps (n - 1) xs vs hd.2 r)
    rcases f.1 with ⟨⟨o, f⟩, _⟩ | f
    · exact .inl (.inr ⟨o, f⟩)
    · exact SqL.any f
  | _, .ref _, _, hd, _ => by rw [D.dp] at hd; cases hd
theorem dp_Dps : ∀ (n : Nat) (ds : List D) (vs : List V), D.dps n ds = true → RpL K W ds vs → DpAll K W.H vs (D.pys ds)
  | _, [], vs, _, h => by cases (show _ = _ from h); rw [D.pys]; exact .nil
  | n, d :: ds, vs, hd, h => by
    obtain ⟨v, r, e, h1, h2⟩ := h
    subst e
    rw [D.dps, Bool.and_eq_true] at hd
    rw [D.pys]
    exact .cons (dp_Dp n d v hd.1 h1) (dp_Dps n ds r hd.2 h2)
end
mutual
theorem dp_can : ∀ (n : Nat) (d : D), d.dp n = true → d.py.canLay0 = true ∧ d.py.depth ≤ n
  | n, .non, _ => by rw [D.py]; exact ⟨by simp [PyData.canLay0], by simp [PyData.depth]⟩
  | n, .bl _, _ => by rw [D.py]; exact ⟨by simp [PyData.canLay0], by simp [PyData.depth]⟩
  | n, .int _, _ => by rw [D.py]; exact ⟨by simp [PyData.canLay0], by simp [PyData.depth]⟩
  | n, .str _, h => by rw [D.py]; rw [D.dp] at h; exact ⟨by simpa [PyData.canLay0] using h, by simp [PyData.depth]⟩
  | n, .tup xs, h => by
    rw [D.dp, Bool.and_eq_true, decide_eq_true_eq] at h
    obtain ⟨h1, h2⟩ := dps_can (n - 1) xs h.2
    rw [D.py]
    exact ⟨by simpa [PyData.canLay0] using h1, by simp only [PyData.depth]; omega⟩
  | n, .lst xs, h => by
    rw [D.dp, Bool.and_eq_true, decide_eq_true_eq] at h
    obtain ⟨h1, h2⟩ := dps_can (n - 1) xs h.2
    rw [D.py]
    exact ⟨by simpa [PyData.canLay0] using h1, by simp only [PyData.depth]; omega⟩
  | n, .kst xs, h => by
    rw [D.dp, Bool.and_eq_true, decide_eq_true_eq] at h
    obtain ⟨h1, h2⟩ := dps_can (n - 1) xs h.2
    rw [D.py]
    exact ⟨by simpa [PyData.canLay0] using h1, by simp only [PyData.depth]; omega⟩
  | _, .ref _, h => by rw [D.dp] at h; cases h
theorem dps_can : ∀ (n : Nat) (ds : List D), D.dps n ds = true → PyData.canLayAll0 (D.pys ds) = true ∧ PyData.depthAll (D.pys ds) ≤ n
  | n, [], _ => by rw [D.pys]; exact ⟨by simp [PyData.canLayAll0], by simp [PyData.depthAll]⟩
  | n, d :: ds, h => by
    rw [D.dps, Bool.and_eq_true] at h
    obtain ⟨h1, h2⟩ := dp_can n d h.1
    obtain ⟨h3, h4⟩ := dps_can n ds h.2
    rw [D.pys]
    exact ⟨by simp [PyData.canLayAll0, h1, h3], by simp only [PyData.depthAll]; omega⟩
end
theorem val_Rp {d d' : D} {v : V} (sr : SR K W M) (h : Rp K W d v) (e : d.val M = some d') (hp : d'.dp 60 = true) : Dp K W.H v d'.py := by
  cases d with
  | ref n =>
    obtain ⟨a, h1, e1⟩ := h
    obtain ⟨mo, h2, m⟩ := sr.at_ h1
    have e' : (match M[n]? with | some (.lst xs) => some (D.lst xs) | _ => none) = some d' := e
    rw [h2] at e'
    cases mo with
    | lst ds =>
      cases e'
      obtain ⟨vs, q1, q2⟩ := m
      subst e1
      rw [D.dp, Bool.and_eq_true] at hp
      rw [D.py]
      exact .lst (.of q1.1) (dp_Dps _ ds vs hp.2 q2)
  | _ => cases e; exact dp_Dp 60 _ v hp h
theorem shaped_of {d : D} (h : d.dp 60 = true) : SeqAt.shaped d.py = true := by
  obtain ⟨h1, h2⟩ := dp_can 60 d h
  unfold SeqAt.shaped
  rw [h1, decide_eq_true (Nat.le_trans h2 (by decide))]
  rfl
theorem o_eq : Op2 K (rEqD K) (gB gEq) := by
  intro W M x y d v u Q sr rx ry hg k
  unfold gB gEq at hg
  split at hg
  · rename_i a b ha hb
    split at hg
    · rename_i h
      cases hg
      rw [Bool.and_eq_true] at h
      exact ⟨_, _, val_Rp sr rx ha h.1, val_Rp sr ry hb h.2, shaped_of h.1, shaped_of h.2, k W _ (.refl W) sr rfl⟩
    · cases hg
  · cases hg
theorem o_ne : Op2 K (rNeD K) (gB gNe) := by
  intro W M x y d v u Q sr rx ry hg k
  unfold gB gNe gEq at hg
  split at hg
  · rename_i a b ha hb
    split at hg
    · rename_i h
      cases hg
      rw [Bool.and_eq_true] at h
      exact ⟨_, _, val_Rp sr rx ha h.1, val_Rp sr ry hb h.2, shaped_of h.1, shaped_of h.2, k W _ (.refl W) sr rfl⟩
    · cases hg
  · cases hg
/-- is None; is True, is False of a bool -/
def isNn : D → Bool
  | .non => true
  | _ => false
def gIs : G2B := fun x y _ => match y with
  | .non => some (isNn x)
  | .bl b => match x with | .bl a => some (decide (a = b)) | _ => none
  | _ => none
def gIsNot : G2B := fun x y M => (gIs x y M).map (! ·)
theorem isNon_rel {d : D} {v : V} (h : Rp K W d v) : decide (v = .non) = isNn d := by
  cases d with
  | non => cases (show _ = _ from h); rfl
  | bl _ => cases (show _ = _ from h); rfl
  | int _ => cases (show _ = _ from h); rfl
  | str _ => cases (show _ = _ from h); rfl
  | tup _ => obtain ⟨a, vs, e, _⟩ := h; subst e; rfl
  | lst _ => obtain ⟨a, vs, e, _⟩ := h; subst e; rfl
  | kst _ => obtain ⟨a, vs, e, _⟩ := h; subst e; rfl
  | ref _ => obtain ⟨a, _, e⟩ := h; subst e; rfl
end
def rIsA : R2 := fun x y H Q => (y = .non ∧ Q (.bl (decide (x = .non))) H) ∨ rIsB x y H Q
def rIsNotA : R2 := fun x y H Q => (y = .non ∧ Q (.bl (!decide (x = .non))) H) ∨ rNotB x y H Q
theorem op_isA {X : Cx} : OpR X (compareOp .Is) rIsA := op_isN.or op_isBl
theorem op_isNotA {X : Cx} : OpR X (compareOp .IsNot) rIsNotA := op_notN.or op_notBl
theorem o_is {K : PySem.W.Frag} : Op2 K rIsA (gB gIs) := by
  intro W M x y d v u Q sr rx ry hg k
  unfold gB gIs at hg
  split at hg
  · cases hg
    cases (show _ = _ from ry)
    exact .inl ⟨rfl, k W _ (.refl W) sr (by rw [isNon_rel rx]; rfl)⟩
  · split at hg
    · cases hg
      cases (show _ = _ from ry); cases (show _ = _ from rx)
      exact .inr ⟨_, _, rfl, rfl, k W _ (.refl W) sr rfl⟩
    · cases hg
  · cases hg
theorem o_isNot {K : PySem.W.Frag} : Op2 K rIsNotA (gB gIsNot) := by
  intro W M x y d v u Q sr rx ry hg k
  unfold gB gIsNot gIs at hg
  split at hg
  · cases hg
    cases (show _ = _ from ry)
    exact .inl ⟨rfl, k W _ (.refl W) sr (by rw [isNon_rel rx]; rfl)⟩
  · split at hg
    · cases hg
      cases (show _ = _ from ry); cases (show _ = _ from rx)
      exact .inr ⟨_, _, rfl, rfl, k W _ (.refl W) sr rfl⟩
    · cases hg
  · cases hg
/-! ### subscripts -/
def ixD (xs : List D) (i : Int) : Option D := atI xs i
def gIx : G2 := fun x y M => match y with
  | .int i => match x with
    | .str z => if z.length ≤ LINE then (atI z.cps.toList i).map fun c => .str ⟨#[c]⟩ else none
    | x => (sqOf x M).bind fun xs => atI xs i
  | _ => none
theorem RpL.atI {K : PySem.W.Frag} {W : Wo} {xs : List D} {vs : List V} {i : Int} {d : D} (h : RpL K W xs vs) (e : atI xs i = some d) : ∃ v, L2.atI vs i = some v ∧ Rp K W d v := by
  unfold L2.atI at e ⊢
  rw [← h.len]
  obtain ⟨j, hj, e⟩ := Option.bind_eq_some_iff.mp e
  obtain ⟨v, h1, h2⟩ := h.get e
  exact ⟨v, by rw [hj]; exact h1, h2⟩
theorem o_ix {K : PySem.W.Frag} : Op2 K (rIx K) gIx := by
  intro W M x y d v u Q sr rx ry hg k
  unfold gIx at hg
  split at hg
  · cases (show _ = _ from ry)
    split at hg
    · split at hg
      · rename_i h
        cases (show _ = _ from rx)
        obtain ⟨c, hc, hg⟩ := Option.map_eq_some_iff.mp hg
        subst hg
        exact .inr (.inr ⟨_, _, c, rfl, rfl, by rw [line_eq]; exact h, hc, k W _ (.refl W) sr rfl⟩)
      · cases hg
    · obtain ⟨xs, hx, hg⟩ := Option.bind_eq_some_iff.mp hg
      obtain ⟨p, vs, rfl, h1, r1⟩ := sq_sq sr rx hx
      obtain ⟨z, h2, r2⟩ := r1.atI hg
      rcases h1 with h1 | h1
      · exact .inl ⟨p, vs, _, z, rfl, rfl, h1, h2, k W _ (.refl W) sr r2⟩
      · exact .inr (.inl ⟨p, vs, _, z, rfl, rfl, h1, h2, k W _ (.refl W) sr r2⟩)
  · cases hg
end PF
namespace PF
open PySem PySem.Spec PyProof.Rows L2
/-! ### truth, and, or, not -/
def gTru (d : D) (M : Mem) : Option Bool := match d with
  | .non => some false
  | .bl b => some b
  | .int i => some (i != 0)
  | .str x => if x.length ≤ LINE then some ((x.length : Int) != 0) else none
  | d => (sqOf d M).map fun xs => !xs.isEmpty
section
variable {K : PySem.W.Frag} {W : Wo} {M : Mem}
theorem RpL.emp {xs : List D} {vs : List V} (h : RpL K W xs vs) : (!xs.isEmpty) = !vs.isEmpty := by
  cases xs with
  | nil => cases (show _ = _ from h); rfl
  | cons d ds => obtain ⟨v, r, e, _⟩ := h; subst e; rfl
theorem tru_of {d : D} {v : V} {k : Bool} (sr : SR K W M) (h : Rp K W d v) (e : gTru d M = some k) : TruV K v W.H k := by
  have seq : (sqOf d M).map (fun xs => !xs.isEmpty) = some k → TruV K v W.H k := fun e => by
    obtain ⟨xs, hx, e⟩ := Option.map_eq_some_iff.mp e
    obtain ⟨a, vs, e1, h1, r⟩ := sq_sq sr h hx
    subst e1
    rcases h1 with h1 | h1
    · exact .inl ⟨vs, h1, by rw [← e]; exact r.emp⟩
    · exact .inr (.inl ⟨vs, h1, by rw [← e]; exact r.emp⟩)
  cases d with
  | non => cases (show _ = _ from h); cases e; exact rfl
  | bl b => cases (show _ = _ from h); cases e; exact rfl
  | int i => cases (show _ = _ from h); cases e; exact rfl
  | str x =>
    cases (show _ = _ from h)
    have e' : (if x.length ≤ LINE then some ((x.length : Int) != 0) else none) = some k := e
    split at e'
    · rename_i hl
      cases e'
      exact ⟨by rw [line_eq]; exact hl, rfl⟩
    · cases e'
  | _ => exact seq e
end
def fTru (fa : FE) : FT := fun ρ M => (fa ρ M).bind fun a => (gTru a.1 a.2).bind fun k => some (k, a.2)
def fNot (fa : FT) : FT := fun ρ M => (fa ρ M).bind fun a => some (!a.1, a.2)
def fAnd (fa fb : FT) : FT := fun ρ M => (fa ρ M).bind fun a => if a.1 = true then fb ρ a.2 else some (false, a.2)
def fOr (fa fb : FT) : FT := fun ρ M => (fa ρ M).bind fun a => if a.1 = true then some (true, a.2) else fb ρ a.2
def fAndV (fa fb : FE) : FE := fun ρ M => (fa ρ M).bind fun a => (gTru a.1 a.2).bind fun k => if k = true then fb ρ a.2 else some a
def fOrV (fa fb : FE) : FE := fun ρ M => (fa ρ M).bind fun a => (gTru a.1 a.2).bind fun k => if k = true then some a else fb ρ a.2
def fNotV (fa : FE) : FE := fun ρ M => (fa ρ M).bind fun a => (gTru a.1 a.2).bind fun k => some (.bl (!k), a.2)
def fIfE (fc : FT) (fa fb : FE) : FE := fun ρ M => (fc ρ M).bind fun c => if c.1 = true then fa ρ c.2 else fb ρ c.2
def fChain (g g' : G2B) (fa fb fc : FE) : FE := fun ρ M => (fa ρ M).bind fun a => (fb ρ a.2).bind fun b => (g a.1 b.1 b.2).bind fun k =>
  if k = true then (fc ρ b.2).bind fun c => (g' b.1 c.1 c.2).bind fun z => some (.bl z, c.2) else some (.bl false, b.2)
def fChainT (g g' : G2B) (fa fb fc : FE) : FT := fun ρ M => (fa ρ M).bind fun a => (fb ρ a.2).bind fun b => (g a.1 b.1 b.2).bind fun k =>
  if k = true then (fc ρ b.2).bind fun c => (g' b.1 c.1 c.2).bind fun z => some (z, c.2) else some (false, b.2)
section
variable {X : Cx} {a b c : Expr} {rest : List Expr} {fa fb fc : FE} {ta tb : FT} {pos : Pos}
theorem pft_tru (ha : PFE X a fa) (he : ∀ whole, isTrue a X.env whole = (do let v ← whole; standAt a.pos; holding [v] (truthy v)) := by intro _; rfl) : PFT X a (fTru fa) := pt_weak (pt_truth ha he) fun σ H Q => by
  rintro ⟨W, ρ, M, rfl, sr, sl, d, M', hf, k⟩
  obtain ⟨⟨x, M1⟩, hx, hf⟩ := Option.bind_eq_some_iff.mp hf
  obtain ⟨t, ht, hf⟩ := Option.bind_eq_some_iff.mp hf
  cases hf
  exact ⟨W, ρ, M, rfl, sr, sl, x, _, hx, fun W1 v e1 s1 r1 => ⟨_, tru_of s1 r1 ht, k W1 e1 s1⟩⟩
theorem pft_not (ha : PFT X a ta) : PFT X (.UnaryOp .Not a pos) (fNot ta) := pt_weak (pt_not ha) fun σ H Q => by
  rintro ⟨W, ρ, M, rfl, sr, sl, d, M', hf, k⟩
  obtain ⟨⟨x, M1⟩, hx, hf⟩ := Option.bind_eq_some_iff.mp hf
  cases hf
  exact ⟨W, ρ, M, rfl, sr, sl, x, _, hx, fun W1 e1 s1 => k W1 e1 s1⟩
theorem pfw_and1 (ha : PFT X a ta) : PFW X (.BoolOp .And [a] pos) ta := pw_and1 ha
theorem pfw_or1 (ha : PFT X a ta) : PFW X (.BoolOp .Or [a] pos) ta := pw_or1 ha
theorem pfw_and (ha : PFT X a ta) (hb : PFW X (.BoolOp .And (b :: rest) pos) tb) : PFW X (.BoolOp .And (a :: b :: rest) pos) (fAnd ta tb) := pw_weak (pw_and ha hb) fun σ H Q => by
  rintro ⟨W, ρ, M, rfl, sr, sl, d, M', hf, k⟩
  obtain ⟨⟨x, M1⟩, hx, hf⟩ := Option.bind_eq_some_iff.mp hf
  refine ⟨W, ρ, M, rfl, sr, sl, x, M1, hx, fun W1 e1 s1 => ?_⟩
  cases x with
  | true =>
    rw [if_pos rfl] at hf ⊢
    exact ⟨W1, ρ, M1, rfl, s1, sl.ext e1 sr.sub, d, M', hf, fun W2 e2 s2 => k W2 (e1.trans e2) s2⟩
  | false =>
    rw [if_neg Bool.false_ne_true] at hf ⊢
    cases hf
    exact k W1 e1 s1
theorem pfw_or (ha : PFT X a ta) (hb : PFW X (.BoolOp .Or (b :: rest) pos) tb) : PFW X (.BoolOp .Or (a :: b :: rest) pos) (fOr ta tb) := pw_weak (pw_or ha hb) fun σ H Q => by
  rintro ⟨W, ρ, M, rfl, sr, sl, d, M', hf, k⟩
  obtain ⟨⟨x, M1⟩, hx, hf⟩ := Option.bind_eq_some_iff.mp hf
  refine ⟨W, ρ, M, rfl, sr, sl, x, M1, hx, fun W1 e1 s1 => ?_⟩
  cases x with
  | false =>
    rw [if_neg Bool.false_ne_true] at hf ⊢
    exact ⟨W1, ρ, M1, rfl, s1, sl.ext e1 sr.sub, d, M', hf, fun W2 e2 s2 => k W2 (e1.trans e2) s2⟩
  | true =>
    rw [if_pos rfl] at hf ⊢
    cases hf
    exact k W1 e1 s1
theorem pf_one {op} (h : PFE X a fa) : PFE X (.BoolOp op [a] pos) fa := pe_one h
theorem pf_and (ha : PFE X a fa) (hb : PFE X (.BoolOp .And (b :: rest) pos) fb) : PFE X (.BoolOp .And (a :: b :: rest) pos) (fAndV fa fb) := pe_weak (pe_andT ha hb) fun σ H Q => by
  rintro ⟨W, ρ, M, rfl, sr, sl, d, M', hf, k⟩
  obtain ⟨⟨x, M1⟩, hx, hf⟩ := Option.bind_eq_some_iff.mp hf
  obtain ⟨t, ht, hf⟩ := Option.bind_eq_some_iff.mp hf
  refine ⟨W, ρ, M, rfl, sr, sl, x, M1, hx, fun W1 v e1 s1 r1 => ⟨t, tru_of s1 r1 ht, ?_⟩⟩
  cases t with
  | true =>
    rw [if_pos rfl] at hf ⊢
    exact ⟨W1, ρ, M1, rfl, s1, sl.ext e1 sr.sub, d, M', hf, fun W2 v e2 s2 r2 => k W2 v (e1.trans e2) s2 r2⟩
  | false =>
    rw [if_neg Bool.false_ne_true] at hf ⊢
    cases hf
    exact k W1 v e1 s1 r1
theorem pf_or (ha : PFE X a fa) (hb : PFE X (.BoolOp .Or (b :: rest) pos) fb) : PFE X (.BoolOp .Or (a :: b :: rest) pos) (fOrV fa fb) := pe_weak (pe_orT ha hb) fun σ H Q => by
  rintro ⟨W, ρ, M, rfl, sr, sl, d, M', hf, k⟩
  obtain ⟨⟨x, M1⟩, hx, hf⟩ := Option.bind_eq_some_iff.mp hf
  obtain ⟨t, ht, hf⟩ := Option.bind_eq_some_iff.mp hf
  refine ⟨W, ρ, M, rfl, sr, sl, x, M1, hx, fun W1 v e1 s1 r1 => ⟨t, tru_of s1 r1 ht, ?_⟩⟩
  cases t with
  | false =>
    rw [if_neg Bool.false_ne_true] at hf ⊢
    exact ⟨W1, ρ, M1, rfl, s1, sl.ext e1 sr.sub, d, M', hf, fun W2 v e2 s2 r2 => k W2 v (e1.trans e2) s2 r2⟩
  | true =>
    rw [if_pos rfl] at hf ⊢
    cases hf
    exact k W1 v e1 s1 r1
theorem pf_not (ha : PFE X a fa) : PFE X (.UnaryOp .Not a pos) (fNotV fa) := pe_weak (pe_notT ha) fun σ H Q => by
  rintro ⟨W, ρ, M, rfl, sr, sl, d, M', hf, k⟩
  obtain ⟨⟨x, M1⟩, hx, hf⟩ := Option.bind_eq_some_iff.mp hf
  obtain ⟨t, ht, hf⟩ := Option.bind_eq_some_iff.mp hf
  cases hf
  exact ⟨W, ρ, M, rfl, sr, sl, x, _, hx, fun W1 v e1 s1 r1 => ⟨t, tru_of s1 r1 ht, k W1 _ e1 s1 rfl⟩⟩
theorem pf_if (hc : PFT X c ta) (ha : PFE X a fa) (hb : PFE X b fb) : PFE X (.IfExp c a b pos) (fIfE ta fa fb) := pe_weak (pe_ifExp hc ha hb) fun σ H Q => by
  rintro ⟨W, ρ, M, rfl, sr, sl, d, M', hf, k⟩
  obtain ⟨⟨x, M1⟩, hx, hf⟩ := Option.bind_eq_some_iff.mp hf
  refine ⟨W, ρ, M, rfl, sr, sl, x, M1, hx, fun W1 e1 s1 => ?_⟩
  cases x with
  | false =>
    rw [if_neg Bool.false_ne_true] at hf ⊢
    exact ⟨W1, ρ, M1, rfl, s1, sl.ext e1 sr.sub, d, M', hf, fun W2 v e2 s2 r2 => k W2 v (e1.trans e2) s2 r2⟩
  | true =>
    rw [if_pos rfl] at hf ⊢
    exact ⟨W1, ρ, M1, rfl, s1, sl.ext e1 sr.sub, d, M', hf, fun W2 v e2 s2 r2 => k W2 v (e1.trans e2) s2 r2⟩
theorem pf_chain {op op' : CmpOp} {r r' : R2} {g g' : G2B} (ho : OpR X (compareOp op) r) (o : Op2 X.K r (gB g)) (ho' : OpR X (compareOp op') r') (o' : Op2 X.K r' (gB g')) (ha : PFE X a fa) (hb : PFE X b fb) (hc : PFE X c fc)
    (hm : lastMarks [op, op'] [b, c] = false := by with_unfolding_all rfl) : PFE X (.Compare a [op, op'] [b, c] pos) (fChain g g' fa fb fc) := pe_weak (pe_chain ho ho' ha hb hc hm) fun σ H Q => by
  rintro ⟨W, ρ, M, rfl, sr, sl, d, M', hf, k⟩
  obtain ⟨⟨x, M1⟩, hx, hf⟩ := Option.bind_eq_some_iff.mp hf
  obtain ⟨⟨y, M2⟩, hy, hf⟩ := Option.bind_eq_some_iff.mp hf
  obtain ⟨t, ht, hf⟩ := Option.bind_eq_some_iff.mp hf
  refine ⟨W, ρ, M, rfl, sr, sl, x, M1, hx, fun W1 v e1 s1 r1 => ⟨W1, ρ, M1, rfl, s1, sl.ext e1 sr.sub, y, M2, hy, fun W2 u e2 s2 r2 => ?_⟩⟩
  refine o W2 M2 x y (.bl t) v u _ s2 (r1.ext e2 s1.sub) r2 (by rw [gB, ht]; rfl) fun W3 z e3 s3 r3 => ⟨t, r3, ?_⟩
  cases t with
  | false =>
    rw [if_neg Bool.false_ne_true] at hf ⊢
    cases hf
    exact k W3 _ ((e1.trans e2).trans e3) s3 rfl
  | true =>
    rw [if_pos rfl] at hf ⊢
    obtain ⟨⟨z', M3⟩, hz, hf⟩ := Option.bind_eq_some_iff.mp hf
    obtain ⟨t', ht', hf⟩ := Option.bind_eq_some_iff.mp hf
    cases hf
    exact ⟨W3, ρ, M2, rfl, s3, sl.ext ((e1.trans e2).trans e3) sr.sub, z', _, hz, fun W4 q e4 s4 r4 => o' W4 _ y z' (.bl t') u q _ s4 (r2.ext (e3.trans e4) s2.sub) r4 (by rw [gB, ht']; rfl) fun W5 q' e5 s5 r5 => k W5 q' (((e1.trans e2).trans e3).trans (e4.trans e5)) s5 r5⟩
theorem pft_chain {op op' : CmpOp} {r r' : R2} {g g' : G2B} (ho : OpR X (compareOp op) r) (o : Op2 X.K r (gB g)) (ho' : OpR X (compareOp op') r') (o' : Op2 X.K r' (gB g')) (ha : PFE X a fa) (hb : PFE X b fb) (hc : PFE X c fc)
    (hm : lastMarks [op, op'] [b, c] = false := by with_unfolding_all rfl) : PFT X (.Compare a [op, op'] [b, c] pos) (fChainT g g' fa fb fc) := pt_weak (pt_chain ho ho' ha hb hc hm) fun σ H Q => by
  rintro ⟨W, ρ, M, rfl, sr, sl, d, M', hf, k⟩
  obtain ⟨⟨x, M1⟩, hx, hf⟩ := Option.bind_eq_some_iff.mp hf
  obtain ⟨⟨y, M2⟩, hy, hf⟩ := Option.bind_eq_some_iff.mp hf
  obtain ⟨t, ht, hf⟩ := Option.bind_eq_some_iff.mp hf
  refine ⟨W, ρ, M, rfl, sr, sl, x, M1, hx, fun W1 v e1 s1 r1 => ⟨W1, ρ, M1, rfl, s1, sl.ext e1 sr.sub, y, M2, hy, fun W2 u e2 s2 r2 => ?_⟩⟩
  refine o W2 M2 x y (.bl t) v u _ s2 (r1.ext e2 s1.sub) r2 (by rw [gB, ht]; rfl) fun W3 z e3 s3 r3 => ⟨t, r3, ?_⟩
  cases t with
  | false =>
    rw [if_neg Bool.false_ne_true] at hf ⊢
    cases hf
    exact ⟨false, rfl, k W3 ((e1.trans e2).trans e3) s3⟩
  | true =>
    rw [if_pos rfl] at hf ⊢
    obtain ⟨⟨z', M3⟩, hz, hf⟩ := Option.bind_eq_some_iff.mp hf
    obtain ⟨t', ht', hf⟩ := Option.bind_eq_some_iff.mp hf
    cases hf
    exact ⟨W3, ρ, M2, rfl, s3, sl.ext ((e1.trans e2).trans e3) sr.sub, z', _, hz, fun W4 q e4 s4 r4 => o' W4 _ y z' (.bl _) u q _ s4 (r2.ext (e3.trans e4) s2.sub) r4 (by rw [gB, ht']; rfl) fun W5 q' e5 s5 r5 => ⟨_, r5, k W5 (((e1.trans e2).trans e3).trans (e4.trans e5)) s5⟩⟩
end
/-! ### argument lists, displays, slices -/
def fNil : FA := fun _ M => some ([], M)
def fCons (fa : FE) (fr : FA) : FA := fun ρ M => (fa ρ M).bind fun a => (fr ρ a.2).bind fun r => some (a.1 :: r.1, r.2)
def fTup (f : FA) : FE := fun ρ M => (f ρ M).bind fun a => if a.1.length ≤ LINE then some (.tup a.1, a.2) else none
def fLstD (f : FA) : FA := fun ρ M => (f ρ M).bind fun a => if a.1.length ≤ LINE then some a else none
def fFz (f : FA) : FE := fun ρ M => (f ρ M).bind fun a => some (.lst a.1, a.2)
def fMut (f : FA) : FE := fun ρ M => (f ρ M).bind fun a => some (.ref a.2.length, a.2 ++ [.lst a.1])
abbrev FO := Rho → Mem → Option (Option Int × Mem)
def liftO (K : PySem.W.Frag) (f : FO) : TO := fun σ H Q => ∃ W ρ M, W.H = H ∧ SR K W M ∧ Sl K W ρ σ ∧ ∃ d M', f ρ M = some (d, M') ∧ ∀ W', Ext W W' → SR K W' M' → Q d W'.H
abbrev PFO (X : Cx) (e : Option Expr) (f : FO) : Prop := PO X e (liftO X.K f)
def fNoPart : FO := fun _ M => some (none, M)
def fPart (fa : FE) : FO := fun ρ M => (fa ρ M).bind fun a => match a.1 with | .int i => some (some i, a.2) | _ => none
def cutD (xs : List D) (lo hi : Option Int) : List D := (xs.drop (HT.sIx xs.length 0 lo)).take (HT.sIx xs.length xs.length hi - HT.sIx xs.length 0 lo)
def gSlice (x : D) (lo hi : Option Int) (M : Mem) : Option D := match x with
  | .tup xs => some (.tup (cutD xs lo hi))
  | x => (lsOf x M).map fun xs => .lst (cutD xs lo hi)
def fSlice (fa : FE) (fl fh : FO) : FE := fun ρ M => (fa ρ M).bind fun a => (fl ρ a.2).bind fun l => (fh ρ l.2).bind fun h => (gSlice a.1 l.1 h.1 h.2).bind fun d => some (d, h.2)
def fSliceN (fa : FE) (fl fh : FO) : FA := fun ρ M => (fa ρ M).bind fun a => (fl ρ a.2).bind fun l => (fh ρ l.2).bind fun h => (lsOf a.1 h.2).bind fun d => some (cutD d l.1 h.1, h.2)
section
variable {X : Cx} {a b c : Expr} {es : List Expr} {fa fb fc : FE} {f : FA} {pos : Pos}
theorem pfa_nil : PFA X [] fNil := pa_weak pa_nil fun σ H Q => by
  rintro ⟨W, ρ, M, rfl, sr, sl, d, M', hf, k⟩
  cases hf
  exact k W [] (.refl W) sr rfl
theorem pfa_cons (ha : PFE X a fa) (hr : PFA X es f) (hs : starEach (a :: es) X.env = (false, eval a X.env) :: starEach es X.env := by rfl) : PFA X (a :: es) (fCons fa f) := pa_weak (pa_cons ha hr hs) fun σ H Q => by
  rintro ⟨W, ρ, M, rfl, sr, sl, d, M', hf, k⟩
  obtain ⟨⟨x, M1⟩, hx, hf⟩ := Option.bind_eq_some_iff.mp hf
  obtain ⟨⟨r, M2⟩, hr, hf⟩ := Option.bind_eq_some_iff.mp hf
  cases hf
  exact ⟨W, ρ, M, rfl, sr, sl, x, M1, hx, fun W1 v e1 s1 r1 => ⟨W1, ρ, M1, rfl, s1, sl.ext e1 sr.sub, r, _, hr, fun W2 vs e2 s2 r2 => k W2 (v :: vs) (e1.trans e2) s2 ⟨v, vs, rfl, r1.ext e2 s1.sub, r2⟩⟩⟩
theorem pf_tup {x1} (h : PFA X es f) : PFE X (.Tuple es x1 pos) (fTup f) := pe_weak (pe_tup h) fun σ H Q => by
  rintro ⟨W, ρ, M, rfl, sr, sl, d, M', hf, k⟩
  obtain ⟨⟨x, M1⟩, hx, hf⟩ := Option.bind_eq_some_iff.mp hf
  split at hf
  · rename_i hl
    cases hf
    exact ⟨W, ρ, M, rfl, sr, sl, x, _, hx, fun W1 vs e1 s1 r1 => ⟨by rw [line_eq, ← r1.len]; exact hl, fun p hp => k _ _ (e1.trans (Ext.put hp)) (s1.put hp) (.newTup s1 hp r1 (by rw [← r1.len]; exact hl))⟩⟩
  · cases hf
theorem pfn_lst (h : PFA X es f) : PFN X (.List es pos) (fLstD f) := pe_weak (pe_lst h) fun σ H Q => by
  rintro ⟨W, ρ, M, rfl, sr, sl, d, M', hf, k⟩
  obtain ⟨⟨x, M1⟩, hx, hf⟩ := Option.bind_eq_some_iff.mp hf
  split at hf
  · rename_i hl
    cases hf
    exact ⟨W, ρ, M, rfl, sr, sl, d, _, hx, fun W1 vs e1 s1 r1 => ⟨by rw [line_eq, ← r1.len]; exact hl, fun p hp => k W1 p vs e1 s1 hp r1 (by rw [← r1.len]; exact hl)⟩⟩
  · cases hf
theorem pf_fz (h : PFN X a f) : PFE X a (fFz f) := pe_weak h fun σ H Q => by
  rintro ⟨W, ρ, M, rfl, sr, sl, d, M', hf, k⟩
  obtain ⟨⟨x, M1⟩, hx, hf⟩ := Option.bind_eq_some_iff.mp hf
  cases hf
  exact ⟨W, ρ, M, rfl, sr, sl, x, _, hx, fun W1 p vs e1 s1 hp r1 hl => k _ _ (e1.trans (Ext.put hp)) (s1.put hp) (.newLst s1 hp r1 hl)⟩
theorem pf_mut (h : PFN X a f) : PFE X a (fMut f) := pe_weak h fun σ H Q => by
  rintro ⟨W, ρ, M, rfl, sr, sl, d, M', hf, k⟩
  obtain ⟨⟨x, M1⟩, hx, hf⟩ := Option.bind_eq_some_iff.mp hf
  cases hf
  exact ⟨W, ρ, M, rfl, sr, sl, x, _, hx, fun W1 p vs e1 s1 hp r1 hl => k _ _ (e1.trans (Ext.mk2 hp)) (s1.mk2 hp r1 hl) (.mk2 s1)⟩
theorem po_weak {e : Option Expr} {t t' : TO} (h : PO X e t) (i : ∀ σ H Q, t' σ H Q → t σ H Q) : PO X e t' := ⟨fun pins s σ H Q I q => h.run pins s σ H Q I (i σ H Q q)⟩
theorem pfo_none : PFO X none fNoPart := po_weak po_none fun σ H Q => by
  rintro ⟨W, ρ, M, rfl, sr, sl, d, M', hf, k⟩
  cases hf
  exact k W (.refl W) sr
theorem pfo_some (ha : PFE X a fa) : PFO X (some a) (fPart fa) := po_weak (po_some ha) fun σ H Q => by
  rintro ⟨W, ρ, M, rfl, sr, sl, d, M', hf, k⟩
  obtain ⟨⟨x, M1⟩, hx, hf⟩ := Option.bind_eq_some_iff.mp hf
  dsimp only at hf
  split at hf
  · cases hf
    exact ⟨W, ρ, M, rfl, sr, sl, _, _, hx, fun W1 v e1 s1 r1 => ⟨_, r1, k W1 e1 s1⟩⟩
  · cases hf
theorem RpL.cut {K : PySem.W.Frag} {W : Wo} {xs : List D} {vs : List V} (h : RpL K W xs vs) (lo hi : Option Int) : RpL K W (cutD xs lo hi) (cutV vs lo hi) := by
  unfold cutD cutV
  rw [h.len]
  exact (h.drop _).take _
theorem cut_len (vs : List V) (lo hi : Option Int) (h : vs.length ≤ LINE) : (cutV vs lo hi).length ≤ LINE := Nat.le_trans (cutV_length vs lo hi) h
def rSlice (K : PySem.W.Frag) : V → Option Int → Option Int → Hp → VK → Prop := fun x lo hi H Q => rSlA K x lo hi H Q ∨ rSlL K x lo hi H Q
theorem sl_any : SlR X (rSlice X.K) := sl_tupA.or sl_list
theorem pf_slice {lo hi : Option Expr} {fl fh : FO} {p2 : Pos} (ha : PFE X a fa) (hl : PFO X lo fl) (hh : PFO X hi fh) : PFE X (.Subscript a (.Slice lo hi none p2) pos) (fSlice fa fl fh) := pe_weak (pe_slice sl_any ha hl hh) fun σ H Q => by
  rintro ⟨W, ρ, M, rfl, sr, sl, d, M', hf, k⟩
  obtain ⟨⟨x, M1⟩, hx, hf⟩ := Option.bind_eq_some_iff.mp hf
  obtain ⟨⟨l, M2⟩, hl, hf⟩ := Option.bind_eq_some_iff.mp hf
  obtain ⟨⟨h, M3⟩, hh, hf⟩ := Option.bind_eq_some_iff.mp hf
  obtain ⟨d', hd, hf⟩ := Option.bind_eq_some_iff.mp hf
  cases hf
  refine ⟨W, ρ, M, rfl, sr, sl, x, M1, hx, fun W1 v e1 s1 r1 => ⟨W1, ρ, M1, rfl, s1, sl.ext e1 sr.sub, l, M2, hl, fun W2 e2 s2 => ⟨W2, ρ, M2, rfl, s2, sl.ext (e1.trans e2) sr.sub, h, _, hh, fun W3 e3 s3 => ?_⟩⟩⟩
  have r3 := r1.ext (e2.trans e3) s1.sub
  have e123 := e1.trans (e2.trans e3)
  have lists : (lsOf x M3).map (fun xs => D.lst (cutD xs l h)) = some d → rSlice X.K v l h W3.H Q := fun e => by
    obtain ⟨xs, hx, e⟩ := Option.map_eq_some_iff.mp e
    subst e
    obtain ⟨p, vs, rfl, h1, q1⟩ := ls_sq s3 r3 hx
    exact .inr ⟨p, vs, rfl, h1, fun t nt => k _ _ (e123.trans (Ext.put nt)) (s3.put nt) (.newLst s3 nt (q1.cut l h) (cut_len _ _ _ (by rw [← q1.len]; exact ls_len s3 r3 hx)))⟩
  cases x with
  | tup xs =>
    cases hd
    obtain ⟨p, vs, rfl, h1, q1⟩ := tp_sq r3
    refine .inl ⟨p, vs, rfl, h1, fun e => ?_, fun _ t nt => k _ _ (e123.trans (Ext.put nt)) (s3.put nt) (.newTup s3 nt (q1.cut l h) (cut_len _ _ _ (by rw [← q1.len]; exact sq_len s3 r3 rfl)))⟩
    have ec : cutD xs l h = xs := by
      unfold cutD
      rw [q1.len, e.1, e.2, ← q1.len]
      simp
    exact k W3 _ e123 s3 (by rw [ec]; exact r3)
  | _ => exact lists hd
theorem pfn_slice {lo hi : Option Expr} {fl fh : FO} {p2 : Pos} (ha : PFE X a fa) (hl : PFO X lo fl) (hh : PFO X hi fh) : PFN X (.Subscript a (.Slice lo hi none p2) pos) (fSliceN fa fl fh) := pe_weak (pe_slice sl_list ha hl hh) fun σ H Q => by
  rintro ⟨W, ρ, M, rfl, sr, sl, d, M', hf, k⟩
  obtain ⟨⟨x, M1⟩, hx, hf⟩ := Option.bind_eq_some_iff.mp hf
  obtain ⟨⟨l, M2⟩, hl, hf⟩ := Option.bind_eq_some_iff.mp hf
  obtain ⟨⟨h, M3⟩, hh, hf⟩ := Option.bind_eq_some_iff.mp hf
  obtain ⟨d', hd, hf⟩ := Option.bind_eq_some_iff.mp hf
  cases hf
  refine ⟨W, ρ, M, rfl, sr, sl, x, M1, hx, fun W1 v e1 s1 r1 => ⟨W1, ρ, M1, rfl, s1, sl.ext e1 sr.sub, l, M2, hl, fun W2 e2 s2 => ⟨W2, ρ, M2, rfl, s2, sl.ext (e1.trans e2) sr.sub, h, _, hh, fun W3 e3 s3 => ?_⟩⟩⟩
  have r3 := r1.ext (e2.trans e3) s1.sub
  have hl := ls_len s3 r3 hd
  obtain ⟨p, vs, rfl, h1, q1⟩ := ls_sq s3 r3 hd
  exact ⟨p, vs, rfl, h1, fun t nt => k W3 t _ (e1.trans (e2.trans e3)) s3 nt (q1.cut l h) (cut_len _ _ _ (by rw [← q1.len]; exact hl))⟩
/-- xs[::-1] of a list -/
def fRevN (fa : FE) : FA := fun ρ M => (fa ρ M).bind fun a => (lsOf a.1 a.2).bind fun xs => some (xs.reverse, a.2)
theorem pfn_rev {k : Nat} {p1 p2 p3 pos : Pos} (ha : PFE X a fa) : PFN X (.Subscript a (.Slice none none (some (.UnaryOp .USub (.Constant (.int 1) k p1) p2)) p3) pos) (fRevN fa) := pe_weak (pe_revL ha) fun σ H Q => by
  rintro ⟨W, ρ, M, rfl, sr, sl, d, M', hf, k⟩
  obtain ⟨⟨x, M1⟩, hx, hf⟩ := Option.bind_eq_some_iff.mp hf
  obtain ⟨xs, hl, hf⟩ := Option.bind_eq_some_iff.mp hf
  cases hf
  refine ⟨W, ρ, M, rfl, sr, sl, x, _, hx, fun W1 v e1 s1 r1 => ?_⟩
  have hz := ls_len s1 r1 hl
  obtain ⟨p, vs, rfl, h1, q1⟩ := ls_sq s1 r1 hl
  exact ⟨p, vs, rfl, h1, fun t nt => k W1 t _ e1 s1 nt q1.reverse (by rw [List.length_reverse, ← q1.len]; exact hz)⟩
end
end PF
namespace PF
open PySem PySem.Spec PyProof.Rows L2
/-! ### equality of data, as a Bool -/
mutual
def D.beq : D → D → Bool
  | .non, .non => true
  | .bl a, .bl b => a == b
  | .int a, .int b => a == b
  | .str a, .str b => decide (a = b)
  | .tup a, .tup b => D.beqs a b
  | .lst a, .lst b => D.beqs a b
  | .kst a, .kst b => D.beqs a b
  | .ref a, .ref b => a == b
  | _, _ => false
def D.beqs : List D → List D → Bool
  | [], [] => true
  | a :: as, b :: bs => D.beq a b && D.beqs as bs
  | _, _ => false
end
mutual
theorem D.beq_refl : ∀ a : D, D.beq a a = true
  | .non => by simp [D.beq]
  | .bl _ => by simp [D.beq]
  | .int _ => by simp [D.beq]
  | .str _ => by simp [D.beq]
  | .ref _ => by simp [D.beq]
  | .tup xs => by rw [D.beq]; exact D.beqs_refl xs
  | .lst xs => by rw [D.beq]; exact D.beqs_refl xs
  | .kst xs => by rw [D.beq]; exact D.beqs_refl xs
theorem D.beqs_refl : ∀ a : List D, D.beqs a a = true
  | [] => by simp [D.beqs]
  | x :: xs => by rw [D.beqs, D.beq_refl x, D.beqs_refl xs]; rfl
end
mutual
theorem D.eq_of_beq : ∀ a b : D, D.beq a b = true → a = b
  | .non, b, h => by cases b <;> simp [D.beq] at h ⊢
  | .bl _, b, h => by cases b <;> simp [D.beq] at h ⊢ <;> exact h
  | .int _, b, h => by cases b <;> simp [D.beq] at h ⊢ <;> exact h
  | .str _, b, h => by cases b <;> simp [D.beq] at h ⊢ <;> exact h
  | .ref _, b, h => by cases b <;> simp [D.beq] at h ⊢ <;> exact h
  | .tup xs, b, h => by
    cases b with
    | tup ys => rw [D.beq] at h; rw [D.eqs_of_beqs xs ys h]
    | _ => simp [D.beq] at h
  | .lst xs, b, h => by
    cases b with
    | lst ys => rw [D.beq] at h; rw [D.eqs_of_beqs xs ys h]
    | _ => simp [D.beq] at h
  | .kst xs, b, h => by
    cases b with
    | kst ys => rw [D.beq] at h; rw [D.eqs_of_beqs xs ys h]
    | _ => simp [D.beq] at h
theorem D.eqs_of_beqs : ∀ a b : List D, D.beqs a b = true → a = b
  | [], [], _ => rfl
  | [], _ :: _, h => by simp [D.beqs] at h
  | _ :: _, [], h => by simp [D.beqs] at h
  | x :: xs, y :: ys, h => by
    rw [D.beqs, Bool.and_eq_true] at h
    rw [D.eq_of_beq x y h.1, D.eqs_of_beqs xs ys h.2]
end
/-! ### what statements compute, wanted at an end -/
def OutK (K : PySem.W.Frag) (E : Ends) (W : Wo) (M' : Mem) : Out → Prop
  | .nx ρ' => ∀ W' σ', Ext W W' → SR K W' M' → Sl K W' ρ' σ' → E.nx σ' W'.H
  | .bk ρ' => ∀ W' σ', Ext W W' → SR K W' M' → Sl K W' ρ' σ' → E.bk σ' W'.H
  | .ct ρ' => ∀ W' σ', Ext W W' → SR K W' M' → Sl K W' ρ' σ' → E.ct σ' W'.H
  | .ret d => ∀ W' v, Ext W W' → SR K W' M' → Rp K W' d v → E.rt v W'.H
theorem OutK.ext {K : PySem.W.Frag} {E : Ends} {W W1 : Wo} {M' : Mem} {o : Out} (e : Ext W W1) (h : OutK K E W M' o) : OutK K E W1 M' o := by
  cases o with
  | nx ρ => exact fun W' σ' e' => h W' σ' (e.trans e')
  | bk ρ => exact fun W' σ' e' => h W' σ' (e.trans e')
  | ct ρ => exact fun W' σ' e' => h W' σ' (e.trans e')
  | ret d => exact fun W' v e' => h W' v (e.trans e')
theorem liftS_iff {K : PySem.W.Frag} {f : FS} {E : Ends} {σ : L2.St} {H : Hp} : liftS K f E σ H ↔ ∃ W ρ M, W.H = H ∧ SR K W M ∧ Sl K W ρ σ ∧ ∃ o M', f ρ M = some (o, M') ∧ OutK K E W M' o := by
  constructor
  · rintro ⟨W, ρ, M, h1, h2, h3, o, M', hf, k⟩
    refine ⟨W, ρ, M, h1, h2, h3, o, M', hf, ?_⟩
    cases o <;> exact k
  · rintro ⟨W, ρ, M, h1, h2, h3, o, M', hf, k⟩
    refine ⟨W, ρ, M, h1, h2, h3, o, M', hf, ?_⟩
    cases o <;> exact k
theorem sl_set {K : PySem.W.Frag} {W : Wo} {ρ : Rho} {σ : L2.St} {i : Nat} {d : D} {v : V} (h : Sl K W ρ σ) (r : Rp K W d v) : Sl K W (ρ.set i (some d)) (σ.set i (some v)) := by
  refine ⟨by rw [List.length_set, List.length_set]; exact h.len, fun j e hj => ?_⟩
  by_cases hji : j = i
  · subst hji
    have hl : j < ρ.length := by
      have := (List.getElem?_eq_some_iff.mp hj).1
      rw [List.length_set] at this; exact this
    rw [List.getElem?_set_self hl] at hj
    cases hj
    exact ⟨v, by rw [List.getElem?_set_self (by rw [← h.len]; exact hl)], r⟩
  · rw [List.getElem?_set_ne (Ne.symm hji)] at hj ⊢
    exact h.at_ j e hj
/-! ### targets -/
abbrev FG := D → Rho → Option Rho
abbrev FGs := List D → Rho → Option Rho
/-- vs: the slots that the target may change -/
def liftG (K : PySem.W.Frag) (vs : List Nat) (t : FG) : TG := fun v σ H Q => ∃ W ρ M d, W.H = H ∧ SR K W M ∧ Sl K W ρ σ ∧ Rp K W d v ∧ ∃ ρ', t d ρ = some ρ' ∧ ∀ W' σ', Ext W W' → SR K W' M → Sl K W' ρ' σ' → wipe σ' vs = wipe σ vs → Q σ' W'.H
def liftGs (K : PySem.W.Frag) (vs : List Nat) (t : FGs) : TGs := fun v σ H Q => ∃ W ρ M d, W.H = H ∧ SR K W M ∧ Sl K W ρ σ ∧ RpL K W d v ∧ ∃ ρ', t d ρ = some ρ' ∧ ∀ W' σ', Ext W W' → SR K W' M → Sl K W' ρ' σ' → wipe σ' vs = wipe σ vs → Q σ' W'.H
abbrev PFG (X : Cx) (vs : List Nat) (e : Expr) (t : FG) : Prop := PG X e (liftG X.K vs t)
abbrev PFGs (X : Cx) (vs : List Nat) (e : List Expr) (t : FGs) : Prop := PGs X e (liftGs X.K vs t)
def tN (i : Nat) : FG := fun d ρ => some (ρ.set i (some d))
def tT (n : Nat) (t : FGs) : FG := fun d ρ => match d with | .tup xs => if xs.length = n then t xs ρ else none | _ => none
def tsN : FGs := fun ds ρ => match ds with | [] => some ρ | _ => none
def tsC (t : FG) (u : FGs) : FGs := fun ds ρ => match ds with | d :: r => (t d ρ).bind fun ρ' => u r ρ' | [] => none
theorem wipe_set_in {i : Nat} {v : Option V} : ∀ {vs : List Nat} {σ : L2.St}, i ∈ vs → wipe (σ.set i v) vs = wipe σ vs
  | [], _, h => by simp at h
  | w :: vs, σ, h => by
    unfold wipe
    by_cases hw : i ∈ vs
    · rw [wipe_set_in hw]
    · have e : i = w := by
        rcases List.mem_cons.mp h with e | h
        · exact e
        · exact absurd h hw
      subst e
      have out : ∀ (ws : List Nat) (σ : L2.St), i ∉ ws → wipe (σ.set i v) ws = (wipe σ ws).set i v := by
        intro ws
        induction ws with
        | nil => intro σ _; rfl
        | cons z zs ih =>
          intro σ hz
          unfold wipe
          rw [ih σ fun q => hz (List.mem_cons_of_mem _ q), List.set_comm _ _ (fun q => hz (by rw [q]; exact List.mem_cons_self))]
      rw [out vs σ hw, List.set_set]
section
variable {X : Cx} {pos : Pos} {vs : List Nat}
theorem pg_weak {e : Expr} {t t' : TG} (h : PG X e t) (i : ∀ v σ H Q, t' v σ H Q → t v σ H Q) : PG X e t' := ⟨fun pins s σ H v u Q I r q => h.run pins s σ H v u Q I r (i v σ H Q q)⟩
theorem pgs_weak {e : List Expr} {t t' : TGs} (h : PGs X e t) (i : ∀ v σ H Q, t' v σ H Q → t v σ H Q) : PGs X e t' := ⟨fun pins s σ H v u Q I r q => h.run pins s σ H v u Q I r (i v σ H Q q)⟩
theorem pfg_name {i : Nat} {x : Str} (hN : X.N.Nodup) (hi : X.N[i]? = some x) (hx : Loc X.env.scope x) (hv : i ∈ vs := by decide) (hf : X.fn x = true ∨ X.env.scope.names.lookup x = some .local := by first | exact .inl rfl | exact .inr rfl | assumption) : PFG X vs (.Name x pos) (tN i) := pg_weak (pg_name hN hi hx hf) fun v σ H Q => by
  rintro ⟨W, ρ, M, d, rfl, sr, sl, r, ρ', ht, k⟩
  cases ht
  exact k W _ (.refl W) sr (sl_set sl r) (wipe_set_in hv)
theorem pfgs_nil : PFGs X vs [] tsN := pgs_weak pgs_nil fun v σ H Q => by
  rintro ⟨W, ρ, M, d, rfl, sr, sl, r, ρ', ht, k⟩
  unfold tsN at ht
  split at ht
  · cases ht
    cases (show _ = _ from r)
    exact ⟨rfl, k W _ (.refl W) sr sl rfl⟩
  · cases ht
theorem pfgs_cons {e : Expr} {es : List Expr} {t : FG} {u : FGs} (h1 : PFG X vs e t) (h2 : PFGs X vs es u) (hs : (assignEach (e :: es) X.env).map (·.2) = assign e X.env :: (assignEach es X.env).map (·.2) := by rfl) : PFGs X vs (e :: es) (tsC t u) := pgs_weak (pgs_cons h1 h2 hs) fun v σ H Q => by
  rintro ⟨W, ρ, M, d, rfl, sr, sl, r, ρ', ht, k⟩
  unfold tsC at ht
  split at ht
  · obtain ⟨ρ1, h1, h2⟩ := Option.bind_eq_some_iff.mp ht
    obtain ⟨v1, vr, rfl, q1, q2⟩ := r
    exact ⟨v1, vr, rfl, W, ρ, M, _, rfl, sr, sl, q1, ρ1, h1, fun W1 σ1 e1 s1 l1 w1 => ⟨W1, ρ1, M, _, rfl, s1, l1, q2.ext e1 sr.sub, ρ', h2, fun W2 σ2 e2 s2 l2 w2 => k W2 σ2 (e1.trans e2) s2 l2 (w2.trans w1)⟩⟩
  · cases ht
theorem pfg_tup {es : List Expr} {k : Nat} {t : FGs} {n : Nat} (hc : X.calm = true) (h : PFGs X vs es t) (hn : (assignEach es X.env).length = n := by rfl) (hst : (assignEach es X.env).findIdx? (·.1) = none := by rfl) : PFG X vs (.Tuple es k pos) (tT n t) := pg_weak (pg_tup hc h hn hst) fun v σ H Q => by
  rintro ⟨W, ρ, M, d, rfl, sr, sl, r, ρ', ht, k⟩
  unfold tT at ht
  split at ht
  · split at ht
    · rename_i hl
      obtain ⟨a, vs, rfl, h1, q1⟩ := tp_sq r
      exact ⟨a, vs, rfl, h1, by rw [← q1.len]; exact hl, W, ρ, M, _, rfl, sr, sl, q1, ρ', ht, k⟩
    · cases ht
  · cases ht
end
/-! ### statements -/
def sNext : FS := fun ρ M => some (.nx ρ, M)
def sSeq (f g : FS) : FS := fun ρ M => (f ρ M).bind fun o => match o.1 with | .nx ρ' => g ρ' o.2 | _ => some o
def sBreak : FS := fun ρ M => some (.bk ρ, M)
def sCont : FS := fun ρ M => some (.ct ρ, M)
def sDrop (f : FE) : FS := fun ρ M => (f ρ M).bind fun a => some (.nx ρ, a.2)
def sRet (f : FE) : FS := fun ρ M => (f ρ M).bind fun a => some (.ret a.1, a.2)
def sRetN : FS := fun _ M => some (.ret .non, M)
def sIf (c : FT) (f g : FS) : FS := fun ρ M => (c ρ M).bind fun a => if a.1 = true then f ρ a.2 else g ρ a.2
def sSet (i : Nat) (f : FE) : FS := fun ρ M => (f ρ M).bind fun a => some (.nx (ρ.set i (some a.1)), a.2)
def sAsg (f : FE) (t : FG) : FS := fun ρ M => (f ρ M).bind fun a => (t a.1 ρ).bind fun ρ' => some (.nx ρ', a.2)
def sPar (i j : Nat) (f : FA) : FS := fun ρ M => (f ρ M).bind fun a => match a.1 with | [x, y] => some (.nx ((ρ.set i (some x)).set j (some y)), a.2) | _ => none
def sPar3 (i j l : Nat) (f : FA) : FS := fun ρ M => (f ρ M).bind fun a => match a.1 with | [x, y, z] => some (.nx (((ρ.set i (some x)).set j (some y)).set l (some z)), a.2) | _ => none
abbrev G2M := D → D → Mem → Option (D × Mem)
def sAug (i : Nat) (g : G2M) (f : FE) : FS := fun ρ M => match ρ[i]? with | some (some x) => (f ρ M).bind fun a => (g x a.1 a.2).bind fun z => some (.nx (ρ.set i (some z.1)), z.2) | _ => none
def Op2M (K : PySem.W.Frag) (r : R2) (g : G2M) : Prop := ∀ (W : Wo) (M M' : Mem) (x y d : D) (v u : V) (Q : VK), SR K W M → Rp K W x v → Rp K W y u → g x y M = some (d, M') →
  (∀ W' v', Ext W W' → SR K W' M' → Rp K W' d v' → Q v' W'.H) → r v u W.H Q
section
variable {X : Cx} {st : Stmt} {rest : List Stmt} {f g : FS} {e : Expr} {fe : FE} {pos : Pos}
theorem pfs_nil : PFSs X [] sNext := pss_weak pss_nil fun E σ H => by
  rw [liftS_iff]
  rintro ⟨W, ρ, M, rfl, sr, sl, o, M', hf, k⟩
  cases hf
  exact k W σ (.refl W) sr sl
theorem pfs_cons (h1 : PFS X st f) (h2 : PFSs X rest g) : PFSs X (st :: rest) (sSeq f g) := pss_weak (pss_cons h1 h2) fun E σ H => by
  rw [liftS_iff]
  rintro ⟨W, ρ, M, rfl, sr, sl, o, M', hf, k⟩
  obtain ⟨⟨o1, M1⟩, h1, hf⟩ := Option.bind_eq_some_iff.mp hf
  show liftS X.K f _ σ W.H
  rw [liftS_iff]
  refine ⟨W, ρ, M, rfl, sr, sl, o1, M1, h1, ?_⟩
  cases o1 with
  | nx ρ1 =>
    intro W1 σ1 e1 s1 l1
    exact liftS_iff.mpr ⟨W1, ρ1, M1, rfl, s1, l1, o, M', hf, k.ext e1⟩
  | ret d => cases hf; exact k
  | bk d => cases hf; exact k
  | ct d => cases hf; exact k
theorem pfs_one (h1 : PFS X st f) : PFSs X [st] f := pss_one h1
theorem pfs_pass : PFS X (.Pass pos) sNext := ps_weak ps_pass fun E σ H => by
  rw [liftS_iff]
  rintro ⟨W, ρ, M, rfl, sr, sl, o, M', hf, k⟩
  cases hf
  exact k W σ (.refl W) sr sl
theorem pfs_break : PFS X (.Break pos) sBreak := ps_weak ps_break fun E σ H => by
  rw [liftS_iff]
  rintro ⟨W, ρ, M, rfl, sr, sl, o, M', hf, k⟩
  cases hf
  exact k W σ (.refl W) sr sl
theorem pfs_continue : PFS X (.Continue pos) sCont := ps_weak ps_continue fun E σ H => by
  rw [liftS_iff]
  rintro ⟨W, ρ, M, rfl, sr, sl, o, M', hf, k⟩
  cases hf
  exact k W σ (.refl W) sr sl
theorem pfs_doc {x j pos pos'} : PFS X (.Expr (.Constant (.str x) j pos) pos') sNext := ps_weak ps_doc fun E σ H => by
  rw [liftS_iff]
  rintro ⟨W, ρ, M, rfl, sr, sl, o, M', hf, k⟩
  cases hf
  exact k W σ (.refl W) sr sl
theorem pfs_expr (he : PFE X e fe) (hs : swapsWith e none pos.line X.env = pure false := by rfl) : PFS X (.Expr e pos) (sDrop fe) := ps_weak (ps_expr he hs) fun E σ H => by
  rw [liftS_iff]
  rintro ⟨W, ρ, M, rfl, sr, sl, o, M', hf, k⟩
  obtain ⟨⟨x, M1⟩, hx, hf⟩ := Option.bind_eq_some_iff.mp hf
  cases hf
  exact ⟨W, ρ, M, rfl, sr, sl, x, _, hx, fun W1 v e1 s1 r1 => k W1 σ e1 s1 (sl.ext e1 sr.sub)⟩
theorem pfs_ret (he : PFE X e fe) : PFS X (.Return (some e) pos) (sRet fe) := ps_weak (ps_ret he) fun E σ H => by
  rw [liftS_iff]
  rintro ⟨W, ρ, M, rfl, sr, sl, o, M', hf, k⟩
  obtain ⟨⟨x, M1⟩, hx, hf⟩ := Option.bind_eq_some_iff.mp hf
  cases hf
  exact ⟨W, ρ, M, rfl, sr, sl, x, _, hx, fun W1 v e1 s1 r1 => k W1 v e1 s1 r1⟩
theorem pfs_retN : PFS X (.Return none pos) sRetN := ps_weak ps_retN fun E σ H => by
  rw [liftS_iff]
  rintro ⟨W, ρ, M, rfl, sr, sl, o, M', hf, k⟩
  cases hf
  exact k W .non (.refl W) sr rfl
theorem pfs_if {c : Expr} {a b : List Stmt} {fc : FT} (hc : PFT X c fc) (ha : PFSs X a f) (hb : PFSs X b g) : PFS X (.If c a b pos) (sIf fc f g) := ps_weak (ps_if hc ha hb) fun E σ H => by
  rw [liftS_iff]
  rintro ⟨W, ρ, M, rfl, sr, sl, o, M', hf, k⟩
  obtain ⟨⟨x, M1⟩, hx, hf⟩ := Option.bind_eq_some_iff.mp hf
  refine ⟨W, ρ, M, rfl, sr, sl, x, M1, hx, fun W1 e1 s1 => ?_⟩
  cases x with
  | true =>
    rw [if_pos rfl] at hf ⊢
    exact liftS_iff.mpr ⟨W1, ρ, M1, rfl, s1, sl.ext e1 sr.sub, o, M', hf, k.ext e1⟩
  | false =>
    rw [if_neg Bool.false_ne_true] at hf ⊢
    exact liftS_iff.mpr ⟨W1, ρ, M1, rfl, s1, sl.ext e1 sr.sub, o, M', hf, k.ext e1⟩
theorem pfs_set {i : Nat} {x : Str} {pos' : Pos} (hN : X.N.Nodup) (hi : X.N[i]? = some x) (hx : Loc X.env.scope x) (he : PFE X e fe) (hs : swapsWith e (some (.Name x pos')) pos.line X.env = pure false := by rfl) (hf : X.fn x = true ∨ X.env.scope.names.lookup x = some .local := by first | exact .inl rfl | exact .inr rfl | assumption) :
    PFS X (.Assign [.Name x pos'] e pos) (sSet i fe) := ps_weak (ps_set hN hi hx he hs hf) fun E σ H => by
  rw [liftS_iff]
  rintro ⟨W, ρ, M, rfl, sr, sl, o, M', hf, k⟩
  obtain ⟨⟨x, M1⟩, hx, hf⟩ := Option.bind_eq_some_iff.mp hf
  cases hf
  exact ⟨W, ρ, M, rfl, sr, sl, x, _, hx, fun W1 v e1 s1 r1 => k W1 _ e1 s1 (sl_set (sl.ext e1 sr.sub) r1)⟩
theorem pfs_asg {tg : Expr} {t : FG} {vs : List Nat} (he : PFE X e fe) (hg : PFG X vs tg t) (hs : swapsWithSole [tg] e pos.line X.env = pure false := by rfl) (hw : swappedStores [tg] e X.env = pure none := by rfl)
    (h1 : (assignEach [tg] X.env).map (·.2) = [assign tg X.env] := by rfl) : PFS X (.Assign [tg] e pos) (sAsg fe t) := ps_weak (ps_asg he hg hs hw h1) fun E σ H => by
  rw [liftS_iff]
  rintro ⟨W, ρ, M, rfl, sr, sl, o, M', hf, k⟩
  obtain ⟨⟨x, M1⟩, hx, hf⟩ := Option.bind_eq_some_iff.mp hf
  obtain ⟨ρ', ht, hf⟩ := Option.bind_eq_some_iff.mp hf
  cases hf
  exact ⟨W, ρ, M, rfl, sr, sl, x, _, hx, fun W1 v e1 s1 r1 => ⟨W1, ρ, _, x, rfl, s1, sl.ext e1 sr.sub, r1, ρ', ht, fun W2 σ2 e2 s2 l2 _ => k W2 σ2 (e1.trans e2) s2 l2⟩⟩
theorem pfs_par {i j : Nat} {x y : Str} {a b : Expr} {fa : FA} {px py pt : Pos} {kt k2 pt2} (hc : X.calm = true) (hN : X.N.Nodup) (hi : X.N[i]? = some x) (hj : X.N[j]? = some y) (hij : i ≠ j)
    (hx : X.env.scope.names.lookup x = some .local) (hy : X.env.scope.names.lookup y = some .local) (ha : PFA X [a, b] fa)
    (hw : swappedStores [.Tuple [.Name x px, .Name y py] kt pt] (.Tuple [a, b] k2 pt2) X.env = pure (some [x, y]))
    (hs : swapsWithSole [.Tuple [.Name x px, .Name y py] kt pt] (.Tuple [a, b] k2 pt2) pos.line X.env = pure false := by rfl) :
    PFS X (.Assign [.Tuple [.Name x px, .Name y py] kt pt] (.Tuple [a, b] k2 pt2) pos) (sPar i j fa) := ps_weak (ps_par hc hN hi hj hij hx hy ha hw hs) fun E σ H => by
  rw [liftS_iff]
  rintro ⟨W, ρ, M, rfl, sr, sl, o, M', hf, k⟩
  obtain ⟨⟨x, M1⟩, hx, hf⟩ := Option.bind_eq_some_iff.mp hf
  dsimp only at hf
  split at hf
  · cases hf
    refine ⟨W, ρ, M, rfl, sr, sl, _, _, hx, fun W1 v e1 s1 r1 => ?_⟩
    obtain ⟨v1, r, rfl, q1, v2, r', rfl, q2, q3⟩ := r1
    cases (show _ = _ from q3)
    exact ⟨v1, v2, rfl, k W1 _ e1 s1 (sl_set (sl_set (sl.ext e1 sr.sub) q1) q2)⟩
  · cases hf
theorem pfs_par3 {i j l : Nat} {x y z : Str} {a b c : Expr} {fa : FA} {px py pz pt : Pos} {kt k2 pt2} (hc : X.calm = true) (hN : X.N.Nodup) (hi : X.N[i]? = some x) (hj : X.N[j]? = some y) (hl : X.N[l]? = some z) (hij : i ≠ j) (hil : i ≠ l) (hjl : j ≠ l)
    (hx : X.env.scope.names.lookup x = some .local) (hy : X.env.scope.names.lookup y = some .local) (hz : X.env.scope.names.lookup z = some .local) (ha : PFA X [a, b, c] fa)
    (hw : swappedStores [.Tuple [.Name x px, .Name y py, .Name z pz] kt pt] (.Tuple [a, b, c] k2 pt2) X.env = pure (some [x, y, z]))
    (hs : swapsWithSole [.Tuple [.Name x px, .Name y py, .Name z pz] kt pt] (.Tuple [a, b, c] k2 pt2) pos.line X.env = pure false := by rfl) :
    PFS X (.Assign [.Tuple [.Name x px, .Name y py, .Name z pz] kt pt] (.Tuple [a, b, c] k2 pt2) pos) (sPar3 i j l fa) := ps_weak (ps_par3 hc hN hi hj hl hij hil hjl hx hy hz ha hw hs) fun E σ H => by
  rw [liftS_iff]
  rintro ⟨W, ρ, M, rfl, sr, sl, o, M', hf, k⟩
  obtain ⟨⟨x, M1⟩, hx, hf⟩ := Option.bind_eq_some_iff.mp hf
  dsimp only at hf
  split at hf
  · cases hf
    refine ⟨W, ρ, M, rfl, sr, sl, _, _, hx, fun W1 v e1 s1 r1 => ?_⟩
    obtain ⟨v1, r, rfl, q1, v2, r', rfl, q2, v3, r'', rfl, q3, q4⟩ := r1
    cases (show _ = _ from q4)
    exact ⟨v1, v2, v3, rfl, k W1 _ e1 s1 (sl_set (sl_set (sl_set (sl.ext e1 sr.sub) q1) q2) q3)⟩
  · cases hf
theorem pfs_aug {i : Nat} {x : Str} {op : Operator} {r : R2} {gm : G2M} {pos' : Pos} (hN : X.N.Nodup) (hi : X.N[i]? = some x) (hx : Loc X.env.scope x) (he : PFE X e fe) (ho : OpR X (inplaceOp op) r) (o : Op2M X.K r gm) (hf : X.fn x = true ∨ X.env.scope.names.lookup x = some .local := by first | exact .inl rfl | exact .inr rfl | assumption) :
    PFS X (.AugAssign (.Name x pos') op e pos) (sAug i gm fe) := ps_weak (ps_aug (ti := r) hN hi hx he ho hf) fun E σ H => by
  rw [liftS_iff]
  rintro ⟨W, ρ, M, rfl, sr, sl, o', M', hf, k⟩
  unfold sAug at hf
  split at hf
  · rename_i d hd
    obtain ⟨⟨y, M1⟩, hy, hf⟩ := Option.bind_eq_some_iff.mp hf
    obtain ⟨⟨z, M2⟩, hz, hf⟩ := Option.bind_eq_some_iff.mp hf
    cases hf
    obtain ⟨v, h1, h2⟩ := sl.at_ i d hd
    exact ⟨v, h1, W, ρ, M, rfl, sr, sl, y, M1, hy, fun W1 u e1 s1 r1 => o W1 M1 _ d y z v u _ s1 (h2.ext e1 sr.sub) r1 hz fun W2 w e2 s2 r2 => k W2 _ (e1.trans e2) s2 (sl_set (sl.ext (e1.trans e2) sr.sub) r2)⟩
  · cases hf
end
/-! ### while -/
def sWhileN (fc : FT) (fb : FS) : Nat → FS
  | 0, _, _ => none
  | n + 1, ρ, M => (fc ρ M).bind fun c => if c.1 = true then (fb ρ c.2).bind fun o => match o.1 with
      | .nx ρ' => sWhileN fc fb n ρ' o.2
      | .ct ρ' => sWhileN fc fb n ρ' o.2
      | .bk ρ' => some (.nx ρ', o.2)
      | .ret d => some (.ret d, o.2)
    else some (.nx ρ, c.2)
def fuel (ρ : Rho) (M : Mem) : Nat := ρ.foldl (fun n d => n + match d with | some (.int i) => i.natAbs | _ => 0) 1000000
def sWhile (fc : FT) (fb : FS) : FS := fun ρ M => sWhileN fc fb (fuel ρ M) ρ M
theorem pfs_while {X : Cx} {pos : Pos} {c : Expr} {body : List Stmt} {fc : FT} {fb : FS} (hp : PassesOwn (model X.prog X.w) X.A X.env X.xe) (hc : PFT X c fc) (hb : PFSs X body fb) : PFS X (.While c body [] pos) (sWhile fc fb) := ps_weak (ps_while hp hc hb) fun E σ H => by
  rw [liftS_iff]
  rintro ⟨W, ρ, M, rfl, sr, sl, o, M', hf, k⟩
  refine ⟨fun n σ' H' => ∃ W1 ρ1 M1, W1.H = H' ∧ Ext W W1 ∧ SR X.K W1 M1 ∧ Sl X.K W1 ρ1 σ' ∧ sWhileN fc fb n ρ1 M1 = some (o, M'), ⟨_, W, ρ, M, rfl, .refl W, sr, sl, hf⟩, ?_⟩
  rintro n σ1 H1 ⟨W1, ρ1, M1, rfl, e1, s1, l1, hw⟩
  cases n with
  | zero => cases hw
  | succ n =>
    obtain ⟨⟨b, M2⟩, hcx, hw⟩ := Option.bind_eq_some_iff.mp hw
    refine ⟨W1, ρ1, M1, rfl, s1, l1, b, M2, hcx, fun W2 e2 s2 => ?_⟩
    cases b with
    | false =>
      rw [if_neg Bool.false_ne_true] at hw ⊢
      cases hw
      exact k W2 σ1 (e1.trans e2) s2 (l1.ext e2 s1.sub)
    | true =>
      rw [if_pos rfl] at hw ⊢
      obtain ⟨⟨o3, M3⟩, ho, hw⟩ := Option.bind_eq_some_iff.mp hw
      refine ⟨fun σ' H' => ∃ W3 ρ3, W3.H = H' ∧ Ext W W3 ∧ SR X.K W3 M3 ∧ Sl X.K W3 ρ3 σ' ∧ sWhileN fc fb n ρ3 M3 = some (o, M'), ?_, liftS_iff.mpr ⟨W2, ρ1, M2, rfl, s2, l1.ext e2 s1.sub, o3, M3, ho, ?_⟩⟩
      · rintro σ' H' ⟨W3, ρ3, h1, h2, h3, h4, h5⟩
        exact ⟨n, Nat.lt_succ_self n, W3, ρ3, M3, h1, h2, h3, h4, h5⟩
      · cases o3 with
        | nx ρ3 => exact fun W3 σ3 e3 s3 l3 => ⟨W3, ρ3, rfl, (e1.trans e2).trans e3, s3, l3, hw⟩
        | ct ρ3 => exact fun W3 σ3 e3 s3 l3 => ⟨W3, ρ3, rfl, (e1.trans e2).trans e3, s3, l3, hw⟩
        | bk ρ3 => cases hw; exact fun W3 σ3 e3 s3 l3 => k W3 σ3 ((e1.trans e2).trans e3) s3 l3
        | ret d => cases hw; exact fun W3 v e3 s3 r3 => k W3 v ((e1.trans e2).trans e3) s3 r3
/-! ### for -/
/-- the items, and the changeable list that they are read from, if it is one -/
abbrev FI := Rho → Mem → Option ((List D × Option Nat) × Mem)
def chk (k : Option Nat) (xs : List D) (M : Mem) : Bool := match k with
  | none => true
  | some n => match M[n]? with | some (.lst ys) => D.beqs ys xs | _ => false
def JOk (K : PySem.W.Frag) (W : Wo) (J : It) (xs : List D) (k : Option Nat) : Prop := xs.length ≤ LINE ∧ ∀ W' M', Ext W W' → SR K W' M' → chk k xs M' = true → ∀ i,
  (∀ d, xs[i]? = some d → J.go i W'.H ∧ ∀ x H', J.yld i W'.H x H' → H' = W'.H ∧ Rp K W' d x) ∧ (xs.length ≤ i → J.stop i W'.H)
def liftI (K : PySem.W.Frag) (f : FI) : TI := fun σ H R => ∃ W ρ M, W.H = H ∧ SR K W M ∧ Sl K W ρ σ ∧ ∃ xs k M', f ρ M = some ((xs, k), M') ∧
  ∀ W' J, Ext W W' → SR K W' M' → JOk K W' J xs k → R J W'.H
abbrev PFI (X : Cx) (tg e : Expr) (f : FI) : Prop := PI X tg e (liftI X.K f)
def sLoop (c : Mem → Bool) (step : D → FS) : List D → FS
  | [], ρ, M => if c M = true then some (.nx ρ, M) else none
  | d :: ds, ρ, M => if c M = true then (step d ρ M).bind fun o => match o.1 with
      | .nx ρ' => sLoop c step ds ρ' o.2
      | .ct ρ' => sLoop c step ds ρ' o.2
      | .bk ρ' => some (.nx ρ', o.2)
      | .ret d => some (.ret d, o.2)
    else none
def sStep (t : FG) (fb : FS) (d : D) : FS := fun ρ M => (t d ρ).bind fun ρ' => fb ρ' M
def sFor (fi : FI) (t : FG) (fb : FS) : FS := fun ρ M => (fi ρ M).bind fun a => sLoop (chk a.1.2 a.1.1) (sStep t fb) a.1.1 ρ a.2
theorem pfs_for {X : Cx} {pos : Pos} {tg iter : Expr} {body : List Stmt} {fi : FI} {t : FG} {vs : List Nat} {fb : FS} (hp : PassesOwn (model X.prog X.w) X.A X.env X.xe) (hc : X.calm = true) (hi : PFI X tg iter fi) (hg : PFG X vs tg t) (hb : PFSs X body fb)
    (hs : ∀ x, foldedSetIterable iter X.env x = pure x := by intro _; rfl) : PFS X (.For tg iter body [] pos) (sFor fi t fb) := ps_weak (ps_for hp hc hi hg hb hs) fun E σ H => by
  rw [liftS_iff]
  rintro ⟨W, ρ, M, rfl, sr, sl, o, M', hf, k⟩
  obtain ⟨⟨⟨xs, kk⟩, M1⟩, hi, hf⟩ := Option.bind_eq_some_iff.mp hf
  refine ⟨W, ρ, M, rfl, sr, sl, xs, kk, M1, hi, fun W1 J e1 s1 jo => ?_⟩
  refine ⟨fun i m σ' H' => ∃ W2 ρ2 M2, W2.H = H' ∧ Ext W1 W2 ∧ SR X.K W2 M2 ∧ Sl X.K W2 ρ2 σ' ∧ i ≤ xs.length ∧ m = xs.length - i ∧ sLoop (chk kk xs) (sStep t fb) (xs.drop i) ρ2 M2 = some (o, M'), ⟨xs.length, W1, ρ, M1, rfl, .refl W1, s1, sl.ext e1 sr.sub, Nat.zero_le _, rfl, hf⟩, ?_⟩
  rintro i m σ2 H2 ⟨W2, ρ2, Mt, rfl, e2, s2, l2, hil, rfl, hw⟩
  by_cases hlt : i < xs.length
  · right
    have hd : xs.drop i = xs[i] :: xs.drop (i + 1) := List.drop_eq_getElem_cons hlt
    rw [hd] at hw
    unfold sLoop at hw
    split at hw
    · rename_i hck
      obtain ⟨⟨o3, M3⟩, ho, hw⟩ := Option.bind_eq_some_iff.mp hw
      obtain ⟨hgo, hy⟩ := (jo.2 W2 Mt e2 s2 hck i).1 xs[i] (by simp [hlt])
      refine ⟨hgo, fun σ' H' => ∃ W3 ρ3, W3.H = H' ∧ Ext W1 W3 ∧ SR X.K W3 M3 ∧ Sl X.K W3 ρ3 σ' ∧ sLoop (chk kk xs) (sStep t fb) (xs.drop (i + 1)) ρ3 M3 = some (o, M'), ?_, fun x H' hx => ?_⟩
      · rintro σ' H' ⟨W3, ρ3, h1, h2, h3, h4, h5⟩
        exact ⟨xs.length - (i + 1), by omega, W3, ρ3, M3, h1, h2, h3, h4, hlt, rfl, h5⟩
      · obtain ⟨rfl, rx⟩ := hy x H' hx
        obtain ⟨ρ3, ht, ho⟩ := Option.bind_eq_some_iff.mp ho
        refine ⟨W2, ρ2, Mt, xs[i], rfl, s2, l2, rx, ρ3, ht, fun W3 σ3 e3 s3 l3 _ => liftS_iff.mpr ⟨W3, ρ3, Mt, rfl, s3, l3, o3, M3, ho, ?_⟩⟩
        cases o3 with
        | nx ρ4 => exact fun W4 σ4 e4 s4 l4 => ⟨W4, ρ4, rfl, e2.trans (e3.trans e4), s4, l4, hw⟩
        | ct ρ4 => exact fun W4 σ4 e4 s4 l4 => ⟨W4, ρ4, rfl, e2.trans (e3.trans e4), s4, l4, hw⟩
        | bk ρ4 => cases hw; exact fun W4 σ4 e4 s4 l4 => k W4 σ4 (e1.trans (e2.trans (e3.trans e4))) s4 l4
        | ret d => cases hw; exact fun W4 v e4 s4 r4 => k W4 v (e1.trans (e2.trans (e3.trans e4))) s4 r4
    · cases hw
  · left
    have e : i = xs.length := by omega
    subst e
    rw [List.drop_length] at hw
    unfold sLoop at hw
    split at hw
    · rename_i hck
      cases hw
      exact ⟨(jo.2 W2 _ e2 s2 hck xs.length).2 (Nat.le_refl _), k W2 σ2 (e1.trans e2) s2 l2⟩
    · cases hw
/-! ### what a for walks -/
def fiSq (fa : FE) : FI := fun ρ M => (fa ρ M).bind fun a => match a.1 with
  | .ref n => (lsOf a.1 a.2).bind fun xs => some ((xs, some n), a.2)
  | d => (sqOf d a.2).bind fun xs => some ((xs, none), a.2)
def rgD (lo : Int) (n : Nat) : List D := (List.range n).map fun (i : Nat) => D.int (lo + i)
def okR (i j : Int) : Bool := Nat.ble i.natAbs 1000000000 && (Nat.ble j.natAbs 1000000000 && Nat.ble (j - i).toNat 16777216)
theorem okR_ok {i j : Int} (h : okR i j = true) : (-(4611686018427387904) ≤ i ∧ i < 4611686018427387904) ∧ (-(4611686018427387904) ≤ j ∧ j < 4611686018427387904) ∧ j - i ≤ 16777216 := by
  unfold okR at h
  rw [Bool.and_eq_true, Bool.and_eq_true] at h
  have h1 := Nat.le_of_ble_eq_true h.1
  have h2 := Nat.le_of_ble_eq_true h.2.1
  have h3 := Nat.le_of_ble_eq_true h.2.2
  omega
def fiRg1 (f : FA) : FI := fun ρ M => (f ρ M).bind fun a => match a.1 with | [.int j] => if okR 0 j then some ((rgD 0 j.toNat, none), a.2) else none | _ => none
def fiRg2 (f : FA) : FI := fun ρ M => (f ρ M).bind fun a => match a.1 with | [.int i, .int j] => if okR i j then some ((rgD i (j - i).toNat, none), a.2) else none | _ => none
section
variable {X : Cx} {tg a : Expr} {fa : FE}
theorem pi_weak {e : Expr} {t t' : TI} (h : PI X tg e t) (i : ∀ σ H Q, t' σ H Q → t σ H Q) : PI X tg e t' := ⟨fun pins s σ H Q I q => h.run pins s σ H Q I (i σ H Q q)⟩
def iSeq (K : PySem.W.Frag) (tl : TE) : TI := fun σ H R => tl σ H fun x H1 => ∃ a, x = .ref a ∧ (((∃ xs, SqL K H1 a xs) ∧ R (Itl K a) H1) ∨ ((∃ xs, SqT K H1 a xs) ∧ R (Itt K a) H1))
/-- a list or a tuple is walked -/
theorem pi_seq {l : Expr} {tl : TE} (hl : PE X l tl) : PI X tg l (iSeq X.K tl) := by
  refine ⟨fun pins s σ H R I h => ?_⟩
  refine thn (hl.run pins s σ H _ I h) fun vv s1 ⟨x, H1, I1, r1, p, ex, q⟩ => ?_
  subst ex
  cases r1
  have fresh : ∀ b ∈ [s1.heap.objs.size], FpOk X pins H1 b := fun b hb => by
    obtain rfl : b = s1.heap.objs.size := by simpa using hb
    exact I1.fpOk (Nat.le_refl _) (I1.hok.fresh (Nat.le_refl _))
  rcases q with ⟨⟨xs, hq⟩, q⟩ | ⟨⟨xs, hq⟩, q⟩
  · obtain ⟨its, rv, pl, _⟩ := I1.list hq
    exact wpAny_pyIter_list pl.isList ⟨s1.heap.objs.size, [s1.heap.objs.size], _, _, H1, rfl, I1.kept (t' := s1.toks) fun b u eb => Heap.get?_push_of_some _ eb, turn_list p _, ⟨_, Heap.get?_push_size _ rfl, rfl, rfl⟩, fresh, q⟩
  · obtain ⟨its, rv, pt, _⟩ := I1.tuple hq
    exact wpAny_pyIter_tuple (show s1.heap.IsTuple p its.toArray from pt) ⟨s1.heap.objs.size, [s1.heap.objs.size], _, _, H1, rfl, I1.kept (t' := s1.toks) fun b u eb => Heap.get?_push_of_some _ eb, turn_tuple p _, ⟨_, Heap.get?_push_size _ rfl, rfl, rfl⟩, fresh, q⟩
theorem jok_of {K : PySem.W.Frag} {W : Wo} {J : It} {xs : List D} {kk : Option Nat} (hz : xs.length ≤ LINE) (h : ∀ W' M', Ext W W' → SR K W' M' → chk kk xs M' = true → ∃ vs, RpL K W' xs vs ∧ (∀ i x, vs[i]? = some x → J.go i W'.H ∧ ∀ y H', J.yld i W'.H y H' → H' = W'.H ∧ y = x) ∧ ∀ i, vs.length ≤ i → J.stop i W'.H) : JOk K W J xs kk := by
  refine ⟨hz, fun W' M' e s c i => ?_⟩
  obtain ⟨vs, r, h1, h2⟩ := h W' M' e s c
  refine ⟨fun d hd => ?_, fun hl => h2 i (by rw [← r.len]; exact hl)⟩
  obtain ⟨v, hv, rv⟩ := r.get hd
  obtain ⟨g, y⟩ := h1 i v hv
  exact ⟨g, fun x H' hx => ⟨(y x H' hx).1, by rw [(y x H' hx).2]; exact rv⟩⟩
theorem walk_l {K : PySem.W.Frag} {H : Hp} {p : Addr} {vs : List V} (h : SqL K H p vs) : (∀ i x, vs[i]? = some x → (Itl K p).go i H ∧ ∀ y H', (Itl K p).yld i H y H' → H' = H ∧ y = x) ∧ ∀ i, vs.length ≤ i → (Itl K p).stop i H :=
  ⟨fun i x hx => ⟨⟨vs, x, h, hx⟩, fun y H' q => ⟨q.1, Option.some.inj ((q.2 vs h).symm.trans hx)⟩⟩, fun i hi => ⟨vs, h, hi⟩⟩
theorem walk_t {K : PySem.W.Frag} {H : Hp} {p : Addr} {vs : List V} (h : SqT K H p vs) : (∀ i x, vs[i]? = some x → (Itt K p).go i H ∧ ∀ y H', (Itt K p).yld i H y H' → H' = H ∧ y = x) ∧ ∀ i, vs.length ≤ i → (Itt K p).stop i H :=
  ⟨fun i x hx => ⟨⟨vs, x, h, hx⟩, fun y H' q => ⟨q.1, Option.some.inj ((q.2 vs h).symm.trans hx)⟩⟩, fun i hi => ⟨vs, h, hi⟩⟩
theorem jok_sq {K : PySem.W.Frag} {W : Wo} {M : Mem} {d : D} {v : V} {xs : List D} (sr : SR K W M) (h : Rp K W d v) (hn : ∀ n, d ≠ .ref n) (e : sqOf d M = some xs) :
    ∃ p, v = .ref p ∧ (((∃ vs, SqL K W.H p vs) ∧ JOk K W (Itl K p) xs none) ∨ ((∃ vs, SqT K W.H p vs) ∧ JOk K W (Itt K p) xs none)) := by
  obtain ⟨p, vs, rfl, h1, r⟩ := sq_sq sr h e
  refine ⟨p, rfl, ?_⟩
  cases d with
  | tup ds =>
    have hz := sq_len sr h e
    cases e
    obtain ⟨p', vs', e', q, r'⟩ := tp_sq h
    cases e'
    refine .inr ⟨⟨_, q⟩, jok_of hz fun W' M' ex s _ => ?_⟩
    obtain ⟨p2, vs2, e2, q2, r2⟩ := tp_sq (h.ext ex sr.sub)
    cases e2
    exact ⟨vs2, r2, walk_t q2⟩
  | ref n => exact absurd rfl (hn n)
  | lst ds =>
    have e' : lsOf (.lst ds) M = some xs := e
    obtain ⟨p', vs', e2, q, r'⟩ := ls_sq sr h e'
    cases e2
    refine .inl ⟨⟨_, q⟩, jok_of (sq_len sr h e) fun W' M' ex s _ => ?_⟩
    obtain ⟨p2, vs2, e2, q2, r2⟩ := ls_sq s (h.ext ex sr.sub) (show lsOf (.lst ds) M' = some xs from e')
    cases e2
    exact ⟨vs2, r2, walk_l q2⟩
  | kst ds =>
    have e' : lsOf (.kst ds) M = some xs := e
    obtain ⟨p', vs', e2, q, r'⟩ := ls_sq sr h e'
    cases e2
    refine .inl ⟨⟨_, q⟩, jok_of (sq_len sr h e) fun W' M' ex s _ => ?_⟩
    obtain ⟨p2, vs2, e2, q2, r2⟩ := ls_sq s (h.ext ex sr.sub) (show lsOf (.kst ds) M' = some xs from e')
    cases e2
    exact ⟨vs2, r2, walk_l q2⟩
  | _ => cases e
theorem pfi_sq (ha : PFE X a fa) : PFI X tg a (fiSq fa) := pi_weak (pi_seq ha) fun σ H R => by
  rintro ⟨W, ρ, M, rfl, sr, sl, xs, kk, M', hf, k⟩
  obtain ⟨⟨x, M1⟩, hx, hf⟩ := Option.bind_eq_some_iff.mp hf
  refine ⟨W, ρ, M, rfl, sr, sl, x, M1, hx, fun W1 v e1 s1 r1 => ?_⟩
  have other : (∀ n, x ≠ .ref n) → (sqOf x M1).bind (fun xs => some ((xs, (none : Option Nat)), M1)) = some ((xs, kk), M') → ∃ p, v = .ref p ∧ (((∃ xs, SqL X.K W1.H p xs) ∧ R (Itl X.K p) W1.H) ∨ ((∃ xs, SqT X.K W1.H p xs) ∧ R (Itt X.K p) W1.H)) := fun hn e => by
    obtain ⟨ys, hy, e⟩ := Option.bind_eq_some_iff.mp e
    cases e
    obtain ⟨p, rfl, q⟩ := jok_sq s1 r1 hn hy
    exact ⟨p, rfl, q.imp (fun z => ⟨z.1, k W1 _ e1 s1 z.2⟩) fun z => ⟨z.1, k W1 _ e1 s1 z.2⟩⟩
  cases x with
  | ref n =>
    obtain ⟨ys, hy, hf⟩ := Option.bind_eq_some_iff.mp hf
    cases hf
    obtain ⟨p, vs, rfl, q, r⟩ := ls_sq s1 r1 hy
    refine ⟨p, rfl, .inl ⟨⟨_, q⟩, k W1 _ e1 s1 (jok_of (ls_len s1 r1 hy) fun W' M' ex s c => ?_)⟩⟩
    unfold chk at c
    dsimp only at c
    split at c
    · rename_i zs hz
      have ez := D.eqs_of_beqs _ _ c
      subst ez
      obtain ⟨p2, vs2, e2, q2, r2⟩ := ls_sq s (r1.ext ex s1.sub) (show lsOf (.ref n) M' = some zs by simp only [lsOf, hz])
      cases e2
      exact ⟨vs2, r2, walk_l q2⟩
    · cases c
  | tup _ => exact other (fun n z => nomatch z) hf
  | lst _ => exact other (fun n z => nomatch z) hf
  | kst _ => exact other (fun n z => nomatch z) hf
  | non => exact other (fun n z => nomatch z) hf
  | bl _ => exact other (fun n z => nomatch z) hf
  | int _ => exact other (fun n z => nomatch z) hf
  | str _ => exact other (fun n z => nomatch z) hf
theorem jok_rg {K : PySem.W.Frag} {W : Wo} {lo : Int} {n : Nat} (hn : n ≤ LINE) : JOk K W (Itr lo n) (rgD lo n) none := by
  have hl : (rgD lo n).length = n := by unfold rgD; simp
  refine ⟨by rw [hl]; exact hn, fun W' M' e s c i => ?_⟩
  refine ⟨fun d hd => ?_, fun h => by rw [hl] at h; exact h⟩
  have hi : i < n := by rw [← hl]; exact (List.getElem?_eq_some_iff.mp hd).1
  have hd' : d = D.int (lo + i) := by
    unfold rgD at hd
    rw [List.getElem?_map, List.getElem?_range hi] at hd
    cases hd; rfl
  subst hd'
  exact ⟨hi, fun x H' hx => ⟨hx.1, hx.2⟩⟩
theorem pfi_rg1 {f : FA} {p pos : Pos} (hg : Gl X "range") (hm : X.mg "range" = none) (ha : PFA X [a] f) (hs : starEach [a] X.env = [(false, eval a X.env)] := by rfl) : PFI X tg (.Call (.Name "range" p) [a] [] pos) (fiRg1 f) := pi_weak (pi_range1 hg hm ha hs) fun σ H R => by
  rintro ⟨W, ρ, M, rfl, sr, sl, xs, kk, M', hf, k⟩
  obtain ⟨⟨x, M1⟩, hx, hf⟩ := Option.bind_eq_some_iff.mp hf
  dsimp only at hf
  split at hf
  · split at hf
    · rename_i hr
      cases hf
      replace hr := okR_ok hr
      refine ⟨W, ρ, M, rfl, sr, sl, _, _, hx, fun W1 v e1 s1 r1 => ?_⟩
      obtain ⟨v1, r, rfl, q1, q2⟩ := r1
      cases (show _ = _ from q1); cases (show _ = _ from q2)
      exact ⟨_, rfl, hr.2.1.1, hr.2.1.2, k W1 _ e1 s1 (jok_rg (by show _ ≤ 16777216; omega))⟩
    · cases hf
  · cases hf
theorem pfi_rg2 {b : Expr} {f : FA} {p pos : Pos} (hg : Gl X "range") (hm : X.mg "range" = none) (ha : PFA X [a, b] f) (hs : starEach [a, b] X.env = [(false, eval a X.env), (false, eval b X.env)] := by rfl) (hs2 : starEach [b] X.env = [(false, eval b X.env)] := by rfl) :
    PFI X tg (.Call (.Name "range" p) [a, b] [] pos) (fiRg2 f) := pi_weak (pi_range2 hg hm ha hs hs2) fun σ H R => by
  rintro ⟨W, ρ, M, rfl, sr, sl, xs, kk, M', hf, k⟩
  obtain ⟨⟨x, M1⟩, hx, hf⟩ := Option.bind_eq_some_iff.mp hf
  dsimp only at hf
  split at hf
  · split at hf
    · rename_i hr
      cases hf
      replace hr := okR_ok hr
      refine ⟨W, ρ, M, rfl, sr, sl, _, _, hx, fun W1 v e1 s1 r1 => ?_⟩
      obtain ⟨v1, r, rfl, q1, v2, r', rfl, q2, q3⟩ := r1
      cases (show _ = _ from q1); cases (show _ = _ from q2); cases (show _ = _ from q3)
      exact ⟨_, _, rfl, ⟨hr.1.1, hr.1.2, hr.2.1.1, hr.2.1.2⟩, k W1 _ e1 s1 (jok_rg (by show _ ≤ 16777216; omega))⟩
    · cases hf
  · cases hf
end
end PF
namespace PF
open PySem PySem.Spec PyProof.Rows L2
/-! ### list comprehensions -/
/-- the state without the list that grows -/
def Wo.minus (W : Wo) (p : Addr) : Wo := ⟨W.as, fun a => W.bad a ∧ a ≠ p, fun a => if a = p then none else W.H a⟩
def Wo.plus (W : Wo) (p : Addr) (o : HO) : Wo := ⟨W.as, fun a => W.bad a ∨ a = p, upd W.H p o⟩
section
variable {K : PySem.W.Frag} {W W' W3 : Wo} {M : Mem} {p : Addr} {o : HO}
theorem minus_H {a : Addr} (h : a ≠ p) : (W.minus p).H a = W.H a := if_neg h
theorem minus_self : (W.minus p).H p = none := if_pos rfl
mutual
theorem Rp.minus (hb : W.bad p) (hn : p ∉ W.as) : ∀ (d : D) (v : V), Rp K W d v → Rp K (W.minus p) d v
  | .non, _, h => h
  | .bl _, _, h => h
  | .int _, _, h => h
  | .str _, _, h => h
  | .tup ds, v, h => by
    obtain ⟨a, vs, e1, f, r⟩ := h
    refine ⟨a, vs, e1, ⟨f.1.imp (fun q => ?_) fun q => q, f.2⟩, RpL.minus hb hn ds vs r⟩
    exact ⟨(minus_H fun z => q.2 (by rw [z]; exact hb)).trans q.1, fun z => q.2 z.1⟩
  | .lst ds, v, h => by
    obtain ⟨a, vs, e1, f, r⟩ := h
    exact ⟨a, vs, e1, ⟨⟨(minus_H fun z => f.1.2 (by rw [z]; exact hb)).trans f.1.1, fun z => f.1.2 z.1⟩, f.2⟩, RpL.minus hb hn ds vs r⟩
  | .kst ds, v, h => by
    obtain ⟨a, vs, e1, f, r⟩ := h
    refine ⟨a, vs, e1, ⟨f.1.imp (fun q => ?_) fun q => q, f.2⟩, RpL.minus hb hn ds vs r⟩
    obtain ⟨⟨o, q1⟩, q2⟩ := q
    exact ⟨⟨o, (minus_H fun z => q2 (by rw [z]; exact hb)).trans q1⟩, fun z => q2 z.1⟩
  | .ref n, v, h => h
theorem RpL.minus (hb : W.bad p) (hn : p ∉ W.as) : ∀ (ds : List D) (vs : List V), RpL K W ds vs → RpL K (W.minus p) ds vs
  | [], _, h => h
  | d :: ds, vs, h => by
    obtain ⟨v, r, e1, h1, h2⟩ := h
    exact ⟨v, r, e1, Rp.minus hb hn d v h1, RpL.minus hb hn ds r h2⟩
end
theorem SR.minus (hb : W.bad p) (hn : p ∉ W.as) (sr : SR K W M) : SR K (W.minus p) M := by
  have ne : ∀ a, a ∈ W.as → a ≠ p := fun a h z => hn (by rw [← z]; exact h)
  refine ⟨sr.len, sr.nd, fun a h => ⟨sr.sub a h, ne a h⟩, fun a h => ?_, fun n a mo h1 h2 => ?_⟩
  · obtain ⟨o, q⟩ := sr.bt a h.1
    exact ⟨o, (minus_H h.2).trans q⟩
  · have m := sr.obj n a mo h1 h2
    have na := ne a (List.mem_of_getElem? h1)
    cases mo with
    | lst ds =>
      obtain ⟨vs, q1, q2⟩ := m
      exact ⟨vs, ⟨(minus_H na).trans q1.1, q1.2⟩, q2.minus hb hn⟩
theorem Ext.plus (hp : W.H p = none) : Ext W (W.plus p o) := by
  refine ⟨⟨[], by simp [Wo.plus], fun _ h => by simp at h⟩, fun _ h => .inl h, fun a h => ?_, fun a u _ h => (upd_ne (ne_of_none h hp)).trans h, fun a u h => ⟨u, (upd_ne (ne_of_none h hp)).trans h⟩⟩
  rcases h with h | h
  · exact .inl h
  · rw [h]; exact .inr hp
theorem SR.plus (sr : SR K W M) (hp : W.H p = none) : SR K (W.plus p o) M := by
  have E := Ext.plus (W := W) (o := o) hp
  refine ⟨sr.len, sr.nd, fun a h => .inl (sr.sub a h), fun a h => ?_, fun n a mo h1 h2 => ?_⟩
  · rcases h with h | h
    · obtain ⟨u, q⟩ := sr.bt a h
      exact E.live a u q
    · rw [h]; exact ⟨o, upd_same⟩
  · have m := sr.obj n a mo h1 h2
    obtain ⟨o', q⟩ := m.there
    exact m.ext E sr.sub (upd_ne (ne_of_none q hp))
/-- behind a step from W with the list at p: W without it, and the list as it was -/
theorem Ext.unplus (sr : SR K W M) (hp : W.H p = none) (e : Ext (W.plus p o) W3) : Ext W (W3.minus p) ∧ W3.bad p ∧ p ∉ W3.as ∧ W3.H p = some o := by
  have npa : p ∉ W.as := fun z => sr.nb hp (sr.sub p z)
  have h3 : W3.H p = some o := e.keep p o npa upd_same
  have hb : W3.bad p := e.bad p (.inr rfl)
  obtain ⟨new, ea, fr⟩ := e.as
  have frW : ∀ a ∈ new, W.H a = none ∧ a ≠ p := fun a ha => by
    have q : upd W.H p o a = none := fr a ha
    by_cases z : a = p
    · rw [z, upd_same] at q; cases q
    · rw [upd_ne z] at q; exact ⟨q, z⟩
  refine ⟨⟨⟨new, ea, fun a ha => (frW a ha).1⟩, fun a h => ⟨e.bad a (.inl h), fun z => sr.nb hp (by rw [← z]; exact h)⟩, fun a h => ?_, fun a u ha hu => ?_, fun a u hu => ?_⟩, hb, fun z => ?_, h3⟩
  · rcases e.new a h.1 with q | q
    · rcases q with q | q
      · exact .inl q
      · exact absurd q h.2
    · have q' : upd W.H p o a = none := q
      rw [upd_ne h.2] at q'
      exact .inr q'
  · have na : a ≠ p := ne_of_none hu hp
    exact (minus_H na).trans (e.keep a u ha ((upd_ne na).trans hu))
  · have na : a ≠ p := ne_of_none hu hp
    obtain ⟨u', q⟩ := e.live a u ((upd_ne na).trans hu)
    exact ⟨u', (minus_H na).trans q⟩
  · have z' : p ∈ W.as ++ new := by
      have q := z
      rw [ea] at q
      exact q
    rcases List.mem_append.mp z' with z | z
    · exact npa z
    · exact (frW p z).2 rfl
end
def wipeR (ρ : Rho) : List Nat → Rho
  | [] => ρ
  | v :: vs => (wipeR ρ vs).set v none
theorem wipeR_len (ρ : Rho) : ∀ vs : List Nat, (wipeR ρ vs).length = ρ.length
  | [] => rfl
  | v :: vs => by unfold wipeR; rw [List.length_set, wipeR_len ρ vs]
theorem Sl.wipe {K : PySem.W.Frag} {W : Wo} {ρ : Rho} {σ : L2.St} (h : Sl K W ρ σ) : ∀ vs : List Nat, Sl K W (wipeR ρ vs) (L2.wipe σ vs)
  | [] => h
  | v :: vs => by
    have ih := Sl.wipe h vs
    refine ⟨by unfold wipeR L2.wipe; rw [List.length_set, List.length_set]; exact ih.len, fun i d hi => ?_⟩
    unfold wipeR at hi
    unfold L2.wipe
    by_cases e : v = i
    · subst e
      by_cases hl : v < (wipeR ρ vs).length
      · rw [List.getElem?_set_self hl] at hi; cases hi
      · rw [List.getElem?_eq_none (by rw [List.length_set]; omega)] at hi; cases hi
    · rw [List.getElem?_set_ne e] at hi ⊢
      exact ih.at_ i d hi
theorem wipe_idem (σ : L2.St) (vs : List Nat) : L2.wipe (L2.wipe σ vs) vs = L2.wipe σ vs := by
  have at_ : ∀ (vs ws : List Nat) (σ : L2.St) (i : Nat), i ∈ vs → (L2.wipe σ vs)[i]? = (if i < σ.length then some none else none) := by
    intro vs
    induction vs with
    | nil => intro ws σ i h; simp at h
    | cons v vs ih =>
      intro ws σ i h
      unfold L2.wipe
      by_cases e : v = i
      · subst e
        by_cases hl : v < σ.length
        · rw [List.getElem?_set_self (by rw [wipe_length]; exact hl), if_pos hl]
        · rw [List.getElem?_eq_none (by rw [List.length_set, wipe_length]; omega), if_neg hl]
      · rw [List.getElem?_set_ne e]
        rcases List.mem_cons.mp h with q | q
        · exact absurd q.symm e
        · exact ih ws σ i q
  apply List.ext_getElem?
  intro i
  by_cases h : i ∈ vs
  · rw [at_ vs [] _ i h, at_ vs [] _ i h, wipe_length]
  · rw [wipe_out h, wipe_out h]
def lcLoop (c : Mem → Bool) (t : FG) (ft : FT) (fe : FE) (ρ : Rho) : List D → List D → Mem → Option (List D × Mem)
  | [], acc, M => if c M = true then some (acc, M) else none
  | d :: ds, acc, M => if c M = true then (t d ρ).bind fun ρ' => (ft ρ' M).bind fun b =>
      if b.1 = true then (fe ρ' b.2).bind fun y => lcLoop c t ft fe ρ ds (acc ++ [y.1]) y.2 else lcLoop c t ft fe ρ ds acc b.2
    else none
/-- [elt for t in fi if ft] -/
def fLC (vs : List Nat) (fi : FI) (t : FG) (ft : FT) (fe : FE) : FA := fun ρ M => (fi ρ M).bind fun a => lcLoop (chk a.1.2 a.1.1) t ft fe (wipeR ρ vs) a.1.1 [] a.2
def fYes : FT := fun _ M => some (true, M)
abbrev PFTs (X : Cx) (ifs : List Expr) (f : FT) : Prop := PTs X ifs (liftT X.K f)
theorem pts_weak {X : Cx} {e : List Expr} {t t' : TT} (h : PTs X e t) (i : ∀ σ H Q, t' σ H Q → t σ H Q) : PTs X e t' := ⟨fun pins s σ H Q I q => h.run pins s σ H Q I (i σ H Q q)⟩
theorem pfts_nil {X : Cx} : PFTs X [] fYes := pts_weak pts_nil fun σ H Q => by
  rintro ⟨W, ρ, M, rfl, sr, sl, d, M', hf, k⟩
  cases hf
  exact k W (.refl W) sr
theorem pfts_one {X : Cx} {c : Expr} {f : FT} (h : PFT X c f) : PFTs X [c] f := pts_one h
theorem lc_lift {K : PySem.W.Frag} {fi : FI} {t : FG} {ft : FT} {fe : FE} {vs : List Nat} : ∀ σ H Q, liftN K (fLC vs fi t ft fe) σ H Q → tLc (liftI K fi) (liftG K vs t) (liftT K ft) (liftE K fe) vs σ H Q := by
  rintro σ H Q ⟨W, ρ, M, rfl, sr, sl, out, M', hf, k⟩
  obtain ⟨⟨⟨xs, kk⟩, M1⟩, hi, hf⟩ := Option.bind_eq_some_iff.mp hf
  refine ⟨W, ρ, M, rfl, sr, sl, xs, kk, M1, hi, fun W1 J e1 s1 jo D hD => ?_⟩
  -- the loop: W2 is the state without the growing list
  refine ⟨fun i m H' => ∃ W2 Mt acc ws, H' = upd W2.H D (.lst ws) ∧ W2.H D = none ∧ Ext W1 W2 ∧ SR K W2 Mt ∧ RpL K W2 acc ws ∧ ws.length ≤ i ∧ i ≤ xs.length ∧ m = xs.length - i ∧
    lcLoop (chk kk xs) t ft fe (wipeR ρ vs) (xs.drop i) acc Mt = some (out, M'), ⟨xs.length, W1, M1, [], [], rfl, hD, .refl W1, s1, rfl, Nat.le_refl _, Nat.zero_le _, rfl, hf⟩, ?_⟩
  rintro i m H' ⟨W2, Mt, acc, ws, rfl, hD2, e2, s2, racc, hws, hil, rfl, hw⟩
  have eP : Ext W2 (W2.plus D (.lst ws)) := Ext.plus hD2
  have sP : SR K (W2.plus D (.lst ws)) Mt := s2.plus hD2
  by_cases hlt : i < xs.length
  · right
    have hd : xs.drop i = xs[i] :: xs.drop (i + 1) := List.drop_eq_getElem_cons hlt
    rw [hd] at hw
    unfold lcLoop at hw
    split at hw
    · rename_i hck
      obtain ⟨ρ', ht, hw⟩ := Option.bind_eq_some_iff.mp hw
      obtain ⟨⟨b, M3⟩, hb, hw⟩ := Option.bind_eq_some_iff.mp hw
      obtain ⟨hgo, hy⟩ := (jo.2 _ Mt (e2.trans eP) sP hck i).1 xs[i] (by simp [hlt])
      refine ⟨hgo, fun H' => ∃ W4 Mt acc ws, H' = upd W4.H D (.lst ws) ∧ W4.H D = none ∧ Ext W1 W4 ∧ SR K W4 Mt ∧ RpL K W4 acc ws ∧ ws.length ≤ i + 1 ∧
        lcLoop (chk kk xs) t ft fe (wipeR ρ vs) (xs.drop (i + 1)) acc Mt = some (out, M'), ?_, fun x H' hx => ?_⟩
      · rintro H' ⟨W4, Mt', acc', ws', h1, h2, h3, h4, h5, h6, h7⟩
        exact ⟨xs.length - (i + 1), by omega, W4, Mt', acc', ws', h1, h2, h3, h4, h5, h6, hlt, rfl, h7⟩
      · obtain ⟨rfl, rx⟩ := hy x H' hx
        have slW : Sl K (W2.plus D (.lst ws)) (wipeR ρ vs) (L2.wipe σ vs) := (sl.ext (e1.trans (e2.trans eP)) sr.sub).wipe vs
        refine ⟨_, wipeR ρ vs, Mt, xs[i], rfl, sP, slW, rx, ρ', ht, fun W3 σ3 e3 s3 l3 w3 => ⟨by rw [w3, wipe_idem], ?_⟩⟩
        refine ⟨W3, ρ', Mt, rfl, s3, l3, b, M3, hb, fun W4 e4 s4 => ?_⟩
        cases b with
        | false =>
          rw [if_neg Bool.false_ne_true] at hw ⊢
          obtain ⟨e5, b5, n5, h5⟩ := Ext.unplus s2 hD2 (e3.trans e4)
          refine ⟨W4.minus D, M3, acc, ws, ?_, minus_self, e2.trans e5, s4.minus b5 n5, (racc.ext e5 s2.sub), by omega, hw⟩
          funext a
          by_cases z : a = D
          · subst z; rw [upd_same]; exact h5
          · rw [upd_ne z]; exact (minus_H z).symm
        | true =>
          rw [if_pos rfl] at hw ⊢
          obtain ⟨⟨y, M5⟩, hye, hw⟩ := Option.bind_eq_some_iff.mp hw
          refine ⟨W4, ρ', M3, rfl, s4, l3.ext e4 s3.sub, y, M5, hye, fun W5 v e5 s5 r5 => ?_⟩
          obtain ⟨e6, b6, n6, h6⟩ := Ext.unplus s2 hD2 ((e3.trans e4).trans e5)
          have hz : ws.length < LINE := by have := jo.1; omega
          refine ⟨ws, h6, by rw [line_eq]; exact hz, W5.minus D, M5, acc ++ [y], ws ++ [v], ?_, minus_self, e2.trans e6, s5.minus b6 n6, (racc.ext e6 s2.sub).append (.one (r5.minus b6 n6)), by rw [List.length_append, List.length_singleton]; omega, hw⟩
          funext a
          by_cases z : a = D
          · subst z; rw [upd_same, upd_same]
          · rw [upd_ne z, upd_ne z]; exact (minus_H z).symm
    · cases hw
  · left
    have e : i = xs.length := by omega
    subst e
    rw [List.drop_length] at hw
    unfold lcLoop at hw
    split at hw
    · rename_i hck
      cases hw
      refine ⟨(jo.2 _ _ (e2.trans eP) sP hck xs.length).2 (Nat.le_refl _), ?_⟩
      exact k W2 D ws (e1.trans e2) s2 hD2 racc (by have := jo.1; omega)
    · cases hw
section
variable {X : Cx} {elt tg iter : Expr} {ifs : List Expr} {scope : Scope} {own : List (Str × Nat)} {pos : Pos} {fi : FI} {t : FG} {ft : FT} {fe : FE}
theorem pfn_lc (hc : X.calm = true) (hN : X.N.Nodup) (hi : PFI X tg iter fi) (ok : BlkOk X.N X.env.scope scope own)
    (hg : ∀ (s : Shared) (H : Hp) (C : Addr) (cl : List (Str × Addr)) (fp : List Addr), PFG (X.blk s H scope (compEnvC scope cl C X.env) fp) (own.map (·.2)) tg t) (ht : ∀ (s : Shared) (H : Hp) (C : Addr) (cl : List (Str × Addr)) (fp : List Addr), PFTs (X.blk s H scope (compEnvC scope cl C X.env) fp) ifs ft)
    (he : ∀ (s : Shared) (H : Hp) (C : Addr) (cl : List (Str × Addr)) (fp : List Addr), PFE (X.blk s H scope (compEnvC scope cl C X.env) fp) elt fe) (hs : ∀ x, foldedSetIterable iter X.env x = pure x := by intro _; rfl) :
    PFN X (.ListComp elt [⟨tg, iter, ifs, 0⟩] scope pos) (fLC (own.map (·.2)) fi t ft fe) := pe_weak (pe_lc hc hN hi ok hg ht he hs) lc_lift
theorem set_fz {K : PySem.W.Frag} {i : Nat} {f : FA} : ∀ E σ H, liftS K (sSet i (fFz f)) E σ H → liftN K f σ H fun x H1 => gName i x σ H1 E.nx := fun E σ H => by
  rw [liftS_iff]
  rintro ⟨W, ρ, M, rfl, sr, sl, o, M', hf, k⟩
  obtain ⟨⟨x, M1⟩, hx, hf⟩ := Option.bind_eq_some_iff.mp hf
  obtain ⟨⟨y, M2⟩, hy, hx⟩ := Option.bind_eq_some_iff.mp hx
  cases hx; cases hf
  exact ⟨W, ρ, M, rfl, sr, sl, y, _, hy, fun W1 p vs e1 s1 hp r1 hl => k _ _ (e1.trans (Ext.put hp)) (s1.put hp) (sl_set (sl.ext (e1.trans (Ext.put hp)) sr.sub) (.newLst s1 hp r1 hl))⟩
theorem set_mut {K : PySem.W.Frag} {i : Nat} {f : FA} : ∀ E σ H, liftS K (sSet i (fMut f)) E σ H → liftN K f σ H fun x H1 => gName i x σ H1 E.nx := fun E σ H => by
  rw [liftS_iff]
  rintro ⟨W, ρ, M, rfl, sr, sl, o, M', hf, k⟩
  obtain ⟨⟨x, M1⟩, hx, hf⟩ := Option.bind_eq_some_iff.mp hf
  obtain ⟨⟨y, M2⟩, hy, hx⟩ := Option.bind_eq_some_iff.mp hx
  cases hx; cases hf
  exact ⟨W, ρ, M, rfl, sr, sl, y, _, hy, fun W1 p vs e1 s1 hp r1 hl => k _ _ (e1.trans (Ext.mk2 hp)) (s1.mk2 hp r1 hl) (sl_set (sl.ext (e1.trans (Ext.mk2 hp)) sr.sub) (.mk2 s1))⟩
theorem pfs_setLcF {i : Nat} {y : Str} {py spos : Pos} (hc : X.calm = true) (hN : X.N.Nodup) (hy : X.N[i]? = some y) (hyl : X.env.scope.names.lookup y = some .local)
    (hsw : swapsWith (.ListComp elt [⟨tg, iter, ifs, 0⟩] scope pos) (some (.Name y py)) spos.line X.env = pure true) (hi : PFI X tg iter fi) (ok : BlkOk X.N X.env.scope scope own)
    (hg : ∀ (s : Shared) (H : Hp) (C : Addr) (cl : List (Str × Addr)) (fp : List Addr), PFG (X.blk s H scope (compEnvC scope cl C X.env) fp) (own.map (·.2)) tg t) (ht : ∀ (s : Shared) (H : Hp) (C : Addr) (cl : List (Str × Addr)) (fp : List Addr), PFTs (X.blk s H scope (compEnvC scope cl C X.env) fp) ifs ft)
    (he : ∀ (s : Shared) (H : Hp) (C : Addr) (cl : List (Str × Addr)) (fp : List Addr), PFE (X.blk s H scope (compEnvC scope cl C X.env) fp) elt fe) (hs : ∀ x, foldedSetIterable iter X.env x = pure x := by intro _; rfl) :
    PFS X (.Assign [.Name y py] (.ListComp elt [⟨tg, iter, ifs, 0⟩] scope pos) spos) (sSet i (fFz (fLC (own.map (·.2)) fi t ft fe))) := ps_weak (ps_setLc hc hN hy hyl hsw hi ok hg ht he hs) fun E σ H h => lc_lift _ _ _ (set_fz E σ H h)
theorem pfs_setLcM {i : Nat} {y : Str} {py spos : Pos} (hc : X.calm = true) (hN : X.N.Nodup) (hy : X.N[i]? = some y) (hyl : X.env.scope.names.lookup y = some .local)
    (hsw : swapsWith (.ListComp elt [⟨tg, iter, ifs, 0⟩] scope pos) (some (.Name y py)) spos.line X.env = pure true) (hi : PFI X tg iter fi) (ok : BlkOk X.N X.env.scope scope own)
    (hg : ∀ (s : Shared) (H : Hp) (C : Addr) (cl : List (Str × Addr)) (fp : List Addr), PFG (X.blk s H scope (compEnvC scope cl C X.env) fp) (own.map (·.2)) tg t) (ht : ∀ (s : Shared) (H : Hp) (C : Addr) (cl : List (Str × Addr)) (fp : List Addr), PFTs (X.blk s H scope (compEnvC scope cl C X.env) fp) ifs ft)
    (he : ∀ (s : Shared) (H : Hp) (C : Addr) (cl : List (Str × Addr)) (fp : List Addr), PFE (X.blk s H scope (compEnvC scope cl C X.env) fp) elt fe) (hs : ∀ x, foldedSetIterable iter X.env x = pure x := by intro _; rfl) :
    PFS X (.Assign [.Name y py] (.ListComp elt [⟨tg, iter, ifs, 0⟩] scope pos) spos) (sSet i (fMut (fLC (own.map (·.2)) fi t ft fe))) := ps_weak (ps_setLc hc hN hy hyl hsw hi ok hg ht he hs) fun E σ H h => lc_lift _ _ _ (set_mut E σ H h)
end
end PF
namespace PF
open PySem PySem.Spec PyProof.Rows L2
/-! ### data without references; without lists -/
mutual
def D.nr : D → Bool
  | .ref _ => false
  | .tup xs => D.nrs xs
  | .lst xs => D.nrs xs
  | .kst xs => D.nrs xs
  | _ => true
def D.nrs : List D → Bool
  | [] => true
  | x :: xs => D.nr x && D.nrs xs
end
mutual
def D.nl : D → Bool
  | .ref _ => false
  | .tup xs => D.nls xs
  | .lst _ => false
  | .kst _ => false
  | _ => true
def D.nls : List D → Bool
  | [] => true
  | x :: xs => D.nl x && D.nls xs
end
section
variable {K : PySem.W.Frag} {W W' : Wo}
mutual
theorem Rp.nr (hH : W'.H = W.H) (hb : ∀ a, W'.bad a → W.bad a) : ∀ (d : D) (v : V), d.nr = true → Rp K W d v → Rp K W' d v
  | .non, _, _, h => h
  | .bl _, _, _, h => h
  | .int _, _, _, h => h
  | .str _, _, _, h => h
  | .ref _, _, hn, _ => by rw [D.nr] at hn; cases hn
  | .tup ds, v, hn, h => by
    rw [D.nr] at hn
    obtain ⟨a, vs, e1, f, r⟩ := h
    exact ⟨a, vs, e1, ⟨f.1.imp (fun q => ⟨by rw [hH]; exact q.1, fun z => q.2 (hb a z)⟩) fun q => q, f.2⟩, RpL.nr hH hb ds vs hn r⟩
  | .lst ds, v, hn, h => by
    rw [D.nr] at hn
    obtain ⟨a, vs, e1, f, r⟩ := h
    exact ⟨a, vs, e1, ⟨⟨by rw [hH]; exact f.1.1, fun z => f.1.2 (hb a z)⟩, f.2⟩, RpL.nr hH hb ds vs hn r⟩
  | .kst ds, v, hn, h => by
    rw [D.nr] at hn
    obtain ⟨a, vs, e1, f, r⟩ := h
    refine ⟨a, vs, e1, ⟨f.1.imp (fun q => ?_) fun q => q, f.2⟩, RpL.nr hH hb ds vs hn r⟩
    obtain ⟨⟨o, q1⟩, q2⟩ := q
    exact ⟨⟨o, by rw [hH]; exact q1⟩, fun z => q2 (hb a z)⟩
theorem RpL.nr (hH : W'.H = W.H) (hb : ∀ a, W'.bad a → W.bad a) : ∀ (ds : List D) (vs : List V), D.nrs ds = true → RpL K W ds vs → RpL K W' ds vs
  | [], _, _, h => h
  | d :: ds, vs, hn, h => by
    rw [D.nrs, Bool.and_eq_true] at hn
    obtain ⟨v, r, e1, h1, h2⟩ := h
    exact ⟨v, r, e1, Rp.nr hH hb d v hn.1 h1, RpL.nr hH hb ds r hn.2 h2⟩
end
/-- tuples alone: what is wrongly shut away is a list -/
def LstAt (H : Hp) (a : Addr) : Prop := ∃ vs, H a = some (.lst vs)
mutual
theorem Rp.nl (hH : W'.H = W.H) (hb : ∀ a, W'.bad a → W.bad a ∨ LstAt W.H a) : ∀ (d : D) (v : V), d.nl = true → Rp K W d v → Rp K W' d v
  | .non, _, _, h => h
  | .bl _, _, _, h => h
  | .int _, _, _, h => h
  | .str _, _, _, h => h
  | .ref _, _, hn, _ => by rw [D.nl] at hn; cases hn
  | .lst _, _, hn, _ => by rw [D.nl] at hn; cases hn
  | .kst _, _, hn, _ => by rw [D.nl] at hn; cases hn
  | .tup ds, v, hn, h => by
    rw [D.nl] at hn
    obtain ⟨a, vs, e1, f, r⟩ := h
    refine ⟨a, vs, e1, ⟨f.1.imp (fun q => ⟨by rw [hH]; exact q.1, fun z => ?_⟩) fun q => q, f.2⟩, RpL.nl hH hb ds vs hn r⟩
    rcases hb a z with z | ⟨us, z⟩
    · exact q.2 z
    · rw [q.1] at z; cases z
theorem RpL.nl (hH : W'.H = W.H) (hb : ∀ a, W'.bad a → W.bad a ∨ LstAt W.H a) : ∀ (ds : List D) (vs : List V), D.nls ds = true → RpL K W ds vs → RpL K W' ds vs
  | [], _, _, h => h
  | d :: ds, vs, hn, h => by
    rw [D.nls, Bool.and_eq_true] at hn
    obtain ⟨v, r, e1, h1, h2⟩ := h
    exact ⟨v, r, e1, Rp.nl hH hb d v hn.1 h1, RpL.nl hH hb ds r hn.2 h2⟩
end
end
/-! ### a def's promise by a function on data -/
abbrev FnC := List D → Mem → Option (D × Mem)
def spOf (K : PySem.W.Frag) (c : FnC) (n : Nat) : Sp := fun vs H Q _ => vs.length = n ∧ ∃ W M ds, W.H = H ∧ SR K W M ∧ RpL K W ds vs ∧ ∃ d M', c ds M = some (d, M') ∧
  ∀ W' v, Ext W W' → SR K W' M' → Rp K W' d v → Q v W'.H
def MO.nr : MO → Bool
  | .lst xs => D.nrs xs
def Mem.nr : Mem → Bool
  | [] => true
  | m :: ms => m.nr && Mem.nr ms
/-- what is handed back; mu: a new list stays changeable -/
def fin (mu : Bool) (k : Nat) (d : D) (M : Mem) : Option (D × Mem) :=
  if Mem.nr (M.take k) = true then (match d with
    | .ref j => if j < k then none else match M[j]? with
      | some (.lst xs) => if D.nrs xs = true then (if mu = true then some (.ref k, M.take k ++ [.lst xs]) else some (.lst xs, M.take k)) else none
      | none => none
    | d => if d.nr = true then some (d, M.take k) else none) else none
def startR (n : Nat) (ds : List D) : Rho := ds.map some ++ List.replicate (n - ds.length) none
def runFn (mu : Bool) (n : Nat) (f : FS) : FnC := fun ds M => (f (startR n ds) M).bind fun o => match o.1 with
  | .ret d => fin mu M.length d o.2
  | .nx _ => fin mu M.length .non o.2
  | _ => none
section
variable {K : PySem.W.Frag} {W W' : Wo} {M M' : Mem}
theorem sl_start {ds : List D} {vs : List V} {N : List Str} (h : RpL K W ds vs) : Sl K W (startR N.length ds) (L2.start N vs) := by
  have hl := h.len
  refine ⟨by unfold startR L2.start; simp [hl], fun i d hi => ?_⟩
  unfold startR at hi
  unfold L2.start
  by_cases hlt : i < ds.length
  · rw [List.getElem?_append_left (by rw [List.length_map]; exact hlt), List.getElem?_map, List.getElem?_eq_getElem hlt] at hi
    have e : ds[i] = d := by simpa using hi
    obtain ⟨v, h1, h2⟩ := h.get (i := i) (d := d) (by rw [List.getElem?_eq_getElem hlt, e])
    refine ⟨v, ?_, h2⟩
    rw [List.getElem?_append_left (by rw [List.length_map, ← hl]; exact hlt), List.getElem?_map, h1]
    rfl
  · rw [List.getElem?_append_right (by rw [List.length_map]; omega)] at hi
    have := List.mem_of_getElem? hi
    simp at this
theorem Mem.nr_at : ∀ {M : Mem} {n : Nat} {mo : MO}, Mem.nr M = true → M[n]? = some mo → mo.nr = true
  | [], _, _, _, h => by simp at h
  | m :: ms, 0, mo, hn, h => by
    rw [Mem.nr, Bool.and_eq_true] at hn
    simp at h; subst h; exact hn.1
  | m :: ms, n + 1, mo, hn, h => by
    rw [Mem.nr, Bool.and_eq_true] at hn
    exact Mem.nr_at hn.2 (by simpa using h)
theorem MoOk.nr {a : Addr} {mo : MO} (hH : W'.H = W.H) (hb : ∀ a, W'.bad a → W.bad a) (hn : mo.nr = true) (h : MoOk K W a mo) : MoOk K W' a mo := by
  cases mo with
  | lst xs =>
    obtain ⟨vs, h1, h2⟩ := h
    exact ⟨vs, ⟨by rw [hH]; exact h1.1, h1.2⟩, h2.nr hH hb _ _ hn⟩
theorem take_as {new : List Addr} (e : W'.as = W.as ++ new) (hl : W.as.length = M.length) : W'.as.take M.length = W.as := by
  rw [e, ← hl, List.take_left]
/-- the state when a def has come back, but for its own lists -/
theorem fin_ok {mu : Bool} {d d' : D} {v : V} {M2 : Mem} (sr : SR K W M) (ex : Ext W W') (s : SR K W' M') (r : Rp K W' d v) (e : fin mu M.length d M' = some (d', M2)) :
    ∃ W2, W2.H = W'.H ∧ Ext W W2 ∧ SR K W2 M2 ∧ Rp K W2 d' v := by
  obtain ⟨new, ea, fr⟩ := ex.as
  have hl := sr.len
  have hat : ∀ n a, W.as[n]? = some a → W'.as[n]? = some a := fun n a h => by
    rw [ea]; exact (List.getElem?_append_left (List.getElem?_eq_some_iff.mp h).1).trans h
  unfold fin at e
  split at e
  · rename_i hnr
    -- the plain end
    have plain : ∀ bad' : Addr → Prop, (∀ a, bad' a → W'.bad a) → (∀ a, W.bad a → bad' a) → SR K ⟨W.as, bad', W'.H⟩ (M'.take M.length) ∧ Ext W ⟨W.as, bad', W'.H⟩ := fun bad' hb1 hb2 => by
      refine ⟨⟨?_, sr.nd, fun a h => hb2 a (sr.sub a h), fun a h => s.bt a (hb1 a h), fun n a mo h1 h2 => ?_⟩, ⟨⟨[], by simp, fun _ h => by simp at h⟩, hb2, fun a h => ex.new a (hb1 a h), ex.keep, ex.live⟩⟩
      · rw [List.length_take, ← s.len, ea, List.length_append]
        show W.as.length = _
        omega
      · have hn : n < M.length := by rw [← hl]; exact (List.getElem?_eq_some_iff.mp h1).1
        have h2' : M'[n]? = some mo := by rw [List.getElem?_take_of_lt hn] at h2; exact h2
        exact MoOk.nr (W := W') (W' := ⟨W.as, bad', W'.H⟩) rfl hb1 (Mem.nr_at hnr h2) (s.obj n a mo (hat n a h1) h2')
    have other : (∀ j, d ≠ .ref j) → (if d.nr = true then some (d, M'.take M.length) else none) = some (d', M2) → ∃ W2, W2.H = W'.H ∧ Ext W W2 ∧ SR K W2 M2 ∧ Rp K W2 d' v := fun _ e => by
      split at e
      · rename_i hn
        cases e
        obtain ⟨p1, p2⟩ := plain W'.bad (fun _ h => h) ex.bad
        exact ⟨⟨W.as, W'.bad, W'.H⟩, rfl, p2, p1, Rp.nr (W := W') (W' := ⟨W.as, W'.bad, W'.H⟩) rfl (fun _ h => h) _ _ hn r⟩
      · cases e
    cases d with
    | ref j =>
      dsimp only at e
      split at e
      · cases e
      · rename_i hj
        split at e
        · rename_i xs hx
          split at e
          · rename_i hn
            obtain ⟨a, h1, e1⟩ := r
            obtain ⟨vs, q1, q2⟩ := s.obj j a _ h1 hx
            have haN : a ∈ new := by
              rw [ea, List.getElem?_append_right (by omega)] at h1
              exact List.mem_of_getElem? h1
            have hWa : W.H a = none := fr a haN
            have nb : ¬ W.bad a := sr.nb hWa
            split at e
            · cases e
              obtain ⟨p1, p2⟩ := plain W'.bad (fun _ h => h) ex.bad
              have naW : a ∉ W.as := fun z => nb (sr.sub a z)
              refine ⟨⟨W.as ++ [a], W'.bad, W'.H⟩, rfl, ⟨⟨[a], rfl, fun b hb => by rw [show b = a by simpa using hb]; exact hWa⟩, ex.bad, ex.new, ex.keep, ex.live⟩, ?_, ⟨a, ?_, e1⟩⟩
              · refine ⟨?_, ?_, fun b hb => ?_, s.bt, fun n b mo h1' h2' => ?_⟩
                · have := p1.len
                  simp only [List.length_append, List.length_singleton]
                  show W.as.length + 1 = _
                  rw [show W.as.length = (M'.take M.length).length from this]
                · show (W.as ++ [a]).Nodup
                  rw [List.nodup_append]
                  refine ⟨sr.nd, by simp, fun b hb c hc => ?_⟩
                  rw [show c = a by simpa using hc]
                  rintro rfl; exact naW hb
                · rcases List.mem_append.mp hb with hb | hb
                  · exact ex.bad b (sr.sub b hb)
                  · rw [show b = a by simpa using hb]; exact s.sub a (List.mem_of_getElem? h1)
                · have h1'' : (W.as ++ [a])[n]? = some b := h1'
                  have hk : (M'.take M.length).length = W.as.length := p1.len.symm
                  by_cases hlt : n < W.as.length
                  · rw [List.getElem?_append_left hlt] at h1''
                    rw [List.getElem?_append_left (by rw [hk]; exact hlt)] at h2'
                    exact MoOk.nr (W := ⟨W.as, W'.bad, W'.H⟩) (W' := ⟨W.as ++ [a], W'.bad, W'.H⟩) rfl (fun _ h => h) (Mem.nr_at hnr h2') (p1.obj n b mo h1'' h2')
                  · have en : n = W.as.length := by
                      have := (List.getElem?_eq_some_iff.mp h1'').1
                      simp at this; omega
                    subst en
                    have eb : a = b := by simpa using h1''
                    have em : MO.lst xs = mo := by
                      rw [← hk] at h2'
                      simpa using h2'
                    subst eb em
                    exact ⟨vs, q1, RpL.nr (W := W') (W' := ⟨W.as ++ [a], W'.bad, W'.H⟩) rfl (fun _ h => h) _ _ hn q2⟩
              · show (W.as ++ [a])[M.length]? = some a
                rw [← hl]; simp
            · cases e
              obtain ⟨p1, p2⟩ := plain (fun b => W'.bad b ∧ b ≠ a) (fun _ h => h.1) fun b hb => ⟨ex.bad b hb, fun z => nb (by rw [← z]; exact hb)⟩
              exact ⟨⟨W.as, fun b => W'.bad b ∧ b ≠ a, W'.H⟩, rfl, p2, p1, a, vs, e1, ⟨⟨q1.1, fun z => z.2 rfl⟩, q1.2⟩, RpL.nr (W := W') (W' := ⟨W.as, fun b => W'.bad b ∧ b ≠ a, W'.H⟩) rfl (fun _ h => h.1) _ _ hn q2⟩
          · cases e
        · cases e
    | non => exact other (fun _ z => nomatch z) e
    | bl _ => exact other (fun _ z => nomatch z) e
    | int _ => exact other (fun _ z => nomatch z) e
    | str _ => exact other (fun _ z => nomatch z) e
    | tup _ => exact other (fun _ z => nomatch z) e
    | lst _ => exact other (fun _ z => nomatch z) e
    | kst _ => exact other (fun _ z => nomatch z) e
  · cases e
end
/-- THE RULE for a def: what its body computes, from its arguments to what is handed back -/
theorem fn_ok {P : Program} {w : World} {K : PySem.W.Frag} {mg : Str → Option Value} {base : Heap} {x qual : Str} {params : Arguments} {body : List Stmt} {scope : Scope} {f : Addr} {fd : FuncData} {N ps : List Str} {k : Nat} {mu : Bool} {g : FS}
    (F : FunD K x qual params body scope [] [] f fd) (S : FnScope N ps scope)
    (hb : ∀ (cdv : Value) (A : Around) (outer : List Env) (s : Shared) (H : Hp) (E : XK), Room k (A.deeper (envOfC qual scope s.heap.objs.size f cdv)) →
      PFSs (cxOf CX0 P w K mg base N qual scope f cdv A outer s H E).nox body g) : FnOk P w K mg base CX0 (k + 1) f fd ps (spOf K (runFn mu N.length g) ps.length) := by
  refine F.ok S (fun vs H Q E h => h.1) fun cdv A outer s H vs Q E hr h => ⟨_, (hb cdv A outer s H E hr).nox, ?_⟩
  obtain ⟨_, W, M, ds, rfl, sr, r, d, M', hc, k⟩ := h
  obtain ⟨⟨o, M1⟩, hg, hc⟩ := Option.bind_eq_some_iff.mp hc
  refine liftS_iff.mpr ⟨W, _, M, rfl, sr, sl_start r, o, M1, hg, ?_⟩
  cases o with
  | ret d1 =>
    intro W1 v e1 s1 r1
    obtain ⟨W2, hH, e2, s2, r2⟩ := fin_ok sr e1 s1 r1 hc
    show Q v W1.H
    rw [← hH]
    exact k W2 v e2 s2 r2
  | nx ρ1 =>
    intro W1 σ1 e1 s1 l1
    obtain ⟨W2, hH, e2, s2, r2⟩ := fin_ok (d := .non) (v := .non) sr e1 s1 rfl hc
    show Q .non W1.H
    rw [← hH]
    exact k W2 .non e2 s2 r2
  | bk ρ1 => cases hc
  | ct ρ1 => cases hc
/-- another function that says the same (where it says something) -/
theorem fn_as {P : Program} {w : World} {K : PySem.W.Frag} {mg : Str → Option Value} {base : Heap} {f : Addr} {fd : FuncData} {ps : List Str} {k n : Nat} {c c' : FnC} (F : FnOk P w K mg base CX0 k f fd ps (spOf K c n))
    (h : ∀ ds M r, c' ds M = some r → c ds M = some r) : FnOk P w K mg base CX0 k f fd ps (spOf K c' n) := F.imp fun vs H Q E ⟨hl, W, M, ds, h1, h2, h3, d, M', hc, k⟩ => ⟨hl, W, M, ds, h1, h2, h3, d, M', h ds M _ hc, k⟩
/-! ### the call of a def -/
/-- an argument that is only read: a changeable list stands as a list -/
def argP (M : Mem) : D → Option D
  | .ref n => match M[n]? with | some (.lst xs) => if D.nrs xs = true then some (.lst xs) else none | none => none
  | d => if d.nr = true then some d else none
def argsP (M : Mem) : List D → Option (List D)
  | [] => some []
  | d :: ds => (argP M d).bind fun e => (argsP M ds).bind fun es => some (e :: es)
def D.isRef : D → Bool
  | .ref _ => true
  | _ => false
def anyRef : List D → Bool
  | [] => false
  | d :: ds => d.isRef || anyRef ds
/-- nothing is changed by the callee -/
def callP (c : FnC) (ds : List D) (M : Mem) : Option (D × Mem) := (argsP M ds).bind fun es => (c es []).bind fun r => match r.2 with
  | [] => if anyRef ds && !r.1.nl then none else some (r.1, M)
  | [.lst xs] => match r.1 with
    | .ref 0 => if anyRef ds && !D.nls xs then none else if D.nrs xs = true then some (.ref M.length, M ++ [.lst xs]) else none
    | _ => none
  | _ => none
def fCall (c : FnC) (fa : FA) : FE := fun ρ M => (fa ρ M).bind fun a => callP c a.1 a.2
section
variable {K : PySem.W.Frag} {W : Wo} {M : Mem}
/-- the state as a callee sees it that changes nothing: the lists that are handed in are free -/
def Wo.lend (W : Wo) (as : List Addr) (free : Addr → Prop) : Wo := ⟨as, fun a => W.bad a ∧ ¬ free a, W.H⟩
theorem args_ok {as : List Addr} {free : Addr → Prop} (sr : SR K W M) : ∀ {ds es : List D} {vs : List V}, argsP M ds = some es → RpL K W ds vs → (∀ n a, D.ref n ∈ ds → W.as[n]? = some a → free a) →
    RpL K (W.lend as free) es vs
  | [], es, vs, e, r, _ => by cases e; exact r
  | d :: ds, es, vs, e, r, hf => by
    obtain ⟨d', hd, e⟩ := Option.bind_eq_some_iff.mp e
    obtain ⟨es', hes, e⟩ := Option.bind_eq_some_iff.mp e
    cases e
    obtain ⟨v, vr, rfl, r1, r2⟩ := r
    refine ⟨v, vr, rfl, ?_, args_ok sr hes r2 fun n a hm ha => hf n a (List.mem_cons_of_mem _ hm) ha⟩
    have other : (if d.nr = true then some d else none) = some d' → Rp K (W.lend as free) d' v := fun q => by
      split at q
      · rename_i hn
        cases q
        exact Rp.nr (W := W) (W' := W.lend as free) rfl (fun _ z => z.1) _ _ hn r1
      · cases q
    cases d with
    | ref n =>
      obtain ⟨a, h1, e1⟩ := r1
      obtain ⟨mo, hmo, m⟩ := sr.at_ h1
      cases mo with
      | lst xs =>
        simp only [argP, hmo] at hd
        split at hd
        · rename_i hn
          cases hd
          obtain ⟨us, q1, q2⟩ := m
          exact ⟨a, us, e1, ⟨⟨q1.1, fun z => z.2 (hf n a List.mem_cons_self h1)⟩, q1.2⟩, RpL.nr (W := W) (W' := W.lend as free) rfl (fun _ z => z.1) _ _ hn q2⟩
        · cases hd
    | non => exact other hd
    | bl _ => exact other hd
    | int _ => exact other hd
    | str _ => exact other hd
    | tup _ => exact other hd
    | lst _ => exact other hd
    | kst _ => exact other hd
theorem noRef : ∀ {ds : List D}, anyRef ds = false → ∀ n, D.ref n ∉ ds
  | [], _, _ => by simp
  | d :: ds, h, n => by
    rw [anyRef, Bool.or_eq_false_iff] at h
    intro z
    rcases List.mem_cons.mp z with z | z
    · rw [← z] at h; exact absurd h.1 (by simp [D.isRef])
    · exact noRef h.2 n z
/-- which lists are handed in -/
def Lent (W : Wo) (ds : List D) (a : Addr) : Prop := ∃ n, D.ref n ∈ ds ∧ W.as[n]? = some a
theorem lent_lst (sr : SR K W M) {ds : List D} {a : Addr} (h : Lent W ds a) : LstAt W.H a ∧ a ∈ W.as := by
  obtain ⟨n, _, h2⟩ := h
  obtain ⟨mo, _, m⟩ := sr.at_ h2
  cases mo with
  | lst xs => obtain ⟨vs, q, _⟩ := m; exact ⟨⟨vs, q.1⟩, List.mem_of_getElem? h2⟩
theorem callP_ok {c : FnC} {n : Nat} {ds : List D} {vs : List V} {d : D} {M' : Mem} {Q : VK} {E : XK} (sr : SR K W M) (r : RpL K W ds vs) (hn : vs.length = n) (e : callP c ds M = some (d, M'))
    (k : ∀ W' v, Ext W W' → SR K W' M' → Rp K W' d v → Q v W'.H) : spOf K c n vs W.H Q E := by
  obtain ⟨es, he, e⟩ := Option.bind_eq_some_iff.mp e
  obtain ⟨⟨d1, M1⟩, hc, e⟩ := Option.bind_eq_some_iff.mp e
  have sL : SR K (W.lend [] (Lent W ds)) [] := ⟨rfl, List.nodup_nil, fun a h => by simp [Wo.lend] at h, fun a h => sr.bt a h.1, fun n a mo h => by simp [Wo.lend] at h⟩
  refine ⟨hn, W.lend [] (Lent W ds), [], es, rfl, sL, args_ok sr he r fun n a h1 h2 => ⟨n, h1, h2⟩, d1, M1, hc, fun W1 v e1 s1 r1 => ?_⟩
  have keepAll : ∀ a o, W.H a = some o → W1.H a = some o := fun a o h => e1.keep a o (by simp [Wo.lend]) h
  have newb : ∀ a, W1.bad a → W.bad a ∨ W.H a = none := fun a h => (e1.new a h).imp (fun z => z.1) fun z => z
  -- the caller's state behind it
  have sr2 : ∀ (as' : List Addr), (∀ a ∈ as', W.H a = none ∧ W1.bad a) → Ext W ⟨W.as ++ as', fun a => W.bad a ∨ W1.bad a, W1.H⟩ := fun as' h =>
    ⟨⟨as', rfl, fun a ha => (h a ha).1⟩, fun a z => .inl z, fun a z => z.elim .inl (newb a), fun a o _ q => keepAll a o q, fun a o q => ⟨o, keepAll a o q⟩⟩
  have old : ∀ {W2 : Wo}, W2.H = W1.H → Ext W W2 → ∀ n a mo, W.as[n]? = some a → M[n]? = some mo → MoOk K W2 a mo := fun hH ex n a mo h1 h2 => by
    have m := sr.obj n a mo h1 h2
    obtain ⟨o, q⟩ := m.there
    exact m.ext ex sr.sub (by rw [hH, keepAll a o q, q])
  have badLst : ∀ a, (W.bad a ∨ W1.bad a) → W1.bad a ∨ (Lent W ds a ∧ LstAt W1.H a) := fun a z => by
    rcases z with z | z
    · by_cases q : Lent W ds a
      · obtain ⟨us, q2⟩ := (lent_lst sr q).1
        exact .inr ⟨q, us, keepAll a _ q2⟩
      · exact .inl (e1.bad a ⟨z, q⟩)
    · exact .inl z
  have badLst' : ∀ a, (W.bad a ∨ W1.bad a) → W1.bad a ∨ LstAt W1.H a := fun a z => (badLst a z).imp (fun q => q) fun q => q.2
  have noB : anyRef ds = false → ∀ a, (W.bad a ∨ W1.bad a) → W1.bad a := fun hr a z => by
    rcases badLst a z with q | ⟨⟨n, q, _⟩, _⟩
    · exact q
    · exact absurd q (noRef hr n)
  have toW2 : ∀ (as' : List Addr) (d : D) (v : V), d.nr = true → (anyRef ds && !d.nl) = false → Rp K W1 d v → Rp K ⟨W.as ++ as', fun a => W.bad a ∨ W1.bad a, W1.H⟩ d v := fun as' d v hnr h r => by
    cases hr : anyRef ds with
    | false => exact Rp.nr (W := W1) (W' := ⟨W.as ++ as', fun a => W.bad a ∨ W1.bad a, W1.H⟩) rfl (noB hr) _ _ hnr r
    | true => exact Rp.nl (W := W1) (W' := ⟨W.as ++ as', fun a => W.bad a ∨ W1.bad a, W1.H⟩) rfl badLst' _ _ (by rw [hr] at h; simpa using h) r
  have as1 : W1.as.length = M1.length := s1.len
  dsimp only at e
  split at e
  · -- nothing new
    have e0 : W1.as = [] := List.eq_nil_of_length_eq_zero as1
    split at e
    · cases e
    · rename_i h
      cases e
      have hnr : ∀ (d : D) (v : V), Rp K W1 d v → d.nr = true := by
        have both : (∀ (d : D) (v : V), Rp K W1 d v → d.nr = true) ∧ True := by
          refine ⟨fun d => ?_, trivial⟩
          refine D.rec (motive_1 := fun d => ∀ v, Rp K W1 d v → d.nr = true) (motive_2 := fun ds => ∀ vs, RpL K W1 ds vs → D.nrs ds = true) ?_ ?_ ?_ ?_ ?_ ?_ ?_ ?_ ?_ ?_ d
          · intro v _; rw [D.nr] <;> simp
          · intro b v _; rw [D.nr] <;> simp
          · intro i v _; rw [D.nr] <;> simp
          · intro x v _; rw [D.nr] <;> simp
          · intro xs ih v h; obtain ⟨a, vs, _, _, r⟩ := h; rw [D.nr]; exact ih vs r
          · intro xs ih v h; obtain ⟨a, vs, _, _, r⟩ := h; rw [D.nr]; exact ih vs r
          · intro xs ih v h; obtain ⟨a, vs, _, _, r⟩ := h; rw [D.nr]; exact ih vs r
          · intro n v h; obtain ⟨a, q, _⟩ := h; rw [e0] at q; simp at q
          · intro vs _; rw [D.nrs]
          · intro d ds i1 i2 vs h; obtain ⟨v, r, _, h1, h2⟩ := h; rw [D.nrs, i1 v h1, i2 r h2]; rfl
        exact both.1
      have ex := sr2 [] fun a h => by simp at h
      rw [List.append_nil] at ex
      have rd := toW2 [] d v (hnr d v r1) (by simpa using h) r1
      rw [List.append_nil] at rd
      exact k ⟨W.as, fun a => W.bad a ∨ W1.bad a, W1.H⟩ v ex ⟨sr.len, sr.nd, fun a q => .inl (sr.sub a q), fun a q => q.elim (fun z => let ⟨o, hq⟩ := sr.bt a z; ⟨o, keepAll a o hq⟩) (s1.bt a), fun n a mo h1 h2 => old (W2 := ⟨W.as, fun a => W.bad a ∨ W1.bad a, W1.H⟩) rfl ex n a mo h1 h2⟩ rd
  · -- a new list
    rename_i xs
    split at e
    · rename_i hd
      split at e
      · cases e
      · rename_i h
        split at e
        · rename_i hnr
          cases e
          obtain ⟨p, hp, ev⟩ := r1
          have e1' : W1.as = [p] := by
            have hl : W1.as.length = 1 := as1
            match hW : W1.as, hl with
            | [q], _ => rw [hW] at hp; simp at hp; rw [hp]
          obtain ⟨vs1, q1, q2⟩ := s1.obj 0 p (.lst xs) hp rfl
          have hpn : W.H p = none := by
            obtain ⟨new, ea, fr⟩ := e1.as
            refine fr p ?_
            have ea' : W1.as = new := by rw [ea]; rfl
            rw [← ea', e1']; simp
          have pb : W1.bad p := s1.sub p (by rw [e1']; simp)
          have npW : p ∉ W.as := fun z => sr.nb hpn (sr.sub p z)
          have ex := sr2 [p] fun a h => by rw [show a = p by simpa using h]; exact ⟨hpn, pb⟩
          have rxs : RpL K ⟨W.as ++ [p], fun a => W.bad a ∨ W1.bad a, W1.H⟩ xs vs1 := by
            cases hr : anyRef ds with
            | false => exact RpL.nr (W := W1) (W' := ⟨W.as ++ [p], fun a => W.bad a ∨ W1.bad a, W1.H⟩) rfl (noB hr) _ _ hnr q2
            | true => exact RpL.nl (W := W1) (W' := ⟨W.as ++ [p], fun a => W.bad a ∨ W1.bad a, W1.H⟩) rfl badLst' _ _ (by rw [hr] at h; simpa using h) q2
          refine k ⟨W.as ++ [p], fun a => W.bad a ∨ W1.bad a, W1.H⟩ v ex ⟨by simp [sr.len], ?_, fun a q => ?_, fun a q => q.elim (fun z => let ⟨o, hq⟩ := sr.bt a z; ⟨o, keepAll a o hq⟩) (s1.bt a), fun n a mo h1 h2 => ?_⟩ ⟨p, by show (W.as ++ [p])[M.length]? = some p; rw [← sr.len]; simp, ev⟩
          · show (W.as ++ [p]).Nodup
            rw [List.nodup_append]
            refine ⟨sr.nd, by simp, fun a ha b hb => ?_⟩
            rw [show b = p by simpa using hb]
            rintro rfl; exact npW ha
          · rcases List.mem_append.mp q with q | q
            · exact .inl (sr.sub a q)
            · rw [show a = p by simpa using q]; exact .inr pb
          · have h1' : (W.as ++ [p])[n]? = some a := h1
            by_cases hlt : n < W.as.length
            · rw [List.getElem?_append_left hlt] at h1'
              rw [List.getElem?_append_left (by rw [← sr.len]; exact hlt)] at h2
              exact old (W2 := ⟨W.as ++ [p], fun a => W.bad a ∨ W1.bad a, W1.H⟩) rfl ex n a mo h1' h2
            · have en : n = W.as.length := by
                have := (List.getElem?_eq_some_iff.mp h1').1
                simp at this; omega
              subst en
              have eb : p = a := by simpa using h1'
              have em : MO.lst xs = mo := by
                rw [sr.len] at h2
                simpa using h2
              subst eb em
              exact ⟨vs1, q1, rxs⟩
        · cases e
    · cases e
  · cases e
end
section
variable {X : Cx} {k n : Nat} {f : Addr} {fd : FuncData} {ps : List Str} {c : FnC} {x : Str} {p pos : Pos} {e : Expr} {es : List Expr} {fa : FA}
theorem pf_call (F : FnOk X.prog X.w X.K X.mg X.base CX0 k f fd ps (spOf X.K c n)) (hr : Room k X.A) (hg : Gl X x) (hm : X.mg x = some (.ref f)) (hk : PySem.W.keepIn X.K (.ref f) = true) (hb : Binds X.K fd ps []) (ha : PFA X (e :: es) fa) (hn : n = es.length + 1 := by rfl)
    (hlen : ∀ ρ M r, fa ρ M = some r → r.1.length = es.length + 1) (hdb : (x == ("__debug__" : Str)) = false := by decide) (he : starEach (e :: es) X.env = (false, eval e X.env) :: starEach es X.env := by rfl) (hpl : (backTo pos (starEach es X.env)).any (·.1) = false := by rfl) :
    PFE X (.Call (.Name x p) (e :: es) [] pos) (fCall c fa) := pe_weak (pe_call F hr hg hm hk hb .nil pass0 ha hdb he hpl) fun σ H Q => by
  rintro ⟨W, ρ, M, rfl, sr, sl, d, M', hf, k⟩
  obtain ⟨⟨ds, M1⟩, hx, hf⟩ := Option.bind_eq_some_iff.mp hf
  refine ⟨W, ρ, M, rfl, sr, sl, ds, M1, hx, fun W1 vs e1 s1 r1 => ?_⟩
  show spOf X.K c n (vs ++ []) W1.H Q E0
  rw [List.append_nil]
  exact callP_ok s1 r1 (by rw [← r1.len, hn]; exact hlen _ _ _ hx) hf fun W2 v e2 s2 r2 => k W2 v (e1.trans e2) s2 r2
theorem pf_call0 (F : FnOk X.prog X.w X.K X.mg X.base CX0 k f fd ps (spOf X.K c 0)) (hr : Room k X.A) (hg : Gl X x) (hm : X.mg x = some (.ref f)) (hk : PySem.W.keepIn X.K (.ref f) = true) (hb : Binds X.K fd ps []) (hdb : (x == ("__debug__" : Str)) = false := by decide) :
    PFE X (.Call (.Name x p) [] [] pos) (fCall c fNil) := pe_weak (pe_call0 F hr hg hm hk hb .nil pass0 hdb) fun σ H Q => by
  rintro ⟨W, ρ, M, rfl, sr, sl, d, M', hf, k⟩
  show spOf X.K c 0 ([] ++ []) W.H Q E0
  exact callP_ok (ds := []) sr rfl rfl hf fun W2 v e2 s2 r2 => k W2 v e2 s2 r2
end
theorem len_nil : ∀ ρ M (r : List D × Mem), fNil ρ M = some r → r.1.length = 0 := fun ρ M r h => by cases h; rfl
theorem len_cons {fa : FE} {f : FA} {n : Nat} (h : ∀ ρ M r, f ρ M = some r → r.1.length = n) : ∀ ρ M (r : List D × Mem), fCons fa f ρ M = some r → r.1.length = n + 1 := fun ρ M r e => by
  obtain ⟨a, ha, e⟩ := Option.bind_eq_some_iff.mp e
  obtain ⟨b, hb, e⟩ := Option.bind_eq_some_iff.mp e
  cases e
  simp [h _ _ _ hb]
end PF
namespace PF
open PySem PySem.Spec PyProof.Rows L2
/-! ### a call that changes one list -/
def refIn (n : Nat) : List D → Bool
  | [] => false
  | .ref m :: ds => decide (m = n) || refIn n ds
  | _ :: ds => refIn n ds
theorem refIn_no {n : Nat} : ∀ {ds : List D}, refIn n ds = false → D.ref n ∉ ds
  | [], _ => by simp
  | d :: ds, h => by
    intro z
    rcases List.mem_cons.mp z with z | z
    · subst z
      simp [refIn] at h
    · refine refIn_no (ds := ds) ?_ z
      cases d with
      | ref m => rw [refIn, Bool.or_eq_false_iff] at h; exact h.2
      | _ => exact h
def callS (i : Nat) (c : FnC) (ds : List D) (M : Mem) : Option (D × Mem) := match ds[i]? with
  | some (.ref n) => match M[n]? with
    | some mo => if mo.nr && !refIn n (ds.set i .non) then (argsP M (ds.set i .non)).bind fun es => (c (es.set i (.ref 0)) [mo]).bind fun r => match r.2 with
        | [.lst xs] => if (D.nrs xs && r.1.nr) && !(anyRef (ds.set i .non) && !(r.1.nl && D.nls xs)) then some (r.1, M.set n (.lst xs)) else none
        | _ => none
      else none
    | none => none
  | _ => none
def fCallS (i : Nat) (c : FnC) (fa : FA) : FE := fun ρ M => (fa ρ M).bind fun a => callS i c a.1 a.2
section
variable {K : PySem.W.Frag} {W : Wo} {M : Mem}
theorem callS_ok {i : Nat} {c : FnC} {n : Nat} {ds : List D} {vs : List V} {d : D} {M' : Mem} {Q : VK} {E : XK} (sr : SR K W M) (r : RpL K W ds vs) (hn : vs.length = n) (e : callS i c ds M = some (d, M'))
    (k : ∀ W' v, Ext W W' → SR K W' M' → Rp K W' d v → Q v W'.H) : spOf K c n vs W.H Q E := by
  unfold callS at e
  split at e
  · rename_i m hm
    split at e
    · rename_i mo hmo
      split at e
      · rename_i hc0
        rw [Bool.and_eq_true, Bool.not_eq_true'] at hc0
        obtain ⟨hnr, hri⟩ := hc0
        obtain ⟨es, he, e⟩ := Option.bind_eq_some_iff.mp e
        obtain ⟨⟨d1, M1⟩, hc, e⟩ := Option.bind_eq_some_iff.mp e
        obtain ⟨a, ha, mok⟩ := sr.addr hmo
        obtain ⟨vi, hvi, ri⟩ := r.get hm
        obtain ⟨a', ha', ev⟩ := ri
        obtain rfl : a = a' := Option.some.inj (ha.symm.trans ha')
        have haW : a ∈ W.as := List.mem_of_getElem? ha
        have nl : ¬ Lent W (ds.set i .non) a := fun ⟨j, h1, h2⟩ => by
          obtain ⟨q1, q2⟩ := List.getElem?_eq_some_iff.mp h2
          obtain ⟨q3, q4⟩ := List.getElem?_eq_some_iff.mp ha
          have : j = m := (List.getElem_inj sr.nd).mp (q2.trans q4.symm)
          subst this
          exact refIn_no hri h1
        have sL : SR K (W.lend [a] (Lent W (ds.set i .non))) [mo] := by
          refine ⟨rfl, by simp [Wo.lend], fun b h => ?_, fun b h => sr.bt b h.1, fun j b mo' h1 h2 => ?_⟩
          · rw [show b = a by simpa [Wo.lend] using h]
            exact ⟨sr.sub a haW, nl⟩
          · cases j with
            | zero =>
              have eb : a = b := by simpa [Wo.lend] using h1
              have em : mo = mo' := by simpa using h2
              subst eb em
              exact MoOk.nr (W := W) (W' := W.lend [a] (Lent W (ds.set i .non))) rfl (fun _ z => z.1) hnr mok
            | succ j => simp at h2
        have r' : RpL K W (ds.set i .non) (vs.set i .non) := r.set i rfl
        have rE := args_ok (as := [a]) sr he r' (free := Lent W (ds.set i .non)) fun j b h1 h2 => ⟨j, h1, h2⟩
        have rE2 : RpL K (W.lend [a] (Lent W (ds.set i .non))) (es.set i (.ref 0)) vs := by
          have q := rE.set (d := .ref 0) (v := .ref a) i ⟨a, rfl, rfl⟩
          rw [List.set_set] at q
          have ev' : vs.set i (.ref a) = vs := by
            rw [← ev]
            obtain ⟨h1, h2⟩ := List.getElem?_eq_some_iff.mp hvi
            rw [← h2]; exact List.set_getElem_self h1
          rw [ev'] at q
          exact q
        refine ⟨hn, W.lend [a] (Lent W (ds.set i .non)), [mo], _, rfl, sL, rE2, d1, M1, hc, fun W1 v e1 s1 r1 => ?_⟩
        have keepAll : ∀ b o, b ≠ a → W.H b = some o → W1.H b = some o := fun b o hb h => e1.keep b o (by simpa [Wo.lend] using hb) h
        dsimp only at e
        split at e
        · rename_i xs
          split at e
          · rename_i hcond
            rw [Bool.and_eq_true, Bool.and_eq_true, Bool.not_eq_true'] at hcond
            obtain ⟨⟨hxs, hd⟩, hl⟩ := hcond
            cases e
            obtain ⟨new, ea, fr⟩ := e1.as
            have enew : new = [] := by
              have h1 := s1.len
              rw [ea] at h1
              simp [Wo.lend] at h1
              exact h1
            subst enew
            have ea1 : W1.as = [a] := by rw [ea]; rfl
            obtain ⟨us, q1, q2⟩ := s1.obj 0 a (.lst xs) (by rw [ea1]; rfl) rfl
            have ex : Ext W ⟨W.as, fun b => W.bad b ∨ W1.bad b, W1.H⟩ := by
              refine ⟨⟨[], by simp, fun _ h => by simp at h⟩, fun b h => .inl h, fun b h => h.elim .inl fun z => (e1.new b z).imp (fun q => q.1) fun q => q, fun b o hb h => keepAll b o (fun z => hb (by rw [z]; exact haW)) h, fun b o h => ?_⟩
              by_cases z : b = a
              · subst z; exact ⟨_, q1.1⟩
              · exact ⟨o, keepAll b o z h⟩
            have badLst : ∀ b, (W.bad b ∨ W1.bad b) → W1.bad b ∨ (Lent W (ds.set i .non) b ∧ LstAt W1.H b) := fun b z => by
              rcases z with z | z
              · by_cases q : Lent W (ds.set i .non) b
                · have nb : b ≠ a := fun z => nl (by rw [← z]; exact q)
                  obtain ⟨us, q2⟩ := (lent_lst sr q).1
                  exact .inr ⟨q, us, keepAll b _ nb q2⟩
                · exact .inl (e1.bad b ⟨z, q⟩)
              · exact .inl z
            have noB : anyRef (ds.set i .non) = false → ∀ b, (W.bad b ∨ W1.bad b) → W1.bad b := fun hr b z => by
              rcases badLst b z with q | ⟨⟨j, q, _⟩, _⟩
              · exact q
              · exact absurd q (noRef hr j)
            have toD : ∀ (d : D) (v : V), d.nr = true → (anyRef (ds.set i .non) = true → d.nl = true) → Rp K W1 d v → Rp K ⟨W.as, fun b => W.bad b ∨ W1.bad b, W1.H⟩ d v := fun d v h1 h2 r => by
              cases hr : anyRef (ds.set i .non) with
              | false => exact Rp.nr (W := W1) (W' := ⟨W.as, fun b => W.bad b ∨ W1.bad b, W1.H⟩) rfl (noB hr) _ _ h1 r
              | true => exact Rp.nl (W := W1) (W' := ⟨W.as, fun b => W.bad b ∨ W1.bad b, W1.H⟩) rfl (fun b z => (badLst b z).imp (fun q => q) fun q => q.2) _ _ (h2 hr) r
            have toL : RpL K ⟨W.as, fun b => W.bad b ∨ W1.bad b, W1.H⟩ xs us := by
              cases hr : anyRef (ds.set i .non) with
              | false => exact RpL.nr (W := W1) (W' := ⟨W.as, fun b => W.bad b ∨ W1.bad b, W1.H⟩) rfl (noB hr) _ _ hxs q2
              | true =>
                rw [hr, Bool.true_and, Bool.not_eq_false', Bool.and_eq_true] at hl
                exact RpL.nl (W := W1) (W' := ⟨W.as, fun b => W.bad b ∨ W1.bad b, W1.H⟩) rfl (fun b z => (badLst b z).imp (fun q => q) fun q => q.2) _ _ hl.2 q2
            refine k ⟨W.as, fun b => W.bad b ∨ W1.bad b, W1.H⟩ v ex ⟨by rw [List.length_set]; exact sr.len, sr.nd, fun b h => .inl (sr.sub b h), fun b h => h.elim (fun z => let ⟨o, q⟩ := sr.bt b z; ex.live b o q) (s1.bt b), fun j b mo' h1 h2 => ?_⟩ (toD _ _ hd (fun hr => ?_) r1)
            · have h1' : W.as[j]? = some b := h1
              by_cases z : j = m
              · subst z
                obtain rfl : a = b := Option.some.inj (ha.symm.trans h1')
                have hl : j < M.length := by rw [← sr.len]; exact (List.getElem?_eq_some_iff.mp ha).1
                rw [List.getElem?_set_self hl] at h2
                cases h2
                exact ⟨us, q1, toL⟩
              · rw [List.getElem?_set_ne (Ne.symm z)] at h2
                have nb : b ≠ a := fun q => z (by
                  subst q
                  obtain ⟨q1, q2⟩ := List.getElem?_eq_some_iff.mp h1'
                  obtain ⟨q3, q4⟩ := List.getElem?_eq_some_iff.mp ha
                  exact (List.getElem_inj sr.nd).mp (q2.trans q4.symm))
                have mk := sr.obj j b mo' h1' h2
                obtain ⟨o, q⟩ := mk.there
                exact mk.ext ex sr.sub (by rw [q]; exact keepAll b o nb q)
            · rw [hr, Bool.true_and, Bool.not_eq_false', Bool.and_eq_true] at hl
              exact hl.1
          · cases e
        · cases e
      · cases e
    · cases e
  · cases e
end
section
variable {X : Cx} {k n : Nat} {f : Addr} {fd : FuncData} {ps : List Str} {c : FnC} {x : Str} {p pos : Pos} {e : Expr} {es : List Expr} {fa : FA}
theorem pf_callS (i : Nat) (F : FnOk X.prog X.w X.K X.mg X.base CX0 k f fd ps (spOf X.K c n)) (hr : Room k X.A) (hg : Gl X x) (hm : X.mg x = some (.ref f)) (hk : PySem.W.keepIn X.K (.ref f) = true) (hb : Binds X.K fd ps []) (ha : PFA X (e :: es) fa) (hn : n = es.length + 1 := by rfl)
    (hlen : ∀ ρ M r, fa ρ M = some r → r.1.length = es.length + 1) (hdb : (x == ("__debug__" : Str)) = false := by decide) (he : starEach (e :: es) X.env = (false, eval e X.env) :: starEach es X.env := by rfl) (hpl : (backTo pos (starEach es X.env)).any (·.1) = false := by rfl) :
    PFE X (.Call (.Name x p) (e :: es) [] pos) (fCallS i c fa) := pe_weak (pe_call F hr hg hm hk hb .nil pass0 ha hdb he hpl) fun σ H Q => by
  rintro ⟨W, ρ, M, rfl, sr, sl, d, M', hf, k⟩
  obtain ⟨⟨ds, M1⟩, hx, hf⟩ := Option.bind_eq_some_iff.mp hf
  refine ⟨W, ρ, M, rfl, sr, sl, ds, M1, hx, fun W1 vs e1 s1 r1 => ?_⟩
  show spOf X.K c n (vs ++ []) W1.H Q E0
  rw [List.append_nil]
  exact callS_ok s1 r1 (by rw [← r1.len, hn]; exact hlen _ _ _ hx) hf fun W2 v e2 s2 r2 => k W2 v (e1.trans e2) s2 r2
end
/-! ### calls of built-ins -/
abbrev GN := List D → Mem → Option D
def fB (g : GN) (fa : FA) : FE := fun ρ M => (fa ρ M).bind fun a => (g a.1 a.2).bind fun d => some (d, a.2)
def OpN (K : PySem.W.Frag) (r : List V → Hp → VK → Prop) (g : GN) : Prop := ∀ (W : Wo) (M : Mem) (ds : List D) (d : D) (vs : List V) (Q : VK), SR K W M → RpL K W ds vs → g ds M = some d →
  (∀ W' v', Ext W W' → SR K W' M → Rp K W' d v' → Q v' W'.H) → r vs W.H Q
/-- .. that make a new list -/
abbrev GNN := List D → Mem → Option (List D)
def fBN (g : GNN) (fa : FA) : FA := fun ρ M => (fa ρ M).bind fun a => (g a.1 a.2).bind fun d => some (d, a.2)
def OpNN (K : PySem.W.Frag) (r : List V → Hp → VK → Prop) (g : GNN) : Prop := ∀ (W : Wo) (M : Mem) (ds xs : List D) (vs : List V) (Q : VK), SR K W M → RpL K W ds vs → g ds M = some xs →
  (∀ p us, W.H p = none → RpL K W xs us → us.length ≤ LINE → Q (.ref p) (upd W.H p (.lst us))) → r vs W.H Q
section
variable {X : Cx} {e : Expr} {es : List Expr} {fa : FA} {x : Str} {p pos : Pos} {r : List V → Hp → VK → Prop} {g : GN} {gn : GNN} {id T : String}
theorem lB (o : OpN X.K r g) : ∀ σ H Q, liftE X.K (fB g fa) σ H Q → tCB r (liftA X.K fa) σ H Q := by
  rintro σ H Q ⟨W, ρ, M, rfl, sr, sl, d, M', hf, k⟩
  obtain ⟨⟨ds, M1⟩, hx, hf⟩ := Option.bind_eq_some_iff.mp hf
  obtain ⟨d', hg, hf⟩ := Option.bind_eq_some_iff.mp hf
  cases hf
  exact ⟨W, ρ, M, rfl, sr, sl, ds, _, hx, fun W1 vs e1 s1 r1 => o W1 _ ds d vs Q s1 r1 hg fun W2 v e2 s2 r2 => k W2 v (e1.trans e2) s2 r2⟩
theorem lBN (o : OpNN X.K r gn) : ∀ σ H Q, liftN X.K (fBN gn fa) σ H Q → tCB r (liftA X.K fa) σ H Q := by
  rintro σ H Q ⟨W, ρ, M, rfl, sr, sl, d, M', hf, k⟩
  obtain ⟨⟨ds, M1⟩, hx, hf⟩ := Option.bind_eq_some_iff.mp hf
  obtain ⟨d', hg, hf⟩ := Option.bind_eq_some_iff.mp hf
  cases hf
  exact ⟨W, ρ, M, rfl, sr, sl, ds, _, hx, fun W1 vs e1 s1 r1 => o W1 _ ds d vs Q s1 r1 hg fun q us hq ru hl => k W1 q us e1 s1 hq ru hl⟩
theorem pf_b (hc : CallR X (.builtin id) r) (o : OpN X.K r g) (hg : Gl X x) (hm : X.mg x = none) (hv : bootBuiltins x = some (.builtin id)) (ha : PFA X (e :: es) fa) (hn : x ≠ "__name__" := by decide) (hdb : (x == ("__debug__" : Str)) = false := by decide)
    (he : starEach (e :: es) X.env = (false, eval e X.env) :: starEach es X.env := by rfl) (hpl : (backTo pos (starEach es X.env)).any (·.1) = false := by rfl) : PFE X (.Call (.Name x p) (e :: es) [] pos) (fB g fa) := pe_weak (pe_callB hc hg hm hv ha hn hdb he hpl) (lB o)
theorem pf_ty (hc : CallR X (.type T) r) (o : OpN X.K r g) (hg : Gl X x) (hm : X.mg x = none) (hv : bootBuiltins x = some (.type T)) (ha : PFA X (e :: es) fa) (hn : x ≠ "__name__" := by decide) (hdb : (x == ("__debug__" : Str)) = false := by decide)
    (he : starEach (e :: es) X.env = (false, eval e X.env) :: starEach es X.env := by rfl) (hpl : (backTo pos (starEach es X.env)).any (·.1) = false := by rfl) : PFE X (.Call (.Name x p) (e :: es) [] pos) (fB g fa) := pe_weak (pe_callTy hc hg hm hv ha hn hdb he hpl) (lB o)
theorem pfn_b (hc : CallR X (.builtin id) r) (o : OpNN X.K r gn) (hg : Gl X x) (hm : X.mg x = none) (hv : bootBuiltins x = some (.builtin id)) (ha : PFA X (e :: es) fa) (hn : x ≠ "__name__" := by decide) (hdb : (x == ("__debug__" : Str)) = false := by decide)
    (he : starEach (e :: es) X.env = (false, eval e X.env) :: starEach es X.env := by rfl) (hpl : (backTo pos (starEach es X.env)).any (·.1) = false := by rfl) : PFN X (.Call (.Name x p) (e :: es) [] pos) (fBN gn fa) := pe_weak (pe_callB hc hg hm hv ha hn hdb he hpl) (lBN o)
theorem pfn_ty (hc : CallR X (.type T) r) (o : OpNN X.K r gn) (hg : Gl X x) (hm : X.mg x = none) (hv : bootBuiltins x = some (.type T)) (ha : PFA X (e :: es) fa) (hn : x ≠ "__name__" := by decide) (hdb : (x == ("__debug__" : Str)) = false := by decide)
    (he : starEach (e :: es) X.env = (false, eval e X.env) :: starEach es X.env := by rfl) (hpl : (backTo pos (starEach es X.env)).any (·.1) = false := by rfl) : PFN X (.Call (.Name x p) (e :: es) [] pos) (fBN gn fa) := pe_weak (pe_callTy hc hg hm hv ha hn hdb he hpl) (lBN o)
/-- a built-in function that the module has under a name (math.gcd) -/
theorem pf_bfun (hc : CallR X (.builtin id) r) (o : OpN X.K r g) (hg : Gl X x) (hm : X.mg x = some (.builtin id)) (ha : PFA X (e :: es) fa) (hdb : (x == ("__debug__" : Str)) = false := by decide)
    (he : starEach (e :: es) X.env = (false, eval e X.env) :: starEach es X.env := by rfl) (hpl : (backTo pos (starEach es X.env)).any (·.1) = false := by rfl) : PFE X (.Call (.Name x p) (e :: es) [] pos) (fB g fa) := pe_weak (pe_callBfun hc hg hm ha hdb he hpl) (lB o)
end
section
variable {K : PySem.W.Frag}
theorem rl1 {W : Wo} {d : D} {vs : List V} (h : RpL K W [d] vs) : ∃ v, vs = [v] ∧ Rp K W d v := by
  obtain ⟨v, r, rfl, h1, h2⟩ := h
  cases (show _ = _ from h2)
  exact ⟨v, rfl, h1⟩
theorem rl2 {W : Wo} {d e : D} {vs : List V} (h : RpL K W [d, e] vs) : ∃ v u, vs = [v, u] ∧ Rp K W d v ∧ Rp K W e u := by
  obtain ⟨v, r, rfl, h1, h2⟩ := h
  obtain ⟨u, rfl, h3⟩ := rl1 h2
  exact ⟨v, u, rfl, h1, h3⟩
def gLen : GN := fun ds M => match ds with
  | [.str x] => if x.length ≤ LINE then some (.int x.length) else none
  | [d] => (sqOf d M).map fun xs => .int xs.length
  | _ => none
theorem o_len : OpN K (fun xs H Q => ∃ x n, xs = [x] ∧ LenV K x H n ∧ Q (.int n) H) gLen := by
  intro W M ds d vs Q sr r hg k
  unfold gLen at hg
  split at hg
  · split at hg
    · rename_i h
      cases hg
      obtain ⟨v, rfl, r1⟩ := rl1 r
      cases (show _ = _ from r1)
      exact ⟨_, _, rfl, ⟨by rw [line_eq]; exact h, rfl⟩, k W _ (.refl W) sr rfl⟩
    · cases hg
  · obtain ⟨xs, hx, hg⟩ := Option.map_eq_some_iff.mp hg
    subst hg
    obtain ⟨v, rfl, r1⟩ := rl1 r
    obtain ⟨p, us, rfl, h1, r2⟩ := sq_sq sr r1 hx
    refine ⟨_, us.length, rfl, h1.imp (fun z => ⟨us, z, rfl⟩) fun z => ⟨us, z, rfl⟩, k W _ (.refl W) sr ?_⟩
    rw [r2.len]; exact rfl
  · cases hg
def gInt : GN := fun ds _ => match ds with
  | [.int i] => some (.int i)
  | [.bl b] => some (.int (if b then 1 else 0))
  | _ => none
theorem o_int : OpN K (fun xs H Q => (∃ i, xs = [.int i] ∧ Q (.int i) H) ∨ ∃ k, xs = [.bl k] ∧ Q (.int (if k then 1 else 0)) H) gInt := by
  intro W M ds d vs Q sr r hg k
  unfold gInt at hg
  split at hg
  · cases hg
    obtain ⟨v, rfl, r1⟩ := rl1 r
    cases (show _ = _ from r1)
    exact .inl ⟨_, rfl, k W _ (.refl W) sr rfl⟩
  · cases hg
    obtain ⟨v, rfl, r1⟩ := rl1 r
    cases (show _ = _ from r1)
    exact .inr ⟨_, rfl, k W _ (.refl W) sr rfl⟩
  · cases hg
def gI1 (f : Int → Int) : GN := fun ds _ => match ds with | [.int i] => some (.int (f i)) | _ => none
def gI2 (f : Int → Int → Int) : GN := fun ds _ => match ds with | [.int i, .int j] => some (.int (f i j)) | _ => none
theorem o_i1 {f : Int → Int} : OpN K (fun xs H Q => ∃ i, xs = [.int i] ∧ Q (.int (f i)) H) (gI1 f) := by
  intro W M ds d vs Q sr r hg k
  unfold gI1 at hg
  split at hg
  · cases hg
    obtain ⟨v, rfl, r1⟩ := rl1 r
    cases (show _ = _ from r1)
    exact ⟨_, rfl, k W _ (.refl W) sr rfl⟩
  · cases hg
theorem o_i2 {f : Int → Int → Int} : OpN K (fun xs H Q => ∃ i j, xs = [.int i, .int j] ∧ Q (.int (f i j)) H) (gI2 f) := by
  intro W M ds d vs Q sr r hg k
  unfold gI2 at hg
  split at hg
  · cases hg
    obtain ⟨v, u, rfl, r1, r2⟩ := rl2 r
    cases (show _ = _ from r1); cases (show _ = _ from r2)
    exact ⟨_, _, rfl, k W _ (.refl W) sr rfl⟩
  · cases hg
def gAbs : GN := gI1 fun i => if i < 0 then -i else i
def gMax2 : GN := gI2 fun i j => if j > i then j else i
def gMin2 : GN := gI2 fun i j => if j < i then j else i
def gGcd : GN := gI2 fun a b => ((Nat.gcd a.natAbs b.natAbs : Nat) : Int)
def gTuple : GN := fun ds M => match ds with
  | [d] => (sqOf d M).map .tup
  | _ => none
theorem o_tuple : OpN K (fun xs H Q => ∃ p ys, xs = [.ref p] ∧ ((SqL K H p ys ∧ ∀ l, H l = none → Q (.ref l) (upd H l (.tup ys))) ∨ (SqT K H p ys ∧ Q (.ref p) H))) gTuple := by
  intro W M ds d vs Q sr r hg k
  unfold gTuple at hg
  split at hg
  · rename_i d0
    obtain ⟨xs, hx, hg⟩ := Option.map_eq_some_iff.mp hg
    subst hg
    obtain ⟨v, rfl, r1⟩ := rl1 r
    have hl := sq_len sr r1 hx
    have lists : lsOf d0 M = some xs → ∃ p ys, [v] = [V.ref p] ∧ ((SqL K W.H p ys ∧ ∀ l, W.H l = none → Q (.ref l) (upd W.H l (.tup ys))) ∨ (SqT K W.H p ys ∧ Q (.ref p) W.H)) := fun e => by
      obtain ⟨p, us, rfl, h1, r2⟩ := ls_sq sr r1 e
      exact ⟨p, us, rfl, .inl ⟨h1, fun l nl => k _ _ (Ext.put nl) (sr.put nl) (.newTup sr nl r2 (by rw [← r2.len]; exact hl))⟩⟩
    cases d0 with
    | tup ys =>
      cases hx
      obtain ⟨p, us, rfl, h1, r2⟩ := tp_sq r1
      exact ⟨p, us, rfl, .inr ⟨h1, k W _ (.refl W) sr r1⟩⟩
    | _ => exact lists hx
  · cases hg
def gList : GNN := fun ds M => match ds with
  | [d] => sqOf d M
  | _ => none
theorem o_list : OpNN K (fun xs H Q => ∃ p ys, xs = [.ref p] ∧ (SqL K H p ys ∨ SqT K H p ys) ∧ ∀ l, H l = none → Q (.ref l) (upd H l (.lst ys))) gList := by
  intro W M ds xs vs Q sr r hg k
  unfold gList at hg
  split at hg
  · obtain ⟨v, rfl, r1⟩ := rl1 r
    have hl := sq_len sr r1 hg
    obtain ⟨p, us, rfl, h1, r2⟩ := sq_sq sr r1 hg
    exact ⟨p, us, rfl, h1, fun l nl => k l us nl r2 (by rw [← r2.len]; exact hl)⟩
  · cases hg
end
/-! isinstance of one built-in class -/
inductive Ty where
  | non | bl | int | str | tup | lst
  deriving DecidableEq
def Ty.nm : Ty → String
  | .non => "NoneType" | .bl => "bool" | .int => "int" | .str => "str" | .tup => "tuple" | .lst => "list"
def tyOf : D → Ty
  | .non => .non | .bl _ => .bl | .int _ => .int | .str _ => .str | .tup _ => .tup | .lst _ => .lst | .kst _ => .lst | .ref _ => .lst
def isi (t T : Ty) : Bool := decide (t = T) || (decide (t = .bl) && decide (T = .int))
theorem kit_tab : ∀ t T : Ty, T ≠ .non → kitB t.nm T.nm = some (isi t T) := by
  intro t T h
  cases T with
  | non => exact absurd rfl h
  | _ => cases t <;> decide +kernel
section
variable {K : PySem.W.Frag} {W : Wo} {M : Mem}
theorem tyX_of {d : D} {v : V} (sr : SR K W M) (h : Rp K W d v) : TyX K W.H v (.type (tyOf d).nm) := by
  have kl : ∀ {a : Addr} {vs : List V}, SqL K (fun _ => none) a vs → TyX K W.H (.ref a) (.type "list") := fun h => by
    rcases h with (h | ⟨o, h⟩) | ⟨o, its, n, h1, h2, _⟩
    · cases (show (none : Option HO) = _ from h)
    · cases (show (none : Option HO) = _ from h)
    · exact .kList h1 h2
  cases d with
  | non => cases (show _ = _ from h); exact .base .non
  | bl b => cases (show _ = _ from h); exact .base (.bl b)
  | int i => cases (show _ = _ from h); exact .base (.int i)
  | str x => cases (show _ = _ from h); exact .base (.str x)
  | tup xs =>
    obtain ⟨a, vs, rfl, f, _⟩ := h
    rcases f.1 with f | f
    · exact .base (.tup f.1)
    · rcases f with (f | ⟨o, f⟩) | ⟨o, its, n, h1, h2, _⟩
      · cases (show (none : Option HO) = _ from f)
      · cases (show (none : Option HO) = _ from f)
      · exact .kTuple h1 h2
  | lst xs =>
    obtain ⟨a, vs, rfl, f, _⟩ := h
    exact .base (.lst f.1.1)
  | kst xs =>
    obtain ⟨a, vs, rfl, f, _⟩ := h
    rcases f.1 with ⟨⟨o, f⟩, _⟩ | f
    · exact .base (.frz f)
    · exact kl f
  | ref n =>
    obtain ⟨a, h1, rfl⟩ := h
    obtain ⟨mo, _, m⟩ := sr.at_ h1
    cases mo with
    | lst xs => obtain ⟨vs, q, _⟩ := m; exact .base (.lst q.1)
end
def fIsi (T : Ty) (fa : FE) : FE := fun ρ M => (fa ρ M).bind fun a => some (.bl (isi (tyOf a.1) T), a.2)
theorem pf_isi {X : Cx} {e : Expr} {fa : FE} {y : Str} {p q pos : Pos} (T : Ty) (hT : T ≠ .non) (hg : Gl X "isinstance") (hm : X.mg "isinstance" = none) (ha : PFE X e fa) (hgT : Gl X y) (hmT : X.mg y = none) (hvT : bootBuiltins y = some (.type T.nm)) (hy : y ≠ "__name__" := by decide) (hdy : (y == ("__debug__" : Str)) = false := by decide)
    (he : starEach [e, .Name y q] X.env = (false, eval e X.env) :: starEach [.Name y q] X.env := by rfl) (hpl : (backTo pos (starEach [.Name y q] X.env)).any (·.1) = false := by rfl) (hs1 : starEach [.Name y q] X.env = (false, eval (.Name y q) X.env) :: starEach [] X.env := by rfl) :
    PFE X (.Call (.Name "isinstance" p) [e, .Name y q] [] pos) (fIsi T fa) :=
  pe_weak (pe_callB call_isi hg hm boot_isinstance (pa_cons ha (pa_cons (pe_bltn (v := .ty T.nm) hgT hmT hvT rfl hy hdy) pa_nil hs1) he) (by decide) (by decide) he hpl) fun σ H Q => by
    rintro ⟨W, ρ, M, rfl, sr, sl, d, M', hf, k⟩
    obtain ⟨⟨x, M1⟩, hx, hf⟩ := Option.bind_eq_some_iff.mp hf
    cases hf
    exact ⟨W, ρ, M, rfl, sr, sl, x, _, hx, fun W1 v e1 s1 r1 => ⟨v, .ty T.nm, .type (tyOf x).nm, .type T.nm, _, rfl, .ty _, tyX_of s1 r1, kit_ty (kit_tab _ _ hT), k W1 _ e1 s1 rfl⟩⟩
/-! ### methods -/
abbrev GM := D → List D → Mem → Option (D × Mem)
def tyOk (T : String) (d : D) (M : Mem) : Bool := if T = "list" then (lsOf d M).isSome else if T = "str" then (match d with | .str _ => true | _ => false) else false
def fM (T : String) (g : GM) (fo : FE) (fa : FA) : FE := fun ρ M => (fo ρ M).bind fun o => if tyOk T o.1 o.2 = true then (fa ρ o.2).bind fun a => g o.1 a.1 a.2 else none
def OpM (K : PySem.W.Frag) (r : V → List V → Hp → VK → Prop) (g : GM) : Prop := ∀ (W : Wo) (M M' : Mem) (x d : D) (ds : List D) (v : V) (vs : List V) (Q : VK), SR K W M → Rp K W x v → RpL K W ds vs → g x ds M = some (d, M') →
  (∀ W' v', Ext W W' → SR K W' M' → Rp K W' d v' → Q v' W'.H) → r v vs W.H Q
section
variable {K : PySem.W.Frag} {W : Wo} {M : Mem}
theorem tyV_of {T : String} {d : D} {v : V} (sr : SR K W M) (h : Rp K W d v) (e : tyOk T d M = true) : tyV K T v W.H := by
  unfold tyOk at e
  split at e
  · rename_i hT
    subst hT
    obtain ⟨xs, hx⟩ := Option.isSome_iff_exists.mp e
    obtain ⟨p, vs, rfl, h1, _⟩ := ls_sq sr h hx
    exact .inl ⟨rfl, vs, h1⟩
  · split at e
    · rename_i hT
      subst hT
      split at e
      · cases (show _ = _ from h); exact rfl
      · cases e
    · cases e
end
section
variable {X : Cx} {o e : Expr} {es : List Expr} {fo : FE} {fa : FA} {name : Str} {apos cpos : Pos} {T id : String} {r : V → List V → Hp → VK → Prop} {g : GM}
theorem pf_m0 (pa : PlainAttrs T) (slot : Slot T name id) (hty : typeOf (.builtin id) = pure (.type "method_descriptor")) (hm : MtR X id r) (op : OpM X.K r g) (ho : PFE X o fo)
    (hbase : attributeBase o name X.env (eval o X.env) = eval o X.env := by rfl) (hline : (apos.endLine == cpos.line) = true := by rfl) : PFE X (.Call (.Attribute o name apos) [] [] cpos) (fM T g fo fNil) := pe_weak (pe_bm0 pa slot hty hm ho hbase hline) fun σ H Q => by
  rintro ⟨W, ρ, M, rfl, sr, sl, d, M', hf, k⟩
  obtain ⟨⟨x, M1⟩, hx, hf⟩ := Option.bind_eq_some_iff.mp hf
  split at hf
  · rename_i ht
    exact ⟨W, ρ, M, rfl, sr, sl, x, M1, hx, fun W1 v e1 s1 r1 => ⟨tyV_of s1 r1 ht, op W1 M1 M' x d [] v [] Q s1 r1 rfl hf fun W2 u e2 s2 r2 => k W2 u (e1.trans e2) s2 r2⟩⟩
  · cases hf
theorem pf_m (pa : PlainAttrs T) (slot : Slot T name id) (hty : typeOf (.builtin id) = pure (.type "method_descriptor")) (hm : MtR X id r) (op : OpM X.K r g) (ho : PFE X o fo) (ha : PFA X (e :: es) fa)
    (hbase : attributeBase o name X.env (eval o X.env) = eval o X.env := by rfl)
    (hfew : ((backTo cpos (starEach (e :: es) X.env)).all (fun x => !x.1) && (backToKw cpos (keywordEach [] X.env)).all (fun x => x.1.isSome)
      && decide ((e :: es).length + ([] : List Keyword).length + (if ([] : List Keyword).isEmpty then 0 else 1) < 30)) = true := by rfl)
    (hline : (apos.endLine == cpos.line) = true := by rfl) (hs : starEach (e :: es) X.env = (false, eval e X.env) :: starEach es X.env := by rfl) (hplain : (backTo cpos (starEach es X.env)).any (·.1) = false := by rfl) :
    PFE X (.Call (.Attribute o name apos) (e :: es) [] cpos) (fM T g fo fa) := pe_weak (pe_bm pa slot hty hm ho ha hbase hfew hline hs hplain) fun σ H Q => by
  rintro ⟨W, ρ, M, rfl, sr, sl, d, M', hf, k⟩
  obtain ⟨⟨x, M1⟩, hx, hf⟩ := Option.bind_eq_some_iff.mp hf
  split at hf
  · rename_i ht
    obtain ⟨⟨ds, M2⟩, hd, hf⟩ := Option.bind_eq_some_iff.mp hf
    exact ⟨W, ρ, M, rfl, sr, sl, x, M1, hx, fun W1 v e1 s1 r1 => ⟨tyV_of s1 r1 ht, W1, ρ, M1, rfl, s1, sl.ext e1 sr.sub, ds, M2, hd, fun W2 vs e2 s2 r2 => op W2 M2 M' x d ds v vs Q s2 (r1.ext e2 s1.sub) r2 hf fun W3 u e3 s3 r3 => k W3 u ((e1.trans e2).trans e3) s3 r3⟩⟩
  · cases hf
end
/-- a changeable list, as it stands -/
def mlOf (d : D) (M : Mem) : Option (Nat × List D) := match d with
  | .ref n => match M[n]? with | some (.lst xs) => some (n, xs) | _ => none
  | _ => none
def gAppend : GM := fun x ds M => match ds with
  | [d] => (mlOf x M).bind fun l => if l.2.length < LINE then some (.non, M.set l.1 (.lst (l.2 ++ [d]))) else none
  | _ => none
def gPop : GM := fun x ds M => match ds with
  | [] => (mlOf x M).bind fun l => (l.2[l.2.length - 1]?).bind fun d => some (d, M.set l.1 (.lst l.2.dropLast))
  | _ => none
def gReverse : GM := fun x ds M => match ds with
  | [] => (mlOf x M).bind fun l => some (.non, M.set l.1 (.lst l.2.reverse))
  | _ => none
section
variable {K : PySem.W.Frag} {W : Wo} {M : Mem}
theorem ml_ok {x : D} {v : V} {n : Nat} {xs : List D} (sr : SR K W M) (h : Rp K W x v) (e : mlOf x M = some (n, xs)) : ∃ a vs, v = .ref a ∧ W.as[n]? = some a ∧ W.H a = some (.lst vs) ∧ RpL K W xs vs ∧ vs.length ≤ LINE := by
  cases x with
  | ref m =>
    obtain ⟨a, h1, e1⟩ := h
    obtain ⟨mo, h2, q⟩ := sr.at_ h1
    cases mo with
    | lst ys =>
      have e' : (match M[m]? with | some (.lst xs) => some (m, xs) | _ => none) = some (n, xs) := e
      rw [h2] at e'
      cases e'
      obtain ⟨vs, q1, q2⟩ := q
      exact ⟨a, vs, e1, h1, q1.1, q2, q1.2⟩
  | _ => cases e
theorem o_append : OpM K rAppend gAppend := by
  intro W M M' x d ds v vs Q sr rx r hg k
  unfold gAppend at hg
  split at hg
  · obtain ⟨⟨n, xs⟩, hl, hg⟩ := Option.bind_eq_some_iff.mp hg
    split at hg
    · rename_i hz
      cases hg
      obtain ⟨u, rfl, r1⟩ := rl1 r
      obtain ⟨a, ws, rfl, ha, hH, rw_, hlen⟩ := ml_ok sr rx hl
      refine ⟨a, ws, u, rfl, rfl, hH, by rw [line_eq, ← rw_.len]; exact hz, ?_⟩
      exact k _ _ (Ext.wr (List.mem_of_getElem? ha)) (sr.wr ha (rw_.append (.one r1)) (by
        rw [List.length_append, List.length_singleton, ← rw_.len]; exact hz)) rfl
    · cases hg
  · cases hg
theorem RpL.dropLast {xs : List D} {vs : List V} (h : RpL K W xs vs) : RpL K W xs.dropLast vs.dropLast := by
  rw [List.dropLast_eq_take, List.dropLast_eq_take, h.len]
  exact h.take _
theorem o_pop : OpM K rPop gPop := by
  intro W M M' x d ds v vs Q sr rx r hg k
  unfold gPop at hg
  split at hg
  · obtain ⟨⟨n, xs⟩, hl, hg⟩ := Option.bind_eq_some_iff.mp hg
    obtain ⟨y, hy, hg⟩ := Option.bind_eq_some_iff.mp hg
    cases hg
    cases (show _ = _ from r)
    obtain ⟨a, ws, rfl, ha, hH, rw_, hlen⟩ := ml_ok sr rx hl
    obtain ⟨z, hz, rz⟩ := rw_.get hy
    have e := Ext.wr (W := W) (o := .lst ws.dropLast) (List.mem_of_getElem? ha)
    exact ⟨a, ws, z, rfl, rfl, hH, by rw [← rw_.len]; exact hz, k _ _ e (sr.wr ha rw_.dropLast (by rw [List.length_dropLast]; omega)) (rz.ext e sr.sub)⟩
  · cases hg
theorem o_reverse : OpM K rReverse gReverse := by
  intro W M M' x d ds v vs Q sr rx r hg k
  unfold gReverse at hg
  split at hg
  · obtain ⟨⟨n, xs⟩, hl, hg⟩ := Option.bind_eq_some_iff.mp hg
    cases hg
    cases (show _ = _ from r)
    obtain ⟨a, ws, rfl, ha, hH, rw_, hlen⟩ := ml_ok sr rx hl
    exact ⟨a, ws, rfl, rfl, hH, k _ _ (Ext.wr (List.mem_of_getElem? ha)) (sr.wr ha rw_.reverse (by rw [List.length_reverse]; exact hlen)) rfl⟩
  · cases hg
end
/-- xs[i] = e -/
def sSetIx (fe fo fi : FE) : FS := fun ρ M => (fe ρ M).bind fun v => (fo ρ v.2).bind fun o => (fi ρ o.2).bind fun i => match i.1 with
  | .int k => (mlOf o.1 i.2).bind fun l => (ixN l.2.length k).bind fun j => some (.nx ρ, i.2.set l.1 (.lst (l.2.set j v.1)))
  | _ => none
theorem pfs_setIx {X : Cx} {e o i : Expr} {fe fo fi : FE} {p pos : Pos} (he : PFE X e fe) (ho : PFE X o fo) (hi : PFE X i fi)
    (ha : ∀ v, assign (.Subscript o i p) X.env v = (do
      let ov ← holding [v] (eval o X.env)
      let iv ← holding [v, ov] (eval i X.env)
      standAt p
      holding [v, ov, iv] (setItem ov iv v)
      release [v, ov, iv] []) := by intro _; rfl)
    (hs : swapsWithSole [.Subscript o i p] e pos.line X.env = pure false := by rfl) (hw : swappedStores [.Subscript o i p] e X.env = pure none := by rfl)
    (h1 : (assignEach [.Subscript o i p] X.env).map (·.2) = [assign (.Subscript o i p) X.env] := by rfl) : PFS X (.Assign [.Subscript o i p] e pos) (sSetIx fe fo fi) :=
  ps_weak (ps_asg he (pg_sub ho hi set_list ha) hs hw h1) fun E σ H => by
    rw [liftS_iff]
    rintro ⟨W, ρ, M, rfl, sr, sl, o', M', hf, k⟩
    obtain ⟨⟨v, M1⟩, hv, hf⟩ := Option.bind_eq_some_iff.mp hf
    obtain ⟨⟨x, M2⟩, hx, hf⟩ := Option.bind_eq_some_iff.mp hf
    obtain ⟨⟨y, M3⟩, hy, hf⟩ := Option.bind_eq_some_iff.mp hf
    dsimp only at hf
    split at hf
    · obtain ⟨⟨n, xs⟩, hl, hf⟩ := Option.bind_eq_some_iff.mp hf
      obtain ⟨j, hj, hf⟩ := Option.bind_eq_some_iff.mp hf
      cases hf
      refine ⟨W, ρ, M, rfl, sr, sl, v, M1, hv, fun W1 vv e1 s1 r1 => ⟨W1, ρ, M1, rfl, s1, sl.ext e1 sr.sub, x, M2, hx, fun W2 ov e2 s2 r2 => ⟨W2, ρ, M2, rfl, s2, sl.ext (e1.trans e2) sr.sub, _, M3, hy, fun W3 iv e3 s3 r3 => ?_⟩⟩⟩
      cases (show _ = _ from r3)
      obtain ⟨a, ws, rfl, ha, hH, rw_, hlen⟩ := ml_ok s3 (r2.ext e3 s2.sub) hl
      have e4 := Ext.wr (W := W3) (o := .lst (ws.set j vv)) (List.mem_of_getElem? ha)
      have e14 := ((e1.trans e2).trans e3).trans e4
      exact ⟨a, ws, _, j, rfl, rfl, hH, by rw [← rw_.len]; exact hj, k _ σ e14 (s3.wr ha (rw_.set j (r1.ext (e2.trans e3) s1.sub)) (by rw [List.length_set]; exact hlen)) (sl.ext e14 sr.sub)⟩
    · cases hf
end PF
namespace PF
open PySem PySem.Spec PyProof.Rows L2
/-- a def of the module that keeps what c says -/
structure Cal (P : Program) (w : World) (K : PySem.W.Frag) (mg : Str → Option Value) (base : Heap) (k : Nat) (x : Str) (c : FnC) (n : Nat) : Prop where
  ex : ∃ (f : Addr) (fd : FuncData) (ps : List Str), mg x = some (.ref f) ∧ PySem.W.keepIn K (.ref f) = true ∧ L2.Binds K fd ps [] ∧ FnOk P w K mg base CX0 k f fd ps (spOf K c n)
section
variable {P : Program} {w : World} {K : PySem.W.Frag} {mg : Str → Option Value} {base : Heap} {k n : Nat} {x : Str} {c c' : FnC} {f : Addr} {fd : FuncData} {ps : List Str}
theorem cal_of (g : mg x = some (.ref f)) (hk : PySem.W.keepIn K (.ref f) = true) (b : L2.Binds K fd ps []) (F : FnOk P w K mg base CX0 k f fd ps (spOf K c n)) : Cal P w K mg base k x c n := ⟨f, fd, ps, g, hk, b, F⟩
theorem cal_none {qual : Str} {params : Arguments} {body : List Stmt} {scope : Scope} (g : mg x = some (.ref f)) (hk : PySem.W.keepIn K (.ref f) = true) (b : L2.Binds K fd ps []) (F : FunD K x qual params body scope [] [] f fd) (h : ∀ ds M, c ds M = none) : Cal P w K mg base k x c n :=
  ⟨f, fd, ps, g, hk, b, ⟨fun vs H Q E ⟨_, W, M, ds, _, _, _, d, M', e, _⟩ => (by rw [h] at e; cases e), fun A outer s H args us vs Q E _ _ _ _ ⟨_, W, M, ds, _, _, _, d, M', e, _⟩ => (by rw [h] at e; cases e)⟩⟩
/-- another function that says the same where it says something -/
theorem Cal.as (C : Cal P w K mg base k x c n) (h : ∀ ds M r, c' ds M = some r → c ds M = some r) : Cal P w K mg base k x c' n :=
  let ⟨f, fd, ps, g, hk, b, F⟩ := C.ex
  ⟨f, fd, ps, g, hk, b, fn_as F h⟩
theorem Cal.mono {k' : Nat} (C : Cal P w K mg base k x c n) (h : k ≤ k') : Cal P w K mg base k' x c n :=
  let ⟨f, fd, ps, g, hk, b, F⟩ := C.ex
  ⟨f, fd, ps, g, hk, b, F.mono h⟩
end
section
variable {X : Cx} {k n : Nat} {c : FnC} {x : Str} {p pos : Pos} {e : Expr} {es : List Expr} {fa : FA}
theorem pf_callC (C : Cal X.prog X.w X.K X.mg X.base k x c (es.length + 1)) (hr : Room k X.A) (hg : Gl X x) (ha : PFA X (e :: es) fa)
    (hlen : ∀ ρ M r, fa ρ M = some r → r.1.length = es.length + 1) (hdb : (x == ("__debug__" : Str)) = false := by decide) (he : starEach (e :: es) X.env = (false, eval e X.env) :: starEach es X.env := by rfl) (hpl : (backTo pos (starEach es X.env)).any (·.1) = false := by rfl) :
    PFE X (.Call (.Name x p) (e :: es) [] pos) (fCall c fa) :=
  let ⟨_, _, _, g, hk, b, F⟩ := C.ex
  pf_call F hr hg g hk b ha rfl hlen hdb he hpl
theorem pf_callCS (i : Nat) (C : Cal X.prog X.w X.K X.mg X.base k x c (es.length + 1)) (hr : Room k X.A) (hg : Gl X x) (ha : PFA X (e :: es) fa)
    (hlen : ∀ ρ M r, fa ρ M = some r → r.1.length = es.length + 1) (hdb : (x == ("__debug__" : Str)) = false := by decide) (he : starEach (e :: es) X.env = (false, eval e X.env) :: starEach es X.env := by rfl) (hpl : (backTo pos (starEach es X.env)).any (·.1) = false := by rfl) :
    PFE X (.Call (.Name x p) (e :: es) [] pos) (fCallS i c fa) :=
  let ⟨_, _, _, g, hk, b, F⟩ := C.ex
  pf_callS i F hr hg g hk b ha rfl hlen hdb he hpl
end
/-- the built-ins are the built-ins -/
structure Bn (mg : Str → Option Value) : Prop where
  len : mg "len" = none
  int : mg "int" = none
  abs : mg "abs" = none
  tuple : mg "tuple" = none
  list : mg "list" = none
  range : mg "range" = none
  isinstance : mg "isinstance" = none
  bool : mg "bool" = none
  str : mg "str" = none
  min : mg "min" = none
  max : mg "max" = none
  sum : mg "sum" = none
  sorted : mg "sorted" = none
  any : mg "any" = none
  all : mg "all" = none
  set : mg "set" = none
  dict : mg "dict" = none
  type : mg "type" = none
def bnNames : List Str := ["len", "int", "abs", "tuple", "list", "range", "isinstance", "bool", "str", "min", "max", "sum", "sorted", "any", "all", "set", "dict", "type"]
theorem bn_of {mg : Str → Option Value} (h : ∀ (i : Nat) (x : Str), bnNames[i]? = some x → mg x = none) : Bn mg :=
  ⟨h 0 _ rfl, h 1 _ rfl, h 2 _ rfl, h 3 _ rfl, h 4 _ rfl, h 5 _ rfl, h 6 _ rfl, h 7 _ rfl, h 8 _ rfl, h 9 _ rfl, h 10 _ rfl, h 11 _ rfl, h 12 _ rfl, h 13 _ rfl, h 14 _ rfl, h 15 _ rfl, h 16 _ rfl, h 17 _ rfl⟩
/-- the law's own promise, from what it computes of the script -/
def spLaw (K : PySem.W.Frag) : Sp := fun vs H Q _ => ∃ (a : Addr) (ns : List Int), vs = [.ref a] ∧ SqL K H a (ns.map V.int) ∧ Only H ∧ ns.length ≤ 63 ∧ ∀ H', Q (.bl true) H'
theorem rp_ints {K : PySem.W.Frag} {W : Wo} : ∀ ns : List Int, RpL K W (ns.map D.int) (ns.map V.int)
  | [] => rfl
  | n :: ns => ⟨.int n, _, rfl, rfl, rp_ints ns⟩
theorem law_sp {K : PySem.W.Frag} {c : FnC} (h : ∀ ns : List Int, ns.length ≤ 63 → c [.kst (ns.map .int)] [] = some (.bl true, [])) : ∀ vs H Q E, spLaw K vs H Q E → spOf K c 1 vs H Q E := by
  rintro vs H Q E ⟨a, ns, rfl, hS, hO, hl, q⟩
  refine ⟨rfl, ⟨[], fun _ => False, H⟩, [], [.kst (ns.map .int)], rfl, ⟨rfl, List.nodup_nil, fun _ z => by simp at z, fun _ z => z.elim, fun n a mo z => by simp at z⟩, ⟨_, _, rfl, ⟨a, ns.map V.int, rfl, ⟨?_, by rw [List.length_map]; show ns.length ≤ 16777216; omega⟩, rp_ints ns⟩, rfl⟩, .bl true, [], h ns hl, fun W' v _ _ r => ?_⟩
  · rcases hS with (hS | ⟨o, hS⟩) | hS
    · rcases hO a with z | ⟨o, xs, z⟩
      · rw [hS] at z; cases z
      · rw [hS] at z; cases z
    · exact .inl ⟨⟨o, hS⟩, fun z => z⟩
    · exact .inr (.inr hS)
  · cases (show _ = _ from r)
    exact q W'.H
end PF
namespace PF
open PySem PySem.Spec PyProof.Rows L2
/-- names that stand for built-in functions of modules -/
def impB (im : List (Str × String)) (K : PySem.W.Frag) : Bool := im.all fun q => He.eqO (PySem.W.nsIn K mainGlobals q.1) (some (some (.builtin q.2)))
def seeX (im : List (Str × String)) (fa : List He.Fa) (fn : List He.DefD) (K : PySem.W.Frag) : Bool × He.AlD := (impB im K, He.obsD fa fn K)
def obX (n : Nat) (im : List (Str × String)) (fa : List He.Fa) (fn : List He.DefD) (g : Addr → Option Obj) : Bool × He.AlD := seeX im fa fn (He.frG g (He.asD g n))
def SaysX (im : List (Str × String)) (fa : List He.Fa) (fn : List He.DefD) (K : PySem.W.Frag) : Prop := seeX im fa fn K = (true, He.valD fn)
def hkX (n : Nat) (im : List (Str × String)) (fa : List He.Fa) (fn : List He.DefD) : PySem.W.Hook where
  α := Bool × He.AlD
  obs := fun t => obX n im fa fn t.heap.get?
  val := fun _ => (true, He.valD fn)
  says := fun _ h => ∃ K : PySem.W.Frag, K.In h ∧ SaysX im fa fn K
  of := fun _ _ e => ⟨_, He.frG_in, e⟩
  keeps := fun _ _ _ ⟨K, hK, c⟩ k => ⟨K, PySem.W.Frag.In.keeps hK k, c⟩
theorem obX_eq {n : Nat} {im : List (Str × String)} {fa : List He.Fa} {fn : List He.DefD} {g : Addr → Option Obj} {s : Shared} (h : ∀ a, g a = s.heap.get? a) : obX n im fa fn g = (hkX n im fa fn).obs s := by
  rw [show g = s.heap.get? from funext h]; rfl
section
variable {im : List (Str × String)} {fa : List He.Fa} {fn : List He.DefD} {K : PySem.W.Frag}
theorem SaysX.d (c : SaysX im fa fn K) : He.SaysD fa fn K := congrArg (fun z : Bool × He.AlD => z.2) c
theorem SaysX.imp (c : SaysX im fa fn K) {h : Heap} {mg : Str → Option Value} (X : K.In h) (G : h.Ns mainGlobals mg) (i : Nat) {x : Str} {b : String} (e : im[i]? = some (x, b)) : mg x = some (.builtin b) := by
  have c1 : impB im K = true := congrArg (fun z : Bool × He.AlD => z.1) c
  exact PySem.W.mg_of X G (He.eqO_ok (List.all_eq_true.mp c1 _ (List.mem_of_getElem? e)))
end
/-- the function objects, from names -/
theorem fun_at {h : Heap} {mg : Str → Option Value} {K : PySem.W.Frag} (X : K.In h) (G : h.Ns mainGlobals mg) {im : List (Str × String)} {fa : List He.Fa} {fn : List He.DefD} (c : SaysX im fa fn K) (i : Nat) {x : Str} (e : fa[i]? = some (He.Fa.glo x)) : mg x = some (.ref (He.ga K x)) := He.glo_ok X G (c.d.fact i e)
theorem bn_at {h : Heap} {mg : Str → Option Value} {K : PySem.W.Frag} (X : K.In h) (G : h.Ns mainGlobals mg) {im : List (Str × String)} {fa : List He.Fa} {fn : List He.DefD} (c : SaysX im fa fn K) (e : ∀ (i : Nat) (x : Str), bnNames[i]? = some x → fa[i]? = some (He.Fa.free x)) : Bn mg :=
  bn_of fun i x q => He.free_ok X G (c.d.fact i (e i x q))
end PF
namespace PF
open PySem PySem.Spec PyProof.Rows L2
/-! xs.pop(i) -/
def gPop1 : GM := fun x ds M => match ds with
  | [.int i] => (mlOf x M).bind fun l => (ixN l.2.length i).bind fun k => (l.2[k]?).bind fun d => some (d, M.set l.1 (.lst (l.2.eraseIdx k)))
  | _ => none
section
variable {K : PySem.W.Frag} {W : Wo} {M : Mem}
theorem RpL.eraseIdx {xs : List D} {vs : List V} (h : RpL K W xs vs) (k : Nat) : RpL K W (xs.eraseIdx k) (vs.eraseIdx k) := by
  rw [List.eraseIdx_eq_take_drop_succ, List.eraseIdx_eq_take_drop_succ]
  exact (h.take k).append (h.drop (k + 1))
theorem o_pop1 : OpM K rPopAt gPop1 := by
  intro W M M' x d ds v vs Q sr rx r hg k
  unfold gPop1 at hg
  split at hg
  · rename_i i
    obtain ⟨⟨n, xs⟩, hl, hg⟩ := Option.bind_eq_some_iff.mp hg
    obtain ⟨j, hj, hg⟩ := Option.bind_eq_some_iff.mp hg
    obtain ⟨y, hy, hg⟩ := Option.bind_eq_some_iff.mp hg
    cases hg
    obtain ⟨u, rfl, r1⟩ := rl1 r
    cases (show _ = _ from r1)
    obtain ⟨a, ws, rfl, ha, hH, rw_, hlen⟩ := ml_ok sr rx hl
    obtain ⟨z, hz, rz⟩ := rw_.get hy
    obtain ⟨q1, q2, q3, q4⟩ := ixN_seq hj
    have hL : ws.length ≤ 16777216 := hlen
    have el : xs.length = ws.length := rw_.len
    have q3' : -(ws.length : Int) ≤ i := by rw [← el]; exact q3
    have q4' : i < (ws.length : Int) := by rw [← el]; exact q4
    have e := Ext.wr (W := W) (o := .lst (ws.eraseIdx j)) (List.mem_of_getElem? ha)
    refine ⟨a, ws, _, j, z, rfl, rfl, hH, by omega, by omega, by rw [← el]; exact q1, hz, ?_⟩
    exact k _ _ e (sr.wr ha (rw_.eraseIdx j) (Nat.le_trans (List.length_eraseIdx_le ws j) hlen)) (rz.ext e sr.sub)
  · cases hg
end
/-! a + b of lists, as a new list -/
def gCat : D → D → Mem → Option (List D) := fun x y M => match ltOf x M, ltOf y M with
  | some a, some b => if a.length + b.length ≤ LINE then some (a ++ b) else none
  | _, _ => none
def f2N (g : D → D → Mem → Option (List D)) (fa fb : FE) : FA := fun ρ M => (fa ρ M).bind fun a => (fb ρ a.2).bind fun b => (g a.1 b.1 b.2).bind fun d => some (d, b.2)
theorem pfn_cat {X : Cx} {a b : Expr} {fa fb : FE} {pos : Pos} (ha : PFE X a fa) (hb : PFE X b fb) : PFN X (.BinOp a .Add b pos) (f2N gCat fa fb) := pe_weak (pe_op op_cat ha hb) fun σ H Q => by
  rintro ⟨W, ρ, M, rfl, sr, sl, d, M', hf, k⟩
  obtain ⟨⟨x, M1⟩, hx, hf⟩ := Option.bind_eq_some_iff.mp hf
  obtain ⟨⟨y, M2⟩, hy, hf⟩ := Option.bind_eq_some_iff.mp hf
  obtain ⟨z, hz, hf⟩ := Option.bind_eq_some_iff.mp hf
  cases hf
  refine ⟨W, ρ, M, rfl, sr, sl, x, M1, hx, fun W1 v e1 s1 r1 => ⟨W1, ρ, M1, rfl, s1, sl.ext e1 sr.sub, y, _, hy, fun W2 u e2 s2 r2 => ?_⟩⟩
  unfold gCat at hz
  split at hz
  · rename_i p q hp hq
    split at hz
    · rename_i hl
      cases hz
      obtain ⟨p1, vs, rfl, h1, t1⟩ := lt_sq s2 (r1.ext e2 s1.sub) hp
      obtain ⟨q1, us, rfl, h2, t2⟩ := lt_sq s2 r2 hq
      exact ⟨p1, q1, vs, us, rfl, rfl, h1, h2, by rw [line_eq, ← t1.len, ← t2.len]; exact hl, fun t nt => k W2 t _ (e1.trans e2) s2 nt (t1.append t2) (by rw [List.length_append, ← t1.len, ← t2.len]; exact hl)⟩
    · cases hz
  · cases hz
end PF
namespace PF
open PySem PySem.Spec PyProof.Rows L2
/-! sums -/
def intsOf : List D → Option (List Int)
  | [] => some []
  | .int i :: r => (intsOf r).map (i :: ·)
  | _ => none
theorem intsOf_ok {K : PySem.W.Frag} {W : Wo} : ∀ {xs : List D} {ns : List Int} {vs : List V}, intsOf xs = some ns → RpL K W xs vs → vs = ns.map V.int
  | [], ns, vs, e, r => by
    cases (show some [] = some ns from e)
    cases (show _ = _ from r); rfl
  | .int i :: xs, ns, vs, e, r => by
    obtain ⟨ms, h1, rfl⟩ := Option.map_eq_some_iff.mp (show (intsOf xs).map (i :: ·) = some ns from e)
    obtain ⟨v, us, rfl, r1, r2⟩ := r
    cases (show _ = _ from r1)
    rw [intsOf_ok h1 r2]; rfl
  | .non :: _, _, _, e, _ => nomatch (show (none : Option (List Int)) = some _ from e)
  | .bl _ :: _, _, _, e, _ => nomatch (show (none : Option (List Int)) = some _ from e)
  | .str _ :: _, _, _, e, _ => nomatch (show (none : Option (List Int)) = some _ from e)
  | .tup _ :: _, _, _, e, _ => nomatch (show (none : Option (List Int)) = some _ from e)
  | .lst _ :: _, _, _, e, _ => nomatch (show (none : Option (List Int)) = some _ from e)
  | .kst _ :: _, _, _, e, _ => nomatch (show (none : Option (List Int)) = some _ from e)
  | .ref _ :: _, _, _, e, _ => nomatch (show (none : Option (List Int)) = some _ from e)
def gSum : GN := fun ds M => match ds with
  | [d] => (lsOf d M).bind fun xs => (intsOf xs).map fun ns => .int ns.sum
  | _ => none
theorem o_sum {K : PySem.W.Frag} : OpN K (rSum K) gSum := by
  intro W M ds d vs Q sr r hg k
  unfold gSum at hg
  split at hg
  · obtain ⟨xs, hx, hg⟩ := Option.bind_eq_some_iff.mp hg
    obtain ⟨ns, hn, hg⟩ := Option.map_eq_some_iff.mp hg
    subst hg
    obtain ⟨v, rfl, r1⟩ := rl1 r
    obtain ⟨p, us, rfl, h1, r2⟩ := ls_sq sr r1 hx
    refine ⟨p, ns, rfl, ?_, k W _ (.refl W) sr rfl⟩
    rw [← intsOf_ok hn r2]
    exact h1
  · cases hg
/-! x += y of ints -/
def gIAdd : G2M := fun x y M => match x, y with
  | .int i, .int j => some (.int (i + j), M)
  | _, _ => none
theorem o_iadd {K : PySem.W.Frag} : Op2M K (rI0 fun i j => .int (i + j)) gIAdd := by
  intro W M M' x y d v u Q sr rx ry hg k
  unfold gIAdd at hg
  split at hg
  · cases hg
    cases (show _ = _ from rx); cases (show _ = _ from ry)
    exact ⟨_, _, rfl, rfl, k W _ (.refl W) sr rfl⟩
  · cases hg
/-! the least and the greatest of a list of alike data -/
def rMinDt (K : PySem.W.Frag) : List V → Hp → VK → Prop := fun vs H Q => ∃ (a : Addr) (ys : List V) (d : PyData) (ds : List PyData), vs = [V.ref a] ∧ (SqL K H a ys ∨ SqT K H a ys) ∧ DpAll K H ys (d :: ds) ∧ PyData.canLayAll0 (d :: ds) = true ∧ PySem.W.AlikeAll (d :: ds) ∧ PyData.depthAll (d :: ds) ≤ 60 ∧
  ∀ (i : Nat) (v : V), ys[i]? = some v → (d :: ds)[i]? = some (PySem.W.minD d ds) → Q v H
theorem cr_minDt {X : Cx} (hc : X.calm = true) (hu : X.A.units + 64 < cLine) : CallR X (.builtin "min") (rMinDt X.K) := by
  intro pins s σ H vs us Q I r h
  obtain ⟨a, ys, d, ds, rfl, hs, hd, hl0, hal, hdp, q⟩ := h
  rcases hs with hs | hs
  · obtain ⟨its, rv, hl, _⟩ := I.list hs
    rw [Vals.ref1 r]
    obtain ⟨as, hr⟩ := Dp.readsAll I (d :: ds) ys its hd rv
    refine PySem.W.min_list_data (I.ok.hd hc) hl.isList hr hal (by omega) fun i v h' tk bs hv hrd hk => ?_
    have hv' : its[i]? = some v := by simpa using hv
    have hlen := rv.length
    have hi : i < ys.length := by
      have := (List.getElem?_eq_some_iff.mp hv').1
      omega
    obtain ⟨u, hu1, ry⟩ := rv.get (List.getElem?_eq_getElem hi)
    have euv : u = v := Option.some.inj (hu1.symm.trans hv')
    subst euv
    refine ⟨ys[i], H, I.kept hk, ry, q i _ (List.getElem?_eq_getElem hi) ?_⟩
    obtain ⟨bs2, r2, hlt, hmem, _⟩ := PySem.W.readsAll_at hr i u hv'
    have r3 := PySem.W.reads_keeps hk r2
    have can : ∀ (l : List PyData) (z : PyData), PyData.canLayAll0 l = true → z ∈ l → z.canLay0 = true := by
      intro l
      induction l with
      | nil => intro z _ hz; cases hz
      | cons x l ih =>
        intro z hc hz
        have hc' : (x.canLay0 && PyData.canLayAll0 l) = true := by simpa [PyData.canLayAll0] using hc
        rw [Bool.and_eq_true] at hc'
        rcases List.mem_cons.mp hz with rfl | hz
        · exact hc'.1
        · exact ih z hc'.2 hz
    have c1 := can _ _ hl0 hmem
    have e2 := SeqAt.readOf_eq c1 r3
    have hmm : PySem.W.minD d ds ∈ d :: ds := by
      have : ∀ (l : List PyData) (x : PyData), l.foldl (fun a y => if PySem.W.dataLt y a then y else a) x = x ∨ l.foldl (fun a y => if PySem.W.dataLt y a then y else a) x ∈ l := by
        intro l
        induction l with
        | nil => intro x; exact .inl rfl
        | cons y l ih =>
          intro x
          rw [List.foldl_cons]
          rcases ih (if PySem.W.dataLt y x then y else x) with h | h
          · split at h
            · exact .inr (by rw [if_pos (by assumption), h]; exact List.mem_cons_self)
            · rw [if_neg (by assumption)]; exact .inl h
          · exact .inr (List.mem_cons_of_mem _ h)
      unfold PySem.W.minD
      rcases this ds d with h | h
      · rw [h]; exact List.mem_cons_self
      · exact List.mem_cons_of_mem _ h
    have e3 := SeqAt.readOf_eq (can _ _ hl0 hmm) hrd
    rw [e2] at e3
    rw [← e3, List.getElem?_eq_getElem hlt]
    rw [List.getD_eq_getElem?_getD, List.getElem?_eq_getElem hlt]
    rfl
  · obtain ⟨its, rv, hl, _⟩ := I.tuple hs
    rw [Vals.ref1 r]
    obtain ⟨as, hr⟩ := Dp.readsAll I (d :: ds) ys its hd rv
    refine PySem.W.min_tuple_data (I.ok.hd hc) hl hr hal (by omega) fun i v h' tk bs hv hrd hk => ?_
    have hv' : its[i]? = some v := by simpa using hv
    have hlen := rv.length
    have hi : i < ys.length := by
      have := (List.getElem?_eq_some_iff.mp hv').1
      omega
    obtain ⟨u, hu1, ry⟩ := rv.get (List.getElem?_eq_getElem hi)
    have euv : u = v := Option.some.inj (hu1.symm.trans hv')
    subst euv
    refine ⟨ys[i], H, I.kept hk, ry, q i _ (List.getElem?_eq_getElem hi) ?_⟩
    obtain ⟨bs2, r2, hlt, hmem, _⟩ := PySem.W.readsAll_at hr i u hv'
    have r3 := PySem.W.reads_keeps hk r2
    have can : ∀ (l : List PyData) (z : PyData), PyData.canLayAll0 l = true → z ∈ l → z.canLay0 = true := by
      intro l
      induction l with
      | nil => intro z _ hz; cases hz
      | cons x l ih =>
        intro z hc hz
        have hc' : (x.canLay0 && PyData.canLayAll0 l) = true := by simpa [PyData.canLayAll0] using hc
        rw [Bool.and_eq_true] at hc'
        rcases List.mem_cons.mp hz with rfl | hz
        · exact hc'.1
        · exact ih z hc'.2 hz
    have c1 := can _ _ hl0 hmem
    have e2 := SeqAt.readOf_eq c1 r3
    have hmm : PySem.W.minD d ds ∈ d :: ds := by
      have : ∀ (l : List PyData) (x : PyData), l.foldl (fun a y => if PySem.W.dataLt y a then y else a) x = x ∨ l.foldl (fun a y => if PySem.W.dataLt y a then y else a) x ∈ l := by
        intro l
        induction l with
        | nil => intro x; exact .inl rfl
        | cons y l ih =>
          intro x
          rw [List.foldl_cons]
          rcases ih (if PySem.W.dataLt y x then y else x) with h | h
          · split at h
            · exact .inr (by rw [if_pos (by assumption), h]; exact List.mem_cons_self)
            · rw [if_neg (by assumption)]; exact .inl h
          · exact .inr (List.mem_cons_of_mem _ h)
      unfold PySem.W.minD
      rcases this ds d with h | h
      · rw [h]; exact List.mem_cons_self
      · exact List.mem_cons_of_mem _ h
    have e3 := SeqAt.readOf_eq (can _ _ hl0 hmm) hrd
    rw [e2] at e3
    rw [← e3, List.getElem?_eq_getElem hlt]
    rw [List.getD_eq_getElem?_getD, List.getElem?_eq_getElem hlt]
    rfl
mutual
theorem py_inj : ∀ (a b : D), a.nl = true → b.nl = true → a.py = b.py → a = b
  | .non, b, _, hb, e => by cases b <;> simp [D.py, D.nl] at e hb ⊢
  | .bl x, b, _, hb, e => by cases b <;> simp [D.py, D.nl] at e hb ⊢; exact e
  | .int x, b, _, hb, e => by cases b <;> simp [D.py, D.nl] at e hb ⊢; exact e
  | .str x, b, _, hb, e => by cases b <;> simp [D.py, D.nl] at e hb ⊢; exact e
  | .tup xs, b, ha, hb, e => by
    cases b with
    | tup ys =>
      rw [D.nl] at ha hb
      rw [D.py, D.py] at e
      rw [pys_inj xs ys ha hb (by injection e)]
    | _ => simp [D.py, D.nl] at e hb
  | .lst _, _, ha, _, _ => by simp [D.nl] at ha
  | .kst _, _, ha, _, _ => by simp [D.nl] at ha
  | .ref _, _, ha, _, _ => by simp [D.nl] at ha
theorem pys_inj : ∀ (a b : List D), D.nls a = true → D.nls b = true → D.pys a = D.pys b → a = b
  | [], [], _, _, _ => rfl
  | [], y :: ys, _, _, e => by simp [D.pys] at e
  | x :: xs, [], _, _, e => by simp [D.pys] at e
  | x :: xs, y :: ys, ha, hb, e => by
    rw [D.nls, Bool.and_eq_true] at ha hb
    rw [D.pys, D.pys] at e
    injection e with e1 e2
    rw [py_inj x y ha.1 hb.1 e1, pys_inj xs ys ha.2 hb.2 e2]
end
theorem pys_at : ∀ {xs : List D} {i : Nat} {z : PyData}, (D.pys xs)[i]? = some z → ∃ d, xs[i]? = some d ∧ d.py = z
  | [], i, z, h => by simp [D.pys] at h
  | x :: xs, 0, z, h => by rw [D.pys] at h; simp at h; exact ⟨x, rfl, h⟩
  | x :: xs, i + 1, z, h => by
    rw [D.pys] at h
    obtain ⟨d, h1, h2⟩ := pys_at (xs := xs) (i := i) (by simpa using h)
    exact ⟨d, by simpa using h1, h2⟩
theorem pys_mem : ∀ {xs : List D} {z : PyData}, z ∈ D.pys xs → ∃ d, d ∈ xs ∧ d.py = z
  | [], z, h => by simp [D.pys] at h
  | x :: xs, z, h => by
    rw [D.pys] at h
    rcases List.mem_cons.mp h with rfl | h
    · exact ⟨x, by simp, rfl⟩
    · obtain ⟨d, h1, h2⟩ := pys_mem h
      exact ⟨d, List.mem_cons_of_mem _ h1, h2⟩
theorem nls_at : ∀ {xs : List D} {d : D}, D.nls xs = true → d ∈ xs → d.nl = true
  | x :: xs, d, h, hd => by
    rw [D.nls, Bool.and_eq_true] at h
    rcases List.mem_cons.mp hd with rfl | hd
    · exact h.1
    · exact nls_at h.2 hd
/-- min of x :: xs -/
def minDd (x : D) (xs : List D) : D := xs.foldl (fun a y => if PySem.W.dataLt y.py a.py = true then y else a) x
def okAl (l : List D) : Bool := (D.nls l && D.dps 59 l) && ((l.all fun a => l.all fun b => PySem.W.alike a.py b.py) && l.all fun a => !isNn a)
theorem minDd_py : ∀ (xs : List D) (x : D), (minDd x xs).py = PySem.W.minD x.py (D.pys xs)
  | [], x => by rw [D.pys]; rfl
  | y :: xs, x => by
    rw [D.pys]
    show (minDd (if PySem.W.dataLt y.py x.py = true then y else x) xs).py = PySem.W.minD (if PySem.W.dataLt y.py x.py then y.py else x.py) (D.pys xs)
    rw [minDd_py xs]
    split <;> rfl
theorem minDd_mem : ∀ (xs : List D) (x : D), minDd x xs ∈ x :: xs
  | [], x => by simp [minDd]
  | y :: xs, x => by
    show minDd (if PySem.W.dataLt y.py x.py = true then y else x) xs ∈ _
    have := minDd_mem xs (if PySem.W.dataLt y.py x.py = true then y else x)
    rcases List.mem_cons.mp this with h | h
    · rw [h]; split <;> simp
    · exact List.mem_cons_of_mem _ (List.mem_cons_of_mem _ h)
def gMin1 : GN := fun ds M => match ds with
  | [d] => (sqOf d M).bind fun l => match l with
    | x :: xs => if okAl (x :: xs) = true then some (minDd x xs) else none
    | [] => none
  | _ => none
theorem o_min1 {K : PySem.W.Frag} : OpN K (rMinDt K) gMin1 := by
  intro W M ds d vs Q sr r hg k
  unfold gMin1 at hg
  split at hg
  · obtain ⟨l, hx, hg⟩ := Option.bind_eq_some_iff.mp hg
    split at hg
    · rename_i x xs
      split at hg
      · rename_i ok
        cases hg
        unfold okAl at ok
        rw [Bool.and_eq_true, Bool.and_eq_true, Bool.and_eq_true] at ok
        obtain ⟨⟨o1, o2⟩, o3, o4⟩ := ok
        obtain ⟨v, rfl, r1⟩ := rl1 r
        obtain ⟨p, us, rfl, h1, r2⟩ := sq_sq sr r1 hx
        have hdp := dp_Dps 59 (x :: xs) us o2 r2
        obtain ⟨q1, q2⟩ := dps_can 59 (x :: xs) o2
        rw [D.pys] at hdp q1 q2
        refine ⟨p, us, x.py, D.pys xs, rfl, h1, hdp, q1, ⟨fun a ha b hb => ?_, fun a ha => ?_⟩, by omega, fun i v hv hi => ?_⟩
        · obtain ⟨a0, ha0, rfl⟩ := pys_mem (xs := x :: xs) (by rw [D.pys]; exact ha)
          obtain ⟨b0, hb0, rfl⟩ := pys_mem (xs := x :: xs) (by rw [D.pys]; exact hb)
          exact List.all_eq_true.mp (List.all_eq_true.mp o3 a0 ha0) b0 hb0
        · obtain ⟨a0, ha0, rfl⟩ := pys_mem (xs := x :: xs) (by rw [D.pys]; exact ha)
          have h4 := List.all_eq_true.mp o4 a0 ha0
          have h5 := nls_at o1 ha0
          cases a0 <;> simp [isNn, D.py, D.nl] at h4 h5 ⊢
        · obtain ⟨z, hz, hzp⟩ := pys_at (xs := x :: xs) (i := i) (by rw [D.pys]; exact hi)
          have hm := minDd_mem xs x
          have e : z = minDd x xs := py_inj _ _ (nls_at o1 (List.mem_of_getElem? hz)) (nls_at o1 hm) (by rw [hzp, minDd_py])
          obtain ⟨v', hv', rz⟩ := r2.get hz
          have : v' = v := Option.some.inj (hv'.symm.trans hv)
          subst this
          rw [← e] at k
          exact k W v' (.refl W) sr rz
      · cases hg
    · cases hg
  · cases hg
/-! xs.index(y) -/
def findI {α : Type} (p : α → Bool) : List α → Option Nat
  | [] => none
  | x :: xs => if p x = true then some 0 else (findI p xs).map (· + 1)
def gIndex : GM := fun x ds M => match ds with
  | [.int y] => match x with
    | .lst xs => (intsOf xs).bind fun ns => (findI (fun z => decide (z = y)) ns).map fun (j : Nat) => (.int (j : Int), M)
    | _ => none
  | _ => none
theorem findI_ok {α : Type} {p : α → Bool} : ∀ {xs : List α} {j : Nat}, findI p xs = some j → ∃ z, xs[j]? = some z ∧ p z = true ∧ ∀ m z', m < j → xs[m]? = some z' → p z' = false
  | [], j, h => by cases h
  | x :: xs, j, h => by
    rw [findI] at h
    split at h
    · rename_i hp
      cases h
      exact ⟨x, rfl, hp, fun m z' hm => absurd hm (Nat.not_lt_zero _)⟩
    · rename_i hp
      obtain ⟨i, hi, rfl⟩ := Option.map_eq_some_iff.mp h
      obtain ⟨z, h1, h2, h3⟩ := findI_ok hi
      refine ⟨z, by simpa using h1, h2, fun m z' hm hz => ?_⟩
      cases m with
      | zero => simp at hz; subst hz; simpa using hp
      | succ m => exact h3 m z' (by omega) (by simpa using hz)
theorem pys_get : ∀ {xs : List D} {i : Nat} {d : D}, xs[i]? = some d → (D.pys xs)[i]? = some d.py
  | [], i, d, h => by simp at h
  | x :: xs, 0, d, h => by simp at h; subst h; rw [D.pys]; rfl
  | x :: xs, i + 1, d, h => by rw [D.pys]; simpa using pys_get (xs := xs) (i := i) (by simpa using h)
theorem o_index {K : PySem.W.Frag} : OpM K (rIndex K) gIndex := by
  intro W M M' x d ds v vs Q sr rx r hg k
  unfold gIndex at hg
  split at hg
  · rename_i y
    split at hg
    · rename_i xs
      obtain ⟨ns, hn, hg⟩ := Option.bind_eq_some_iff.mp hg
      obtain ⟨j, hj, hg⟩ := Option.map_eq_some_iff.mp hg
      cases hg
      obtain ⟨u, rfl, r1⟩ := rl1 r
      cases (show _ = _ from r1)
      obtain ⟨z, h1, h2, h3⟩ := findI_ok hj
      obtain ⟨a, us, rfl, h4, r2⟩ := ls_sq sr rx (xs := xs) rfl
      have eus := intsOf_ok hn r2
      subst eus
      refine ⟨a, _, .int y, j, .int z, rfl, rfl, h4, rfl, ?_, ?_, ?_, fun m z' hm hz => ?_, k W _ (.refl W) sr rfl⟩
      · rw [List.all_map]
        exact List.all_eq_true.mpr fun _ _ => rfl
      · rw [List.getElem?_map, h1]; rfl
      · have : z = y := of_decide_eq_true h2
        subst this
        simp [eqV]
      · rw [List.getElem?_map] at hz
        obtain ⟨i, hi, rfl⟩ := Option.map_eq_some_iff.mp hz
        have := h3 m i hm hi
        have hne : i ≠ y := of_decide_eq_false this
        simp [eqV, hne]
    · cases hg
  · cases hg
end PF
namespace PF
open PySem PySem.Spec PyProof.Rows L2 HT
/-! t += u of tuples -/
theorem noI_tup : typeLookup (.type "tuple") (dunderI "add") = pure none := by
  rw [typeLookup_type]
  rw [builtinLookup_eq_fast]
  kernel_rfl
section
variable {prog : Program} {w : World} {A : Around} {E : Value → Shared → Prop} {s : Shared}
theorem icat {t b : Addr} {vs ws : List Value} {Q : Value → Shared → Prop} (ht : IsTup s.heap t vs.toArray) (hb : IsTup s.heap b ws.toArray) (h0 : vs = [] → Q (.ref b) s)
    (h1 : vs ≠ [] → ws = [] → Q (.ref t) s) (h2 : vs ≠ [] → ws ≠ [] → Q (.ref s.heap.objs.size) { s with heap := s.heap.push { cls := .type "tuple", data := .seq (vs ++ ws).toArray } })
    (hz : vs.length + ws.length ≤ sizeLine) : wpAny (model prog w) A (inplaceOp .Add (.ref t) (.ref b)) Q E s := by
  obtain ⟨⟨c1, d1, x1, s1⟩, o1, hc1, n1, hd1⟩ := id ht
  obtain ⟨⟨c2, d2, x2, s2⟩, o2, hc2, n2, hd2⟩ := id hb
  simp only at hc1 hd1 hc2 hd2
  subst hc1 hd1 hc2 hd2
  refine wpAny_inplaceOp_concat ⟨_, o1, rfl⟩ ⟨_, o2, rfl⟩ noI_tup
    noFill_tuple_add seq_tuple_add ?_
  by_cases hv : vs = []
  · subst hv
    exact call_meets PySem.F.slot_tuple_add ⟨_, o1, rfl⟩ PySem.F.entry_tuple_add
      (PySem.F.args_tuple_add_2 _ _) (tuple_addW0 t b _ ws.toArray n1 n2 d1 d2 s1 s2 (by simp)) ⟨o1, o2, h0 rfl⟩
  · by_cases hw : ws = []
    · exact call_meets PySem.F.slot_tuple_add ⟨_, o1, rfl⟩ PySem.F.entry_tuple_add
        (PySem.F.args_tuple_add_2 _ _) (tuple_addW1 t b vs.toArray ws.toArray n1 n2 d1 d2 s1 s2 (by simpa using hv) (by simp [hw])) ⟨o1, o2, h1 hv hw⟩
    · refine call_meets PySem.F.slot_tuple_add ⟨_, o1, rfl⟩ PySem.F.entry_tuple_add
        (PySem.F.args_tuple_add_2 _ _) (tuple_addW2 t b vs.toArray ws.toArray n1 n2 d1 d2 s1 s2 (by simpa using hv) (by simpa using hw) (by simpa using hz)) ⟨o1, o2, ?_⟩
      have e : vs.toArray ++ ws.toArray = (vs ++ ws).toArray := by simp
      rw [e]
      exact h2 hv hw
end
theorem iop_catA {X : Cx} : OpR X (inplaceOp .Add) (rCatA X.K) := by
  intro pins s σ H x y v u Q I rx ry h
  obtain ⟨a, b, xs, ys, rfl, rfl, ha, hb, hz, q0, q1, q2⟩ := h
  cases rx
  cases ry
  obtain ⟨its, r1, p1, _⟩ := I.tuple ha
  obtain ⟨its2, r2, p2, _⟩ := I.tuple hb
  refine icat p1 p2 (fun z => ⟨.ref b, H, I, rfl, q0 (r1.nil_iff.mp z)⟩) (fun z z2 => ⟨.ref a, H, I, rfl, q1 (fun e => z (r1.nil_iff.mpr e)) (r2.nil_iff.mp z2)⟩) (fun z z2 => ?_) (by rw [← r1.length, ← r2.length]; exact hz)
  refine ⟨.ref s.heap.objs.size, _, I.laid (t' := s.toks) (o := .tup (xs ++ ys)) (fun b ob q => Heap.get?_push_of_some _ q) (Nat.le_refl _) ?_, rfl,
    q2 (fun e => z (r1.nil_iff.mpr e)) (fun e => z2 (r2.nil_iff.mpr e)) _ (I.hok.fresh (Nat.le_refl _))⟩
  exact ⟨by rw [List.length_append]; exact hz, _, r1.append r2,
    IsTup.new _ _⟩
end PF
namespace PF
open PySem PySem.Spec PyProof.Rows L2 HT
/-! x += y: ints, tuples -/
def gIAddA : G2M := fun x y M => match x, y with
  | .int i, .int j => some (.int (i + j), M)
  | .tup a, .tup b => if a.length + b.length ≤ LINE then some (.tup (a ++ b), M) else none
  | _, _ => none
def rIAddA (K : PySem.W.Frag) : R2 := fun x y H Q => rI0 (fun i j => .int (i + j)) x y H Q ∨ rCatA K x y H Q
theorem iop_addA {X : Cx} : OpR X (inplaceOp .Add) (rIAddA X.K) := iop_add.or iop_catA
theorem o_iaddA {K : PySem.W.Frag} : Op2M K (rIAddA K) gIAddA := by
  intro W M M' x y d v u Q sr rx ry hg k
  unfold gIAddA at hg
  split at hg
  · cases hg
    cases (show _ = _ from rx); cases (show _ = _ from ry)
    exact .inl ⟨_, _, rfl, rfl, k W _ (.refl W) sr rfl⟩
  · split at hg
    · rename_i a b hl
      cases hg
      obtain ⟨p, vs, rfl, h1, r1⟩ := tp_sq rx
      obtain ⟨q, us, rfl, h2, r2⟩ := tp_sq ry
      refine .inr ⟨p, q, vs, us, rfl, rfl, h1, h2, by rw [line_eq, ← r1.len, ← r2.len]; exact hl, fun e => ?_, fun _ e => ?_, fun _ _ t nt => ?_⟩
      · subst e
        have : a = [] := List.eq_nil_of_length_eq_zero r1.len
        subst this
        exact k W _ (.refl W) sr ry
      · subst e
        have : b = [] := List.eq_nil_of_length_eq_zero r2.len
        subst this
        exact k W _ (.refl W) sr (by rw [List.append_nil]; exact rx)
      · exact k _ _ (Ext.put nt) (sr.put nt) (.newTup sr nt (r1.append r2) (by rw [List.length_append, ← r1.len, ← r2.len]; exact hl))
    · cases hg
  · cases hg
/-! x in a list, a tuple of ints -/
def gIn : G2B := fun x y M => match x with
  | .int i => (sqOf y M).bind fun xs => (intsOf xs).map fun ns => ns.any fun n => decide (n = i)
  | _ => none
def gNotIn : G2B := fun x y M => (gIn x y M).map (! ·)
section
variable {K : PySem.W.Frag} {W : Wo} {M : Mem}
theorem in_ok {x y : D} {v u : V} {t : Bool} (sr : SR K W M) (rx : Rp K W x v) (ry : Rp K W y u) (h : gIn x y M = some t) :
    ∃ p xs, u = .ref p ∧ (SqL K W.H p xs ∨ SqT K W.H p xs) ∧ flatV v = true ∧ xs.all flatV = true ∧ inV v xs = t := by
  unfold gIn at h
  split at h
  · rename_i i
    cases (show _ = _ from rx)
    obtain ⟨xs, hx, h⟩ := Option.bind_eq_some_iff.mp h
    obtain ⟨ns, hn, h⟩ := Option.map_eq_some_iff.mp h
    subst h
    obtain ⟨p, us, rfl, h1, r2⟩ := sq_sq sr ry hx
    have e := intsOf_ok hn r2
    subst e
    refine ⟨p, _, rfl, h1, rfl, ?_, ?_⟩
    · rw [List.all_map]
      exact List.all_eq_true.mpr fun _ _ => rfl
    · unfold inV
      rw [List.any_map]
      congr 1
  · cases h
theorem o_in : Op2 K (rIn K false) (gB gIn) := by
  intro W M x y d v u Q sr rx ry hg k
  obtain ⟨t, ht, rfl⟩ := Option.map_eq_some_iff.mp hg
  obtain ⟨p, xs, rfl, h1, h2, h3, h4⟩ := in_ok sr rx ry ht
  exact ⟨p, xs, rfl, h1, h2, h3, by
    rw [if_neg Bool.false_ne_true, h4]
    exact k W _ (.refl W) sr rfl⟩
theorem o_notIn : Op2 K (rIn K true) (gB gNotIn) := by
  intro W M x y d v u Q sr rx ry hg k
  obtain ⟨t, ht, rfl⟩ := Option.map_eq_some_iff.mp hg
  obtain ⟨t', ht', rfl⟩ := Option.map_eq_some_iff.mp ht
  obtain ⟨p, xs, rfl, h1, h2, h3, h4⟩ := in_ok sr rx ry ht'
  exact ⟨p, xs, rfl, h1, h2, h3, by
    rw [if_pos rfl, h4]
    exact k W _ (.refl W) sr rfl⟩
end
/-! t * 1 of a tuple is the tuple itself -/
theorem mul_one (l : Addr) (items : Array Value) (n : Nat) (dd : Option Addr) (sl : Array (Option Value)) (u : Tok) :
    Meets (Builtin.«tuple.__mul__» ⟨[.ref l, .int 1 u], []⟩) (fun _ R s => s.heap.get? l = some { cls := .type "tuple", dict := dd, data := .seq items n, slots := sl } ∧ R (.ok (.ret (Value.ref l))) s) :=
  .of_wp fun prog w A R s h => by
    obtain ⟨hp, g, d, tk, os⟩ := s
    obtain ⟨hl, h⟩ := h
    have f1 := AutoSeq1.idx_int
    have c1 : (items.isEmpty || (1 : Int) == 1) = true := by simp
    wp_walk using wpAny_loadPart' hl
    repeat (first
      | (refine wpAny_ite_false (decide_eq_false (by decide)) ?_; wp_walk using wpAny_loadPart' hl)
      | (refine wpAny_ite_true (decide_eq_true (by rw [c1])) ?_; wp_walk using wpAny_loadPart' hl))
    exact ⟨_, rfl, h⟩
def rRep1 (K : PySem.W.Frag) : R2 := fun x y H Q => ∃ l xs, x = .ref l ∧ y = .int 1 ∧ SqT K H l xs ∧ Q (.ref l) H
theorem op_rep1 {X : Cx} : OpR X (binaryOp .Mult) (rRep1 X.K) := by
  intro pins s σ H x y v u Q I rx ry h
  obtain ⟨l, xs, rfl, rfl, hT, q⟩ := h
  cases rx
  obtain ⟨t, rfl⟩ := ry
  obtain ⟨its, r, ⟨⟨c1, d1, x1, s1⟩, ho, hc, n, hd⟩, hs⟩ := I.tuple hT
  simp only at hc hd
  subst hc hd
  exact wpAny_binaryOp_repeat_ref (T := "tuple") (U := "int") (by decide) ⟨_, ho, rfl⟩ (fun s' => typeIs_int s' 1 t)
    noFill_tuple_mul F.fills_int_mul F.slot_int_rmul repeat_tuple F.slot_int_index.lookup
    (call_meets F.slot_int_rmul (typeIs_int s 1 t) F.entry_int_rmul
      (F.args_int_rmul_2 _ _) (int_rmul_tuple 1 t l its.toArray n d1 s1)
      ⟨ho, rfl, ⟨_, ho, rfl⟩, call_meets F.slot_tuple_mul ⟨_, ho, rfl⟩
        F.entry_tuple_mul (F.args_tuple_mul_2 _ _) (mul_one l its.toArray n d1 s1 t) ⟨ho, ⟨.ref l, H, I, rfl, q⟩⟩⟩)
def rRepA (K : PySem.W.Frag) : R2 := fun x y H Q => rRep1 K x y H Q ∨ rRepT K x y H Q
theorem op_repTA {X : Cx} : OpR X (binaryOp .Mult) (rRepA X.K) := op_rep1.or op_repT
def gRepT : G2 := fun x y M => match x, y with
  | .tup xs, .int j => if j = 1 then some (.tup xs) else if (!xs.isEmpty && decide (2 ≤ j)) && (decide (j ≤ 1000) && decide (xs.length ≤ 1000)) then some (.tup (List.replicate j.toNat xs).flatten) else none
  | _, _ => none
theorem o_repT {K : PySem.W.Frag} : Op2 K (rRepA K) gRepT := by
  intro W M x y d v u Q sr rx ry hg k
  unfold gRepT at hg
  split at hg
  · rename_i xs j
    cases (show _ = _ from ry)
    obtain ⟨p, vs, rfl, h1, r1⟩ := tp_sq rx
    split at hg
    · rename_i hj
      cases hg
      subst hj
      exact .inl ⟨p, vs, rfl, rfl, h1, k W _ (.refl W) sr rx⟩
    · split at hg
      · rename_i h
        cases hg
        simp only [Bool.and_eq_true, decide_eq_true_eq] at h
        obtain ⟨⟨h2, h3⟩, h4, h5⟩ := h
        have hl := r1.len
        have hne : vs ≠ [] := by
          rintro rfl
          have : xs = [] := List.eq_nil_of_length_eq_zero hl
          subst this
          cases h2
        refine .inr ⟨p, j, vs, rfl, rfl, h1, hne, h3, h4, by omega, fun t nt => ?_⟩
        refine k _ _ (Ext.put nt) (sr.put nt) (.newTup sr nt (r1.rep _) ?_)
        rw [PyProof.Rows.lm_len_rep_flat]
        have a1 : j.toNat * vs.length ≤ 1000 * 1000 := Nat.mul_le_mul (by omega) (by omega)
        show _ ≤ 16777216
        omega
      · cases hg
  · cases hg
end PF
namespace PF
open PySem PySem.Spec PyProof.Rows L2
/-! the greatest of a list of alike data -/
def rMaxDt (K : PySem.W.Frag) : List V → Hp → VK → Prop := fun vs H Q => ∃ (a : Addr) (ys : List V) (d : PyData) (ds : List PyData), vs = [V.ref a] ∧ (SqL K H a ys ∨ SqT K H a ys) ∧ DpAll K H ys (d :: ds) ∧ PyData.canLayAll0 (d :: ds) = true ∧ PySem.W.AlikeAll (d :: ds) ∧ PyData.depthAll (d :: ds) ≤ 60 ∧
  ∀ (i : Nat) (v : V), ys[i]? = some v → (d :: ds)[i]? = some (PySem.W.maxD d ds) → Q v H
theorem cr_maxDt {X : Cx} (hc : X.calm = true) (hu : X.A.units + 64 < cLine) : CallR X (.builtin "max") (rMaxDt X.K) := by
  intro pins s σ H vs us Q I r h
  obtain ⟨a, ys, d, ds, rfl, hs, hd, hl0, hal, hdp, q⟩ := h
  rcases hs with hs | hs
  · obtain ⟨its, rv, hl, _⟩ := I.list hs
    rw [Vals.ref1 r]
    obtain ⟨as, hr⟩ := Dp.readsAll I (d :: ds) ys its hd rv
    refine PySem.W.max_list_data (I.ok.hd hc) hl.isList hr hal (by omega) fun i v h' tk bs hv hrd hk => ?_
    have hv' : its[i]? = some v := by simpa using hv
    have hlen := rv.length
    have hi : i < ys.length := by
      have := (List.getElem?_eq_some_iff.mp hv').1
      omega
    obtain ⟨u, hu1, ry⟩ := rv.get (List.getElem?_eq_getElem hi)
    have euv : u = v := Option.some.inj (hu1.symm.trans hv')
    subst euv
    refine ⟨ys[i], H, I.kept hk, ry, q i _ (List.getElem?_eq_getElem hi) ?_⟩
    obtain ⟨bs2, r2, hlt, hmem, _⟩ := PySem.W.readsAll_at hr i u hv'
    have r3 := PySem.W.reads_keeps hk r2
    have can : ∀ (l : List PyData) (z : PyData), PyData.canLayAll0 l = true → z ∈ l → z.canLay0 = true := by
      intro l
      induction l with
      | nil => intro z _ hz; cases hz
      | cons x l ih =>
        intro z hc hz
        have hc' : (x.canLay0 && PyData.canLayAll0 l) = true := by simpa [PyData.canLayAll0] using hc
        rw [Bool.and_eq_true] at hc'
        rcases List.mem_cons.mp hz with rfl | hz
        · exact hc'.1
        · exact ih z hc'.2 hz
    have c1 := can _ _ hl0 hmem
    have e2 := SeqAt.readOf_eq c1 r3
    have hmm : PySem.W.maxD d ds ∈ d :: ds := by
      have : ∀ (l : List PyData) (x : PyData), l.foldl (fun a y => if PySem.W.dataLt a y then y else a) x = x ∨ l.foldl (fun a y => if PySem.W.dataLt a y then y else a) x ∈ l := by
        intro l
        induction l with
        | nil => intro x; exact .inl rfl
        | cons y l ih =>
          intro x
          rw [List.foldl_cons]
          rcases ih (if PySem.W.dataLt x y then y else x) with h | h
          · split at h
            · exact .inr (by rw [if_pos (by assumption), h]; exact List.mem_cons_self)
            · rw [if_neg (by assumption)]; exact .inl h
          · exact .inr (List.mem_cons_of_mem _ h)
      unfold PySem.W.maxD
      rcases this ds d with h | h
      · rw [h]; exact List.mem_cons_self
      · exact List.mem_cons_of_mem _ h
    have e3 := SeqAt.readOf_eq (can _ _ hl0 hmm) hrd
    rw [e2] at e3
    rw [← e3, List.getElem?_eq_getElem hlt]
    rw [List.getD_eq_getElem?_getD, List.getElem?_eq_getElem hlt]
    rfl
  · obtain ⟨its, rv, hl, _⟩ := I.tuple hs
    rw [Vals.ref1 r]
    obtain ⟨as, hr⟩ := Dp.readsAll I (d :: ds) ys its hd rv
    refine PySem.W.max_tuple_data (I.ok.hd hc) hl hr hal (by omega) fun i v h' tk bs hv hrd hk => ?_
    have hv' : its[i]? = some v := by simpa using hv
    have hlen := rv.length
    have hi : i < ys.length := by
      have := (List.getElem?_eq_some_iff.mp hv').1
      omega
    obtain ⟨u, hu1, ry⟩ := rv.get (List.getElem?_eq_getElem hi)
    have euv : u = v := Option.some.inj (hu1.symm.trans hv')
    subst euv
    refine ⟨ys[i], H, I.kept hk, ry, q i _ (List.getElem?_eq_getElem hi) ?_⟩
    obtain ⟨bs2, r2, hlt, hmem, _⟩ := PySem.W.readsAll_at hr i u hv'
    have r3 := PySem.W.reads_keeps hk r2
    have can : ∀ (l : List PyData) (z : PyData), PyData.canLayAll0 l = true → z ∈ l → z.canLay0 = true := by
      intro l
      induction l with
      | nil => intro z _ hz; cases hz
      | cons x l ih =>
        intro z hc hz
        have hc' : (x.canLay0 && PyData.canLayAll0 l) = true := by simpa [PyData.canLayAll0] using hc
        rw [Bool.and_eq_true] at hc'
        rcases List.mem_cons.mp hz with rfl | hz
        · exact hc'.1
        · exact ih z hc'.2 hz
    have c1 := can _ _ hl0 hmem
    have e2 := SeqAt.readOf_eq c1 r3
    have hmm : PySem.W.maxD d ds ∈ d :: ds := by
      have : ∀ (l : List PyData) (x : PyData), l.foldl (fun a y => if PySem.W.dataLt a y then y else a) x = x ∨ l.foldl (fun a y => if PySem.W.dataLt a y then y else a) x ∈ l := by
        intro l
        induction l with
        | nil => intro x; exact .inl rfl
        | cons y l ih =>
          intro x
          rw [List.foldl_cons]
          rcases ih (if PySem.W.dataLt x y then y else x) with h | h
          · split at h
            · exact .inr (by rw [if_pos (by assumption), h]; exact List.mem_cons_self)
            · rw [if_neg (by assumption)]; exact .inl h
          · exact .inr (List.mem_cons_of_mem _ h)
      unfold PySem.W.maxD
      rcases this ds d with h | h
      · rw [h]; exact List.mem_cons_self
      · exact List.mem_cons_of_mem _ h
    have e3 := SeqAt.readOf_eq (can _ _ hl0 hmm) hrd
    rw [e2] at e3
    rw [← e3, List.getElem?_eq_getElem hlt]
    rw [List.getD_eq_getElem?_getD, List.getElem?_eq_getElem hlt]
    rfl
/-- max of x :: xs -/
def maxDd (x : D) (xs : List D) : D := xs.foldl (fun a y => if PySem.W.dataLt a.py y.py = true then y else a) x
theorem maxDd_py : ∀ (xs : List D) (x : D), (maxDd x xs).py = PySem.W.maxD x.py (D.pys xs)
  | [], x => by rw [D.pys]; rfl
  | y :: xs, x => by
    rw [D.pys]
    show (maxDd (if PySem.W.dataLt x.py y.py = true then y else x) xs).py = PySem.W.maxD (if PySem.W.dataLt x.py y.py then y.py else x.py) (D.pys xs)
    rw [maxDd_py xs]
    split <;> rfl
theorem maxDd_mem : ∀ (xs : List D) (x : D), maxDd x xs ∈ x :: xs
  | [], x => by simp [maxDd]
  | y :: xs, x => by
    show maxDd (if PySem.W.dataLt x.py y.py = true then y else x) xs ∈ _
    have := maxDd_mem xs (if PySem.W.dataLt x.py y.py = true then y else x)
    rcases List.mem_cons.mp this with h | h
    · rw [h]; split <;> simp
    · exact List.mem_cons_of_mem _ (List.mem_cons_of_mem _ h)
def gMax1 : GN := fun ds M => match ds with
  | [d] => (sqOf d M).bind fun l => match l with
    | x :: xs => if okAl (x :: xs) = true then some (maxDd x xs) else none
    | [] => none
  | _ => none
theorem o_max1 {K : PySem.W.Frag} : OpN K (rMaxDt K) gMax1 := by
  intro W M ds d vs Q sr r hg k
  unfold gMax1 at hg
  split at hg
  · obtain ⟨l, hx, hg⟩ := Option.bind_eq_some_iff.mp hg
    split at hg
    · rename_i x xs
      split at hg
      · rename_i ok
        cases hg
        unfold okAl at ok
        rw [Bool.and_eq_true, Bool.and_eq_true, Bool.and_eq_true] at ok
        obtain ⟨⟨o1, o2⟩, o3, o4⟩ := ok
        obtain ⟨v, rfl, r1⟩ := rl1 r
        obtain ⟨p, us, rfl, h1, r2⟩ := sq_sq sr r1 hx
        have hdp := dp_Dps 59 (x :: xs) us o2 r2
        obtain ⟨q1, q2⟩ := dps_can 59 (x :: xs) o2
        rw [D.pys] at hdp q1 q2
        refine ⟨p, us, x.py, D.pys xs, rfl, h1, hdp, q1, ⟨fun a ha b hb => ?_, fun a ha => ?_⟩, by omega, fun i v hv hi => ?_⟩
        · obtain ⟨a0, ha0, rfl⟩ := pys_mem (xs := x :: xs) (by rw [D.pys]; exact ha)
          obtain ⟨b0, hb0, rfl⟩ := pys_mem (xs := x :: xs) (by rw [D.pys]; exact hb)
          exact List.all_eq_true.mp (List.all_eq_true.mp o3 a0 ha0) b0 hb0
        · obtain ⟨a0, ha0, rfl⟩ := pys_mem (xs := x :: xs) (by rw [D.pys]; exact ha)
          have h4 := List.all_eq_true.mp o4 a0 ha0
          have h5 := nls_at o1 ha0
          cases a0 <;> simp [isNn, D.py, D.nl] at h4 h5 ⊢
        · obtain ⟨z, hz, hzp⟩ := pys_at (xs := x :: xs) (i := i) (by rw [D.pys]; exact hi)
          have hm := maxDd_mem xs x
          have e : z = maxDd x xs := py_inj _ _ (nls_at o1 (List.mem_of_getElem? hz)) (nls_at o1 hm) (by rw [hzp, maxDd_py])
          obtain ⟨v', hv', rz⟩ := r2.get hz
          have : v' = v := Option.some.inj (hv'.symm.trans hv)
          subst this
          rw [← e] at k
          exact k W v' (.refl W) sr rz
      · cases hg
    · cases hg
  · cases hg
/-! any, all of bools -/
def blsOf : List D → Option (List Bool)
  | [] => some []
  | .bl b :: r => (blsOf r).map (b :: ·)
  | _ => none
theorem blsOf_ok {K : PySem.W.Frag} {W : Wo} : ∀ {xs : List D} {bs : List Bool} {vs : List V}, blsOf xs = some bs → RpL K W xs vs → vs = bs.map V.bl
  | [], bs, vs, e, r => by
    cases (show some [] = some bs from e)
    cases (show _ = _ from r); rfl
  | .bl b :: xs, bs, vs, e, r => by
    obtain ⟨ms, h1, rfl⟩ := Option.map_eq_some_iff.mp (show (blsOf xs).map (b :: ·) = some bs from e)
    obtain ⟨v, us, rfl, r1, r2⟩ := r
    cases (show _ = _ from r1)
    rw [blsOf_ok h1 r2]; rfl
  | .non :: _, _, _, e, _ => nomatch (show (none : Option (List Bool)) = some _ from e)
  | .int _ :: _, _, _, e, _ => nomatch (show (none : Option (List Bool)) = some _ from e)
  | .str _ :: _, _, _, e, _ => nomatch (show (none : Option (List Bool)) = some _ from e)
  | .tup _ :: _, _, _, e, _ => nomatch (show (none : Option (List Bool)) = some _ from e)
  | .lst _ :: _, _, _, e, _ => nomatch (show (none : Option (List Bool)) = some _ from e)
  | .kst _ :: _, _, _, e, _ => nomatch (show (none : Option (List Bool)) = some _ from e)
  | .ref _ :: _, _, _, e, _ => nomatch (show (none : Option (List Bool)) = some _ from e)
def gBls (f : List Bool → Bool) : GN := fun ds M => match ds with
  | [d] => (lsOf d M).bind fun xs => (blsOf xs).map fun bs => .bl (f bs)
  | _ => none
theorem o_bls {K : PySem.W.Frag} {f : List Bool → Bool} : OpN K (fun vs H Q => ∃ (a : Addr) (bs : List Bool), vs = [V.ref a] ∧ SqL K H a (bs.map V.bl) ∧ Q (.bl (f bs)) H) (gBls f) := by
  intro W M ds d vs Q sr r hg k
  unfold gBls at hg
  split at hg
  · obtain ⟨xs, hx, hg⟩ := Option.bind_eq_some_iff.mp hg
    obtain ⟨ns, hn, hg⟩ := Option.map_eq_some_iff.mp hg
    subst hg
    obtain ⟨v, rfl, r1⟩ := rl1 r
    obtain ⟨p, us, rfl, h1, r2⟩ := ls_sq sr r1 hx
    refine ⟨p, ns, rfl, ?_, k W _ (.refl W) sr rfl⟩
    rw [← blsOf_ok hn r2]
    exact h1
  · cases hg
def gAny : GN := gBls fun bs => bs.any id
def gAll : GN := gBls fun bs => bs.all id
theorem o_any {K : PySem.W.Frag} : OpN K (rAny K) gAny := o_bls
theorem o_all {K : PySem.W.Frag} : OpN K (rAll K) gAll := o_bls
end PF
namespace PF
open PySem PySem.Spec PyProof.Rows L2
/-! x in a list, a tuple of data (at most 60 deep) -/
def rInX (K : PySem.W.Frag) (neg : Bool) : R2 := fun x y H Q => ∃ (d e : PyData) (ds : List PyData), Dp K H x d ∧ Dp K H y e ∧ (e = .list ds ∨ e = .tuple ds) ∧ d.canLay0 = true ∧ PyData.canLayAll0 ds = true ∧ d.depth ≤ 60 ∧
  Q (.bl (if neg = true then !(ds.any fun z => PyData.eqv z d) else ds.any fun z => PyData.eqv z d)) H
theorem op_inX {X : Cx} (hu : X.A.units + 64 < cLine) : OpR X (compareOp .In) (rInX X.K false) := by
  intro pins s σ H x y v u Q I rx ry h
  obtain ⟨d, e, ds, hd, he, hk, c1, c2, c3, q⟩ := h
  obtain ⟨as, r1⟩ := Dp.reads I d x v hd rx
  obtain ⟨bs, r2⟩ := Dp.reads I e y u he ry
  have room : X.A.units + 1 + min (PyData.depthAll ds) d.depth < cLine := by
    have := Nat.min_le_right (PyData.depthAll ds) d.depth
    omega
  rcases hk with rfl | rfl
  · exact SeqAt.in_list_reads r2 r1 c2 c1 room ⟨.bl _, H, I, rfl, q⟩
  · exact SeqAt.in_tuple_reads r2 r1 c2 c1 room ⟨.bl _, H, I, rfl, q⟩
theorem op_notInX {X : Cx} (hu : X.A.units + 64 < cLine) : OpR X (compareOp .NotIn) (rInX X.K true) := by
  intro pins s σ H x y v u Q I rx ry h
  obtain ⟨d, e, ds, hd, he, hk, c1, c2, c3, q⟩ := h
  obtain ⟨as, r1⟩ := Dp.reads I d x v hd rx
  obtain ⟨bs, r2⟩ := Dp.reads I e y u he ry
  have room : X.A.units + 1 + min (PyData.depthAll ds) d.depth < cLine := by
    have := Nat.min_le_right (PyData.depthAll ds) d.depth
    omega
  rcases hk with rfl | rfl
  · exact SeqAt.notIn_list_reads r2 r1 c2 c1 room ⟨.bl _, H, I, rfl, q⟩
  · exact SeqAt.notIn_tuple_reads r2 r1 c2 c1 room ⟨.bl _, H, I, rfl, q⟩
def seqItems : D → Option (List D)
  | .lst xs => some xs
  | .kst xs => some xs
  | .tup xs => some xs
  | _ => none
def gInX : G2B := fun x y M => (x.val M).bind fun a => (y.val M).bind fun b => if (a.dp 60 && b.dp 60) = true then (seqItems b).map fun ys => ys.any fun z => PyData.eqv z.py a.py else none
def gNotInX : G2B := fun x y M => (gInX x y M).map (! ·)
theorem pys_any (p : PyData → Bool) : ∀ ys : List D, (D.pys ys).any p = ys.any fun z => p z.py
  | [] => by rw [D.pys]; rfl
  | y :: ys => by rw [D.pys, List.any_cons, List.any_cons, pys_any p ys]
section
variable {K : PySem.W.Frag} {W : Wo} {M : Mem}
theorem inX_ok {x y : D} {v u : V} {t : Bool} (sr : SR K W M) (rx : Rp K W x v) (ry : Rp K W y u) (h : gInX x y M = some t) :
    ∃ (d e : PyData) (ds : List PyData), Dp K W.H v d ∧ Dp K W.H u e ∧ (e = .list ds ∨ e = .tuple ds) ∧ d.canLay0 = true ∧ PyData.canLayAll0 ds = true ∧ d.depth ≤ 60 ∧ (ds.any fun z => PyData.eqv z d) = t := by
  obtain ⟨a, ha, h⟩ := Option.bind_eq_some_iff.mp h
  obtain ⟨b, hb, h⟩ := Option.bind_eq_some_iff.mp h
  split at h
  · rename_i ok
    rw [Bool.and_eq_true] at ok
    obtain ⟨ys, hy, h⟩ := Option.map_eq_some_iff.mp h
    obtain ⟨l1, l2⟩ := dp_can 60 a ok.1
    have d2 := val_Rp sr ry hb ok.2
    have shape : ∀ zs : List D, D.dps 59 zs = true → PyData.canLayAll0 (D.pys zs) = true := fun zs hz => (dps_can 59 zs hz).1
    have ok2 := ok.2
    refine ⟨a.py, b.py, D.pys ys, val_Rp sr rx ha ok.1, d2, ?_, l1, ?_, l2, by rw [pys_any]; exact h⟩
    · cases b <;> cases hy
      · exact .inr (by rw [D.py])
      · exact .inl (by rw [D.py])
      · exact .inl (by rw [D.py])
    · cases b <;> cases hy <;> (rw [D.dp, Bool.and_eq_true] at ok2; exact shape _ ok2.2)
  · cases h
theorem o_inX : Op2 K (rInX K false) (gB gInX) := by
  intro W M x y d v u Q sr rx ry hg k
  obtain ⟨t, ht, rfl⟩ := Option.map_eq_some_iff.mp hg
  obtain ⟨a, e, ds, h1, h2, h3, h4, h5, h6, h7⟩ := inX_ok sr rx ry ht
  exact ⟨a, e, ds, h1, h2, h3, h4, h5, h6, by
    rw [if_neg Bool.false_ne_true, h7]
    exact k W _ (.refl W) sr rfl⟩
theorem o_notInX : Op2 K (rInX K true) (gB gNotInX) := by
  intro W M x y d v u Q sr rx ry hg k
  obtain ⟨t, ht, rfl⟩ := Option.map_eq_some_iff.mp hg
  obtain ⟨t', ht', rfl⟩ := Option.map_eq_some_iff.mp ht
  obtain ⟨a, e, ds, h1, h2, h3, h4, h5, h6, h7⟩ := inX_ok sr rx ry ht'
  exact ⟨a, e, ds, h1, h2, h3, h4, h5, h6, by
    rw [if_pos rfl, h7]
    exact k W _ (.refl W) sr rfl⟩
end
end PF
namespace PF
open PySem PySem.Spec PyProof.Rows L2
/-! sorted, of ints fewer than 64 -/
def sortI (ns : List Int) : List Int := ns.mergeSort fun a b => decide (a ≤ b)
theorem sort_uniq : ∀ {a b : List Int}, a.Perm b → a.Pairwise (· ≤ ·) → b.Pairwise (· ≤ ·) → a = b
  | [], b, h, _, _ => (List.Perm.nil_eq h)
  | x :: a, [], h, _, _ => by have := h.length_eq; simp at this
  | x :: a, y :: b, h, ha, hb => by
    have hx : x ∈ y :: b := h.subset (by simp)
    have hy : y ∈ x :: a := h.symm.subset (by simp)
    have e : x = y := by
      rcases List.mem_cons.mp hx with e | hx
      · exact e
      · rcases List.mem_cons.mp hy with e | hy
        · exact e.symm
        · have h1 := List.rel_of_pairwise_cons ha hy
          have h2 := List.rel_of_pairwise_cons hb hx
          omega
    subst e
    rw [sort_uniq (List.Perm.cons_inv h) ha.of_cons hb.of_cons]
theorem sortI_perm (ns : List Int) : (sortI ns).Perm ns := List.mergeSort_perm _ _
theorem sortI_le (ns : List Int) : (sortI ns).Pairwise (· ≤ ·) := by
  have := List.pairwise_mergeSort (le := fun a b : Int => decide (a ≤ b)) (fun a b c h1 h2 => by simp at *; omega) (fun a b => by simp; omega) ns
  exact this.imp fun h => of_decide_eq_true h
def gSorted : GNN := fun ds M => match ds with
  | [d] => (lsOf d M).bind fun xs => (intsOf xs).bind fun ns => if ns.length < 64 then some ((sortI ns).map D.int) else none
  | _ => none
theorem rpl_ints {K : PySem.W.Frag} {W : Wo} : ∀ ns : List Int, RpL K W (ns.map D.int) (ns.map V.int)
  | [] => rfl
  | n :: ns => ⟨.int n, _, rfl, rfl, rpl_ints ns⟩
theorem o_sorted {K : PySem.W.Frag} : OpNN K (rSorted K) gSorted := by
  intro W M ds xs vs Q sr r hg k
  unfold gSorted at hg
  split at hg
  · obtain ⟨l, hl, hg⟩ := Option.bind_eq_some_iff.mp hg
    obtain ⟨ns, hn, hg⟩ := Option.bind_eq_some_iff.mp hg
    split at hg
    · rename_i h64
      cases hg
      obtain ⟨v, rfl, r1⟩ := rl1 r
      obtain ⟨p, us, rfl, h1, r2⟩ := ls_sq sr r1 hl
      have e := intsOf_ok hn r2
      subst e
      refine ⟨p, ns, rfl, h1, h64, fun ns' q hp hs hq => ?_⟩
      have e := sort_uniq (hp.trans (sortI_perm ns).symm) hs (sortI_le ns)
      subst e
      exact k q _ hq (rpl_ints _) (by rw [List.length_map, (sortI_perm ns).length_eq]; show _ ≤ 16777216; omega)
    · cases hg
  · cases hg
end PF
namespace PF
open PySem PySem.Spec PyProof.Rows L2
/-! sum of a list or a tuple of whole numbers -/
theorem sumT_raw {prog : Program} {w : World} {A : Around} {E : Value → Shared → Prop} {s : Shared} {t : Addr} {vs : List Value} {ns : List Int} {Q : Value → Shared → Prop} (hh : A.handled = none) (ht : s.heap.IsTuple t vs.toArray) (hi : IntsAre vs ns)
    (h : ∀ h' tk t', (∀ b o, s.heap.get? b = some o → h'.get? b = some o) → Q (.int ns.sum t') { s with heap := h', toks := tk }) : wpAny (model prog w) A (call (.builtin "sum") [.ref t]) Q E s := by
  obtain ⟨xs, hx⟩ := hi.allInts.items
  have hn : numsOf (intItems xs).toList = ns := by rw [← hx]; exact hi.numsOf
  rw [nums_intItems] at hn
  rw [hx] at ht
  refine PySem.W.ktm_sumG hh ht fun h' tk t' hk => ?_
  have := h h' tk t' hk
  rw [preSum_eq, List.take_of_length_le (by simp), hn]
  exact this
def rSumA (K : PySem.W.Frag) : List V → Hp → VK → Prop := fun vs H Q => ∃ (a : Addr) (ns : List Int), vs = [V.ref a] ∧ (SqL K H a (ns.map V.int) ∨ SqT K H a (ns.map V.int)) ∧ Q (.int ns.sum) H
theorem cr_sumA {X : Cx} (hc : X.calm = true) : CallR X (.builtin "sum") (rSumA X.K) := by
  intro pins s σ H vs us Q I r h
  obtain ⟨a, ns, rfl, hs, q⟩ := h
  rcases hs with hs | hs
  · obtain ⟨its, rv, hl, _⟩ := I.list hs
    rw [Vals.ref1 r]
    exact sum_raw (I.ok.hd hc) hl.isList rv.ints fun h' tk t' hk => ⟨.int _, H, I.kept hk, ⟨_, rfl⟩, q⟩
  · obtain ⟨its, rv, hl, _⟩ := I.tuple hs
    rw [Vals.ref1 r]
    exact sumT_raw (I.ok.hd hc) hl rv.ints fun h' tk t' hk => ⟨.int _, H, I.kept hk, ⟨_, rfl⟩, q⟩
def gSumA : GN := fun ds M => match ds with
  | [d] => (sqOf d M).bind fun xs => (intsOf xs).map fun ns => .int ns.sum
  | _ => none
theorem o_sumA {K : PySem.W.Frag} : OpN K (rSumA K) gSumA := by
  intro W M ds d vs Q sr r hg k
  unfold gSumA at hg
  split at hg
  · obtain ⟨xs, hx, hg⟩ := Option.bind_eq_some_iff.mp hg
    obtain ⟨ns, hn, hg⟩ := Option.map_eq_some_iff.mp hg
    subst hg
    obtain ⟨v, rfl, r1⟩ := rl1 r
    obtain ⟨p, us, rfl, h1, r2⟩ := sq_sq sr r1 hx
    refine ⟨p, ns, rfl, ?_, k W _ (.refl W) sr rfl⟩
    rw [← intsOf_ok hn r2]
    exact h1
  · cases hg
end PF
namespace PF
open PySem PySem.Spec PyProof.Rows L2
/-! two for in one comprehension; the inner one walks a range -/
def JFr (J : It) (xs : List D) : Prop := xs.length ≤ LINE ∧ ∀ (H : Hp) (i : Nat), (∀ d, xs[i]? = some d → J.go i H ∧ ∀ x H', J.yld i H x H' → H' = H ∧ ∀ K W, Rp K W d x) ∧ (xs.length ≤ i → J.stop i H)
def liftR (K : PySem.W.Frag) (f : FI) : TI := fun σ H R => ∃ W ρ M, W.H = H ∧ SR K W M ∧ Sl K W ρ σ ∧ ∃ xs k M', f ρ M = some ((xs, k), M') ∧
  ∀ W' J, Ext W W' → SR K W' M' → JFr J xs → R J W'.H
abbrev PFR (X : Cx) (tg e : Expr) (f : FI) : Prop := PI X tg e (liftR X.K f)
theorem jfr_rg {lo : Int} {n : Nat} (hn : n ≤ LINE) : JFr (Itr lo n) (rgD lo n) := by
  have hl : (rgD lo n).length = n := by unfold rgD; simp
  refine ⟨by rw [hl]; exact hn, fun H i => ?_⟩
  refine ⟨fun d hd => ?_, fun h => by rw [hl] at h; exact h⟩
  have hi : i < n := by rw [← hl]; exact (List.getElem?_eq_some_iff.mp hd).1
  have hd' : d = D.int (lo + i) := by
    unfold rgD at hd
    rw [List.getElem?_map, List.getElem?_range hi] at hd
    cases hd; rfl
  subst hd'
  exact ⟨hi, fun x H' hx => ⟨hx.1, fun K W => hx.2⟩⟩
section
variable {X : Cx} {tg a : Expr}
theorem pfr_rg1 {f : FA} {p pos : Pos} (hg : Gl X "range") (hm : X.mg "range" = none) (ha : PFA X [a] f) (hs : starEach [a] X.env = [(false, eval a X.env)] := by rfl) : PFR X tg (.Call (.Name "range" p) [a] [] pos) (fiRg1 f) := pi_weak (pi_range1 hg hm ha hs) fun σ H R => by
  rintro ⟨W, ρ, M, rfl, sr, sl, xs, kk, M', hf, k⟩
  obtain ⟨⟨x, M1⟩, hx, hf⟩ := Option.bind_eq_some_iff.mp hf
  dsimp only at hf
  split at hf
  · split at hf
    · rename_i hr
      cases hf
      replace hr := okR_ok hr
      refine ⟨W, ρ, M, rfl, sr, sl, _, _, hx, fun W1 v e1 s1 r1 => ?_⟩
      obtain ⟨v1, r, rfl, q1, q2⟩ := r1
      cases (show _ = _ from q1); cases (show _ = _ from q2)
      exact ⟨_, rfl, hr.2.1.1, hr.2.1.2, k W1 _ e1 s1 (jfr_rg (by show _ ≤ 16777216; omega))⟩
    · cases hf
  · cases hf
theorem pfr_rg2 {b : Expr} {f : FA} {p pos : Pos} (hg : Gl X "range") (hm : X.mg "range" = none) (ha : PFA X [a, b] f) (hs : starEach [a, b] X.env = [(false, eval a X.env), (false, eval b X.env)] := by rfl) (hs2 : starEach [b] X.env = [(false, eval b X.env)] := by rfl) :
    PFR X tg (.Call (.Name "range" p) [a, b] [] pos) (fiRg2 f) := pi_weak (pi_range2 hg hm ha hs hs2) fun σ H R => by
  rintro ⟨W, ρ, M, rfl, sr, sl, xs, kk, M', hf, k⟩
  obtain ⟨⟨x, M1⟩, hx, hf⟩ := Option.bind_eq_some_iff.mp hf
  dsimp only at hf
  split at hf
  · split at hf
    · rename_i hr
      cases hf
      replace hr := okR_ok hr
      refine ⟨W, ρ, M, rfl, sr, sl, _, _, hx, fun W1 v e1 s1 r1 => ?_⟩
      obtain ⟨v1, r, rfl, q1, v2, r', rfl, q2, q3⟩ := r1
      cases (show _ = _ from q1); cases (show _ = _ from q2); cases (show _ = _ from q3)
      exact ⟨_, _, rfl, ⟨hr.1.1, hr.1.2, hr.2.1.1, hr.2.1.2⟩, k W1 _ e1 s1 (jfr_rg (by show _ ≤ 16777216; omega))⟩
    · cases hf
  · cases hf
end
def lc2Loop (c : Mem → Bool) (t : FG) (ft : FT) (fi1 : FI) (vs1 : List Nat) (t1 : FG) (ft1 : FT) (fe : FE) (ρ : Rho) : List D → List D → Mem → Option (List D × Mem)
  | [], acc, M => if c M = true then some (acc, M) else none
  | d :: ds, acc, M => if c M = true then (t d ρ).bind fun ρ' => (ft ρ' M).bind fun b =>
      if b.1 = true then (fi1 ρ' b.2).bind fun a => (lcLoop (chk a.1.2 a.1.1) t1 ft1 fe (wipeR ρ' vs1) a.1.1 acc a.2).bind fun y => lc2Loop c t ft fi1 vs1 t1 ft1 fe ρ ds y.1 y.2
      else lc2Loop c t ft fi1 vs1 t1 ft1 fe ρ ds acc b.2
    else none
/-- [elt for t in fi if ft for t1 in fi1 if ft1] -/
def fLC2 (vs vs1 : List Nat) (fi : FI) (t : FG) (ft : FT) (fi1 : FI) (t1 : FG) (ft1 : FT) (fe : FE) : FA := fun ρ M => (fi ρ M).bind fun a => (lc2Loop (chk a.1.2 a.1.1) t ft fi1 vs1 t1 ft1 fe (wipeR ρ vs) a.1.1 [] a.2).bind fun y => if y.1.length ≤ LINE then some y else none
theorem lcLoop_len {c : Mem → Bool} {t : FG} {ft : FT} {fe : FE} {ρ : Rho} : ∀ (ds acc : List D) (M : Mem) (out : List D) (M' : Mem), lcLoop c t ft fe ρ ds acc M = some (out, M') → acc.length ≤ out.length
  | [], acc, M, out, M', h => by
    unfold lcLoop at h
    split at h
    · cases h; exact Nat.le_refl _
    · cases h
  | d :: ds, acc, M, out, M', h => by
    unfold lcLoop at h
    split at h
    · obtain ⟨ρ', _, h⟩ := Option.bind_eq_some_iff.mp h
      obtain ⟨b, _, h⟩ := Option.bind_eq_some_iff.mp h
      split at h
      · obtain ⟨y, _, h⟩ := Option.bind_eq_some_iff.mp h
        have := lcLoop_len ds _ _ _ _ h
        simp at this; omega
      · exact lcLoop_len ds _ _ _ _ h
    · cases h
theorem lc2Loop_len {c : Mem → Bool} {t : FG} {ft : FT} {fi1 : FI} {vs1 : List Nat} {t1 : FG} {ft1 : FT} {fe : FE} {ρ : Rho} : ∀ (ds acc : List D) (M : Mem) (out : List D) (M' : Mem), lc2Loop c t ft fi1 vs1 t1 ft1 fe ρ ds acc M = some (out, M') → acc.length ≤ out.length
  | [], acc, M, out, M', h => by
    unfold lc2Loop at h
    split at h
    · cases h; exact Nat.le_refl _
    · cases h
  | d :: ds, acc, M, out, M', h => by
    unfold lc2Loop at h
    split at h
    · obtain ⟨ρ', _, h⟩ := Option.bind_eq_some_iff.mp h
      obtain ⟨b, _, h⟩ := Option.bind_eq_some_iff.mp h
      split at h
      · obtain ⟨a, _, h⟩ := Option.bind_eq_some_iff.mp h
        obtain ⟨y, hy, h⟩ := Option.bind_eq_some_iff.mp h
        exact Nat.le_trans (lcLoop_len _ _ _ _ _ hy) (lc2Loop_len ds _ _ _ _ h)
      · exact lc2Loop_len ds _ _ _ _ h
    · cases h
theorem Sl.minus {K : PySem.W.Frag} {W : Wo} {ρ : Rho} {σ : L2.St} {p : Addr} (hb : W.bad p) (hn : p ∉ W.as) (h : Sl K W ρ σ) : Sl K (W.minus p) ρ σ := by
  refine ⟨h.len, fun i d hd => ?_⟩
  obtain ⟨v, hv, r⟩ := h.at_ i d hd
  exact ⟨v, hv, Rp.minus hb hn d v r⟩
theorem lc2_lift {K : PySem.W.Frag} {fi fi1 : FI} {t t1 : FG} {ft ft1 : FT} {fe : FE} {vs vs1 : List Nat} : ∀ σ H Q, liftN K (fLC2 vs vs1 fi t ft fi1 t1 ft1 fe) σ H Q → tLc2 (liftI K fi) (liftG K vs t) (liftT K ft) (liftR K fi1) (liftG K vs1 t1) (liftT K ft1) (liftE K fe) vs vs1 σ H Q := by
  rintro σ H Q ⟨W, ρ, M, rfl, sr, sl, out, M', hf, k⟩
  obtain ⟨⟨⟨xs, kk⟩, M1⟩, hi, hf⟩ := Option.bind_eq_some_iff.mp hf
  obtain ⟨⟨o1, o2⟩, hf, hz⟩ := Option.bind_eq_some_iff.mp hf
  dsimp only at hz hf
  by_cases hout : o1.length ≤ LINE
  case neg => rw [if_neg hout] at hz; cases hz
  rw [if_pos hout] at hz
  cases hz
  refine ⟨W, ρ, M, rfl, sr, sl, xs, kk, M1, hi, fun W1 J e1 s1 jo D hD => ?_⟩
  refine ⟨fun i m H' => ∃ W2 Mt acc ws, H' = upd W2.H D (.lst ws) ∧ W2.H D = none ∧ Ext W1 W2 ∧ SR K W2 Mt ∧ RpL K W2 acc ws ∧ i ≤ xs.length ∧ m = xs.length - i ∧
    lc2Loop (chk kk xs) t ft fi1 vs1 t1 ft1 fe (wipeR ρ vs) (xs.drop i) acc Mt = some (out, M'), ⟨xs.length, W1, M1, [], [], rfl, hD, .refl W1, s1, rfl, Nat.zero_le _, rfl, hf⟩, ?_⟩
  rintro i m H' ⟨W2, Mt, acc, ws, rfl, hD2, e2, s2, racc, hil, rfl, hw⟩
  have eP : Ext W2 (W2.plus D (.lst ws)) := Ext.plus hD2
  have sP : SR K (W2.plus D (.lst ws)) Mt := s2.plus hD2
  by_cases hlt : i < xs.length
  · right
    have hd : xs.drop i = xs[i] :: xs.drop (i + 1) := List.drop_eq_getElem_cons hlt
    rw [hd] at hw
    unfold lc2Loop at hw
    split at hw
    · rename_i hck
      obtain ⟨ρ', ht, hw⟩ := Option.bind_eq_some_iff.mp hw
      obtain ⟨⟨b, M3⟩, hb, hw⟩ := Option.bind_eq_some_iff.mp hw
      obtain ⟨hgo, hy⟩ := (jo.2 _ Mt (e2.trans eP) sP hck i).1 xs[i] (by simp [hlt])
      refine ⟨hgo, fun H' => ∃ W4 Mt acc ws, H' = upd W4.H D (.lst ws) ∧ W4.H D = none ∧ Ext W1 W4 ∧ SR K W4 Mt ∧ RpL K W4 acc ws ∧
        lc2Loop (chk kk xs) t ft fi1 vs1 t1 ft1 fe (wipeR ρ vs) (xs.drop (i + 1)) acc Mt = some (out, M'), ?_, fun x H' hx => ?_⟩
      · rintro H' ⟨W4, Mt', acc', ws', h1, h2, h3, h4, h5, h7⟩
        exact ⟨xs.length - (i + 1), by omega, W4, Mt', acc', ws', h1, h2, h3, h4, h5, hlt, rfl, h7⟩
      · obtain ⟨rfl, rx⟩ := hy x H' hx
        have slW : Sl K (W2.plus D (.lst ws)) (wipeR ρ vs) (L2.wipe σ vs) := (sl.ext (e1.trans (e2.trans eP)) sr.sub).wipe vs
        refine ⟨_, wipeR ρ vs, Mt, xs[i], rfl, sP, slW, rx, ρ', ht, fun W3 σ3 e3 s3 l3 w3 => ⟨by rw [w3, wipe_idem], ?_⟩⟩
        refine ⟨W3, ρ', Mt, rfl, s3, l3, b, M3, hb, fun W4 e4 s4 => ?_⟩
        cases b with
        | false =>
          rw [if_neg Bool.false_ne_true] at hw ⊢
          obtain ⟨e5, b5, n5, h5⟩ := Ext.unplus s2 hD2 (e3.trans e4)
          refine ⟨W4.minus D, M3, acc, ws, ?_, minus_self, e2.trans e5, s4.minus b5 n5, (racc.ext e5 s2.sub), hw⟩
          funext a
          by_cases z : a = D
          · subst z; rw [upd_same]; exact h5
          · rw [upd_ne z]; exact (minus_H z).symm
        | true =>
          rw [if_pos rfl] at hw ⊢
          obtain ⟨⟨⟨xs1, k1⟩, M5⟩, hi1, hw⟩ := Option.bind_eq_some_iff.mp hw
          obtain ⟨⟨acc2, M6⟩, hin, hw⟩ := Option.bind_eq_some_iff.mp hw
          dsimp only at hin hw
          have hlim : acc2.length ≤ LINE := Nat.le_trans (lc2Loop_len _ _ _ _ _ hw) hout
          refine ⟨W4, ρ', M3, rfl, s4, l3.ext e4 s3.sub, xs1, k1, M5, hi1, fun W5 J1 e5 s5 jf => ?_⟩
          obtain ⟨e6, b6, n6, h6⟩ := Ext.unplus s2 hD2 ((e3.trans e4).trans e5)
          have l5 : Sl K (W5.minus D) ρ' σ3 := Sl.minus b6 n6 (l3.ext (e4.trans e5) s3.sub)
          have s5m : SR K (W5.minus D) M5 := s5.minus b6 n6
          have hW5 : W5.H = upd (W5.minus D).H D (.lst ws) := by
            funext a
            by_cases z : a = D
            · subst z; rw [upd_same]; exact h6
            · rw [upd_ne z]; exact (minus_H z).symm
          refine ⟨fun j k H' => ∃ W6 Mt acc ws, H' = upd W6.H D (.lst ws) ∧ W6.H D = none ∧ Ext (W5.minus D) W6 ∧ SR K W6 Mt ∧ RpL K W6 acc ws ∧ j ≤ xs1.length ∧ k = xs1.length - j ∧
            lcLoop (chk k1 xs1) t1 ft1 fe (wipeR ρ' vs1) (xs1.drop j) acc Mt = some (acc2, M6), ⟨xs1.length, W5.minus D, M5, acc, ws, hW5, minus_self, .refl _, s5m, racc.ext e6 s2.sub, Nat.zero_le _, rfl, hin⟩, ?_⟩
          rintro j k' H' ⟨W6, Mt6, acc6, ws6, rfl, hD6, e7, s6, racc6, hjl, rfl, hw6⟩
          have eP6 : Ext W6 (W6.plus D (.lst ws6)) := Ext.plus hD6
          have sP6 : SR K (W6.plus D (.lst ws6)) Mt6 := s6.plus hD6
          by_cases hlt1 : j < xs1.length
          · right
            have hd1 : xs1.drop j = xs1[j] :: xs1.drop (j + 1) := List.drop_eq_getElem_cons hlt1
            rw [hd1] at hw6
            unfold lcLoop at hw6
            split at hw6
            · obtain ⟨ρ2, ht1, hw6⟩ := Option.bind_eq_some_iff.mp hw6
              obtain ⟨⟨b1, M7⟩, hb1, hw6⟩ := Option.bind_eq_some_iff.mp hw6
              obtain ⟨hgo1, hy1⟩ := (jf.2 (W6.plus D (.lst ws6)).H j).1 xs1[j] (by simp [hlt1])
              refine ⟨hgo1, fun H' => ∃ W8 Mt acc ws, H' = upd W8.H D (.lst ws) ∧ W8.H D = none ∧ Ext (W5.minus D) W8 ∧ SR K W8 Mt ∧ RpL K W8 acc ws ∧
                lcLoop (chk k1 xs1) t1 ft1 fe (wipeR ρ' vs1) (xs1.drop (j + 1)) acc Mt = some (acc2, M6), ?_, fun x1 H' hx1 => ?_⟩
              · rintro H' ⟨W8, Mt', acc', ws', h1, h2, h3, h4, h5, h7⟩
                exact ⟨xs1.length - (j + 1), by omega, W8, Mt', acc', ws', h1, h2, h3, h4, h5, hlt1, rfl, h7⟩
              · obtain ⟨rfl, rx1⟩ := hy1 x1 H' hx1
                have slW1 : Sl K (W6.plus D (.lst ws6)) (wipeR ρ' vs1) (L2.wipe σ3 vs1) := (l5.ext (e7.trans eP6) s5m.sub).wipe vs1
                refine ⟨_, wipeR ρ' vs1, Mt6, xs1[j], rfl, sP6, slW1, rx1 K _, ρ2, ht1, fun W7 σ7 e8 s7 l7 w7 => ⟨by rw [w7, wipe_idem], ?_⟩⟩
                refine ⟨W7, ρ2, Mt6, rfl, s7, l7, b1, M7, hb1, fun W8 e9 s8 => ?_⟩
                cases b1 with
                | false =>
                  rw [if_neg Bool.false_ne_true] at hw6 ⊢
                  obtain ⟨e10, b10, n10, h10⟩ := Ext.unplus s6 hD6 (e8.trans e9)
                  refine ⟨W8.minus D, M7, acc6, ws6, ?_, minus_self, e7.trans e10, s8.minus b10 n10, (racc6.ext e10 s6.sub), hw6⟩
                  funext a
                  by_cases z : a = D
                  · subst z; rw [upd_same]; exact h10
                  · rw [upd_ne z]; exact (minus_H z).symm
                | true =>
                  rw [if_pos rfl] at hw6 ⊢
                  obtain ⟨⟨y, M9⟩, hye, hw6⟩ := Option.bind_eq_some_iff.mp hw6
                  refine ⟨W8, ρ2, M7, rfl, s8, l7.ext e9 s7.sub, y, M9, hye, fun W9 v e11 s9 r9 => ?_⟩
                  obtain ⟨e12, b12, n12, h12⟩ := Ext.unplus s6 hD6 ((e8.trans e9).trans e11)
                  have hz : ws6.length < LINE := by
                    have q := lcLoop_len _ _ _ _ _ hw6
                    rw [List.length_append, List.length_singleton] at q
                    have := racc6.len
                    omega
                  refine ⟨ws6, h12, by rw [line_eq]; exact hz, W9.minus D, M9, acc6 ++ [y], ws6 ++ [v], ?_, minus_self, e7.trans e12, s9.minus b12 n12, (racc6.ext e12 s6.sub).append (.one (r9.minus b12 n12)), hw6⟩
                  funext a
                  by_cases z : a = D
                  · subst z; rw [upd_same, upd_same]
                  · rw [upd_ne z, upd_ne z]; exact (minus_H z).symm
            · cases hw6
          · left
            have e : j = xs1.length := by omega
            subst e
            rw [List.drop_length] at hw6
            unfold lcLoop at hw6
            split at hw6
            · cases hw6
              exact ⟨(jf.2 _ xs1.length).2 (Nat.le_refl _), W6, M6, acc2, ws6, rfl, hD6, e2.trans (e6.trans e7), s6, racc6, hw⟩
            · cases hw6
    · cases hw
  · left
    have e : i = xs.length := by omega
    subst e
    rw [List.drop_length] at hw
    unfold lc2Loop at hw
    split at hw
    · rename_i hck
      cases hw
      refine ⟨(jo.2 _ _ (e2.trans eP) sP hck xs.length).2 (Nat.le_refl _), ?_⟩
      exact k W2 D ws (e1.trans e2) s2 hD2 racc (by have := racc.len; omega)
    · cases hw
section
variable {X : Cx} {elt tg iter tg1 iter1 : Expr} {ifs ifs1 : List Expr} {scope : Scope} {own : List (Str × Nat)} {vs1 : List Nat} {pos : Pos} {fi fi1 : FI} {t t1 : FG} {ft ft1 : FT} {fe : FE}
theorem pfn_lc2 (hc : X.calm = true) (hN : X.N.Nodup) (hi : PFI X tg iter fi) (ok : BlkOk X.N X.env.scope scope own) (hv : ∀ i ∈ vs1, i ∈ own.map (·.2))
    (hg : ∀ (s : Shared) (H : Hp) (C : Addr) (cl : List (Str × Addr)) (fp : List Addr), PFG (X.blk s H scope (compEnvC scope cl C X.env) fp) (own.map (·.2)) tg t) (ht : ∀ (s : Shared) (H : Hp) (C : Addr) (cl : List (Str × Addr)) (fp : List Addr), PFTs (X.blk s H scope (compEnvC scope cl C X.env) fp) ifs ft)
    (hi1 : ∀ (s : Shared) (H : Hp) (C : Addr) (cl : List (Str × Addr)) (fp : List Addr), PFR (X.blk s H scope (compEnvC scope cl C X.env) fp) tg1 iter1 fi1)
    (hg1 : ∀ (s : Shared) (H : Hp) (C : Addr) (cl : List (Str × Addr)) (fp : List Addr), PFG (X.blk s H scope (compEnvC scope cl C X.env) fp) vs1 tg1 t1) (ht1 : ∀ (s : Shared) (H : Hp) (C : Addr) (cl : List (Str × Addr)) (fp : List Addr), PFTs (X.blk s H scope (compEnvC scope cl C X.env) fp) ifs1 ft1)
    (he : ∀ (s : Shared) (H : Hp) (C : Addr) (cl : List (Str × Addr)) (fp : List Addr), PFE (X.blk s H scope (compEnvC scope cl C X.env) fp) elt fe) (hs : ∀ x, foldedSetIterable iter X.env x = pure x := by intro _; rfl) (hs1 : ∀ env x, foldedSetIterable iter1 env x = pure x := by intro _ _; rfl) :
    PFN X (.ListComp elt [⟨tg, iter, ifs, 0⟩, ⟨tg1, iter1, ifs1, 0⟩] scope pos) (fLC2 (own.map (·.2)) vs1 fi t ft fi1 t1 ft1 fe) := pe_weak (pe_lc2 hc hN hi ok hv hg ht hi1 hg1 ht1 he hs hs1) lc2_lift
theorem pfs_setLc2F {i : Nat} {y : Str} {py spos : Pos} (hc : X.calm = true) (hN : X.N.Nodup) (hy : X.N[i]? = some y) (hyl : X.env.scope.names.lookup y = some .local)
    (hsw : swapsWith (.ListComp elt [⟨tg, iter, ifs, 0⟩, ⟨tg1, iter1, ifs1, 0⟩] scope pos) (some (.Name y py)) spos.line X.env = pure true) (hi : PFI X tg iter fi) (ok : BlkOk X.N X.env.scope scope own) (hv : ∀ i ∈ vs1, i ∈ own.map (·.2))
    (hg : ∀ (s : Shared) (H : Hp) (C : Addr) (cl : List (Str × Addr)) (fp : List Addr), PFG (X.blk s H scope (compEnvC scope cl C X.env) fp) (own.map (·.2)) tg t) (ht : ∀ (s : Shared) (H : Hp) (C : Addr) (cl : List (Str × Addr)) (fp : List Addr), PFTs (X.blk s H scope (compEnvC scope cl C X.env) fp) ifs ft)
    (hi1 : ∀ (s : Shared) (H : Hp) (C : Addr) (cl : List (Str × Addr)) (fp : List Addr), PFR (X.blk s H scope (compEnvC scope cl C X.env) fp) tg1 iter1 fi1)
    (hg1 : ∀ (s : Shared) (H : Hp) (C : Addr) (cl : List (Str × Addr)) (fp : List Addr), PFG (X.blk s H scope (compEnvC scope cl C X.env) fp) vs1 tg1 t1) (ht1 : ∀ (s : Shared) (H : Hp) (C : Addr) (cl : List (Str × Addr)) (fp : List Addr), PFTs (X.blk s H scope (compEnvC scope cl C X.env) fp) ifs1 ft1)
    (he : ∀ (s : Shared) (H : Hp) (C : Addr) (cl : List (Str × Addr)) (fp : List Addr), PFE (X.blk s H scope (compEnvC scope cl C X.env) fp) elt fe) (hs : ∀ x, foldedSetIterable iter X.env x = pure x := by intro _; rfl) (hs1 : ∀ env x, foldedSetIterable iter1 env x = pure x := by intro _ _; rfl) :
    PFS X (.Assign [.Name y py] (.ListComp elt [⟨tg, iter, ifs, 0⟩, ⟨tg1, iter1, ifs1, 0⟩] scope pos) spos) (sSet i (fFz (fLC2 (own.map (·.2)) vs1 fi t ft fi1 t1 ft1 fe))) := ps_weak (ps_setLc2 hc hN hy hyl hsw hi ok hv hg ht hi1 hg1 ht1 he hs hs1) fun E σ H h => lc2_lift _ _ _ (set_fz E σ H h)
theorem pfs_setLc2M {i : Nat} {y : Str} {py spos : Pos} (hc : X.calm = true) (hN : X.N.Nodup) (hy : X.N[i]? = some y) (hyl : X.env.scope.names.lookup y = some .local)
    (hsw : swapsWith (.ListComp elt [⟨tg, iter, ifs, 0⟩, ⟨tg1, iter1, ifs1, 0⟩] scope pos) (some (.Name y py)) spos.line X.env = pure true) (hi : PFI X tg iter fi) (ok : BlkOk X.N X.env.scope scope own) (hv : ∀ i ∈ vs1, i ∈ own.map (·.2))
    (hg : ∀ (s : Shared) (H : Hp) (C : Addr) (cl : List (Str × Addr)) (fp : List Addr), PFG (X.blk s H scope (compEnvC scope cl C X.env) fp) (own.map (·.2)) tg t) (ht : ∀ (s : Shared) (H : Hp) (C : Addr) (cl : List (Str × Addr)) (fp : List Addr), PFTs (X.blk s H scope (compEnvC scope cl C X.env) fp) ifs ft)
    (hi1 : ∀ (s : Shared) (H : Hp) (C : Addr) (cl : List (Str × Addr)) (fp : List Addr), PFR (X.blk s H scope (compEnvC scope cl C X.env) fp) tg1 iter1 fi1)
    (hg1 : ∀ (s : Shared) (H : Hp) (C : Addr) (cl : List (Str × Addr)) (fp : List Addr), PFG (X.blk s H scope (compEnvC scope cl C X.env) fp) vs1 tg1 t1) (ht1 : ∀ (s : Shared) (H : Hp) (C : Addr) (cl : List (Str × Addr)) (fp : List Addr), PFTs (X.blk s H scope (compEnvC scope cl C X.env) fp) ifs1 ft1)
    (he : ∀ (s : Shared) (H : Hp) (C : Addr) (cl : List (Str × Addr)) (fp : List Addr), PFE (X.blk s H scope (compEnvC scope cl C X.env) fp) elt fe) (hs : ∀ x, foldedSetIterable iter X.env x = pure x := by intro _; rfl) (hs1 : ∀ env x, foldedSetIterable iter1 env x = pure x := by intro _ _; rfl) :
    PFS X (.Assign [.Name y py] (.ListComp elt [⟨tg, iter, ifs, 0⟩, ⟨tg1, iter1, ifs1, 0⟩] scope pos) spos) (sSet i (fMut (fLC2 (own.map (·.2)) vs1 fi t ft fi1 t1 ft1 fe))) := ps_weak (ps_setLc2 hc hN hy hyl hsw hi ok hv hg ht hi1 hg1 ht1 he hs hs1) fun E σ H h => lc2_lift _ _ _ (set_mut E σ H h)
end
end PF
namespace PF
open PySem PySem.Spec PyProof.Rows L2
/-! a call that changes one list and hands back a new changeable one -/
def callSM (i : Nat) (c : FnC) (ds : List D) (M : Mem) : Option (D × Mem) := match ds[i]? with
  | some (.ref n) => match M[n]? with
    | some mo => if mo.nr && !anyRef (ds.set i .non) then (argsP M (ds.set i .non)).bind fun es => (c (es.set i (.ref 0)) [mo]).bind fun r => match r with
        | (.ref 1, [.lst xs, .lst ys]) => if D.nrs xs && D.nrs ys then some (.ref M.length, M.set n (.lst xs) ++ [.lst ys]) else none
        | _ => none
      else none
    | none => none
  | _ => none
def fCallSM (i : Nat) (c : FnC) (fa : FA) : FE := fun ρ M => (fa ρ M).bind fun a => callSM i c a.1 a.2
section
variable {K : PySem.W.Frag} {W : Wo} {M : Mem}
theorem callSM_ok {i : Nat} {c : FnC} {n : Nat} {ds : List D} {vs : List V} {d : D} {M' : Mem} {Q : VK} {E : XK} (sr : SR K W M) (r : RpL K W ds vs) (hn : vs.length = n) (e : callSM i c ds M = some (d, M'))
    (k : ∀ W' v, Ext W W' → SR K W' M' → Rp K W' d v → Q v W'.H) : spOf K c n vs W.H Q E := by
  unfold callSM at e
  split at e
  · rename_i m hm
    split at e
    · rename_i mo hmo
      split at e
      · rename_i hc0
        rw [Bool.and_eq_true, Bool.not_eq_true'] at hc0
        obtain ⟨hnr, hri⟩ := hc0
        obtain ⟨es, he, e⟩ := Option.bind_eq_some_iff.mp e
        obtain ⟨⟨d1, M1⟩, hc, e⟩ := Option.bind_eq_some_iff.mp e
        obtain ⟨a, ha, mok⟩ := sr.addr hmo
        obtain ⟨vi, hvi, ri⟩ := r.get hm
        obtain ⟨a', ha', ev⟩ := ri
        obtain rfl : a = a' := Option.some.inj (ha.symm.trans ha')
        have haW : a ∈ W.as := List.mem_of_getElem? ha
        have nl : ∀ b, ¬ Lent W (ds.set i .non) b := fun b ⟨j, h1, h2⟩ => noRef hri j h1
        have sL : SR K (W.lend [a] (Lent W (ds.set i .non))) [mo] := by
          refine ⟨rfl, by simp [Wo.lend], fun b h => ?_, fun b h => sr.bt b h.1, fun j b mo' h1 h2 => ?_⟩
          · rw [show b = a by simpa [Wo.lend] using h]
            exact ⟨sr.sub a haW, nl a⟩
          · cases j with
            | zero =>
              have eb : a = b := by simpa [Wo.lend] using h1
              have em : mo = mo' := by simpa using h2
              subst eb em
              exact MoOk.nr (W := W) (W' := W.lend [a] (Lent W (ds.set i .non))) rfl (fun _ z => z.1) hnr mok
            | succ j => simp at h2
        have r' : RpL K W (ds.set i .non) (vs.set i .non) := r.set i rfl
        have rE := args_ok (as := [a]) sr he r' (free := Lent W (ds.set i .non)) fun j b h1 h2 => ⟨j, h1, h2⟩
        have rE2 : RpL K (W.lend [a] (Lent W (ds.set i .non))) (es.set i (.ref 0)) vs := by
          have q := rE.set (d := .ref 0) (v := .ref a) i ⟨a, rfl, rfl⟩
          rw [List.set_set] at q
          have ev' : vs.set i (.ref a) = vs := by
            rw [← ev]
            obtain ⟨h1, h2⟩ := List.getElem?_eq_some_iff.mp hvi
            rw [← h2]; exact List.set_getElem_self h1
          rw [ev'] at q
          exact q
        refine ⟨hn, W.lend [a] (Lent W (ds.set i .non)), [mo], _, rfl, sL, rE2, d1, M1, hc, fun W1 v e1 s1 r1 => ?_⟩
        have keepAll : ∀ b o, b ≠ a → W.H b = some o → W1.H b = some o := fun b o hb h => e1.keep b o (by simpa [Wo.lend] using hb) h
        split at e
        · rename_i xs ys hpair
          cases hpair
          split at e
          · rename_i hcond
            rw [Bool.and_eq_true] at hcond
            obtain ⟨hxs, hys⟩ := hcond
            cases e
            obtain ⟨p, hp, ev1⟩ := r1
            obtain ⟨new, ea, fr⟩ := e1.as
            have ea1 : W1.as = [a, p] := by
              have h1 : W1.as.length = 2 := s1.len
              have h2 : W1.as = a :: new := by rw [ea]; rfl
              rw [h2] at h1 hp
              match new, h1, hp with
              | [q], _, hp => simp at hp; rw [h2, hp]
            have enew : new = [p] := by
              have h2 : W1.as = a :: new := by rw [ea]; rfl
              rw [ea1] at h2
              simpa using h2.symm
            have hpn : W.H p = none := fr p (by rw [enew]; simp)
            have pnW : p ∉ W.as := fun z => by
              obtain ⟨o, q⟩ := sr.bt p (sr.sub p z)
              rw [hpn] at q; cases q
            obtain ⟨us, q1, q2⟩ := s1.obj 0 a (.lst xs) (by rw [ea1]; rfl) rfl
            obtain ⟨us2, q3, q4⟩ := s1.obj 1 p (.lst ys) (by rw [ea1]; rfl) rfl
            have noB : ∀ b, (W.bad b ∨ W1.bad b) → W1.bad b := fun b z => z.elim (fun z => e1.bad b ⟨z, nl b⟩) fun z => z
            have ex : Ext W ⟨W.as ++ [p], fun b => W.bad b ∨ W1.bad b, W1.H⟩ := by
              refine ⟨⟨[p], rfl, fun b h => by rw [List.mem_singleton.mp h]; exact hpn⟩, fun b h => .inl h, fun b h => h.elim .inl fun z => (e1.new b z).imp (fun q => q.1) fun q => q, fun b o hb h => keepAll b o (fun z => hb (by rw [z]; exact haW)) h, fun b o h => ?_⟩
              by_cases z : b = a
              · subst z; exact ⟨_, q1.1⟩
              · exact ⟨o, keepAll b o z h⟩
            have toL : ∀ (zs : List D) (ws : List V), D.nrs zs = true → RpL K W1 zs ws → RpL K ⟨W.as ++ [p], fun b => W.bad b ∨ W1.bad b, W1.H⟩ zs ws := fun zs ws hz q => RpL.nr (W := W1) (W' := ⟨W.as ++ [p], fun b => W.bad b ∨ W1.bad b, W1.H⟩) rfl noB _ _ hz q
            have hlen : W.as.length = M.length := sr.len
            refine k ⟨W.as ++ [p], fun b => W.bad b ∨ W1.bad b, W1.H⟩ v ex ⟨by simp [hlen], ?_, fun b h => ?_, fun b h => h.elim (fun z => let ⟨o, q⟩ := sr.bt b z; ex.live b o q) (s1.bt b), fun j b mo' h1 h2 => ?_⟩ ⟨p, by show (W.as ++ [p])[M.length]? = some p; rw [← hlen]; simp, ev1⟩
            · rw [List.nodup_append]
              exact ⟨sr.nd, by simp, fun x hx y hy => by rw [List.mem_singleton.mp hy]; rintro rfl; exact pnW hx⟩
            · rcases List.mem_append.mp h with h | h
              · exact .inl (sr.sub b h)
              · rw [List.mem_singleton.mp h]
                exact .inr (s1.sub p (by rw [ea1]; simp))
            · have h1' : (W.as ++ [p])[j]? = some b := h1
              by_cases hj : j < M.length
              · rw [List.getElem?_append_left (by omega)] at h1'
                rw [List.getElem?_append_left (by rw [List.length_set]; exact hj)] at h2
                by_cases z : j = m
                · subst z
                  obtain rfl : a = b := Option.some.inj (ha.symm.trans h1')
                  rw [List.getElem?_set_self hj] at h2
                  cases h2
                  exact ⟨us, q1, toL _ _ hxs q2⟩
                · rw [List.getElem?_set_ne (Ne.symm z)] at h2
                  have nb : b ≠ a := fun q => z (by
                    subst q
                    obtain ⟨q1, q2⟩ := List.getElem?_eq_some_iff.mp h1'
                    obtain ⟨q3, q4⟩ := List.getElem?_eq_some_iff.mp ha
                    exact (List.getElem_inj sr.nd).mp (q2.trans q4.symm))
                  have mk := sr.obj j b mo' h1' h2
                  obtain ⟨o, q⟩ := mk.there
                  exact mk.ext ex sr.sub (by rw [q]; exact keepAll b o nb q)
              · have hjl : j < (W.as ++ [p]).length := (List.getElem?_eq_some_iff.mp h1').1
                simp at hjl
                have ej : j = M.length := by omega
                subst ej
                have eb : b = p := by
                  rw [← hlen] at h1'
                  simp at h1'
                  exact h1'.symm
                subst eb
                rw [List.getElem?_append_right (by simp)] at h2
                simp at h2
                subst h2
                exact ⟨us2, q3, toL _ _ hys q4⟩
          · cases e
        · cases e
      · cases e
    · cases e
  · cases e
end
section
variable {X : Cx} {k n : Nat} {f : Addr} {fd : FuncData} {ps : List Str} {c : FnC} {x : Str} {p pos : Pos} {e : Expr} {es : List Expr} {fa : FA}
theorem pf_callSM (i : Nat) (F : FnOk X.prog X.w X.K X.mg X.base CX0 k f fd ps (spOf X.K c n)) (hr : Room k X.A) (hg : Gl X x) (hm : X.mg x = some (.ref f)) (hk : PySem.W.keepIn X.K (.ref f) = true) (hb : Binds X.K fd ps []) (ha : PFA X (e :: es) fa) (hn : n = es.length + 1 := by rfl)
    (hlen : ∀ ρ M r, fa ρ M = some r → r.1.length = es.length + 1) (hdb : (x == ("__debug__" : Str)) = false := by decide) (he : starEach (e :: es) X.env = (false, eval e X.env) :: starEach es X.env := by rfl) (hpl : (backTo pos (starEach es X.env)).any (·.1) = false := by rfl) :
    PFE X (.Call (.Name x p) (e :: es) [] pos) (fCallSM i c fa) := pe_weak (pe_call F hr hg hm hk hb .nil pass0 ha hdb he hpl) fun σ H Q => by
  rintro ⟨W, ρ, M, rfl, sr, sl, d, M', hf, k⟩
  obtain ⟨⟨ds, M1⟩, hx, hf⟩ := Option.bind_eq_some_iff.mp hf
  refine ⟨W, ρ, M, rfl, sr, sl, ds, M1, hx, fun W1 vs e1 s1 r1 => ?_⟩
  show spOf X.K c n (vs ++ []) W1.H Q E0
  rw [List.append_nil]
  exact callSM_ok s1 r1 (by rw [← r1.len, hn]; exact hlen _ _ _ hx) hf fun W2 v e2 s2 r2 => k W2 v (e1.trans e2) s2 r2
end
section
variable {X : Cx} {k n : Nat} {c : FnC} {x : Str} {p pos : Pos} {e : Expr} {es : List Expr} {fa : FA}
theorem pf_callCSM (i : Nat) (C : Cal X.prog X.w X.K X.mg X.base k x c (es.length + 1)) (hr : Room k X.A) (hg : Gl X x) (ha : PFA X (e :: es) fa)
    (hlen : ∀ ρ M r, fa ρ M = some r → r.1.length = es.length + 1) (hdb : (x == ("__debug__" : Str)) = false := by decide) (he : starEach (e :: es) X.env = (false, eval e X.env) :: starEach es X.env := by rfl) (hpl : (backTo pos (starEach es X.env)).any (·.1) = false := by rfl) :
    PFE X (.Call (.Name x p) (e :: es) [] pos) (fCallSM i c fa) :=
  let ⟨_, _, _, g, hk, b, F⟩ := C.ex
  pf_callSM i F hr hg g hk b ha rfl hlen hdb he hpl
end
end PF
namespace PF
open PySem PySem.Spec PyProof.Rows L2
/-! list(range(..)) -/
section
variable {X : Cx} {a b : Expr}
def tRgA1 (ta : TA) : L2.St → Hp → (Int → Int → Hp → Prop) → Prop := fun σ H Q => ta σ H fun xs H1 => ∃ n, xs = [.int n] ∧ Q 0 n H1
def tRgA2 (ta : TA) : L2.St → Hp → (Int → Int → Hp → Prop) → Prop := fun σ H Q => ta σ H fun xs H1 => ∃ i j, xs = [.int i, .int j] ∧ Q i j H1
theorem prg_A1 {ta : TA} {p pos : Pos} (hg : Gl X "range") (hm : X.mg "range" = none) (ha : PA X [a] ta) (hs : starEach [a] X.env = [(false, eval a X.env)] := by rfl) : PRg X (.Call (.Name "range" p) [a] [] pos) (tRgA1 ta) := by
  intro pins s σ H Q I h
  refine Call_ (ld_blt I hg hm boot_range (PyProof.Rows.callWith_type1 (thn (ha.run pos pins s σ H _ I h) fun us s1 ⟨vs, H1, I1, r1, q1⟩ => ?_) hs rfl))
  obtain ⟨n, e, q⟩ := q1
  subst e
  cases r1 with
  | cons r rr =>
    cases rr
    obtain ⟨t, rfl⟩ := r
    exact call_range_1 ⟨_, 0, n, _, _, _, H1, rfl, IsRange.new _ _ _ _ _ _ _, I1.kept fun b u e => Heap.get?_push_of_some _ e, q⟩
theorem prg_A2 {ta : TA} {p pos : Pos} (hg : Gl X "range") (hm : X.mg "range" = none) (ha : PA X [a, b] ta) (hs : starEach [a, b] X.env = [(false, eval a X.env), (false, eval b X.env)] := by rfl) (hs2 : starEach [b] X.env = [(false, eval b X.env)] := by rfl) :
    PRg X (.Call (.Name "range" p) [a, b] [] pos) (tRgA2 ta) := by
  intro pins s σ H Q I h
  refine Call_ (ld_blt I hg hm boot_range (PyProof.Rows.callWith_type1 (thn (ha.run pos pins s σ H _ I h) fun us s1 ⟨vs, H1, I1, r1, q1⟩ => ?_) (by rw [hs, hs2]) (by rw [hs2]; rfl)))
  obtain ⟨i, j, e, q⟩ := q1
  subst e
  cases r1 with
  | cons r rr =>
    cases rr with
    | cons r' rr =>
      cases rr
      obtain ⟨t, rfl⟩ := r
      obtain ⟨t', rfl⟩ := r'
      exact call_range_2 ⟨_, i, j, _, _, _, H1, rfl, IsRange.new _ _ _ _ _ _ _, I1.kept fun b u e => Heap.get?_push_of_some _ e, q⟩
/-- list(range(..)) -/
def fLstRg1 (f : FA) : FA := fun ρ M => (f ρ M).bind fun a => match a.1 with | [.int j] => if okR 0 j then some (rgD 0 j.toNat, a.2) else none | _ => none
def fLstRg2 (f : FA) : FA := fun ρ M => (f ρ M).bind fun a => match a.1 with | [.int i, .int j] => if okR i j then some (rgD i (j - i).toNat, a.2) else none | _ => none
theorem rpl_rg (K : PySem.W.Frag) (W : Wo) (lo : Int) : ∀ (l : List Nat), RpL K W (l.map fun (i : Nat) => D.int (lo + i)) (l.map fun (i : Nat) => V.int (lo + i))
  | [] => rfl
  | i :: l => ⟨_, _, rfl, rfl, rpl_rg K W lo l⟩
theorem rgok_of {i j : Int} (h : okR i j = true) : RgOk i j := by
  have := okR_ok h
  exact ⟨by omega, by omega, by omega, by omega, by omega⟩
theorem pfn_listRg1 {f : FA} {p p2 pos pos2 : Pos} (hc : X.calm = true) (hg : Gl X "list") (hm : X.mg "list" = none) (hg2 : Gl X "range") (hm2 : X.mg "range" = none) (ha : PFA X [a] f)
    (hs : starEach [a] X.env = [(false, eval a X.env)] := by rfl) (na : starEach [Expr.Call (.Name "range" p2) [a] [] pos2] X.env = (false, eval (Expr.Call (.Name "range" p2) [a] [] pos2) X.env) :: starEach [] X.env := by rfl) :
    PFN X (.Call (.Name "list" p) [.Call (.Name "range" p2) [a] [] pos2] [] pos) (fLstRg1 f) := pe_weak (pe_listRg hc hg hm (prg_A1 hg2 hm2 ha hs) na) fun σ H Q => by
  rintro ⟨W, ρ, M, rfl, sr, sl, xs, M', hf, k⟩
  obtain ⟨⟨x, M1⟩, hx, hf⟩ := Option.bind_eq_some_iff.mp hf
  dsimp only at hf
  split at hf
  · split at hf
    · rename_i hr
      cases hf
      have hr' := okR_ok hr
      refine ⟨W, ρ, M, rfl, sr, sl, _, _, hx, fun W1 v e1 s1 r1 => ?_⟩
      obtain ⟨v1, r, rfl, q1, q2⟩ := r1
      cases (show _ = _ from q1); cases (show _ = _ from q2)
      refine ⟨_, rfl, rgok_of hr, fun q hq => ?_⟩
      unfold rgV
      rw [Int.sub_zero]
      exact k W1 q _ e1 s1 hq (rpl_rg _ _ _ _) (by rw [List.length_map, List.length_range]; show _ ≤ 16777216; omega)
    · cases hf
  · cases hf
theorem pfn_listRg2 {f : FA} {p p2 pos pos2 : Pos} (hc : X.calm = true) (hg : Gl X "list") (hm : X.mg "list" = none) (hg2 : Gl X "range") (hm2 : X.mg "range" = none) (ha : PFA X [a, b] f)
    (hs : starEach [a, b] X.env = [(false, eval a X.env), (false, eval b X.env)] := by rfl) (hs2 : starEach [b] X.env = [(false, eval b X.env)] := by rfl) (na : starEach [Expr.Call (.Name "range" p2) [a, b] [] pos2] X.env = (false, eval (Expr.Call (.Name "range" p2) [a, b] [] pos2) X.env) :: starEach [] X.env := by rfl) :
    PFN X (.Call (.Name "list" p) [.Call (.Name "range" p2) [a, b] [] pos2] [] pos) (fLstRg2 f) := pe_weak (pe_listRg hc hg hm (prg_A2 hg2 hm2 ha hs hs2) na) fun σ H Q => by
  rintro ⟨W, ρ, M, rfl, sr, sl, xs, M', hf, k⟩
  obtain ⟨⟨x, M1⟩, hx, hf⟩ := Option.bind_eq_some_iff.mp hf
  dsimp only at hf
  split at hf
  · split at hf
    · rename_i hr
      cases hf
      have hr' := okR_ok hr
      refine ⟨W, ρ, M, rfl, sr, sl, _, _, hx, fun W1 v e1 s1 r1 => ?_⟩
      obtain ⟨v1, r, rfl, q1, v2, r', rfl, q2, q3⟩ := r1
      cases (show _ = _ from q1); cases (show _ = _ from q2); cases (show _ = _ from q3)
      refine ⟨_, _, rfl, rgok_of hr, fun q hq => ?_⟩
      exact k W1 q _ e1 s1 hq (rpl_rg _ _ _ _) (by rw [rgV_length]; show _ ≤ 16777216; omega)
    · cases hf
  · cases hf
end
end PF
namespace PF
open PySem PySem.Spec PyProof.Rows L2
/-! sorted(xs) of alike data, any number of them -/
def vsort (ys : List V) (ds : List PyData) : List V := ((ys.zip ds).mergeSort (PySem.W.dataLe false Prod.snd)).map Prod.fst
def rSortedDt (K : PySem.W.Frag) : List V → Hp → VK → Prop := fun vs H Q => ∃ (a : Addr) (ys : List V) (ds : List PyData), vs = [V.ref a] ∧ SqL K H a ys ∧ ds.length = ys.length ∧ DpAll K H ys ds ∧ PySem.W.AllAlike ds ∧ PySem.W.Sortable ds ∧ PyData.depthAll ds ≤ 60 ∧
  ∀ p, H p = none → Q (.ref p) (upd H p (.lst (vsort ys ds)))
theorem zip_each : ∀ {ys : List V} {its : List Value} {ds : List PyData}, Vals ys its → ds.length = ys.length → PySem.W.EachIs (fun (v : Value) (b : V × PyData) => RelV b.1 v) its (ys.zip ds)
  | [], _, [], r, _ => by cases r; exact .nil
  | [], _, _ :: _, _, h => by simp at h
  | _ :: _, _, [], _, h => by simp at h
  | y :: ys, _, d :: ds, r, h => by
    cases r with
    | cons r1 r2 => exact .cons r1 (zip_each r2 (by simpa using h))
theorem zip_snd : ∀ (ys : List V) (ds : List PyData), ds.length = ys.length → (ys.zip ds).map Prod.snd = ds
  | [], [], _ => rfl
  | [], _ :: _, h => by simp at h
  | _ :: _, [], h => by simp at h
  | y :: ys, d :: ds, h => by
    show d :: (ys.zip ds).map Prod.snd = _
    rw [zip_snd ys ds (by simpa using h)]
theorem depth_le : ∀ {ds : List PyData} {d : PyData}, d ∈ ds → d.depth ≤ PyData.depthAll ds
  | x :: ds, d, h => by
    rw [PyData.depthAll]
    rcases List.mem_cons.mp h with rfl | h
    · exact Nat.le_max_left _ _
    · exact Nat.le_trans (depth_le h) (Nat.le_max_right _ _)
theorem each_vals : ∀ {out : List Value} {bs : List (V × PyData)}, PySem.W.EachIs (fun (v : Value) (b : V × PyData) => RelV b.1 v) out bs → Vals (bs.map Prod.fst) out
  | _, _, .nil => .nil
  | _, _, .cons h t => .cons h (each_vals t)
theorem cr_sortedDt {X : Cx} (hu : X.A.units + 64 < cLine) : CallR X (.builtin "sorted") (rSortedDt X.K) := by
  intro pins s σ H vs us Q I r h
  obtain ⟨a, ys, ds, rfl, hs, hlen, hd, hal, hsb, hdp, q⟩ := h
  obtain ⟨its, rv, hl, hz⟩ := I.list hs
  rw [Vals.ref1 r]
  obtain ⟨as, hr⟩ := Dp.readsAll I ds ys its hd rv
  have e1 := zip_snd ys ds hlen
  have hzl : (ys.zip ds).length = ys.length := by rw [List.length_zip, hlen, Nat.min_self]
  have ez := zip_each rv hlen
  have er : PySem.W.EachIs (fun v (b : V × PyData) => ∃ as, Reads s.heap v (Prod.snd b) as) its (ys.zip ds) := PySem.W.readsAll_each Prod.snd (by rw [e1]; exact hr)
  refine PySem.W.sorted_data (enc := Prod.snd) hl.isList ez er (by rw [e1]; exact hal) (by rw [e1]; exact hsb) (by rw [hzl]; exact hz) (fun b hb => ?_) fun out ho hout => ?_
  · have hm : b.2 ∈ ds := by rw [← e1]; exact List.mem_map.mpr ⟨b, hb, rfl⟩
    have := depth_le hm
    omega
  · obtain ⟨n, hn⟩ := sortedAll_at s.heap its out.toArray
    refine ⟨.ref (s.heap.objs.size + 1), upd H (s.heap.objs.size + 1) (.lst (vsort ys ds)), I.laid (t' := s.toks) (fun b o e => sortedAll_old e) (Nat.le_succ _) ⟨?_, out, n, each_vals hout, hn⟩, rfl, q _ (I.hok.fresh (Nat.le_succ _))⟩
    unfold vsort
    rw [List.length_map, (List.mergeSort_perm _ _).length_eq, hzl]
    exact hz
def leD (a b : D) : Bool := PySem.W.dataLe false D.py a b
def sortD (xs : List D) : List D := xs.mergeSort leD
def srtb (xs : List D) : Bool := xs.all (fun d => match d with | .tup (_ :: _) => true | _ => false) || xs.all (fun d => match d with | .int _ => true | .str _ => true | .bl _ => true | _ => false)
def gSortD : GNN := fun ds M => match ds with
  | [d] => (lsOf d M).bind fun xs => if (okAl xs && srtb xs) = true then some (sortD xs) else none
  | _ => none
theorem pys_map : ∀ xs : List D, D.pys xs = xs.map D.py
  | [] => by rw [D.pys]; rfl
  | x :: xs => by rw [D.pys, pys_map xs]; rfl
theorem rpl_zip {K : PySem.W.Frag} {W : Wo} : ∀ {xs : List D} {vs : List V}, RpL K W xs vs → ∃ zs : List (D × V), xs = zs.map Prod.fst ∧ vs = zs.map Prod.snd ∧ ∀ z, z ∈ zs → Rp K W z.1 z.2
  | [], vs, h => ⟨[], rfl, (show vs = [] from h), fun z hz => nomatch hz⟩
  | x :: xs, vs, h => by
    obtain ⟨v, r, rfl, h1, h2⟩ := h
    obtain ⟨zs, e1, e2, e3⟩ := rpl_zip h2
    refine ⟨(x, v) :: zs, by rw [e1]; rfl, by rw [e2]; rfl, fun z hz => ?_⟩
    rcases List.mem_cons.mp hz with rfl | hz
    · exact h1
    · exact e3 z hz
theorem rpl_of {K : PySem.W.Frag} {W : Wo} : ∀ (zs : List (D × V)), (∀ z, z ∈ zs → Rp K W z.1 z.2) → RpL K W (zs.map Prod.fst) (zs.map Prod.snd)
  | [], _ => rfl
  | z :: zs, h => ⟨z.2, _, rfl, h z (by simp), rpl_of zs fun y hy => h y (List.mem_cons_of_mem _ hy)⟩
theorem zip_maps : ∀ zs : List (D × V), (zs.map Prod.snd).zip ((zs.map Prod.fst).map D.py) = zs.map fun z => (z.2, z.1.py)
  | [] => rfl
  | z :: zs => by
    show (z.2, z.1.py) :: (zs.map Prod.snd).zip ((zs.map Prod.fst).map D.py) = _
    rw [zip_maps zs]; rfl
theorem sort_rep {K : PySem.W.Frag} {W : Wo} {xs : List D} {vs : List V} (h : RpL K W xs vs) : RpL K W (sortD xs) (vsort vs (D.pys xs)) := by
  obtain ⟨zs, rfl, rfl, h3⟩ := rpl_zip h
  have a1 : sortD (zs.map Prod.fst) = (zs.mergeSort fun x y => leD x.1 y.1).map Prod.fst := (List.map_mergeSort (f := Prod.fst) (s := leD) (fun a _ b _ => rfl)).symm
  have a2 : vsort (zs.map Prod.snd) (D.pys (zs.map Prod.fst)) = (zs.mergeSort fun x y => leD x.1 y.1).map Prod.snd := by
    unfold vsort
    rw [pys_map, zip_maps]
    rw [← List.map_mergeSort (r := fun x y : D × V => leD x.1 y.1) (f := fun z : D × V => (z.2, z.1.py)) (s := PySem.W.dataLe false Prod.snd) (fun a _ b _ => rfl), List.map_map]
    rfl
  rw [a1, a2]
  exact rpl_of _ fun z hz => h3 z ((List.mergeSort_perm _ _).mem_iff.mp hz)
theorem srtb_ok {xs : List D} (h : srtb xs = true) : PySem.W.Sortable (D.pys xs) := by
  unfold srtb at h
  rw [Bool.or_eq_true] at h
  rcases h with h | h
  · refine .inl fun d hd => ?_
    obtain ⟨z, hz, rfl⟩ := pys_mem hd
    have := List.all_eq_true.mp h z hz
    match z, this with
    | .tup (x :: r), _ => exact ⟨x.py, D.pys r, by rw [D.py, D.pys]⟩
  · refine .inr fun d hd => ?_
    obtain ⟨z, hz, rfl⟩ := pys_mem hd
    have := List.all_eq_true.mp h z hz
    match z, this with
    | .int i, _ => exact ⟨by rw [D.py]; simp, fun xs => by rw [D.py]; simp⟩
    | .str i, _ => exact ⟨by rw [D.py]; simp, fun xs => by rw [D.py]; simp⟩
    | .bl i, _ => exact ⟨by rw [D.py]; simp, fun xs => by rw [D.py]; simp⟩
theorem okAl_ok {xs : List D} (h : okAl xs = true) : D.dps 59 xs = true ∧ PySem.W.AllAlike (D.pys xs) := by
  unfold okAl at h
  rw [Bool.and_eq_true, Bool.and_eq_true, Bool.and_eq_true] at h
  obtain ⟨⟨o1, o2⟩, o3, o4⟩ := h
  refine ⟨o2, fun a ha b hb => ?_⟩
  obtain ⟨a0, ha0, rfl⟩ := pys_mem ha
  obtain ⟨b0, hb0, rfl⟩ := pys_mem hb
  exact List.all_eq_true.mp (List.all_eq_true.mp o3 a0 ha0) b0 hb0
theorem o_sortD {K : PySem.W.Frag} : OpNN K (rSortedDt K) gSortD := by
  intro W M ds xs vs Q sr r hg k
  unfold gSortD at hg
  split at hg
  · obtain ⟨l, hl, hg⟩ := Option.bind_eq_some_iff.mp hg
    split at hg
    · rename_i ok
      cases hg
      rw [Bool.and_eq_true] at ok
      obtain ⟨o1, o2⟩ := okAl_ok ok.1
      obtain ⟨v, rfl, r1⟩ := rl1 r
      have hlen := ls_len sr r1 hl
      obtain ⟨p, us, rfl, h1, r2⟩ := ls_sq sr r1 hl
      have hll : (D.pys l).length = us.length := by rw [pys_map, List.length_map, r2.len]
      refine ⟨p, us, D.pys l, rfl, h1, hll, dp_Dps 59 l us o1 r2, o2, srtb_ok ok.2, by have := (dps_can 59 l o1).2; omega, fun q hq => ?_⟩
      have r3 := sort_rep r2
      refine k q _ hq r3 ?_
      rw [← r3.len]
      unfold sortD
      rw [(List.mergeSort_perm _ _).length_eq]
      exact hlen
    · cases hg
  · cases hg
/-! x < y of alike data -/
def rLtDt (K : PySem.W.Frag) (g : PyData → PyData → Bool) : R2 := fun x y H Q => ∃ d e, Dp K H x d ∧ Dp K H y e ∧ PySem.W.alike d e = true ∧ d ≠ .none ∧ d.depth ≤ 60 ∧ Q (.bl (g d e)) H
theorem op_ltDt {X : Cx} (hu : X.A.units + 64 < cLine) : OpR X (compareOp .Lt) (rLtDt X.K PySem.W.dataLt) := by
  intro pins s σ H x y v u Q I rx ry h
  obtain ⟨d, e, hd, he, ha, hn, hp, q⟩ := h
  obtain ⟨as, r1⟩ := Dp.reads I d x v hd rx
  obtain ⟨bs, r2⟩ := Dp.reads I e y u he ry
  exact PySem.W.lt_data r1 r2 ha hn (by have := Nat.min_le_left d.depth e.depth; omega) ⟨.bl _, H, I, rfl, q⟩
theorem op_gtDt {X : Cx} (hu : X.A.units + 64 < cLine) : OpR X (compareOp .Gt) (rLtDt X.K fun a b => PySem.W.dataLt b a) := by
  intro pins s σ H x y v u Q I rx ry h
  obtain ⟨d, e, hd, he, ha, hn, hp, q⟩ := h
  obtain ⟨as, r1⟩ := Dp.reads I d x v hd rx
  obtain ⟨bs, r2⟩ := Dp.reads I e y u he ry
  exact PySem.W.gt_data r1 r2 ha hn (by have := Nat.min_le_left d.depth e.depth; omega) ⟨.bl _, H, I, rfl, q⟩
def gCmpD (g : PyData → PyData → Bool) : G2B := fun x y M => match x.val M, y.val M with
  | some a, some b => if ((a.dp 60 && b.dp 60) && (PySem.W.alike a.py b.py && !isNn a)) = true then some (g a.py b.py) else none
  | _, _ => none
theorem o_cmpD {K : PySem.W.Frag} {g : PyData → PyData → Bool} : Op2 K (rLtDt K g) (gB (gCmpD g)) := by
  intro W M x y d v u Q sr rx ry hg k
  obtain ⟨t, ht, rfl⟩ := Option.map_eq_some_iff.mp hg
  unfold gCmpD at ht
  split at ht
  · rename_i a b ha hb
    split at ht
    · rename_i ok
      cases ht
      rw [Bool.and_eq_true, Bool.and_eq_true, Bool.and_eq_true] at ok
      obtain ⟨⟨o1, o2⟩, o3, o4⟩ := ok
      refine ⟨a.py, b.py, val_Rp sr rx ha o1, val_Rp sr ry hb o2, o3, ?_, (dp_can 60 a o1).2, k W _ (.refl W) sr rfl⟩
      cases a <;> simp [isNn, D.py, D.dp] at o4 o1 ⊢
    · cases ht
  · cases ht
/-! xs.index(y), xs changeable or not -/
def gIndexL : GM := fun x ds M => match ds with
  | [.int y] => (lsOf x M).bind fun xs => (intsOf xs).bind fun ns => (findI (fun z => decide (z = y)) ns).map fun (j : Nat) => (.int (j : Int), M)
  | _ => none
theorem o_indexL {K : PySem.W.Frag} : OpM K (rIndex K) gIndexL := by
  intro W M M' x d ds v vs Q sr rx r hg k
  unfold gIndexL at hg
  split at hg
  · rename_i y
    obtain ⟨xs, hx, hg⟩ := Option.bind_eq_some_iff.mp hg
    obtain ⟨ns, hn, hg⟩ := Option.bind_eq_some_iff.mp hg
    obtain ⟨j, hj, hg⟩ := Option.map_eq_some_iff.mp hg
    cases hg
    obtain ⟨u, rfl, r1⟩ := rl1 r
    cases (show _ = _ from r1)
    obtain ⟨z, h1, h2, h3⟩ := findI_ok hj
    obtain ⟨a, us, rfl, h4, r2⟩ := ls_sq sr rx hx
    have eus := intsOf_ok hn r2
    subst eus
    refine ⟨a, _, .int y, j, .int z, rfl, rfl, h4, rfl, ?_, ?_, ?_, fun m z' hm hz => ?_, k W _ (.refl W) sr rfl⟩
    · rw [List.all_map]
      exact List.all_eq_true.mpr fun _ _ => rfl
    · rw [List.getElem?_map, h1]; rfl
    · have : z = y := of_decide_eq_true h2
      subst this
      simp [eqV]
    · rw [List.getElem?_map] at hz
      obtain ⟨i, hi, rfl⟩ := Option.map_eq_some_iff.mp hz
      have := h3 m i hm hi
      have hne : i ≠ y := of_decide_eq_false this
      simp [eqV, hne]
  · cases hg
end PF
namespace PF
open PySem PySem.Spec PyProof.Rows L2
/-! set(list of ints), its table told -/
section
variable {P : Program} {w : World} {A : Around} {E : Value → Shared → Prop} {s : Shared}
/-- an empty set, as it is made -/
abbrev oE (w : World) : Obj := { cls := .type "set", dict := none, data := .set #[] 0 (.fresh 0 0 (!w.params.followText "set-order")) }
abbrev hE (w : World) (h : Heap) : Heap := h.push (oE w)
theorem hE_size (w : World) (h : Heap) : (hE w h).objs.size = h.objs.size + 1 := Heap.size_push ..
theorem call_set_lstI {l : Addr} {items : Array Value} (ns : List Int) {Q : Value → Shared → Prop} (hd : A.handled = none) (il : s.heap.IsList l items) (ii : IntsAre items.toList ns) (room : ns.length + 1 < scanBound)
    (q : ∀ (g : Heap) (tk c : Nat), SetR w g s.heap.objs.size (fun j => decide (j ∈ ns)) c → c ≤ ns.length → (∀ b o, s.heap.get? b = some o → g.get? b = some o) → Q (.ref s.heap.objs.size) { s with heap := g, toks := tk }) : wpAny (model P w) A (call (.type "set") [.ref l]) Q E s := by
  have isz : items.size = ns.length := by
    have z := ii.length
    simpa using z
  have ⟨cl, rest, mro⟩ := F.called_set.mro
  have made := F.called_set.made; have sub := F.called_set.sub
  refine wpAny_call (codeAny_of_tree (show wpAny _ _ (callAny (.type "set") _) _ _ _ from wpAny_pure ⟨Code.quiet_builtin _ (by decide +kernel), codeAny_builtin F.entry_type_call ?_⟩))
  rw [Around.under_plain (weight_type_call_type "set" [.ref l] []) rfl]
  have n1 := F.called_set.notType; have n2 := F.called_set.canCreate; have n3 := F.typeCall_set_1 (.ref l)
  repeat (any_goals (first | assumption | wp_step))
  refine codeAny_mono (code_set_led1 (.ref l) (E := E) (Q₁ := fun obj s₁ => obj = .ref s.heap.objs.size ∧ s₁ = { s with heap := hE w s.heap }) ⟨rfl, rfl⟩) fun r s₁ hr => ?_
  rcases r with e | fl
  · exact hr
  cases fl with
  | ret obj =>
    obtain ⟨rfl, rfl⟩ := hr
    have got : (hE w s.heap).get? s.heap.objs.size = some (oE w) := Heap.get?_push_size _ rfl
    have tis : Shared.TypeIs { s with heap := hE w s.heap } (.ref s.heap.objs.size) "set" := ⟨_, got, rfl⟩
    have i1 := F.called_set.init.lookup; have i2 := F.called_set.init.bind (.ref s.heap.objs.size)
    repeat (any_goals (first | assumption | wp_step))
    refine codeAny_mono (codeAny_call_builtin (R := wants (fun r s₂ => r = .none ∧ ∃ g tk c, s₂ = { s with heap := g, toks := tk } ∧ SetR w g s.heap.objs.size (fun j => decide (j ∈ ns)) c ∧ c ≤ ns.length ∧ ∀ b o, s.heap.get? b = some o → g.get? b = some o) E) F.called_set.init.plain F.entry_set_init (check_set_init_1 tis ?_)) fun r₂ s₂ hr₂ => ?_
    · obtain ⟨⟨k1, k2, k3, k4⟩, ho, hc, nl, hdt⟩ := il
      simp only at hc hdt
      subst hc hdt
      have ho2 : (hE w s.heap).get? l = some { cls := .type "list", dict := k2, data := .seq items nl, slots := k4 } := Heap.get?_push_of_some _ ho
      have s1 := F.sub_list_set; have s2 := F.sub_list_frozenset
      have s3 : (Value.type "list" == Value.type "dict") = false := by decide
      have il2 : (hE w s.heap).IsList l items := ⟨_, ho2, rfl, nl, rfl⟩
      unfold Builtin.«set.__init__» noKeywords Builtin.Frozenset.updateFrom
      generalize hit : pyIter = it
      wp_walk
      subst hit
      refine wpAny_pyIter_list il2 (wpAny_bind (wpAny_runValue ?_))
      have lt : l < s.heap.objs.size := Heap.lt_size ho
      have sz := hE_size w s.heap
      have hd3 : A.in1.in1.in1.handled = none := by simp [hd]
      have lI : l ≠ (hE w s.heap).objs.size := by rw [sz]; exact Nat.ne_of_lt (Nat.lt_succ_of_lt lt)
      have sI : s.heap.objs.size ∉ [(hE w s.heap).objs.size, l] := by
        rw [sz]
        simp only [List.mem_cons, List.not_mem_nil, or_false, not_or]
        exact ⟨Nat.ne_of_lt (Nat.lt_succ_self _), Nat.ne_of_gt lt⟩
      refine set_update_ints ((Walks.list hd3 _ l lI items).toS) s.heap.objs.size sI ns isz room (fun i v hv => ?_) (items.size - 0) 0 _ (by omega) (Nat.zero_le _) ⟨⟨_, Heap.get?_push_size _ rfl, rfl, rfl⟩, (il2.push _)⟩ ⟨0, Nat.le_refl 0, setR_new_at (Heap.get?_push_of_some _ got)⟩ fun s' c' hm hc' hS' => ?_
      · have lti : i < ns.length := by rw [← isz]; exact (Array.getElem?_eq_some_iff.mp hv).1
        obtain ⟨t, e⟩ := IntsAre.int_at ii i v (by rw [Array.getElem?_toList]; exact hv)
        exact ⟨ns[i], t, List.getElem?_eq_getElem lti, by rw [e, List.getD_eq_getElem?_getD, List.getElem?_eq_getElem lti] <;> rfl⟩
      · obtain ⟨g, g2, d', tk', os'⟩ := s'
        have eg : g2 = s.gens := hm.gens
        have ed : d' = s.drawn := hm.drawn
        have eo : os' = s.os := hm.os
        subst eg ed eo
        rw [isz] at hc'
        refine wpAny_pure (wpAny_pure ⟨rfl, g, tk', c', rfl, hS', hc', fun b o e => ?_⟩)
        have b0 : b < s.heap.objs.size := Heap.lt_size e
        refine hm.heap b o ?_ (Heap.get?_push_of_some _ (Heap.get?_push_of_some _ e))
        rw [sz]
        simp only [List.mem_cons, List.not_mem_nil, or_false, not_or]
        exact ⟨Nat.ne_of_lt b0, Nat.ne_of_lt (Nat.lt_succ_of_lt b0)⟩
    · rcases r₂ with e | fl₂
      · exact hr₂
      cases fl₂ with
      | ret r =>
        obtain ⟨rfl, g, tk, c', rfl, a1, a2, a3⟩ := hr₂
        repeat (any_goals (first | assumption | wp_step))
        exact q _ _ _ a1 a2 a3
      | _ => exact hr₂.elim
  | _ => exact hr.elim
end
/-! unlike ints, ascending -/
def dedS : List Int → List Int
  | [] => []
  | x :: xs => match dedS xs with
    | [] => [x]
    | y :: ys => if x = y then y :: ys else x :: y :: ys
theorem dedS_mem : ∀ (xs : List Int) (k : Int), k ∈ dedS xs ↔ k ∈ xs
  | [], k => by simp [dedS]
  | x :: xs, k => by
    have ih := dedS_mem xs k
    rw [List.mem_cons, ← ih, dedS]
    cases h : dedS xs with
    | nil => simp
    | cons y ys =>
      by_cases e : x = y
      · subst e; simp
      · simp [e]
theorem dedS_lt : ∀ {xs : List Int}, xs.Pairwise (· ≤ ·) → (dedS xs).Pairwise (· < ·)
  | [], _ => by simp [dedS]
  | x :: xs, h => by
    have ih := dedS_lt h.of_cons
    have m := dedS_mem xs
    rw [dedS]
    cases q : dedS xs with
    | nil => simp
    | cons y ys =>
      rw [q] at ih
      by_cases e : x = y
      · simp only [e, if_true]; exact ih
      · simp only [e, if_false]
        have hy : x < y := by
          have := List.rel_of_pairwise_cons h ((m y).mp (by rw [q]; simp))
          omega
        refine List.pairwise_cons.mpr ⟨fun z hz => ?_, ih⟩
        rcases List.mem_cons.mp hz with rfl | hz
        · exact hy
        · have := List.rel_of_pairwise_cons ih hz; omega
def sortU (ns : List Int) : List Int := dedS (sortI ns)
theorem sortU_lt (ns : List Int) : (sortU ns).Pairwise (· < ·) := dedS_lt (sortI_le ns)
theorem sortU_mem (ns : List Int) (k : Int) : k ∈ sortU ns ↔ k ∈ ns := (dedS_mem _ k).trans (sortI_perm ns).mem_iff
theorem lt_uniq : ∀ {a b : List Int}, a.Pairwise (· < ·) → b.Pairwise (· < ·) → (∀ k, k ∈ a ↔ k ∈ b) → a = b
  | [], [], _, _, _ => rfl
  | [], y :: b, _, _, h => absurd ((h y).mpr (by simp)) (by simp)
  | x :: a, [], _, _, h => absurd ((h x).mp (by simp)) (by simp)
  | x :: a, y :: b, ha, hb, h => by
    have e : x = y := by
      rcases List.mem_cons.mp ((h x).mp (by simp)) with e | hx
      · exact e
      · rcases List.mem_cons.mp ((h y).mpr (by simp)) with e | hy
        · exact e.symm
        · have h1 := List.rel_of_pairwise_cons ha hy
          have h2 := List.rel_of_pairwise_cons hb hx
          omega
    subst e
    rw [lt_uniq ha.of_cons hb.of_cons fun k => ?_]
    have hk := h k
    rw [List.mem_cons, List.mem_cons] at hk
    constructor
    · intro z
      have := List.rel_of_pairwise_cons ha z
      rcases hk.mp (.inr z) with e | e
      · omega
      · exact e
    · intro z
      have := List.rel_of_pairwise_cons hb z
      rcases hk.mpr (.inr z) with e | e
      · omega
      · exact e
theorem sortU_len (ns : List Int) : (sortU ns).length ≤ ns.length := by
  have : ∀ xs : List Int, (dedS xs).length ≤ xs.length := by
    intro xs
    induction xs with
    | nil => simp [dedS]
    | cons x xs ih =>
      rw [dedS]
      cases h : dedS xs with
      | nil => simp
      | cons y ys =>
        rw [h] at ih
        by_cases e : x = y <;> simp [e] at ih ⊢ <;> omega
  exact Nat.le_trans (this _) (Nat.le_of_eq (sortI_perm ns).length_eq)
theorem nodup_lt {a : List Int} (h : a.Pairwise (· < ·)) : a.Nodup := h.imp fun z => by omega
theorem nodup_len {a b : List Int} (ha : a.Nodup) (hb : b.Nodup) (h : ∀ k, k ∈ a ↔ k ∈ b) : a.length = b.length := (List.perm_ext_iff_of_nodup ha hb |>.mpr h).length_eq
/-- set of a list or a tuple of ints -/
def rSetI (K : PySem.W.Frag) (w : World) : List V → Hp → VK → Prop := fun xs H Q => ∃ (l : Addr) (ns : List Int), xs = [V.ref l] ∧ (SqL K H l (ns.map V.int) ∨ SqT K H l (ns.map V.int)) ∧ ns.length ≤ 4000 ∧
  ∀ a, H a = none → Q (.ref a) (upd H a (SetO w a (fun j => decide (j ∈ ns)) (sortU ns).length))
theorem cr_setI {X : Cx} (hc : X.calm = true) : CallR X (.type "set") (rSetI X.K X.w) := by
  intro pins s σ H xs us Q I r h
  obtain ⟨l, ns, rfl, hl, hn, q⟩ := h
  rw [Vals.ref1 r]
  have fin : ∀ (g : Heap) (tk c : Nat), SetR X.w g s.heap.objs.size (fun j => decide (j ∈ ns)) c → c ≤ ns.length → (∀ b o, s.heap.get? b = some o → g.get? b = some o) → _ := fun g tk c a1 a2 a3 => by
    have ec : c = (sortU ns).length := by
      obtain ⟨o, es, ep, t, _, _, _, _, nd, hm, _, _, hsz, _⟩ := a1
      have : (es.toList.map keyOf).length = (sortU ns).length := nodup_len nd (nodup_lt (sortU_lt ns)) fun k => by
        rw [← hm k, decide_eq_true_eq, sortU_mem]
      rw [← this, List.length_map, Array.length_toList]
      exact hsz.symm
    subst ec
    exact (⟨.ref s.heap.objs.size, upd H s.heap.objs.size (SetO X.w s.heap.objs.size (fun j => decide (j ∈ ns)) _), I.laid (t' := tk) a3 (Nat.le_refl _) (setO_new a1), rfl, q _ (I.hok.fresh (Nat.le_refl _))⟩ : ∃ v H', Inv X pins σ H' { s with heap := g, toks := tk } ∧ RelV v (.ref s.heap.objs.size) ∧ Q v H')
  rcases hl with hl | hl
  · obtain ⟨its, rv, pl, hz⟩ := I.list hl
    exact call_set_lstI ns (I.ok.hd hc) pl.isList (by simpa using ints_of_vals rv) (by unfold scanBound; omega) fin
  · obtain ⟨its, rv, pl, hz⟩ := I.tuple hl
    exact call_set_tupI ns (I.ok.hd hc) pl (by simpa using ints_of_vals rv) (by unfold scanBound; omega) fin
/-- len of a set of ints -/
def rLenS (w : World) : List V → Hp → VK → Prop := fun vs H Q => ∃ (a : Addr) (S : Int → Bool) (n : Nat), vs = [V.ref a] ∧ H a = some (SetO w a S n) ∧ Q (.int n) H
theorem cr_lenS {X : Cx} : CallR X (.builtin "len") (rLenS X.w) := by
  intro pins s σ H vs us Q I r h
  obtain ⟨a, S, n, rfl, ha, q⟩ := h
  obtain ⟨o, es, ep, t, ho, hex, hd, _, _, _, hb, hf, hsz, _⟩ := setO_get I ha
  rw [Vals.ref1 r]
  unfold scanBound at hb
  exact call_len_set ho hex hd hf (by omega) ⟨.int n, H, I.tok _, ⟨_, by rw [hsz]⟩, q⟩
def gSortU : GNN := fun ds M => match ds with
  | [d] => (sqOf d M).bind fun xs => (intsOf xs).bind fun ns => if ns.length < 64 then some ((sortU ns).map D.int) else none
  | _ => none
def gLenU : GN := fun ds M => match ds with
  | [d] => (sqOf d M).bind fun xs => (intsOf xs).bind fun ns => if ns.length ≤ 4000 then some (.int (sortU ns).length) else none
  | _ => none
theorem gSortU_ok {ds xs : List D} {M : Mem} (h : gSortU ds M = some xs) : ∃ d l ns, ds = [d] ∧ sqOf d M = some l ∧ intsOf l = some ns ∧ ns.length < 64 ∧ xs = (sortU ns).map D.int := by
  unfold gSortU at h
  split at h
  · obtain ⟨l, hl, h⟩ := Option.bind_eq_some_iff.mp h
    obtain ⟨ns, hn, h⟩ := Option.bind_eq_some_iff.mp h
    split at h
    · rename_i h64
      cases h
      exact ⟨_, l, ns, rfl, hl, hn, h64, rfl⟩
    · cases h
  · cases h
theorem gLenU_ok {ds : List D} {x : D} {M : Mem} (h : gLenU ds M = some x) : ∃ d l ns, ds = [d] ∧ sqOf d M = some l ∧ intsOf l = some ns ∧ ns.length ≤ 4000 ∧ x = .int (sortU ns).length := by
  unfold gLenU at h
  split at h
  · obtain ⟨l, hl, h⟩ := Option.bind_eq_some_iff.mp h
    obtain ⟨ns, hn, h⟩ := Option.bind_eq_some_iff.mp h
    split at h
    · rename_i h64
      cases h
      exact ⟨_, l, ns, rfl, hl, hn, h64, rfl⟩
    · cases h
  · cases h
section
variable {X : Cx} {e : Expr} {fa : FA} {p1 p2 pos1 pos : Pos}
theorem sqI {K : PySem.W.Frag} {W : Wo} {M : Mem} {d : D} {v : V} {xs : List D} {ns : List Int} (sr : SR K W M) (r : Rp K W d v) (hl : sqOf d M = some xs) (hn : intsOf xs = some ns) : ∃ l, v = V.ref l ∧ (SqL K W.H l (ns.map V.int) ∨ SqT K W.H l (ns.map V.int)) := by
  obtain ⟨l, us, rfl, h1, r2⟩ := sq_sq sr r hl
  have ee := intsOf_ok hn r2
  subst ee
  exact ⟨l, rfl, h1⟩
/-- sorted(set(xs)), of ints -/
theorem pfn_sortU (hgs : Gl X "sorted") (hms : X.mg "sorted" = none) (hg : Gl X "set") (hm : X.mg "set" = none) (ha : PFA X [e] fa) (hc : X.calm = true := by rfl)
    (he : starEach [e] X.env = (false, eval e X.env) :: starEach [] X.env := by rfl) (he2 : starEach [.Call (.Name "set" p2) [e] [] pos1] X.env = (false, eval (.Call (.Name "set" p2) [e] [] pos1) X.env) :: starEach [] X.env := by rfl)
    : PFN X (.Call (.Name "sorted" p1) [.Call (.Name "set" p2) [e] [] pos1] [] pos) (fBN gSortU fa) :=
  pe_weak (pe_callB (cr_sortedSet hc) hgs hms PyProof.Rows.boot_sorted (pa_cons (pe_callTy (cr_setI hc) hg hm PyProof.Rows.boot_set ha (by decide) (by decide) he (by rfl)) pa_nil he2) (by decide) (by decide) he2 (by rfl)) fun σ H Q => by
  rintro ⟨W, ρ, M, rfl, sr, sl, d, M', hf, k⟩
  obtain ⟨⟨ds, M1⟩, hx, hf⟩ := Option.bind_eq_some_iff.mp hf
  obtain ⟨d', hg, hf⟩ := Option.bind_eq_some_iff.mp hf
  cases hf
  refine ⟨W, ρ, M, rfl, sr, sl, ds, _, hx, fun W1 vs e1 s1 r1 => ?_⟩
  obtain ⟨d0, l, ns, rfl, hl, hn, h64, rfl⟩ := gSortU_ok hg
  obtain ⟨v, rfl, r2⟩ := rl1 r1
  obtain ⟨p, rfl, h1⟩ := sqI s1 r2 hl hn
  refine ⟨p, ns, rfl, h1, by omega, fun a ha => ?_⟩
  refine ⟨a, _, _, rfl, upd_same, Nat.lt_of_le_of_lt (sortU_len ns) h64, fun ns' q hlt hmem hlen hq => ?_⟩
  have ee : ns' = sortU ns := lt_uniq hlt (sortU_lt ns) fun k => by rw [hmem k, decide_eq_true_eq, sortU_mem]
  subst ee
  exact k (W1.put a _) q _ (e1.trans (Ext.put ha)) (s1.put ha) hq (rpl_ints _) (by rw [List.length_map]; have := sortU_len ns; show _ ≤ 16777216; omega)
/-- len(set(xs)), of ints -/
theorem pf_lenU (hgs : Gl X "len") (hms : X.mg "len" = none) (hg : Gl X "set") (hm : X.mg "set" = none) (ha : PFA X [e] fa) (hc : X.calm = true := by rfl)
    (he : starEach [e] X.env = (false, eval e X.env) :: starEach [] X.env := by rfl) (he2 : starEach [.Call (.Name "set" p2) [e] [] pos1] X.env = (false, eval (.Call (.Name "set" p2) [e] [] pos1) X.env) :: starEach [] X.env := by rfl)
    : PFE X (.Call (.Name "len" p1) [.Call (.Name "set" p2) [e] [] pos1] [] pos) (fB gLenU fa) :=
  pe_weak (pe_callB cr_lenS hgs hms boot_len (pa_cons (pe_callTy (cr_setI hc) hg hm PyProof.Rows.boot_set ha (by decide) (by decide) he (by rfl)) pa_nil he2) (by decide) (by decide) he2 (by rfl)) fun σ H Q => by
  rintro ⟨W, ρ, M, rfl, sr, sl, d, M', hf, k⟩
  obtain ⟨⟨ds, M1⟩, hx, hf⟩ := Option.bind_eq_some_iff.mp hf
  obtain ⟨d', hg, hf⟩ := Option.bind_eq_some_iff.mp hf
  cases hf
  refine ⟨W, ρ, M, rfl, sr, sl, ds, _, hx, fun W1 vs e1 s1 r1 => ?_⟩
  obtain ⟨d0, l, ns, rfl, hl, hn, h64, rfl⟩ := gLenU_ok hg
  obtain ⟨v, rfl, r2⟩ := rl1 r1
  obtain ⟨p, rfl, h1⟩ := sqI s1 r2 hl hn
  refine ⟨p, ns, rfl, h1, by omega, fun a ha => ?_⟩
  exact ⟨a, _, _, rfl, upd_same, k (W1.put a _) _ (e1.trans (Ext.put ha)) (s1.put ha) rfl⟩
end
end PF
namespace PF
open PySem PySem.Spec PyProof.Rows L2
/-! xs += ys, of lists -/
def gIExt : G2M := fun x y M => (mlOf x M).bind fun l => (ltOf y M).bind fun ys => if l.2.length + ys.length ≤ LINE then some (x, M.set l.1 (.lst (l.2 ++ ys))) else none
theorem o_iext {K : PySem.W.Frag} : Op2M K rExt2 gIExt := by
  intro W M M' x y d v u Q sr rx ry hg k
  obtain ⟨⟨n, xs⟩, hl, hg⟩ := Option.bind_eq_some_iff.mp hg
  obtain ⟨ys, hy, hg⟩ := Option.bind_eq_some_iff.mp hg
  split at hg
  · rename_i hz
    cases hg
    have rx0 := rx
    obtain ⟨a, ws, rfl, ha, hH, rw_, hlen⟩ := ml_ok sr rx hl
    obtain ⟨b, us, rfl, hB, ru⟩ := lt_sq sr ry hy
    have e := Ext.wr (W := W) (o := .lst (ws ++ us)) (List.mem_of_getElem? ha)
    exact ⟨a, b, ws, us, rfl, rfl, hH, hB, by rw [line_eq, ← rw_.len, ← ru.len]; exact hz, k _ _ e (sr.wr ha (rw_.append ru) (by rw [List.length_append, ← rw_.len, ← ru.len]; exact hz)) (rx0.ext e sr.sub)⟩
  · cases hg
end PF
namespace PF
open PySem PySem.Spec PyProof.Rows L2
/-! a tuple of targets for a list -/
def tTL (n : Nat) (t : FGs) : FG := fun d ρ => match d with | .lst xs => if xs.length = n then t xs ρ else none | _ => none
theorem pfg_lst {X : Cx} {vs : List Nat} {es : List Expr} {k : Nat} {t : FGs} {n : Nat} {pos : Pos} (hc : X.calm = true) (h : PFGs X vs es t) (hn : (assignEach es X.env).length = n := by rfl) (hst : (assignEach es X.env).findIdx? (·.1) = none := by rfl) : PFG X vs (.Tuple es k pos) (tTL n t) := pg_weak (pg_lst hc h hn hst) fun v σ H E => by
  rintro ⟨W, ρ, M, d, rfl, sr, sl, r, ρ', ht, k⟩
  unfold tTL at ht
  split at ht
  · split at ht
    · rename_i hl
      obtain ⟨a, vs, rfl, h1, q1⟩ := ls_sq sr r rfl
      exact ⟨a, vs, rfl, h1, by rw [← q1.len]; exact hl, W, ρ, M, _, rfl, sr, sl, q1, ρ', ht, k⟩
    · cases ht
  · cases ht
/-! tuple(range(..)) -/
def fTupRg1 (f : FA) : FE := fun ρ M => (f ρ M).bind fun a => match a.1 with | [.int j] => if okR 0 j then some (.tup (rgD 0 j.toNat), a.2) else none | _ => none
section
variable {X : Cx} {a : Expr}
theorem pf_tupRg1 {f : FA} {p p2 pos pos2 : Pos} (hc : X.calm = true) (hg : Gl X "tuple") (hm : X.mg "tuple" = none) (hg2 : Gl X "range") (hm2 : X.mg "range" = none) (ha : PFA X [a] f)
    (hs : starEach [a] X.env = [(false, eval a X.env)] := by rfl) (na : starEach [Expr.Call (.Name "range" p2) [a] [] pos2] X.env = (false, eval (Expr.Call (.Name "range" p2) [a] [] pos2) X.env) :: starEach [] X.env := by rfl) :
    PFE X (.Call (.Name "tuple" p) [.Call (.Name "range" p2) [a] [] pos2] [] pos) (fTupRg1 f) := pe_weak (pe_tupRg hc hg hm (prg_A1 hg2 hm2 ha hs) na) fun σ H Q => by
  rintro ⟨W, ρ, M, rfl, sr, sl, xs, M', hf, k⟩
  obtain ⟨⟨x, M1⟩, hx, hf⟩ := Option.bind_eq_some_iff.mp hf
  dsimp only at hf
  split at hf
  · split at hf
    · rename_i j hr
      cases hf
      refine ⟨W, ρ, M, rfl, sr, sl, _, _, hx, fun W1 v e1 s1 r1 => ?_⟩
      obtain ⟨v1, r, rfl, q1, q2⟩ := r1
      cases (show _ = _ from q1); cases (show _ = _ from q2)
      refine ⟨_, rfl, rgok_of hr, fun q hq => ?_⟩
      have e2 : rgV 0 j = (List.range j.toNat).map fun (i : Nat) => V.int (0 + i) := by
        unfold rgV; simp
      rw [e2]
      have hr2 := okR_ok hr
      exact k _ _ (e1.trans (Ext.put hq)) (s1.put hq) (.newTup s1 hq (rpl_rg X.K W1 0 (List.range j.toNat)) (by rw [List.length_map, List.length_range]; show _ ≤ 16777216; omega))
    · cases hf
  · cases hf
end
end PF
namespace PF
open PySem PySem.Spec PyProof.Rows L2
/-! a block of statements whose own new lists nobody changes behind it: they are frozen at its end -/
def frE (m : Nat) (M1 : Mem) : D → Option D
  | .ref j => if j < m then some (.ref j) else match M1[j]? with
    | some (.lst xs) => if D.nrs xs = true then some (.lst xs) else none
    | none => none
  | d => if d.nr = true then some d else none
def frL (m : Nat) (M1 : Mem) : List D → Option (List D)
  | [] => some []
  | d :: ds => (frE m M1 d).bind fun e => (frL m M1 ds).bind fun es => some (e :: es)
def frMs (m : Nat) (M1 : Mem) : Mem → Option Mem
  | [] => some []
  | .lst xs :: ms => (frL m M1 xs).bind fun ys => (frMs m M1 ms).bind fun ns => some (.lst ys :: ns)
def frS (m : Nat) (M1 : Mem) (ρ : Rho) : Rho := ρ.map fun o => o.bind fun d => frE m M1 d
def sBlk (f : FS) : FS := fun ρ M => (f ρ M).bind fun o => (frMs M.length o.2 (o.2.take M.length)).bind fun M' => match o.1 with
  | .nx ρ1 => some (.nx (frS M.length o.2 ρ1), M')
  | .bk ρ1 => some (.bk (frS M.length o.2 ρ1), M')
  | .ct ρ1 => some (.ct (frS M.length o.2 ρ1), M')
  | .ret d => (frE M.length o.2 d).bind fun e => some (.ret e, M')
def cutW (W : Wo) (m : Nat) : Wo := ⟨W.as.take m, fun a => W.bad a ∧ a ∉ W.as.drop m, W.H⟩
section
variable {K : PySem.W.Frag} {W W1 : Wo} {M M1 : Mem}
theorem frE_ok {m : Nat} {d e : D} {v : V} (s : SR K W1 M1) (r : Rp K W1 d v) (h : frE m M1 d = some e) : Rp K (cutW W1 m) e v := by
  have other : (if d.nr = true then some d else none) = some e → Rp K (cutW W1 m) e v := fun h => by
    split at h
    · rename_i hn
      cases h
      exact Rp.nr (W := W1) (W' := cutW W1 m) rfl (fun _ z => z.1) _ _ hn r
    · cases h
  cases d with
  | ref j =>
    have h : (if j < m then some (D.ref j) else match M1[j]? with
      | some (.lst xs) => if D.nrs xs = true then some (D.lst xs) else none
      | none => none) = some e := h
    obtain ⟨a, h1, rfl⟩ := r
    by_cases hj : j < m
    · rw [if_pos hj] at h
      cases h
      exact ⟨a, by show (W1.as.take m)[j]? = _; rw [List.getElem?_take_of_lt hj]; exact h1, rfl⟩
    · rw [if_neg hj] at h
      split at h
      · rename_i xs hx
        split at h
        · rename_i hn
          cases h
          obtain ⟨vs, q1, q2⟩ := s.obj j a _ h1 hx
          have hd : a ∈ W1.as.drop m := by
            have : (W1.as.drop m)[j - m]? = some a := by rw [List.getElem?_drop, show m + (j - m) = j by omega]; exact h1
            exact List.mem_of_getElem? this
          exact ⟨a, vs, rfl, ⟨⟨q1.1, fun z => z.2 hd⟩, q1.2⟩, RpL.nr (W := W1) (W' := cutW W1 m) rfl (fun _ z => z.1) _ _ hn q2⟩
        · cases h
      · cases h
  | non => exact other h
  | bl _ => exact other h
  | int _ => exact other h
  | str _ => exact other h
  | tup _ => exact other h
  | lst _ => exact other h
  | kst _ => exact other h
theorem frL_ok {m : Nat} (s : SR K W1 M1) : ∀ {ds es : List D} {vs : List V}, RpL K W1 ds vs → frL m M1 ds = some es → RpL K (cutW W1 m) es vs
  | [], _, _, r, h => by cases h; exact r
  | d :: ds, es, vs, r, h => by
    obtain ⟨v, w, rfl, r1, r2⟩ := r
    obtain ⟨e, h1, h⟩ := Option.bind_eq_some_iff.mp h
    obtain ⟨es', h2, h⟩ := Option.bind_eq_some_iff.mp h
    cases h
    exact ⟨v, w, rfl, frE_ok s r1 h1, frL_ok s r2 h2⟩
theorem frMs_at {m : Nat} : ∀ {ms ns : Mem}, frMs m M1 ms = some ns → ms.length = ns.length ∧ ∀ (n : Nat) (mo : MO), ns[n]? = some mo → ∃ xs ys, ms[n]? = some (.lst xs) ∧ mo = .lst ys ∧ frL m M1 xs = some ys
  | [], ns, h => by cases h; exact ⟨rfl, fun n mo h => by simp at h⟩
  | .lst xs :: ms, ns, h => by
    obtain ⟨ys, h1, h⟩ := Option.bind_eq_some_iff.mp h
    obtain ⟨ns', h2, h⟩ := Option.bind_eq_some_iff.mp h
    cases h
    obtain ⟨l, a⟩ := frMs_at h2
    refine ⟨by simp [l], fun n mo hn => ?_⟩
    cases n with
    | zero =>
      simp at hn
      exact ⟨xs, ys, rfl, hn.symm, h1⟩
    | succ n => exact a n mo (by simpa using hn)
theorem cut_ok {M' : Mem} (sr : SR K W M) (ex : Ext W W1) (s : SR K W1 M1) (h : frMs M.length M1 (M1.take M.length) = some M') : Ext W (cutW W1 M.length) ∧ SR K (cutW W1 M.length) M' := by
  obtain ⟨new, ea, fr⟩ := ex.as
  have hl := sr.len
  have ht : W1.as.take M.length = W.as := by rw [ea, ← hl, List.take_left]
  have hd : W1.as.drop M.length = new := by rw [ea, ← hl, List.drop_left]
  obtain ⟨l, at_⟩ := frMs_at h
  have hlen : (cutW W1 M.length).as.length = M'.length := by
    show (W1.as.take M.length).length = _
    rw [← l, ht, List.length_take, ← s.len, ea, List.length_append]
    omega
  refine ⟨⟨⟨[], by show W1.as.take M.length = _; rw [ht, List.append_nil], fun _ z => by simp at z⟩, fun a z => ⟨ex.bad a z, fun q => ?_⟩, fun a z => ex.new a z.1, ex.keep, ex.live⟩, ⟨hlen, ?_, fun a z => ?_, fun a z => s.bt a z.1, fun n a mo h1 h2 => ?_⟩⟩
  · rw [hd] at q
    obtain ⟨o, ho⟩ := sr.bt a z
    rw [fr a q] at ho; cases ho
  · show (W1.as.take M.length).Nodup
    rw [ht]; exact sr.nd
  · have z1 : a ∈ W.as := by rw [← ht]; exact z
    refine ⟨s.sub a (by rw [ea]; exact List.mem_append_left _ z1), fun q => ?_⟩
    rw [hd] at q
    obtain ⟨o, ho⟩ := sr.bt a (sr.sub a z1)
    rw [fr a q] at ho; cases ho
  · obtain ⟨xs, ys, g1, rfl, g2⟩ := at_ n mo h2
    have hn : n < M.length := by
      have := (List.getElem?_eq_some_iff.mp g1).1
      rw [List.length_take] at this; omega
    have h1' : W1.as[n]? = some a := by
      have : (W1.as.take M.length)[n]? = some a := h1
      rw [List.getElem?_take_of_lt hn] at this; exact this
    have g1' : M1[n]? = some (.lst xs) := by rw [List.getElem?_take_of_lt hn] at g1; exact g1
    obtain ⟨vs, q1, q2⟩ := s.obj n a _ h1' g1'
    exact ⟨vs, q1, frL_ok s q2 g2⟩
theorem frS_ok {m : Nat} {ρ : Rho} {σ : L2.St} (s : SR K W1 M1) (h : Sl K W1 ρ σ) : Sl K (cutW W1 m) (frS m M1 ρ) σ := by
  refine ⟨by unfold frS; rw [List.length_map]; exact h.len, fun i d hi => ?_⟩
  unfold frS at hi
  rw [List.getElem?_map] at hi
  cases q : ρ[i]? with
  | none => rw [q] at hi; cases hi
  | some o =>
    rw [q] at hi
    cases o with
    | none => cases hi
    | some d0 =>
      have hi2 : frE m M1 d0 = some d := by simpa using hi
      obtain ⟨v, h1, h2⟩ := h.at_ i d0 q
      exact ⟨v, h1, frE_ok s h2 hi2⟩
end
theorem pfss_blk {X : Cx} {ss : List Stmt} {f : FS} (h : PFSs X ss f) : PFSs X ss (sBlk f) := pss_weak h fun E σ H => by
  rw [liftS_iff, liftS_iff]
  rintro ⟨W, ρ, M, rfl, sr, sl, o', M', hf, k⟩
  obtain ⟨⟨o, M1⟩, hg, hf⟩ := Option.bind_eq_some_iff.mp hf
  obtain ⟨M2, hm, hf⟩ := Option.bind_eq_some_iff.mp hf
  refine ⟨W, ρ, M, rfl, sr, sl, o, M1, hg, ?_⟩
  cases o with
  | nx ρ1 =>
    cases hf
    intro W1 σ1 e1 s1 l1
    obtain ⟨c1, c2⟩ := cut_ok sr e1 s1 hm
    exact k (cutW W1 M.length) σ1 c1 c2 (frS_ok s1 l1)
  | bk ρ1 =>
    cases hf
    intro W1 σ1 e1 s1 l1
    obtain ⟨c1, c2⟩ := cut_ok sr e1 s1 hm
    exact k (cutW W1 M.length) σ1 c1 c2 (frS_ok s1 l1)
  | ct ρ1 =>
    cases hf
    intro W1 σ1 e1 s1 l1
    obtain ⟨c1, c2⟩ := cut_ok sr e1 s1 hm
    exact k (cutW W1 M.length) σ1 c1 c2 (frS_ok s1 l1)
  | ret d =>
    obtain ⟨e, he, hf⟩ := Option.bind_eq_some_iff.mp hf
    cases hf
    intro W1 v e1 s1 r1
    obtain ⟨c1, c2⟩ := cut_ok sr e1 s1 hm
    exact k (cutW W1 M.length) v c1 c2 (frE_ok s1 r1 he)
end PF
namespace PF
open PySem PySem.Spec PyProof.Rows L2
/-! t * 0 of a tuple -/
theorem mul_zero (l : Addr) (items : Array Value) (n : Nat) (dd : Option Addr) (sl : Array (Option Value)) (u : Tok) (he : items.isEmpty = false) :
    Meets (Builtin.«tuple.__mul__» ⟨[.ref l, .int 0 u], []⟩) (fun _ R s => s.heap.get? l = some { cls := .type "tuple", dict := dd, data := .seq items n, slots := sl } ∧
      R (.ok (.ret (Value.ref s.heap.objs.size))) { s with heap := s.heap.push { cls := Value.type "tuple", data := Data.seq #[] }, toks := s.toks }) :=
  .of_wp fun prog w A R s h => by
    obtain ⟨hp, g, d, tk, os⟩ := s
    obtain ⟨hl, h⟩ := h
    have f1 := AutoSeq1.idx_int
    have c1 : (items.isEmpty || (0 : Int) == 1) = false := by rw [he]; rfl
    have c2 : (decide ((0 : Int) ≤ 0) || items.isEmpty) = true := by simp
    wp_walk using wpAny_loadPart' hl
    repeat (first
      | (refine wpAny_ite_false (decide_eq_false (by decide)) ?_; wp_walk using wpAny_loadPart' hl)
      | (refine wpAny_ite_false (decide_eq_false (by rw [c1]; exact Bool.false_ne_true)) ?_; wp_walk using wpAny_loadPart' hl)
      | (refine wpAny_ite_true (decide_eq_true (by rw [c2])) ?_; wp_walk using wpAny_loadPart' hl))
    exact ⟨_, rfl, h⟩
def rRep0 (K : PySem.W.Frag) : R2 := fun x y H Q => ∃ l xs, x = .ref l ∧ y = .int 0 ∧ SqT K H l xs ∧ xs ≠ [] ∧ ∀ p, H p = none → Q (.ref p) (upd H p (.tup []))
theorem op_rep0 {X : Cx} : OpR X (binaryOp .Mult) (rRep0 X.K) := by
  intro pins s σ H x y v u Q I rx ry h
  obtain ⟨l, xs, rfl, rfl, hT, hne, q⟩ := h
  cases rx
  obtain ⟨t, rfl⟩ := ry
  obtain ⟨its, r, ⟨⟨cls, dd, data, sl⟩, ho, hc, n, hd⟩, hs⟩ := I.tuple hT
  simp only at hc hd
  subst hc hd
  have hle : its.length = xs.length := r.length.symm
  have hi : its.toArray.isEmpty = false := by
    cases its with
    | nil => exact absurd (List.eq_nil_of_length_eq_zero hle.symm) hne
    | cons a b => rfl
  refine wpAny_binaryOp_repeat_ref (T := "tuple") (U := "int") (by decide) ⟨_, ho, rfl⟩ (fun s' => typeIs_int s' 0 t) noFill_tuple_mul F.fills_int_mul F.slot_int_rmul repeat_tuple F.slot_int_index.lookup
    (call_meets F.slot_int_rmul (typeIs_int s 0 t) F.entry_int_rmul (F.args_int_rmul_2 _ _) (int_rmul_tuple 0 t l its.toArray n dd sl)
      ⟨ho, rfl, ⟨_, ho, rfl⟩, call_meets F.slot_tuple_mul ⟨_, ho, rfl⟩ F.entry_tuple_mul (F.args_tuple_mul_2 _ _) (mul_zero l its.toArray n dd sl t hi) ⟨ho, ?_⟩⟩)
  refine ⟨.ref s.heap.objs.size, _, I.laid (t' := s.toks) (o := .tup []) (fun b ob q => Heap.get?_push_of_some _ q) (Nat.le_refl _) ?_, rfl, q _ (I.hok.fresh (Nat.le_refl _))⟩
  exact ⟨Nat.zero_le _, _, (r.rep 0), IsTup.new _ _⟩
def rRepZ (K : PySem.W.Frag) : R2 := fun x y H Q => rRepA K x y H Q ∨ rRep0 K x y H Q
theorem op_repZ {X : Cx} : OpR X (binaryOp .Mult) (rRepZ X.K) := op_repTA.or op_rep0
def gRepZ : G2 := fun x y M => match x, y with
  | .tup xs, .int j => if j = 0 then (if xs.isEmpty = true then none else some (.tup [])) else gRepT x y M
  | _, _ => none
theorem o_repZ {K : PySem.W.Frag} : Op2 K (rRepZ K) gRepZ := by
  intro W M x y d v u Q sr rx ry hg k
  unfold gRepZ at hg
  split at hg
  · rename_i xs j
    split at hg
    · rename_i hj
      subst hj
      split at hg
      · cases hg
      · rename_i he
        cases hg
        cases (show _ = _ from ry)
        obtain ⟨p, vs, rfl, h1, r1⟩ := tp_sq rx
        have hl := r1.len
        have hne : vs ≠ [] := by
          rintro rfl
          have : xs = [] := List.eq_nil_of_length_eq_zero hl
          subst this
          exact he rfl
        refine .inr ⟨p, vs, rfl, rfl, h1, hne, fun t nt => ?_⟩
        exact k _ _ (Ext.put nt) (sr.put nt) (.newTup sr nt (r1.rep 0) (Nat.zero_le _))
    · exact .inl (o_repT W M _ _ d v u Q sr rx ry hg k)
  · cases hg
end PF
namespace PF
open PySem PySem.Spec PyProof.Rows L2
/-! sorted(xs), xs a tuple -/
section
variable {prog : Program} {w : World} {A : Around} {E : Value → Shared → Prop} {s : Shared} {β : Type} {bs : List β} {enc : β → PyData} {R : Value → β → Prop}
theorem collectT {l : Addr} {vs : List Value} {Q : List Value → Shared → Prop} (hl : s.heap.IsTuple l vs.toArray) (hsz : vs.length ≤ sizeLine) (h : Q vs { s with heap := (s.heap.push (seqObj "list" #[] 0)).update s.heap.objs.size (Obj.mapSeq (· ++ vs.toArray)) }) : wpAny (model prog w) A (collect (.ref l)) Q E s := by
  obtain ⟨o, ho, hc, n, hd⟩ := hl; unfold collect; refine wpAny_bind (wpAny_runValue (codeAny_builtin entry_proto_collect' ?_))
  show wpAny _ _ (do again (.builtin "list.__iadd__" ⟨[← newList [], .ref l], []⟩)) _ _ s; refine wpAny_bind (wpAny_newList (wpAny_pure ⟨Code.quiet_builtin _ (by decide +kernel), codeAny_builtin entry_list_iadd' ?_⟩))
  show wpAny _ _ (Builtin.List.listExtendWith (.ref s.heap.objs.size) (.ref l) (.ref s.heap.objs.size)) _ _ { s with heap := s.heap.push (seqObj "list" #[] 0) }; unfold Builtin.List.listExtendWith
  have hp : (s.heap.push (seqObj "list" #[] 0)).get? l = some o := Heap.get?_push_of_some _ ho
  refine wpAny_bind (wpAny_typeOf (T := "tuple") ⟨o, hp, hc⟩ ?_); rw [if_pos (by rw [show (Value.type "tuple" == Value.type "tuple") = true by rfl]; simp)]; refine wpAny_bind (listItems_at hp hd ?_)
  refine wpAny_bind (listItems_at (xs := #[]) (n := 0) (Heap.get?_push_size _ rfl) rfl ?_); rw [if_neg (by simp)]
  refine wpAny_bind (listUpdate_at (xs := #[]) (n := 0) (Heap.get?_push_size _ rfl) rfl ?_ (Nat.zero_le _) (by show (#[] ++ vs.toArray).size ≤ sizeLine + 1; simp only [Array.size_append, List.size_toArray, List.length_nil]; omega)); refine wpAny_pure ?_
  show wpAny (model prog w) A (do (match (← load s.heap.objs.size).data with | .seq xs _ => pure xs.toList | _ => unsupported "internal:collect")) Q E { s with heap := (s.heap.push (seqObj "list" #[] 0)).update s.heap.objs.size (Obj.mapSeq (· ++ vs.toArray)) }
  refine wpAny_bind (wpAny_load (get?_update_seq (Heap.get?_push_size _ rfl) _) ?_); show wpAny _ _ (pure ((#[] : Array Value) ++ vs.toArray).toList) Q E _
  rw [show ((#[] : Array Value) ++ vs.toArray).toList = vs by simp]; exact wpAny_pure h
theorem sorted_ofTup {l : Addr} {vs : List Value} {Q : Value → Shared → Prop} (ht : s.heap.IsTuple l vs.toArray) (e : PySem.W.EachIs R vs bs) (er : PySem.W.EachIs (fun v b => ∃ as, Reads s.heap v (enc b) as) vs bs) (hal : PySem.W.AllAlike (bs.map enc)) (hk : PySem.W.Sortable (bs.map enc)) (hL : bs.length ≤ sizeLine)
    (hu : ∀ b, b ∈ bs → A.units + 2 + (enc b).depth < cLine)
    (h : ∀ out, out.length = bs.length → PySem.W.EachIs R out (bs.mergeSort (PySem.W.dataLe false enc)) → Q (.ref (s.heap.objs.size + 1)) { s with heap := sortedAll s.heap vs (List.toArray out) }) :
    wpAny (model prog w) A (call (.builtin "sorted") [.ref l]) Q E s := by
  have hl2 : vs.length ≤ sizeLine := by rw [e.length]; exact hL
  have er' : PySem.W.EachIs (fun v b => ∃ as, Reads (PySem.W.sortingHeap (PySem.W.copyHeap s.heap vs) (s.heap.objs.size + 1) vs) v (enc b) as) vs bs := er.mono fun _ _ ⟨as, r⟩ => ⟨as, PyProof.Rows.Reads.keeps (fun _ _ => PySem.W.sorting_copy_old) r⟩
  have hz : ((s.heap.push (seqObj "list" #[] 0)).update s.heap.objs.size (Obj.mapSeq (· ++ vs.toArray))).objs.size = s.heap.objs.size + 1 := (Heap.size_update _ _ _).trans (size_push' _ _)
  refine PySem.Calls.call_function_entry kind_sorted plain_sorted entry_sorted (args_sorted1 _) ?_; unfold Builtin.«sorted»
  refine wpAny_bind (m := checkCount "sorted" 1 1 _) (wpAny_pure ?_); refine wpAny_bind (collectT ht hl2 ?_)
  refine wpAny_bind (wpAny_newList ?_ hl2); show wpAny _ _ _ _ _ { s with heap := PySem.W.copyHeap s.heap vs }
  rw [hz]; refine wpAny_bind (wpAny_holding (wpAny_call_entry slot_list_sort ⟨_, PySem.W.copyHeap_at s.heap vs, rfl⟩ entry_list_sort (PySem.W.list_sort_vals (s := { s with heap := PySem.W.copyHeap s.heap vs }) (κ := PySem.W.dataKind (PySem.W.sortingHeap (PySem.W.copyHeap s.heap vs) (s.heap.objs.size + 1) vs) (bs.map enc)) (PySem.W.copyHeap_at s.heap vs)
    (PySem.W.SortsAt.data (s := { s with heap := PySem.W.sortingHeap (PySem.W.copyHeap s.heap vs) (s.heap.objs.size + 1) vs }) (PySem.W.each_map (R := fun v d => ∃ as, Reads (PySem.W.sortingHeap (PySem.W.copyHeap s.heap vs) (s.heap.objs.size + 1) vs) v d as) enc er') hal hk (PySem.W.bound_map (A := A.in1.in1) hu)) hl2 ⟨_, rfl, ?_⟩) (args_list_sort _)))
  exact wpAny_pure ⟨_, rfl, h _ (by rw [PySem.W.sortVals_length false rfl]; exact e.length) (PySem.W.sortVals_data false e er' hal)⟩
end
def rSortedT (K : PySem.W.Frag) : List V → Hp → VK → Prop := fun vs H Q => ∃ (a : Addr) (ys : List V) (ds : List PyData), vs = [V.ref a] ∧ SqT K H a ys ∧ ds.length = ys.length ∧ DpAll K H ys ds ∧ PySem.W.AllAlike ds ∧ PySem.W.Sortable ds ∧ PyData.depthAll ds ≤ 60 ∧
  ∀ p, H p = none → Q (.ref p) (upd H p (.lst (vsort ys ds)))
theorem cr_sortedT {X : Cx} (hu : X.A.units + 64 < cLine) : CallR X (.builtin "sorted") (rSortedT X.K) := by
  intro pins s σ H vs us Q I r h
  obtain ⟨a, ys, ds, rfl, hs, hlen, hd, hal, hsb, hdp, q⟩ := h
  obtain ⟨its, rv, hl, hz⟩ := I.tuple hs
  rw [Vals.ref1 r]
  obtain ⟨as, hr⟩ := Dp.readsAll I ds ys its hd rv
  have e1 := zip_snd ys ds hlen
  have hzl : (ys.zip ds).length = ys.length := by rw [List.length_zip, hlen, Nat.min_self]
  have ez := zip_each rv hlen
  have er : PySem.W.EachIs (fun v (b : V × PyData) => ∃ as, Reads s.heap v (Prod.snd b) as) its (ys.zip ds) := PySem.W.readsAll_each Prod.snd (by rw [e1]; exact hr)
  refine sorted_ofTup (enc := Prod.snd) (show s.heap.IsTuple a its.toArray from hl) ez er (by rw [e1]; exact hal) (by rw [e1]; exact hsb) (by rw [hzl]; exact hz) (fun b hb => ?_) fun out ho hout => ?_
  · have hm : b.2 ∈ ds := by rw [← e1]; exact List.mem_map.mpr ⟨b, hb, rfl⟩
    have := depth_le hm
    omega
  · obtain ⟨n, hn⟩ := sortedAll_at s.heap its out.toArray
    refine ⟨.ref (s.heap.objs.size + 1), upd H (s.heap.objs.size + 1) (.lst (vsort ys ds)), I.laid (t' := s.toks) (fun b o q => sortedAll_old q) (Nat.le_succ _) ⟨?_, out, n, each_vals hout, hn⟩, rfl, q _ (I.hok.fresh (Nat.le_succ _))⟩
    have : (vsort ys ds).length = ys.length := by unfold vsort; rw [List.length_map, (List.mergeSort_perm _ _).length_eq, hzl]
    rw [this]; exact hz
theorem cr_sortedA {X : Cx} (hu : X.A.units + 64 < cLine) : CallR X (.builtin "sorted") (fun vs H Q => rSortedDt X.K vs H Q ∨ rSortedT X.K vs H Q) := by
  intro pins s σ H vs us Q I r h
  rcases h with h | h
  · exact cr_sortedDt hu pins s σ H vs us Q I r h
  · exact cr_sortedT hu pins s σ H vs us Q I r h
def gSortA : GNN := fun ds M => match ds with
  | [d] => (sqOf d M).bind fun xs => if (okAl xs && srtb xs) = true then some (sortD xs) else none
  | _ => none
theorem o_sortA {K : PySem.W.Frag} : OpNN K (fun vs H Q => rSortedDt K vs H Q ∨ rSortedT K vs H Q) gSortA := by
  intro W M ds xs vs Q sr r hg k
  unfold gSortA at hg
  split at hg
  · rename_i d
    have old : gSortD [d] M = some xs → rSortedDt K vs W.H Q ∨ rSortedT K vs W.H Q := fun hg => .inl (o_sortD W M [d] xs vs Q sr r hg k)
    cases d with
    | tup l =>
      have hg' : (if (okAl l && srtb l) = true then some (sortD l) else none) = some xs := hg
      split at hg'
      · rename_i ok
        cases hg'
        rw [Bool.and_eq_true] at ok
        obtain ⟨o1, o2⟩ := okAl_ok ok.1
        obtain ⟨v, rfl, r1⟩ := rl1 r
        have hz := sq_len sr r1 (xs := l) rfl
        obtain ⟨p, us, rfl, h1, r2⟩ := tp_sq r1
        have hlen : (D.pys l).length = us.length := by rw [pys_map, List.length_map]; exact r2.len
        refine .inr ⟨p, us, D.pys l, rfl, h1, hlen, dp_Dps 59 l us o1 r2, o2, srtb_ok ok.2, by have := (dps_can 59 l o1).2; omega, fun q hq => ?_⟩
        have r3 := sort_rep r2
        refine k q _ hq r3 ?_
        rw [← r3.len, show (sortD l).length = l.length from (List.mergeSort_perm _ _).length_eq]
        exact hz
      · cases hg'
    | _ => exact old hg
  · cases hg
/-! a tuple of targets, for a tuple or a list -/
def tTA (n : Nat) (t : FGs) : FG := fun d ρ => match d with
  | .lst xs => if xs.length = n then t xs ρ else none
  | d => tT n t d ρ
theorem pfg_any {X : Cx} {vs : List Nat} {es : List Expr} {k : Nat} {t : FGs} {n : Nat} {pos : Pos} (hc : X.calm = true) (h : PFGs X vs es t) (hn : (assignEach es X.env).length = n := by rfl) (hst : (assignEach es X.env).findIdx? (·.1) = none := by rfl) : PFG X vs (.Tuple es k pos) (tTA n t) := by
  refine ⟨fun pins s σ H v u Q I r hw => ?_⟩
  obtain ⟨W, ρ, M, d, hW, sr, sl, rp, ρ', ht, kk⟩ := hw
  have tup : tT n t d ρ = some ρ' → wpAny (model X.prog X.w) X.A (assign (.Tuple es k pos) X.env u) (fun _ s' => ∃ σ' H', Inv X pins σ' H' s' ∧ Q σ' H') X.xe s := fun ht => (pfg_tup hc h hn hst).run pins s σ H v u Q I r ⟨W, ρ, M, d, hW, sr, sl, rp, ρ', ht, kk⟩
  cases d with
  | lst xs => exact (pfg_lst hc h hn hst).run pins s σ H v u Q I r ⟨W, ρ, M, .lst xs, hW, sr, sl, rp, ρ', ht, kk⟩
  | _ => exact tup ht
/-! x -= y, x *= y of ints -/
def gISub : G2M := fun x y M => match x, y with
  | .int i, .int j => some (.int (i - j), M)
  | _, _ => none
theorem o_isub {K : PySem.W.Frag} : Op2M K (rI0 fun i j => .int (i - j)) gISub := by
  intro W M M' x y d v u Q sr rx ry hg k
  unfold gISub at hg
  split at hg
  · cases hg
    cases rx; cases ry
    exact ⟨_, _, rfl, rfl, k W _ (.refl W) sr rfl⟩
  · cases hg
def gIMul : G2M := fun x y M => match x, y with
  | .int i, .int j => if okMul i j = true then some (.int (i * j), M) else none
  | _, _ => none
theorem iop_imulA {X : Cx} : OpR X (inplaceOp .Mult) (rI IntMulOk fun i j => .int (i * j)) := opI fun _ _ _ _ _ _ _ hc q => imul_int q hc
theorem o_imul {K : PySem.W.Frag} : Op2M K (rI IntMulOk fun i j => .int (i * j)) gIMul := by
  intro W M M' x y d v u Q sr rx ry hg k
  unfold gIMul at hg
  split at hg
  · split at hg
    · rename_i h
      cases hg
      cases rx; cases ry
      exact ⟨_, _, rfl, rfl, okMul_ok h, k W _ (.refl W) sr rfl⟩
    · cases hg
  · cases hg
/-! xs * n of lists, as a new list -/
def gRep : D → D → Mem → Option (List D) := fun x y M => match y with
  | .int j => match ltOf x M with
    | some xs => if (decide (-(9223372036854775808) ≤ j) && (decide (j < 9223372036854775808) && decide (xs.length * j.toNat ≤ LINE))) = true then some (List.replicate j.toNat xs).flatten else none
    | none => none
  | _ => none
theorem pfn_rep {X : Cx} {a b : Expr} {fa fb : FE} {pos : Pos} (ha : PFE X a fa) (hb : PFE X b fb) : PFN X (.BinOp a .Mult b pos) (f2N gRep fa fb) := pe_weak (pe_op op_rep ha hb) fun σ H Q => by
  rintro ⟨W, ρ, M, rfl, sr, sl, d, M', hf, k⟩
  obtain ⟨⟨x, M1⟩, hx, hf⟩ := Option.bind_eq_some_iff.mp hf
  obtain ⟨⟨y, M2⟩, hy, hf⟩ := Option.bind_eq_some_iff.mp hf
  obtain ⟨z, hz, hf⟩ := Option.bind_eq_some_iff.mp hf
  cases hf
  refine ⟨W, ρ, M, rfl, sr, sl, x, M1, hx, fun W1 v e1 s1 r1 => ⟨W1, ρ, M1, rfl, s1, sl.ext e1 sr.sub, y, _, hy, fun W2 u e2 s2 r2 => ?_⟩⟩
  cases y with
  | int j =>
    change (match ltOf x _ with | some xs => if (decide (-(9223372036854775808) ≤ j) && (decide (j < 9223372036854775808) && decide (xs.length * j.toNat ≤ LINE))) = true then some (List.replicate j.toNat xs).flatten else none | none => none) = _ at hz
    split at hz
    · rename_i xs hp
      split at hz
      · rename_i h
        cases hz
        simp only [Bool.and_eq_true, decide_eq_true_eq] at h
        obtain ⟨p1, vs, rfl, h1, t1⟩ := lt_sq s2 (r1.ext e2 s1.sub) hp
        cases (show u = V.int j from r2)
        exact ⟨p1, j, vs, rfl, rfl, h1, h.1, h.2.1, by rw [line_eq, ← t1.len]; exact h.2.2, fun t nt => k W2 t _ (e1.trans e2) s2 nt (t1.rep _) (by rw [← (t1.rep _).len, PyProof.Rows.lm_len_rep_flat, Nat.mul_comm]; exact h.2.2)⟩
      · cases hz
    · cases hz
  | _ => cases hz
end PF
namespace PF
open PySem PySem.Spec PyProof.Rows L2
/-! a, b = xs, of a list that may be changeable -/
def sAsgL (f : FE) (n : Nat) (t : FGs) : FS := fun ρ M => (f ρ M).bind fun a => (lsOf a.1 a.2).bind fun xs => if xs.length = n then (t xs ρ).bind fun ρ' => some (.nx ρ', a.2) else none
theorem pfs_asgL {X : Cx} {e : Expr} {fe : FE} {es : List Expr} {kk : Nat} {tpos pos : Pos} {t : FGs} {vs : List Nat} {n : Nat} (hc : X.calm = true) (he : PFE X e fe) (h : PFGs X vs es t) (hn : (assignEach es X.env).length = n := by rfl) (hst : (assignEach es X.env).findIdx? (·.1) = none := by rfl)
    (hs : swapsWithSole [.Tuple es kk tpos] e pos.line X.env = pure false := by rfl) (hw : swappedStores [.Tuple es kk tpos] e X.env = pure none := by rfl) (h1 : (assignEach [.Tuple es kk tpos] X.env).map (·.2) = [assign (.Tuple es kk tpos) X.env] := by rfl) :
    PFS X (.Assign [.Tuple es kk tpos] e pos) (sAsgL fe n t) := ps_weak (ps_asg he (pg_lst hc h hn hst) hs hw h1) fun E σ H => by
  rw [liftS_iff]
  rintro ⟨W, ρ, M, rfl, sr, sl, o, M', hf, k⟩
  obtain ⟨⟨x, M1⟩, hx, hf⟩ := Option.bind_eq_some_iff.mp hf
  obtain ⟨xs, hxs, hf⟩ := Option.bind_eq_some_iff.mp hf
  split at hf
  · rename_i hl
    obtain ⟨ρ', ht, hf⟩ := Option.bind_eq_some_iff.mp hf
    cases hf
    refine ⟨W, ρ, M, rfl, sr, sl, x, _, hx, fun W1 v e1 s1 r1 => ?_⟩
    obtain ⟨a, us, rfl, q1, q2⟩ := ls_sq s1 r1 hxs
    exact ⟨a, us, rfl, q1, by rw [← q2.len]; exact hl, W1, ρ, _, xs, rfl, s1, sl.ext e1 sr.sub, q2, ρ', ht, fun W2 σ2 e2 s2 l2 _ => k W2 σ2 (e1.trans e2) s2 l2⟩
  · cases hf
end PF
namespace PF
open PySem PySem.Spec PyProof.Rows L2
/-! x <= y, x >= y of alike data -/
theorem op_leDt {X : Cx} (hu : X.A.units + 64 < cLine) : OpR X (compareOp .LtE) (rLtDt X.K fun a b => !PySem.W.dataLt b a) := by
  intro pins s σ H x y v u Q I rx ry h
  obtain ⟨d, e, hd, he, ha, hn, hp, q⟩ := h
  obtain ⟨as, r1⟩ := Dp.reads I d x v hd rx
  obtain ⟨bs, r2⟩ := Dp.reads I e y u he ry
  exact PySem.W.le_data r1 r2 ha hn (by have := Nat.min_le_left d.depth e.depth; omega) ⟨.bl _, H, I, rfl, q⟩
theorem op_geDt {X : Cx} (hu : X.A.units + 64 < cLine) : OpR X (compareOp .GtE) (rLtDt X.K fun a b => !PySem.W.dataLt a b) := by
  intro pins s σ H x y v u Q I rx ry h
  obtain ⟨d, e, hd, he, ha, hn, hp, q⟩ := h
  obtain ⟨as, r1⟩ := Dp.reads I d x v hd rx
  obtain ⟨bs, r2⟩ := Dp.reads I e y u he ry
  exact PySem.W.ge_data r1 r2 ha hn (by have := Nat.min_le_left d.depth e.depth; omega) ⟨.bl _, H, I, rfl, q⟩
/-! o[i] op= e, o a list -/
def rLGet (K : PySem.W.Frag) : V → V → Hp → VK → Prop := fun o i H Q => ∃ p xs k z, o = .ref p ∧ i = .int k ∧ SqL K H p xs ∧ L2.atI xs k = some z ∧ Q z H
theorem get_listG {X : Cx} : PGet X (rLGet X.K) := by
  intro pins s σ H o i ov iv Q I ro ri h
  obtain ⟨p, xs, k, z, rfl, rfl, hq, he, q⟩ := h
  cases ro
  obtain ⟨t, rfl⟩ := ri
  obtain ⟨its, r, pl, hz⟩ := I.list hq
  obtain ⟨j, h1, h2, h3, h4, h5⟩ := atI_get he
  obtain ⟨w, ew, rw'⟩ := r.get h2
  have hl := r.length
  have hn := line63
  have fin : EP X pins σ Q w s := ⟨z, H, I, rw', q⟩
  by_cases h0 : 0 ≤ k
  · have hj : k.toNat = j := by
      rw [seqIndex_of h0 h5] at h1
      exact Option.some.inj h1
    exact wpAny_getItem_list pl.isList h0 (by omega) (by rw [hj]; simpa using ew) fin
  · have hj : (k + (its.toArray.size : Int)).toNat = j := by
      rw [seqIndex_neg (by omega) h4] at h1
      rw [List.size_toArray, ← hl]
      exact Option.some.inj h1
    exact wpAny_getItem_list_neg pl.isList (by omega) (by rw [List.size_toArray] <;> omega) (by omega) (by rw [hj]; simpa using ew) fin
def sAugIx (g : G2M) (fo fi fe : FE) : FS := fun ρ M => (fo ρ M).bind fun o => (fi ρ o.2).bind fun i => match i.1 with
  | .int k => (lsOf o.1 i.2).bind fun l => (L2.atI l k).bind fun x => (fe ρ i.2).bind fun y => (g x y.1 y.2).bind fun z => (mlOf o.1 z.2).bind fun l2 => (ixN l2.2.length k).bind fun j => some (.nx ρ, z.2.set l2.1 (.lst (l2.2.set j z.1)))
  | _ => none
theorem pfs_augIx {X : Cx} {e o i : Expr} {fe fo fi : FE} {op : Operator} {r : R2} {g : G2M} {tpos pos : Pos} (he : PFE X e fe) (ho : PFE X o fo) (hi : PFE X i fi) (hp : OpR X (inplaceOp op) r) (og : Op2M X.K r g)
    (ha : ∀ ov iv new, augStore i ov iv new = (do holding [new, ov, iv] (setItem ov iv new); release [new, ov, iv] []; pure .next) := by intros; rfl) : PFS X (.AugAssign (.Subscript o i tpos) op e pos) (sAugIx g fo fi fe) :=
  ps_weak (ps_augS (tip := r) ho hi get_listG he hp set_list ha) fun E σ H => by
    rw [liftS_iff]
    rintro ⟨W, ρ, M, rfl, sr, sl, o', M', hf, k⟩
    obtain ⟨⟨x, M1⟩, hx, hf⟩ := Option.bind_eq_some_iff.mp hf
    obtain ⟨⟨y, M2⟩, hy, hf⟩ := Option.bind_eq_some_iff.mp hf
    dsimp only at hf
    split at hf
    · obtain ⟨xs, hl, hf⟩ := Option.bind_eq_some_iff.mp hf
      obtain ⟨a, hat, hf⟩ := Option.bind_eq_some_iff.mp hf
      obtain ⟨⟨v, M3⟩, hv, hf⟩ := Option.bind_eq_some_iff.mp hf
      obtain ⟨⟨z, M4⟩, hz, hf⟩ := Option.bind_eq_some_iff.mp hf
      obtain ⟨⟨n, ys⟩, hl2, hf⟩ := Option.bind_eq_some_iff.mp hf
      obtain ⟨j, hj, hf⟩ := Option.bind_eq_some_iff.mp hf
      cases hf
      refine ⟨W, ρ, M, rfl, sr, sl, x, M1, hx, fun W1 ov e1 s1 r1 => ⟨W1, ρ, M1, rfl, s1, sl.ext e1 sr.sub, _, M2, hy, fun W2 iv e2 s2 r2 => ?_⟩⟩
      cases (show _ = _ from r2)
      obtain ⟨p, vs, rfl, hsq, rvs⟩ := ls_sq s2 (r1.ext e2 s1.sub) hl
      obtain ⟨w, hw, rw_⟩ := rvs.atI hat
      refine ⟨p, vs, _, w, rfl, rfl, hsq, hw, W2, ρ, M2, rfl, s2, sl.ext (e1.trans e2) sr.sub, v, M3, hv, fun W3 vv e3 s3 r3 => ?_⟩
      refine og W3 M3 M4 a v z w vv _ s3 (rw_.ext e3 s2.sub) r3 hz fun W4 zv e4 s4 r4 => ?_
      obtain ⟨p', ws, ep, ha', hH, rw2, hlen⟩ := ml_ok s4 (r1.ext (e2.trans (e3.trans e4)) s1.sub) hl2
      cases ep
      have e5 := Ext.wr (W := W4) (o := .lst (ws.set j zv)) (List.mem_of_getElem? ha')
      have e15 := ((e1.trans e2).trans (e3.trans e4)).trans e5
      exact ⟨p, ws, _, j, rfl, rfl, hH, by rw [← rw2.len]; exact hj, k _ σ e15 (s4.wr ha' (rw2.set j r4) (by rw [List.length_set]; exact hlen)) (sl.ext e15 sr.sub)⟩
    · cases hf
/-! max, min of three -/
def gMax3 : List D → Mem → Option D := fun xs _ => match xs with | [.int i, .int j, .int k] => some (.int (max (max i j) k)) | _ => none
def gMin3 : List D → Mem → Option D := fun xs _ => match xs with | [.int i, .int j, .int k] => some (.int (min (min i j) k)) | _ => none
theorem rl3 {K : PySem.W.Frag} {W : Wo} {d e f : D} {vs : List V} (h : RpL K W [d, e, f] vs) : ∃ v u w, vs = [v, u, w] ∧ Rp K W d v ∧ Rp K W e u ∧ Rp K W f w := by
  obtain ⟨v, r, rfl, h1, h2⟩ := h
  obtain ⟨u, w, rfl, h3, h4⟩ := rl2 h2
  exact ⟨v, u, w, rfl, h1, h3, h4⟩
theorem o_max3 {K : PySem.W.Frag} : OpN K (rNuC3 nuMax3) gMax3 := by
  intro W M ds d vs Q sr r hg k
  unfold gMax3 at hg
  split at hg
  · rename_i i j l
    cases hg
    obtain ⟨v, u, w, rfl, r1, r2, r3⟩ := rl3 r
    cases (show _ = _ from r1); cases (show _ = _ from r2); cases (show _ = _ from r3)
    refine ⟨.int i, .int j, .int l, .int (max (max i j) l), rfl, ?_, k W _ (.refl W) sr rfl⟩
    show ((some (decide (i < j))).map fun c => if c = true then V.int j else V.int i).bind (fun m => nuMax2 m (.int l)) = _
    by_cases h1 : i < j
    · simp only [h1, decide_true, Option.map_some, if_true, Option.bind_some]
      show (some (decide (j < l))).map _ = _
      by_cases h2 : j < l
      · simp only [h2, decide_true, Option.map_some, if_true]; congr 2; omega
      · simp only [h2, decide_false, Option.map_some, Bool.false_eq_true, if_false]; congr 2; omega
    · simp only [h1, decide_false, Option.map_some, Bool.false_eq_true, if_false, Option.bind_some]
      show (some (decide (i < l))).map _ = _
      by_cases h2 : i < l
      · simp only [h2, decide_true, Option.map_some, if_true]; congr 2; omega
      · simp only [h2, decide_false, Option.map_some, Bool.false_eq_true, if_false]; congr 2; omega
  · cases hg
theorem o_min3 {K : PySem.W.Frag} : OpN K (rNuC3 nuMin3) gMin3 := by
  intro W M ds d vs Q sr r hg k
  unfold gMin3 at hg
  split at hg
  · rename_i i j l
    cases hg
    obtain ⟨v, u, w, rfl, r1, r2, r3⟩ := rl3 r
    cases (show _ = _ from r1); cases (show _ = _ from r2); cases (show _ = _ from r3)
    refine ⟨.int i, .int j, .int l, .int (min (min i j) l), rfl, ?_, k W _ (.refl W) sr rfl⟩
    show ((some (decide (j < i))).map fun c => if c = true then V.int j else V.int i).bind (fun m => nuMin2 m (.int l)) = _
    by_cases h1 : j < i
    · simp only [h1, decide_true, Option.map_some, if_true, Option.bind_some]
      show (some (decide (l < j))).map _ = _
      by_cases h2 : l < j
      · simp only [h2, decide_true, Option.map_some, if_true]; congr 2; omega
      · simp only [h2, decide_false, Option.map_some, Bool.false_eq_true, if_false]; congr 2; omega
    · simp only [h1, decide_false, Option.map_some, Bool.false_eq_true, if_false, Option.bind_some]
      show (some (decide (l < i))).map _ = _
      by_cases h2 : l < i
      · simp only [h2, decide_true, Option.map_some, if_true]; congr 2; omega
      · simp only [h2, decide_false, Option.map_some, Bool.false_eq_true, if_false]; congr 2; omega
  · cases hg
/-! insert, remove -/
abbrev rInsert : V → List V → Hp → VK → Prop := fun x vs H Q => ∃ (l : Addr) (xs : List V) (i : Int) (y : V), x = .ref l ∧ vs = [.int i, y] ∧ H l = some (.lst xs) ∧ xs.length < sizeLine ∧ 0 ≤ i ∧ i < 2 ^ 63 ∧
    Q .non (upd H l (.lst (xs.take i.toNat ++ [y] ++ xs.drop i.toNat)))
theorem mt_insertA {X : Cx} : MtR X "list.insert" rInsert := mt_insert
def gInsert : GM := fun x ds M => match ds with
  | [.int i, d] => (mlOf x M).bind fun l => if decide (l.2.length < LINE) && (decide (0 ≤ i) && decide (i < 1000000000)) then some (.non, M.set l.1 (.lst (l.2.take i.toNat ++ [d] ++ l.2.drop i.toNat))) else none
  | _ => none
theorem o_insert {K : PySem.W.Frag} : OpM K rInsert gInsert := by
  intro W M M' x d ds v vs Q sr rx r hg k
  unfold gInsert at hg
  split at hg
  · rename_i i e
    obtain ⟨⟨n, xs⟩, hl, hg⟩ := Option.bind_eq_some_iff.mp hg
    dsimp only at hg
    split at hg
    · rename_i hc
      simp only [Bool.and_eq_true, decide_eq_true_eq] at hc
      cases hg
      obtain ⟨u1, u2, rfl, r1, r2⟩ := rl2 r
      cases (show _ = _ from r1)
      obtain ⟨a, ws, rfl, ha, hH, rw_, hlen⟩ := ml_ok sr rx hl
      have hn : (xs.take i.toNat ++ [e] ++ xs.drop i.toNat).length = xs.length + 1 := by
        rw [List.length_append, List.length_append, List.length_take, List.length_drop, List.length_singleton]; omega
      refine ⟨a, ws, i, u2, rfl, rfl, hH, by rw [line_eq, ← rw_.len]; exact hc.1, hc.2.1, by omega, ?_⟩
      have rr := ((rw_.take i.toNat).append (.one r2)).append (rw_.drop i.toNat)
      exact k _ _ (Ext.wr (List.mem_of_getElem? ha)) (sr.wr ha rr (by rw [← rr.len, hn]; have := hc.1; show _ ≤ 16777216; have : LINE = 16777216 := rfl; omega)) rfl
    · cases hg
  · cases hg
def gRemove : GM := fun x ds M => match ds with
  | [.int y] => (mlOf x M).bind fun l => (intsOf l.2).bind fun ns => (findI (fun z => decide (z = y)) ns).map fun (j : Nat) => (.non, M.set l.1 (.lst (l.2.eraseIdx j)))
  | _ => none
end PF
namespace HT
open PySem PySem.Spec PyProof.Rows
section
variable {prog : Program} {w : World} {A : Around} {E : Value → Shared → Prop} {s : Shared}
theorem sliceApplied_rev {sl : Addr} {vs : Value} {n : Nat} {Q : Int × Int × Nat → Shared → Prop} (hs : s.heap.IsSliceOf sl .none .none vs) (ps : IsPart vs (some (-1)))
    (h : Q ((n : Int) - 1, -1, n) s) : wpAny (model prog w) A (Builtin.Slice.sliceApplied (.ref sl) (pure (n : Int))) Q E s := by
  obtain ⟨os, hos, hcs, hds⟩ := id hs
  unfold Builtin.Slice.sliceApplied Builtin.Slice.sliceFields
  refine wpAny_bind (wpAny_bind (wpAny_field hos hds (x := .none) rfl (wpAny_bind (wpAny_field hos hds (x := .none) rfl (wpAny_bind (wpAny_field hos hds (x := vs) rfl (wpAny_pure ?_)))))))
  refine wpAny_bind (slicePart_ ps ?_)
  show wpAny _ _ (if ((-1 : Int) == 0) = true then _ else _) _ _ s
  rw [if_neg (by decide)]
  refine wpAny_bind (slicePart_ .none (wpAny_bind (slicePart_ .none (wpAny_bind (wpAny_pure ?_)))))
  show wpAny _ _ (pure ((n : Int) - 1, (-1 : Int), Builtin.Slice.slicePlaces ((n : Int) - 1) (-1) (-1))) _ _ s
  have e : Builtin.Slice.slicePlaces ((n : Int) - 1) (-1) (-1) = n := by
    unfold Builtin.Slice.slicePlaces
    rw [if_neg (by decide)]
    rw [show (-(-1) : Int) = 1 by decide, Int.ediv_one]
    split <;> omega
  rw [e]
  exact wpAny_pure h
theorem pick_rev (xs : Array Value) : ((List.range xs.size).filterMap fun (m : Nat) => xs[(((xs.size : Int) - 1) + (m : Int) * (-1)).toNat]?).toArray = xs.toList.reverse.toArray := by
  congr 1
  apply List.ext_getElem?
  intro i
  have fc : ∀ (l : List Nat) (f : Nat → Option Value) (g : Nat → Value), (∀ m ∈ l, f m = some (g m)) → l.filterMap f = l.map g := by
    intro l f g
    induction l with
    | nil => intro _; rfl
    | cons m l ih => intro h; rw [List.filterMap_cons, h m (by simp), List.map_cons, ih fun k hk => h k (List.mem_cons_of_mem _ hk)]
  have e : (List.range xs.size).filterMap (fun (m : Nat) => xs[(((xs.size : Int) - 1) + (m : Int) * (-1)).toNat]?) = (List.range xs.size).map fun m => xs.toList.reverse.getD m .none := by
    refine fc _ _ _ fun m hm => ?_
    have hm' := List.mem_range.mp hm
    have : (((xs.size : Int) - 1) + (m : Int) * (-1)).toNat = xs.size - 1 - m := by omega
    rw [this]
    rw [List.getD_eq_getElem?_getD, List.getElem?_reverse (by simpa using hm')]
    have h2 : xs.size - 1 - m < xs.size := by omega
    simp [h2]
  rw [e, List.getElem?_map]
  by_cases hi : i < xs.size
  · rw [List.getElem?_range hi, List.getElem?_eq_getElem (by simpa using hi)]
    simp [List.getD_eq_getElem?_getD, hi]
  · rw [List.getElem?_eq_none (by simpa using hi), List.getElem?_eq_none (by simpa using hi)]; rfl
theorem getItem_tuple_rev {t sl : Addr} {items : Array Value} {vs : Value} {Q : Value → Shared → Prop} (ht : IsTup s.heap t items) (hs : s.heap.IsSliceOf sl .none .none vs) (ps : IsPart vs (some (-1)))
    (h : Q (.ref s.heap.objs.size) { s with heap := s.heap.push { cls := .type "tuple", data := .seq items.toList.reverse.toArray } })
    (hsz : items.size ≤ sizeLine) : wpAny (model prog w) A (getItem (.ref t) (.ref sl)) Q E s := by
  have htake : sizeOk (.seq items.toList.reverse.toArray) := by
    show items.toList.reverse.toArray.size ≤ sizeLine
    rw [List.size_toArray, List.length_reverse, Array.length_toList]
    exact hsz
  obtain ⟨os, hos, hcs, hds⟩ := id hs
  have hTs : s.TypeIs (.ref sl) "slice" := ⟨os, hos, hcs⟩
  unfold getItem
  try with_reducible refine wpAny_holding ?_
  first | refine wpAny_bind (wpAny_pure ?_) | skip
  refine wpAny_bind (wpAny_sequenceKey ht.typeIs (by decide) ?_)
  refine wpAny_bind (wpAny_callSpecial?_slot (name := Str.ofString "__getitem__") ht.typeIs PyProof.Rows.slot_tuple_getitem
    (wpAny_call_entry PyProof.Rows.slot_tuple_getitem ht.typeIs entry_tuple_getitem ?_ (args_tuple_getitem _ _)))
  show wpAny _ _ (Builtin.Tuple.tupleItemsOf (.ref t) >>= _) _ _ s
  refine wpAny_bind (tupleItemsOf_ ht ?_)
  refine wpAny_bind (wpAny_typeOf hTs ?_)
  rw [if_pos (by decide)]
  refine wpAny_bind (sliceApplied_rev hs ps ?_)
  have hno : ¬ ((((items.size : Int) - 1) == 0 && (-1 : Int) == 1 && items.size == items.size) = true) := by
    rw [show ((-1 : Int) == 1) = false from rfl, Bool.and_false, Bool.false_and]; exact Bool.false_ne_true
  show wpAny _ _ (if (((items.size : Int) - 1) == 0 && (-1 : Int) == 1 && items.size == items.size) = true then _ else _) _ _ s
  rw [if_neg hno, pick_rev]
  first
    | exact wpAny_bind (m := Builtin.Tuple.tupleExact _) (wpAny_newObj_type (wpAny_pure ⟨_, rfl, wpAny_pure h⟩) htake)
    | exact wpAny_bind (m := Builtin.Tuple.tupleExact _) (wpAny_newObj_type (wpAny_bind (wpAny_pure (wpAny_pure ⟨_, rfl, wpAny_pure h⟩))) htake)
    | exact wpAny_bind (wpAny_bind (m := Builtin.Tuple.tupleExact _) (wpAny_newObj_type (wpAny_pure (wpAny_pure ⟨_, rfl, wpAny_pure h⟩)) htake))
    | exact wpAny_bind (wpAny_bind (m := Builtin.Tuple.tupleExact _) (wpAny_newObj_type (wpAny_pure ⟨_, rfl, wpAny_pure h⟩) htake))
end
end HT
namespace PF
open PySem PySem.Spec PyProof.Rows L2
/-! xs[::-1] of a list or a tuple -/
def tRevA (K : PySem.W.Frag) (te : TE) : TE := fun σ H Q => te σ H fun x H1 => ∃ a, x = .ref a ∧ ((∃ xs, SqL K H1 a xs ∧ ∀ p, H1 p = none → Q (.ref p) (upd H1 p (.lst xs.reverse))) ∨ ∃ xs, SqT K H1 a xs ∧ ∀ p, H1 p = none → Q (.ref p) (upd H1 p (.tup xs.reverse)))
theorem pe_revA {X : Cx} {e : Expr} {te : TE} {k : Nat} {p1 p2 p3 pos : Pos} (he : PE X e te) : PE X (.Subscript e (.Slice none none (some (.UnaryOp .USub (.Constant (.int 1) k p1) p2)) p3) pos) (tRevA X.K te) := by
  refine ⟨fun pins s σ H Q I h => ?_⟩
  refine Subscript_ (thn (he.run pins s σ H _ I h) fun v s1 ⟨x, H1, I1, r1, q1⟩ => ?_)
  obtain ⟨a, ex, q⟩ := q1
  subst ex
  cases r1
  have hst : PO X (some (.UnaryOp .USub (.Constant (.int 1) k p1) p2)) (tPart (tUn (rU fun i => .int (-i)) (tC (.int 1)))) := po_some (pe_un un_neg pe_int)
  refine wpAny_Slice (thn (po_none.run pins s1 σ H1 (fun o H2 => o = none ∧ H2 = H1) I1 ⟨rfl, rfl⟩) fun vl s2 ⟨l, H2, I2, pl, el, e2⟩ => ?_)
  subst el e2
  refine thn (po_none.run pins s2 σ H2 (fun o H3 => o = none ∧ H3 = H2) I2 ⟨rfl, rfl⟩) fun vu s3 ⟨u, H3, I3, pu, eu, e3⟩ => ?_
  subst eu e3
  refine thn (hst.run pins s3 σ H3 (fun o H4 => o = some (-1) ∧ H4 = H3) I3 ⟨1, rfl, -1, rfl, rfl, rfl⟩) fun vs s4 ⟨o, H4, I4, ps, eo, e4⟩ => ?_
  subst eo e4
  have I5 : Inv X pins σ H4 { s4 with heap := s4.heap.push { cls := .type "slice", data := .fields #[vl, vu, vs] } } := I4.kept (t' := s4.toks) fun b ob q => Heap.get?_push_of_some _ q
  rcases q with ⟨xs, hx, q⟩ | ⟨xs, hx, q⟩
  · obtain ⟨its, r, ht, hz⟩ := I5.list hx
    have hlen := r.length
    show wpAny (model X.prog X.w) X.A (subscriptTail e (.Slice none none (some (.UnaryOp .USub (.Constant (.int 1) k p1) p2)) p3) (.ref a) (.ref s4.heap.objs.size)) (EP X pins σ Q) X.xe { s4 with heap := s4.heap.push { cls := .type "slice", data := .fields #[vl, vu, vs] } }
    refine tail_any (ops := [.ref a, .ref s4.heap.objs.size]) ht.isList.typeIs (PySem.slot_list_getitem.lookup) ?_ (by with_unfolding_all rfl)
    refine wpAny_getItem_list_slice ht.isList (Heap.IsSliceOf.new _ vl vu vs) pl pu ps (by decide) ?_ (by rw [List.size_toArray]; omega)
    rw [PySem.W.krv_pick]
    refine ⟨.ref _, _, I5.laid (t' := s4.toks) (o := .lst xs.reverse) (fun b ob q => Heap.get?_push_of_some _ q) (Nat.le_refl _) ?_, rfl, q _ (I5.hok.fresh (Nat.le_refl _))⟩
    exact ⟨by rw [List.length_reverse]; exact hz, _, 0, r.reverse, Heap.get?_push_size _ rfl⟩
  · obtain ⟨its, r, ht, hz⟩ := I5.tuple hx
    have hlen := r.length
    have evl : vl = .none := by cases pl; rfl
    have evu : vu = .none := by cases pu; rfl
    subst evl evu
    show wpAny (model X.prog X.w) X.A (subscriptTail e (.Slice none none (some (.UnaryOp .USub (.Constant (.int 1) k p1) p2)) p3) (.ref a) (.ref s4.heap.objs.size)) (EP X pins σ Q) X.xe { s4 with heap := s4.heap.push { cls := .type "slice", data := .fields #[.none, .none, vs] } }
    refine tail_any (ops := [.ref a, .ref s4.heap.objs.size]) ht.typeIs (PyProof.Rows.slot_tuple_getitem.lookup) ?_ (by with_unfolding_all rfl)
    refine HT.getItem_tuple_rev ht (Heap.IsSliceOf.new _ .none .none vs) ps ?_ (by rw [List.size_toArray]; omega)
    refine ⟨.ref _, _, I5.laid (t' := s4.toks) (o := .tup xs.reverse) (fun b ob q => Heap.get?_push_of_some _ q) (Nat.le_refl _) ?_, rfl, q _ (I5.hok.fresh (Nat.le_refl _))⟩
    exact ⟨by rw [List.length_reverse]; exact hz, _, r.reverse, IsTup.new _ _⟩
def fRevA (fa : FE) : FE := fun ρ M => (fa ρ M).bind fun a => match a.1 with
  | .tup xs => some (.tup xs.reverse, a.2)
  | d => (lsOf d a.2).bind fun xs => some (.lst xs.reverse, a.2)
theorem pf_revA {X : Cx} {a : Expr} {fa : FE} {k : Nat} {p1 p2 p3 pos : Pos} (ha : PFE X a fa) : PFE X (.Subscript a (.Slice none none (some (.UnaryOp .USub (.Constant (.int 1) k p1) p2)) p3) pos) (fRevA fa) := pe_weak (pe_revA ha) fun σ H Q => by
  rintro ⟨W, ρ, M, rfl, sr, sl, d, M', hf, k⟩
  obtain ⟨⟨x, M1⟩, hx, hf⟩ := Option.bind_eq_some_iff.mp hf
  refine ⟨W, ρ, M, rfl, sr, sl, x, M1, hx, fun W1 v e1 s1 r1 => ?_⟩
  have lists : (lsOf x M1).bind (fun xs => some (D.lst xs.reverse, M1)) = some (d, M') → ∃ a, v = .ref a ∧ ((∃ xs, SqL X.K W1.H a xs ∧ ∀ p, W1.H p = none → Q (.ref p) (upd W1.H p (.lst xs.reverse))) ∨ ∃ xs, SqT X.K W1.H a xs ∧ ∀ p, W1.H p = none → Q (.ref p) (upd W1.H p (.tup xs.reverse))) := fun hf => by
    obtain ⟨xs, hl, hf⟩ := Option.bind_eq_some_iff.mp hf
    cases hf
    have hz := ls_len s1 r1 hl
    obtain ⟨p, vs, rfl, h1, q1⟩ := ls_sq s1 r1 hl
    exact ⟨p, rfl, .inl ⟨vs, h1, fun t nt => k _ _ (e1.trans (Ext.put nt)) (s1.put nt) (.newLst s1 nt q1.reverse (by rw [List.length_reverse, ← q1.len]; exact hz))⟩⟩
  cases x with
  | tup xs =>
    cases hf
    have hz := sq_len (M := M1) (xs := xs) s1 r1 rfl
    obtain ⟨p, vs, rfl, h1, q1⟩ := tp_sq r1
    exact ⟨p, rfl, .inr ⟨vs, h1, fun t nt => k _ _ (e1.trans (Ext.put nt)) (s1.put nt) (.newTup s1 nt q1.reverse (by rw [List.length_reverse, ← q1.len]; exact hz))⟩⟩
  | _ => exact lists hf
end PF
namespace PF
open PySem PySem.Spec PyProof.Rows L2
/-! two for in one comprehension, the inner one over anything -/
structure ExtN (W W' : Wo) : Prop where
  as : ∃ new, W'.as = W.as ++ new
  new : ∀ a, W'.bad a → W.bad a ∨ W.H a = none
  keep : ∀ a o, a ∉ W.as → ¬ W.bad a → W.H a = some o → W'.H a = some o
section
variable {K : PySem.W.Frag} {W W' : Wo}
theorem ExtN.frz {a : Addr} {u : HO} (e : ExtN W W') (hs : ∀ a ∈ W.as, W.bad a) (h : W.H a = some u ∧ ¬ W.bad a) : W'.H a = some u ∧ ¬ W'.bad a := by
  obtain ⟨h, nb⟩ := h
  have na : a ∉ W.as := fun z => nb (hs a z)
  refine ⟨e.keep a _ na nb h, fun z => ?_⟩
  rcases e.new a z with z | z
  · exact nb z
  · rw [h] at z; cases z
mutual
theorem Rp.extN (e : ExtN W W') (hs : ∀ a ∈ W.as, W.bad a) : ∀ (d : D) (v : V), Rp K W d v → Rp K W' d v
  | .non, _, h => h
  | .bl _, _, h => h
  | .int _, _, h => h
  | .str _, _, h => h
  | .tup ds, v, h => by
    obtain ⟨a, vs, e1, f, r⟩ := h
    exact ⟨a, vs, e1, ⟨f.1.imp (fun q => e.frz hs q) fun q => q, f.2⟩, RpL.extN e hs ds vs r⟩
  | .lst ds, v, h => by
    obtain ⟨a, vs, e1, f, r⟩ := h
    exact ⟨a, vs, e1, ⟨e.frz hs f.1, f.2⟩, RpL.extN e hs ds vs r⟩
  | .kst ds, v, h => by
    obtain ⟨a, vs, e1, f, r⟩ := h
    refine ⟨a, vs, e1, ⟨f.1.imp (fun q => ?_) fun q => q, f.2⟩, RpL.extN e hs ds vs r⟩
    obtain ⟨⟨o, q⟩, nb⟩ := q
    obtain ⟨q', nb'⟩ := e.frz hs ⟨q, nb⟩
    exact ⟨⟨o, q'⟩, nb'⟩
  | .ref n, v, h => by
    obtain ⟨a, h1, h2⟩ := h
    obtain ⟨new, h3⟩ := e.as
    refine ⟨a, ?_, h2⟩
    rw [h3]
    exact (List.getElem?_append_left (List.getElem?_eq_some_iff.mp h1).1).trans h1
theorem RpL.extN (e : ExtN W W') (hs : ∀ a ∈ W.as, W.bad a) : ∀ (ds : List D) (vs : List V), RpL K W ds vs → RpL K W' ds vs
  | [], _, h => h
  | d :: ds, vs, h => by
    obtain ⟨v, r, e1, h1, h2⟩ := h
    exact ⟨v, r, e1, Rp.extN e hs d v h1, RpL.extN e hs ds r h2⟩
end
end
theorem extN_plus {W5 W6 : Wo} {D : Addr} {o : HO} (hb : W5.bad D) (e : Ext (W5.minus D) W6) : ExtN W5 (W6.plus D o) := by
  refine ⟨?_, fun a h => ?_, fun a u na nb h => ?_⟩
  · obtain ⟨new, h, _⟩ := e.as
    exact ⟨new, h⟩
  · by_cases z : a = D
    · subst z; exact .inl hb
    · have h' : W6.bad a := by
        rcases h with h | h
        · exact h
        · exact absurd h z
      rcases e.new a h' with q | q
      · exact .inl q.1
      · exact .inr ((minus_H z).symm.trans q)
  · have z : a ≠ D := fun z => nb (by rw [z]; exact hb)
    exact (upd_ne z).trans (e.keep a u na ((minus_H z).trans h))
def JOkN (K : PySem.W.Frag) (W : Wo) (J : It) (xs : List D) (k : Option Nat) : Prop := xs.length ≤ LINE ∧ ∀ W' M', ExtN W W' → SR K W' M' → chk k xs M' = true → ∀ i,
  (∀ d, xs[i]? = some d → J.go i W'.H ∧ ∀ x H', J.yld i W'.H x H' → H' = W'.H ∧ Rp K W' d x) ∧ (xs.length ≤ i → J.stop i W'.H)
def liftIN (K : PySem.W.Frag) (f : FI) : TI := fun σ H R => ∃ W ρ M, W.H = H ∧ SR K W M ∧ Sl K W ρ σ ∧ ∃ xs k M', f ρ M = some ((xs, k), M') ∧
  ∀ W' J, Ext W W' → SR K W' M' → JOkN K W' J xs k → R J W'.H
abbrev PFIN (X : Cx) (tg e : Expr) (f : FI) : Prop := PI X tg e (liftIN X.K f)
section
variable {X : Cx} {tg a : Expr} {fa : FE}
theorem jokN_of {K : PySem.W.Frag} {W : Wo} {J : It} {xs : List D} {kk : Option Nat} (hz : xs.length ≤ LINE) (h : ∀ W' M', ExtN W W' → SR K W' M' → chk kk xs M' = true → ∃ vs, RpL K W' xs vs ∧ (∀ i x, vs[i]? = some x → J.go i W'.H ∧ ∀ y H', J.yld i W'.H y H' → H' = W'.H ∧ y = x) ∧ ∀ i, vs.length ≤ i → J.stop i W'.H) : JOkN K W J xs kk := by
  refine ⟨hz, fun W' M' e s c i => ?_⟩
  obtain ⟨vs, r, h1, h2⟩ := h W' M' e s c
  refine ⟨fun d hd => ?_, fun hl => h2 i (by rw [← r.len]; exact hl)⟩
  obtain ⟨v, hv, rv⟩ := r.get hd
  obtain ⟨g, y⟩ := h1 i v hv
  exact ⟨g, fun x H' hx => ⟨(y x H' hx).1, by rw [(y x H' hx).2]; exact rv⟩⟩
theorem jokN_sq {K : PySem.W.Frag} {W : Wo} {M : Mem} {d : D} {v : V} {xs : List D} (sr : SR K W M) (h : Rp K W d v) (hn : ∀ n, d ≠ .ref n) (e : sqOf d M = some xs) :
    ∃ p, v = .ref p ∧ (((∃ vs, SqL K W.H p vs) ∧ JOkN K W (Itl K p) xs none) ∨ ((∃ vs, SqT K W.H p vs) ∧ JOkN K W (Itt K p) xs none)) := by
  obtain ⟨p, vs, rfl, h1, r⟩ := sq_sq sr h e
  refine ⟨p, rfl, ?_⟩
  cases d with
  | tup ds =>
    have hz := sq_len sr h e
    cases e
    obtain ⟨p', vs', e', q, r'⟩ := tp_sq h
    cases e'
    refine .inr ⟨⟨_, q⟩, jokN_of hz fun W' M' ex s _ => ?_⟩
    obtain ⟨p2, vs2, e2, q2, r2⟩ := tp_sq (h.extN ex sr.sub)
    cases e2
    exact ⟨vs2, r2, walk_t q2⟩
  | ref n => exact absurd rfl (hn n)
  | lst ds =>
    have e' : lsOf (.lst ds) M = some xs := e
    obtain ⟨p', vs', e2, q, r'⟩ := ls_sq sr h e'
    cases e2
    refine .inl ⟨⟨_, q⟩, jokN_of (sq_len sr h e) fun W' M' ex s _ => ?_⟩
    obtain ⟨p2, vs2, e2, q2, r2⟩ := ls_sq s (h.extN ex sr.sub) (show lsOf (.lst ds) M' = some xs from e')
    cases e2
    exact ⟨vs2, r2, walk_l q2⟩
  | kst ds =>
    have e' : lsOf (.kst ds) M = some xs := e
    obtain ⟨p', vs', e2, q, r'⟩ := ls_sq sr h e'
    cases e2
    refine .inl ⟨⟨_, q⟩, jokN_of (sq_len sr h e) fun W' M' ex s _ => ?_⟩
    obtain ⟨p2, vs2, e2, q2, r2⟩ := ls_sq s (h.extN ex sr.sub) (show lsOf (.kst ds) M' = some xs from e')
    cases e2
    exact ⟨vs2, r2, walk_l q2⟩
  | _ => cases e
theorem pfiN_sq (ha : PFE X a fa) : PFIN X tg a (fiSq fa) := pi_weak (pi_seq ha) fun σ H R => by
  rintro ⟨W, ρ, M, rfl, sr, sl, xs, kk, M', hf, k⟩
  obtain ⟨⟨x, M1⟩, hx, hf⟩ := Option.bind_eq_some_iff.mp hf
  refine ⟨W, ρ, M, rfl, sr, sl, x, M1, hx, fun W1 v e1 s1 r1 => ?_⟩
  have other : (∀ n, x ≠ .ref n) → (sqOf x M1).bind (fun xs => some ((xs, (none : Option Nat)), M1)) = some ((xs, kk), M') → ∃ p, v = .ref p ∧ (((∃ xs, SqL X.K W1.H p xs) ∧ R (Itl X.K p) W1.H) ∨ ((∃ xs, SqT X.K W1.H p xs) ∧ R (Itt X.K p) W1.H)) := fun hn e => by
    obtain ⟨ys, hy, e⟩ := Option.bind_eq_some_iff.mp e
    cases e
    obtain ⟨p, rfl, q⟩ := jokN_sq s1 r1 hn hy
    exact ⟨p, rfl, q.imp (fun z => ⟨z.1, k W1 _ e1 s1 z.2⟩) fun z => ⟨z.1, k W1 _ e1 s1 z.2⟩⟩
  cases x with
  | ref n =>
    obtain ⟨ys, hy, hf⟩ := Option.bind_eq_some_iff.mp hf
    cases hf
    obtain ⟨p, vs, rfl, q, r⟩ := ls_sq s1 r1 hy
    refine ⟨p, rfl, .inl ⟨⟨_, q⟩, k W1 _ e1 s1 (jokN_of (ls_len s1 r1 hy) fun W' M' ex s c => ?_)⟩⟩
    unfold chk at c
    dsimp only at c
    split at c
    · rename_i zs hz
      have ez := D.eqs_of_beqs _ _ c
      subst ez
      obtain ⟨p2, vs2, e2, q2, r2⟩ := ls_sq s (r1.extN ex s1.sub) (show lsOf (.ref n) M' = some zs by simp only [lsOf, hz])
      cases e2
      exact ⟨vs2, r2, walk_l q2⟩
    · cases c
  | tup _ => exact other (fun n z => nomatch z) hf
  | lst _ => exact other (fun n z => nomatch z) hf
  | kst _ => exact other (fun n z => nomatch z) hf
  | non => exact other (fun n z => nomatch z) hf
  | bl _ => exact other (fun n z => nomatch z) hf
  | int _ => exact other (fun n z => nomatch z) hf
  | str _ => exact other (fun n z => nomatch z) hf
theorem jokN_rg {K : PySem.W.Frag} {W : Wo} {lo : Int} {n : Nat} (hn : n ≤ LINE) : JOkN K W (Itr lo n) (rgD lo n) none := by
  have hl : (rgD lo n).length = n := by unfold rgD; simp
  refine ⟨by rw [hl]; exact hn, fun W' M' e s c i => ?_⟩
  refine ⟨fun d hd => ?_, fun h => by rw [hl] at h; exact h⟩
  have hi : i < n := by rw [← hl]; exact (List.getElem?_eq_some_iff.mp hd).1
  have hd' : d = D.int (lo + i) := by
    unfold rgD at hd
    rw [List.getElem?_map, List.getElem?_range hi] at hd
    cases hd; rfl
  subst hd'
  exact ⟨hi, fun x H' hx => ⟨hx.1, hx.2⟩⟩
theorem pfiN_rg1 {f : FA} {p pos : Pos} (hg : Gl X "range") (hm : X.mg "range" = none) (ha : PFA X [a] f) (hs : starEach [a] X.env = [(false, eval a X.env)] := by rfl) : PFIN X tg (.Call (.Name "range" p) [a] [] pos) (fiRg1 f) := pi_weak (pi_range1 hg hm ha hs) fun σ H R => by
  rintro ⟨W, ρ, M, rfl, sr, sl, xs, kk, M', hf, k⟩
  obtain ⟨⟨x, M1⟩, hx, hf⟩ := Option.bind_eq_some_iff.mp hf
  dsimp only at hf
  split at hf
  · split at hf
    · rename_i hr
      cases hf
      replace hr := okR_ok hr
      refine ⟨W, ρ, M, rfl, sr, sl, _, _, hx, fun W1 v e1 s1 r1 => ?_⟩
      obtain ⟨v1, r, rfl, q1, q2⟩ := r1
      cases (show _ = _ from q1); cases (show _ = _ from q2)
      exact ⟨_, rfl, hr.2.1.1, hr.2.1.2, k W1 _ e1 s1 (jokN_rg (by show _ ≤ 16777216; omega))⟩
    · cases hf
  · cases hf
theorem pfiN_rg2 {b : Expr} {f : FA} {p pos : Pos} (hg : Gl X "range") (hm : X.mg "range" = none) (ha : PFA X [a, b] f) (hs : starEach [a, b] X.env = [(false, eval a X.env), (false, eval b X.env)] := by rfl) (hs2 : starEach [b] X.env = [(false, eval b X.env)] := by rfl) :
    PFIN X tg (.Call (.Name "range" p) [a, b] [] pos) (fiRg2 f) := pi_weak (pi_range2 hg hm ha hs hs2) fun σ H R => by
  rintro ⟨W, ρ, M, rfl, sr, sl, xs, kk, M', hf, k⟩
  obtain ⟨⟨x, M1⟩, hx, hf⟩ := Option.bind_eq_some_iff.mp hf
  dsimp only at hf
  split at hf
  · split at hf
    · rename_i hr
      cases hf
      replace hr := okR_ok hr
      refine ⟨W, ρ, M, rfl, sr, sl, _, _, hx, fun W1 v e1 s1 r1 => ?_⟩
      obtain ⟨v1, r, rfl, q1, v2, r', rfl, q2, q3⟩ := r1
      cases (show _ = _ from q1); cases (show _ = _ from q2); cases (show _ = _ from q3)
      exact ⟨_, _, rfl, ⟨hr.1.1, hr.1.2, hr.2.1.1, hr.2.1.2⟩, k W1 _ e1 s1 (jokN_rg (by show _ ≤ 16777216; omega))⟩
    · cases hf
  · cases hf
end
theorem lc2N_lift {K : PySem.W.Frag} {fi fi1 : FI} {t t1 : FG} {ft ft1 : FT} {fe : FE} {vs vs1 : List Nat} : ∀ σ H Q, liftN K (fLC2 vs vs1 fi t ft fi1 t1 ft1 fe) σ H Q → tLc2 (liftI K fi) (liftG K vs t) (liftT K ft) (liftIN K fi1) (liftG K vs1 t1) (liftT K ft1) (liftE K fe) vs vs1 σ H Q := by
  rintro σ H Q ⟨W, ρ, M, rfl, sr, sl, out, M', hf, k⟩
  obtain ⟨⟨⟨xs, kk⟩, M1⟩, hi, hf⟩ := Option.bind_eq_some_iff.mp hf
  obtain ⟨⟨o1, o2⟩, hf, hz⟩ := Option.bind_eq_some_iff.mp hf
  dsimp only at hz hf
  by_cases hout : o1.length ≤ LINE
  case neg => rw [if_neg hout] at hz; cases hz
  rw [if_pos hout] at hz
  cases hz
  refine ⟨W, ρ, M, rfl, sr, sl, xs, kk, M1, hi, fun W1 J e1 s1 jo D hD => ?_⟩
  refine ⟨fun i m H' => ∃ W2 Mt acc ws, H' = upd W2.H D (.lst ws) ∧ W2.H D = none ∧ Ext W1 W2 ∧ SR K W2 Mt ∧ RpL K W2 acc ws ∧ i ≤ xs.length ∧ m = xs.length - i ∧
    lc2Loop (chk kk xs) t ft fi1 vs1 t1 ft1 fe (wipeR ρ vs) (xs.drop i) acc Mt = some (out, M'), ⟨xs.length, W1, M1, [], [], rfl, hD, .refl W1, s1, rfl, Nat.zero_le _, rfl, hf⟩, ?_⟩
  rintro i m H' ⟨W2, Mt, acc, ws, rfl, hD2, e2, s2, racc, hil, rfl, hw⟩
  have eP : Ext W2 (W2.plus D (.lst ws)) := Ext.plus hD2
  have sP : SR K (W2.plus D (.lst ws)) Mt := s2.plus hD2
  by_cases hlt : i < xs.length
  · right
    have hd : xs.drop i = xs[i] :: xs.drop (i + 1) := List.drop_eq_getElem_cons hlt
    rw [hd] at hw
    unfold lc2Loop at hw
    split at hw
    · rename_i hck
      obtain ⟨ρ', ht, hw⟩ := Option.bind_eq_some_iff.mp hw
      obtain ⟨⟨b, M3⟩, hb, hw⟩ := Option.bind_eq_some_iff.mp hw
      obtain ⟨hgo, hy⟩ := (jo.2 _ Mt (e2.trans eP) sP hck i).1 xs[i] (by simp [hlt])
      refine ⟨hgo, fun H' => ∃ W4 Mt acc ws, H' = upd W4.H D (.lst ws) ∧ W4.H D = none ∧ Ext W1 W4 ∧ SR K W4 Mt ∧ RpL K W4 acc ws ∧
        lc2Loop (chk kk xs) t ft fi1 vs1 t1 ft1 fe (wipeR ρ vs) (xs.drop (i + 1)) acc Mt = some (out, M'), ?_, fun x H' hx => ?_⟩
      · rintro H' ⟨W4, Mt', acc', ws', h1, h2, h3, h4, h5, h7⟩
        exact ⟨xs.length - (i + 1), by omega, W4, Mt', acc', ws', h1, h2, h3, h4, h5, hlt, rfl, h7⟩
      · obtain ⟨rfl, rx⟩ := hy x H' hx
        have slW : Sl K (W2.plus D (.lst ws)) (wipeR ρ vs) (L2.wipe σ vs) := (sl.ext (e1.trans (e2.trans eP)) sr.sub).wipe vs
        refine ⟨_, wipeR ρ vs, Mt, xs[i], rfl, sP, slW, rx, ρ', ht, fun W3 σ3 e3 s3 l3 w3 => ⟨by rw [w3, wipe_idem], ?_⟩⟩
        refine ⟨W3, ρ', Mt, rfl, s3, l3, b, M3, hb, fun W4 e4 s4 => ?_⟩
        cases b with
        | false =>
          rw [if_neg Bool.false_ne_true] at hw ⊢
          obtain ⟨e5, b5, n5, h5⟩ := Ext.unplus s2 hD2 (e3.trans e4)
          refine ⟨W4.minus D, M3, acc, ws, ?_, minus_self, e2.trans e5, s4.minus b5 n5, (racc.ext e5 s2.sub), hw⟩
          funext a
          by_cases z : a = D
          · subst z; rw [upd_same]; exact h5
          · rw [upd_ne z]; exact (minus_H z).symm
        | true =>
          rw [if_pos rfl] at hw ⊢
          obtain ⟨⟨⟨xs1, k1⟩, M5⟩, hi1, hw⟩ := Option.bind_eq_some_iff.mp hw
          obtain ⟨⟨acc2, M6⟩, hin, hw⟩ := Option.bind_eq_some_iff.mp hw
          dsimp only at hin hw
          have hlim : acc2.length ≤ LINE := Nat.le_trans (lc2Loop_len _ _ _ _ _ hw) hout
          refine ⟨W4, ρ', M3, rfl, s4, l3.ext e4 s3.sub, xs1, k1, M5, hi1, fun W5 J1 e5 s5 jf => ?_⟩
          obtain ⟨e6, b6, n6, h6⟩ := Ext.unplus s2 hD2 ((e3.trans e4).trans e5)
          have l5 : Sl K (W5.minus D) ρ' σ3 := Sl.minus b6 n6 (l3.ext (e4.trans e5) s3.sub)
          have s5m : SR K (W5.minus D) M5 := s5.minus b6 n6
          have hW5 : W5.H = upd (W5.minus D).H D (.lst ws) := by
            funext a
            by_cases z : a = D
            · subst z; rw [upd_same]; exact h6
            · rw [upd_ne z]; exact (minus_H z).symm
          refine ⟨fun j k H' => ∃ W6 Mt acc ws, H' = upd W6.H D (.lst ws) ∧ W6.H D = none ∧ Ext (W5.minus D) W6 ∧ SR K W6 Mt ∧ RpL K W6 acc ws ∧ j ≤ xs1.length ∧ k = xs1.length - j ∧
            lcLoop (chk k1 xs1) t1 ft1 fe (wipeR ρ' vs1) (xs1.drop j) acc Mt = some (acc2, M6), ⟨xs1.length, W5.minus D, M5, acc, ws, hW5, minus_self, .refl _, s5m, racc.ext e6 s2.sub, Nat.zero_le _, rfl, hin⟩, ?_⟩
          rintro j k' H' ⟨W6, Mt6, acc6, ws6, rfl, hD6, e7, s6, racc6, hjl, rfl, hw6⟩
          have eP6 : Ext W6 (W6.plus D (.lst ws6)) := Ext.plus hD6
          have sP6 : SR K (W6.plus D (.lst ws6)) Mt6 := s6.plus hD6
          by_cases hlt1 : j < xs1.length
          · right
            have hd1 : xs1.drop j = xs1[j] :: xs1.drop (j + 1) := List.drop_eq_getElem_cons hlt1
            rw [hd1] at hw6
            unfold lcLoop at hw6
            split at hw6
            · rename_i hck1
              obtain ⟨ρ2, ht1, hw6⟩ := Option.bind_eq_some_iff.mp hw6
              obtain ⟨⟨b1, M7⟩, hb1, hw6⟩ := Option.bind_eq_some_iff.mp hw6
              obtain ⟨hgo1, hy1⟩ := (jf.2 (W6.plus D (.lst ws6)) Mt6 (extN_plus b6 e7) sP6 hck1 j).1 xs1[j] (by simp [hlt1])
              refine ⟨hgo1, fun H' => ∃ W8 Mt acc ws, H' = upd W8.H D (.lst ws) ∧ W8.H D = none ∧ Ext (W5.minus D) W8 ∧ SR K W8 Mt ∧ RpL K W8 acc ws ∧
                lcLoop (chk k1 xs1) t1 ft1 fe (wipeR ρ' vs1) (xs1.drop (j + 1)) acc Mt = some (acc2, M6), ?_, fun x1 H' hx1 => ?_⟩
              · rintro H' ⟨W8, Mt', acc', ws', h1, h2, h3, h4, h5, h7⟩
                exact ⟨xs1.length - (j + 1), by omega, W8, Mt', acc', ws', h1, h2, h3, h4, h5, hlt1, rfl, h7⟩
              · obtain ⟨rfl, rx1⟩ := hy1 x1 H' hx1
                have slW1 : Sl K (W6.plus D (.lst ws6)) (wipeR ρ' vs1) (L2.wipe σ3 vs1) := (l5.ext (e7.trans eP6) s5m.sub).wipe vs1
                refine ⟨_, wipeR ρ' vs1, Mt6, xs1[j], rfl, sP6, slW1, rx1, ρ2, ht1, fun W7 σ7 e8 s7 l7 w7 => ⟨by rw [w7, wipe_idem], ?_⟩⟩
                refine ⟨W7, ρ2, Mt6, rfl, s7, l7, b1, M7, hb1, fun W8 e9 s8 => ?_⟩
                cases b1 with
                | false =>
                  rw [if_neg Bool.false_ne_true] at hw6 ⊢
                  obtain ⟨e10, b10, n10, h10⟩ := Ext.unplus s6 hD6 (e8.trans e9)
                  refine ⟨W8.minus D, M7, acc6, ws6, ?_, minus_self, e7.trans e10, s8.minus b10 n10, (racc6.ext e10 s6.sub), hw6⟩
                  funext a
                  by_cases z : a = D
                  · subst z; rw [upd_same]; exact h10
                  · rw [upd_ne z]; exact (minus_H z).symm
                | true =>
                  rw [if_pos rfl] at hw6 ⊢
                  obtain ⟨⟨y, M9⟩, hye, hw6⟩ := Option.bind_eq_some_iff.mp hw6
                  refine ⟨W8, ρ2, M7, rfl, s8, l7.ext e9 s7.sub, y, M9, hye, fun W9 v e11 s9 r9 => ?_⟩
                  obtain ⟨e12, b12, n12, h12⟩ := Ext.unplus s6 hD6 ((e8.trans e9).trans e11)
                  have hz : ws6.length < LINE := by
                    have q := lcLoop_len _ _ _ _ _ hw6
                    rw [List.length_append, List.length_singleton] at q
                    have := racc6.len
                    omega
                  refine ⟨ws6, h12, by rw [line_eq]; exact hz, W9.minus D, M9, acc6 ++ [y], ws6 ++ [v], ?_, minus_self, e7.trans e12, s9.minus b12 n12, (racc6.ext e12 s6.sub).append (.one (r9.minus b12 n12)), hw6⟩
                  funext a
                  by_cases z : a = D
                  · subst z; rw [upd_same, upd_same]
                  · rw [upd_ne z, upd_ne z]; exact (minus_H z).symm
            · cases hw6
          · left
            have e : j = xs1.length := by omega
            subst e
            rw [List.drop_length] at hw6
            unfold lcLoop at hw6
            split at hw6
            · rename_i hck1
              cases hw6
              exact ⟨(jf.2 (W6.plus D (.lst ws6)) M6 (extN_plus b6 e7) sP6 hck1 xs1.length).2 (Nat.le_refl _), W6, M6, acc2, ws6, rfl, hD6, e2.trans (e6.trans e7), s6, racc6, hw⟩
            · cases hw6
    · cases hw
  · left
    have e : i = xs.length := by omega
    subst e
    rw [List.drop_length] at hw
    unfold lc2Loop at hw
    split at hw
    · rename_i hck
      cases hw
      refine ⟨(jo.2 _ _ (e2.trans eP) sP hck xs.length).2 (Nat.le_refl _), ?_⟩
      exact k W2 D ws (e1.trans e2) s2 hD2 racc (by have := racc.len; omega)
    · cases hw
section
variable {X : Cx} {elt tg iter tg1 iter1 : Expr} {ifs ifs1 : List Expr} {scope : Scope} {own : List (Str × Nat)} {vs1 : List Nat} {pos : Pos} {fi fi1 : FI} {t t1 : FG} {ft ft1 : FT} {fe : FE}
theorem pfn_lc2N (hc : X.calm = true) (hN : X.N.Nodup) (hi : PFI X tg iter fi) (ok : BlkOk X.N X.env.scope scope own) (hv : ∀ i ∈ vs1, i ∈ own.map (·.2))
    (hg : ∀ (s : Shared) (H : Hp) (C : Addr) (cl : List (Str × Addr)) (fp : List Addr), PFG (X.blk s H scope (compEnvC scope cl C X.env) fp) (own.map (·.2)) tg t) (ht : ∀ (s : Shared) (H : Hp) (C : Addr) (cl : List (Str × Addr)) (fp : List Addr), PFTs (X.blk s H scope (compEnvC scope cl C X.env) fp) ifs ft)
    (hi1 : ∀ (s : Shared) (H : Hp) (C : Addr) (cl : List (Str × Addr)) (fp : List Addr), PFIN (X.blk s H scope (compEnvC scope cl C X.env) fp) tg1 iter1 fi1)
    (hg1 : ∀ (s : Shared) (H : Hp) (C : Addr) (cl : List (Str × Addr)) (fp : List Addr), PFG (X.blk s H scope (compEnvC scope cl C X.env) fp) vs1 tg1 t1) (ht1 : ∀ (s : Shared) (H : Hp) (C : Addr) (cl : List (Str × Addr)) (fp : List Addr), PFTs (X.blk s H scope (compEnvC scope cl C X.env) fp) ifs1 ft1)
    (he : ∀ (s : Shared) (H : Hp) (C : Addr) (cl : List (Str × Addr)) (fp : List Addr), PFE (X.blk s H scope (compEnvC scope cl C X.env) fp) elt fe) (hs : ∀ x, foldedSetIterable iter X.env x = pure x := by intro _; rfl) (hs1 : ∀ env x, foldedSetIterable iter1 env x = pure x := by intro _ _; rfl) :
    PFN X (.ListComp elt [⟨tg, iter, ifs, 0⟩, ⟨tg1, iter1, ifs1, 0⟩] scope pos) (fLC2 (own.map (·.2)) vs1 fi t ft fi1 t1 ft1 fe) := pe_weak (pe_lc2 hc hN hi ok hv hg ht hi1 hg1 ht1 he hs hs1) lc2N_lift
theorem pfs_setLc2NF {i : Nat} {y : Str} {py spos : Pos} (hc : X.calm = true) (hN : X.N.Nodup) (hy : X.N[i]? = some y) (hyl : X.env.scope.names.lookup y = some .local)
    (hsw : swapsWith (.ListComp elt [⟨tg, iter, ifs, 0⟩, ⟨tg1, iter1, ifs1, 0⟩] scope pos) (some (.Name y py)) spos.line X.env = pure true) (hi : PFI X tg iter fi) (ok : BlkOk X.N X.env.scope scope own) (hv : ∀ i ∈ vs1, i ∈ own.map (·.2))
    (hg : ∀ (s : Shared) (H : Hp) (C : Addr) (cl : List (Str × Addr)) (fp : List Addr), PFG (X.blk s H scope (compEnvC scope cl C X.env) fp) (own.map (·.2)) tg t) (ht : ∀ (s : Shared) (H : Hp) (C : Addr) (cl : List (Str × Addr)) (fp : List Addr), PFTs (X.blk s H scope (compEnvC scope cl C X.env) fp) ifs ft)
    (hi1 : ∀ (s : Shared) (H : Hp) (C : Addr) (cl : List (Str × Addr)) (fp : List Addr), PFIN (X.blk s H scope (compEnvC scope cl C X.env) fp) tg1 iter1 fi1)
    (hg1 : ∀ (s : Shared) (H : Hp) (C : Addr) (cl : List (Str × Addr)) (fp : List Addr), PFG (X.blk s H scope (compEnvC scope cl C X.env) fp) vs1 tg1 t1) (ht1 : ∀ (s : Shared) (H : Hp) (C : Addr) (cl : List (Str × Addr)) (fp : List Addr), PFTs (X.blk s H scope (compEnvC scope cl C X.env) fp) ifs1 ft1)
    (he : ∀ (s : Shared) (H : Hp) (C : Addr) (cl : List (Str × Addr)) (fp : List Addr), PFE (X.blk s H scope (compEnvC scope cl C X.env) fp) elt fe) (hs : ∀ x, foldedSetIterable iter X.env x = pure x := by intro _; rfl) (hs1 : ∀ env x, foldedSetIterable iter1 env x = pure x := by intro _ _; rfl) :
    PFS X (.Assign [.Name y py] (.ListComp elt [⟨tg, iter, ifs, 0⟩, ⟨tg1, iter1, ifs1, 0⟩] scope pos) spos) (sSet i (fFz (fLC2 (own.map (·.2)) vs1 fi t ft fi1 t1 ft1 fe))) := ps_weak (ps_setLc2 hc hN hy hyl hsw hi ok hv hg ht hi1 hg1 ht1 he hs hs1) fun E σ H h => lc2N_lift _ _ _ (set_fz E σ H h)
theorem pfs_setLc2NM {i : Nat} {y : Str} {py spos : Pos} (hc : X.calm = true) (hN : X.N.Nodup) (hy : X.N[i]? = some y) (hyl : X.env.scope.names.lookup y = some .local)
    (hsw : swapsWith (.ListComp elt [⟨tg, iter, ifs, 0⟩, ⟨tg1, iter1, ifs1, 0⟩] scope pos) (some (.Name y py)) spos.line X.env = pure true) (hi : PFI X tg iter fi) (ok : BlkOk X.N X.env.scope scope own) (hv : ∀ i ∈ vs1, i ∈ own.map (·.2))
    (hg : ∀ (s : Shared) (H : Hp) (C : Addr) (cl : List (Str × Addr)) (fp : List Addr), PFG (X.blk s H scope (compEnvC scope cl C X.env) fp) (own.map (·.2)) tg t) (ht : ∀ (s : Shared) (H : Hp) (C : Addr) (cl : List (Str × Addr)) (fp : List Addr), PFTs (X.blk s H scope (compEnvC scope cl C X.env) fp) ifs ft)
    (hi1 : ∀ (s : Shared) (H : Hp) (C : Addr) (cl : List (Str × Addr)) (fp : List Addr), PFIN (X.blk s H scope (compEnvC scope cl C X.env) fp) tg1 iter1 fi1)
    (hg1 : ∀ (s : Shared) (H : Hp) (C : Addr) (cl : List (Str × Addr)) (fp : List Addr), PFG (X.blk s H scope (compEnvC scope cl C X.env) fp) vs1 tg1 t1) (ht1 : ∀ (s : Shared) (H : Hp) (C : Addr) (cl : List (Str × Addr)) (fp : List Addr), PFTs (X.blk s H scope (compEnvC scope cl C X.env) fp) ifs1 ft1)
    (he : ∀ (s : Shared) (H : Hp) (C : Addr) (cl : List (Str × Addr)) (fp : List Addr), PFE (X.blk s H scope (compEnvC scope cl C X.env) fp) elt fe) (hs : ∀ x, foldedSetIterable iter X.env x = pure x := by intro _; rfl) (hs1 : ∀ env x, foldedSetIterable iter1 env x = pure x := by intro _ _; rfl) :
    PFS X (.Assign [.Name y py] (.ListComp elt [⟨tg, iter, ifs, 0⟩, ⟨tg1, iter1, ifs1, 0⟩] scope pos) spos) (sSet i (fMut (fLC2 (own.map (·.2)) vs1 fi t ft fi1 t1 ft1 fe))) := ps_weak (ps_setLc2 hc hN hy hyl hsw hi ok hv hg ht hi1 hg1 ht1 he hs hs1) fun E σ H h => lc2N_lift _ _ _ (set_mut E σ H h)
end
end PF
namespace PySem.W
open PySem PySem.Spec PyProof.Rows
section
variable {prog : Program} {w : World} {A : Around} {E : Value → Shared → Prop} {s : Shared}
theorem call_min_twoH {a b : Value} {Q : Value → Shared → Prop}
    (h : wpAny (model prog w) A.in1 (pyIter (.ref s.heap.objs.size)) (fun it s₂ => ∃ I fp wr G n P St H bt, it = .ref I ∧ WalksS prog w A.in1 I fp wr G n P St ∧ St 0 s₂ ∧ (∀ b ∈ fp, b < s₂.heap.objs.size) ∧ 0 < n ∧
      (∀ b o, H.get? b = some o → b ∉ wr) ∧ (∀ b o, H.get? b = some o → s₂.heap.get? b = some o) ∧ CmpIn prog w A.in1 .Lt H P bt ∧ ∀ v s', P (argBest bt (n - 1)) v → Moved wr G s₂ s' → Q v s') E { s with heap := s.heap.push { cls := .type "tuple", data := .seq #[a, b] } }) :
    wpAny (model prog w) A (call (.builtin "min") [a, b]) Q E s := by
  have hname : (toString "min" ++ toString ".loop" : String) = "min.loop" := by decide
  refine call_function_tree F.kind_min F.plain_min F.entry_min (F.args_min2 _ _) ?_
  show wpAny _ A.in1 (Builtin.Builtins.bindParams "min" ["key", "default"] 0 ⟨[], []⟩ >>= _) _ _ s
  refine wpAny_bind (wpAny_of_eq (show Builtin.Builtins.bindParams "min" ["key", "default"] 0 ⟨[], []⟩ = pure [none, none] from rfl) ?_)
  show wpAny _ A.in1 (newTuple [a, b] >>= _) _ _ s
  refine wpAny_bind (wpAny_newObj_type ?_)
  refine wpAny_bind (wpAny_mono h (fun it s₂ h₂ => ?_) fun _ _ e => e)
  obtain ⟨I, fp, wr, G, n, P, St, H, bt, rfl, W, hst, hfp, hn, hw, hkeep, hcmp, hQ⟩ := h₂
  refine wpAny_bind (wpAny_newObj_type ?_)
  have hSf : s₂.heap.objs.size ∉ fp := fun hm => Nat.lt_irrefl _ (hfp _ hm)
  rw [hname]
  refine wpAny_pure ⟨plainId_quiet F.plain_min_loop _, codeAny_min_loop_firstH W H hw bt hcmp s₂.heap.objs.size hSf (fresh_in hkeep) _ hn (fun b o e => Heap.get?_push_of_some _ (hkeep b o e)) (W.frame 0 s₂ _ s₂.toks hst (Nat.le_refl _) fun b _ o e => Heap.get?_push_of_some _ e) (Heap.get?_push_size _ rfl) fun v s' hP hm => ?_⟩
  exact hQ v s' hP (Moved.drop_new (tk := s₂.toks) hm (Nat.le_refl _))
theorem call_max_twoH {a b : Value} {Q : Value → Shared → Prop}
    (h : wpAny (model prog w) A.in1 (pyIter (.ref s.heap.objs.size)) (fun it s₂ => ∃ I fp wr G n P St H bt, it = .ref I ∧ WalksS prog w A.in1 I fp wr G n P St ∧ St 0 s₂ ∧ (∀ b ∈ fp, b < s₂.heap.objs.size) ∧ 0 < n ∧
      (∀ b o, H.get? b = some o → b ∉ wr) ∧ (∀ b o, H.get? b = some o → s₂.heap.get? b = some o) ∧ CmpIn prog w A.in1 .Gt H P bt ∧ ∀ v s', P (argBest bt (n - 1)) v → Moved wr G s₂ s' → Q v s') E { s with heap := s.heap.push { cls := .type "tuple", data := .seq #[a, b] } }) :
    wpAny (model prog w) A (call (.builtin "max") [a, b]) Q E s := by
  have hname : (toString "max" ++ toString ".loop" : String) = "max.loop" := by decide
  refine call_function_tree F.kind_max F.plain_max F.entry_max (F.args_max2 _ _) ?_
  show wpAny _ A.in1 (Builtin.Builtins.bindParams "max" ["key", "default"] 0 ⟨[], []⟩ >>= _) _ _ s
  refine wpAny_bind (wpAny_of_eq (show Builtin.Builtins.bindParams "max" ["key", "default"] 0 ⟨[], []⟩ = pure [none, none] from rfl) ?_)
  show wpAny _ A.in1 (newTuple [a, b] >>= _) _ _ s
  refine wpAny_bind (wpAny_newObj_type ?_)
  refine wpAny_bind (wpAny_mono h (fun it s₂ h₂ => ?_) fun _ _ e => e)
  obtain ⟨I, fp, wr, G, n, P, St, H, bt, rfl, W, hst, hfp, hn, hw, hkeep, hcmp, hQ⟩ := h₂
  refine wpAny_bind (wpAny_newObj_type ?_)
  have hSf : s₂.heap.objs.size ∉ fp := fun hm => Nat.lt_irrefl _ (hfp _ hm)
  rw [hname]
  refine wpAny_pure ⟨plainId_quiet F.plain_max_loop _, codeAny_max_loop_firstH W H hw bt hcmp s₂.heap.objs.size hSf (fresh_in hkeep) _ hn (fun b o e => Heap.get?_push_of_some _ (hkeep b o e)) (W.frame 0 s₂ _ s₂.toks hst (Nat.le_refl _) fun b _ o e => Heap.get?_push_of_some _ e) (Heap.get?_push_size _ rfl) fun v s' hP hm => ?_⟩
  exact hQ v s' hP (Moved.drop_new (tk := s₂.toks) hm (Nat.le_refl _))
theorem two_reads {h h' : Heap} {a b : Value} {x y : PyData} {as bs : List Addr} (k : ∀ c o, h.get? c = some o → h'.get? c = some o) (ra : Reads h a x as) (rb : Reads h b y bs) : ReadsAll h' [a, b] [x, y] (as ++ (bs ++ [])) :=
  .cons (reads_keeps k ra) (.cons (reads_keeps k rb) .nil)
theorem min_two_data {a b : Value} {x y : PyData} {as bs : List Addr} {Q : Value → Shared → Prop} (hh : A.handled = none) (ra : Reads s.heap a x as) (rb : Reads s.heap b y bs) (ha : AlikeAll [x, y]) (hu : A.units + 1 + PyData.depthAll [x, y] < cLine)
    (h : ∀ v h' tk, v = (if dataLt y x = true then b else a) → (∀ b o, s.heap.get? b = some o → h'.get? b = some o) → Q v { s with heap := h', toks := tk }) :
    wpAny (model prog w) A (call (.builtin "min") [a, b]) Q E s := by
  have kp : ∀ c o, s.heap.get? c = some o → (s.heap.push { cls := .type "tuple", data := .seq #[a, b] }).get? c = some o := fun c o e => Heap.get?_push_of_some _ e
  have hr : ReadsAll (s.heap.push { cls := .type "tuple", data := .seq #[a, b] }) (#[a, b] : Array Value).toList [x, y] _ := two_reads kp ra rb
  refine call_min_twoH (iter_tupleW (s := { s with heap := s.heap.push { cls := .type "tuple", data := .seq #[a, b] } }) (vs := #[a, b]) (A := A.in1) hh ⟨_, Heap.get?_push_size _ rfl, rfl, _, rfl⟩ fun s₂ e W st hfp hw hk => ?_)
  refine ⟨_, _, _, _, _, _, _, s.heap.push { cls := .type "tuple", data := .seq #[a, b] }, _, rfl, W, st, hfp, (show 0 < 2 by decide), hw, hk, cmpIn_lt (A := A.in1) (s := { s with heap := s.heap.push { cls := .type "tuple", data := .seq #[a, b] } }) hr ha (by show A.units + 1 + _ < _; exact hu), fun v s' hP m => ?_⟩
  obtain ⟨h', tk, rfl, hk'⟩ := moved_old e rfl m
  refine h v h' tk ?_ fun c o q => hk' c o (kp c o q)
  have hP' : (#[a, b] : Array Value)[if dataLt y x = true then 1 else 0]? = some v := hP
  by_cases hc : dataLt y x = true
  · rw [if_pos hc] at hP' ⊢; exact (Option.some.inj hP').symm
  · rw [if_neg hc] at hP' ⊢; exact (Option.some.inj hP').symm
theorem max_two_data {a b : Value} {x y : PyData} {as bs : List Addr} {Q : Value → Shared → Prop} (hh : A.handled = none) (ra : Reads s.heap a x as) (rb : Reads s.heap b y bs) (ha : AlikeAll [x, y]) (hu : A.units + 1 + PyData.depthAll [x, y] < cLine)
    (h : ∀ v h' tk, v = (if dataLt x y = true then b else a) → (∀ b o, s.heap.get? b = some o → h'.get? b = some o) → Q v { s with heap := h', toks := tk }) :
    wpAny (model prog w) A (call (.builtin "max") [a, b]) Q E s := by
  have kp : ∀ c o, s.heap.get? c = some o → (s.heap.push { cls := .type "tuple", data := .seq #[a, b] }).get? c = some o := fun c o e => Heap.get?_push_of_some _ e
  have hr : ReadsAll (s.heap.push { cls := .type "tuple", data := .seq #[a, b] }) (#[a, b] : Array Value).toList [x, y] _ := two_reads kp ra rb
  refine call_max_twoH (iter_tupleW (s := { s with heap := s.heap.push { cls := .type "tuple", data := .seq #[a, b] } }) (vs := #[a, b]) (A := A.in1) hh ⟨_, Heap.get?_push_size _ rfl, rfl, _, rfl⟩ fun s₂ e W st hfp hw hk => ?_)
  refine ⟨_, _, _, _, _, _, _, s.heap.push { cls := .type "tuple", data := .seq #[a, b] }, _, rfl, W, st, hfp, (show 0 < 2 by decide), hw, hk, cmpIn_gt (A := A.in1) (s := { s with heap := s.heap.push { cls := .type "tuple", data := .seq #[a, b] } }) hr ha (by show A.units + 1 + _ < _; exact hu), fun v s' hP m => ?_⟩
  obtain ⟨h', tk, rfl, hk'⟩ := moved_old e rfl m
  refine h v h' tk ?_ fun c o q => hk' c o (kp c o q)
  have hP' : (#[a, b] : Array Value)[if dataLt x y = true then 1 else 0]? = some v := hP
  by_cases hc : dataLt x y = true
  · rw [if_pos hc] at hP' ⊢; exact (Option.some.inj hP').symm
  · rw [if_neg hc] at hP' ⊢; exact (Option.some.inj hP').symm
end
end PySem.W
namespace PF
open PySem PySem.Spec PyProof.Rows L2
/-! min, max of two data -/
def rMM2 (K : PySem.W.Frag) (lt : PyData → PyData → Bool) : List V → Hp → VK → Prop := fun vs H Q => ∃ (v u : V) (d e : PyData), vs = [v, u] ∧ Dp K H v d ∧ Dp K H u e ∧ PySem.W.AlikeAll [d, e] ∧ PyData.depthAll [d, e] ≤ 60 ∧ Q (if lt d e = true then u else v) H
theorem cr_min2Dt {X : Cx} (hc : X.calm = true) (hu : X.A.units + 64 < cLine) : CallR X (.builtin "min") (rMM2 X.K fun d e => PySem.W.dataLt e d) := by
  intro pins s σ H vs us Q I r h
  obtain ⟨v, u, d, e, rfl, hd, he, hal, hdp, q⟩ := h
  obtain ⟨u1, u2, rfl, r1, r2⟩ := r.two
  obtain ⟨as, ra⟩ := Dp.reads I d v u1 hd r1
  obtain ⟨bs, rb⟩ := Dp.reads I e u u2 he r2
  refine PySem.W.min_two_data (I.ok.hd hc) ra rb hal (by omega) fun w h' tk hw hk => ?_
  subst hw
  refine ⟨_, H, I.kept hk, ?_, q⟩
  by_cases c : PySem.W.dataLt e d = true
  · rw [if_pos c, if_pos c]; exact r2
  · rw [if_neg c, if_neg c]; exact r1
theorem cr_max2Dt {X : Cx} (hc : X.calm = true) (hu : X.A.units + 64 < cLine) : CallR X (.builtin "max") (rMM2 X.K fun d e => PySem.W.dataLt d e) := by
  intro pins s σ H vs us Q I r h
  obtain ⟨v, u, d, e, rfl, hd, he, hal, hdp, q⟩ := h
  obtain ⟨u1, u2, rfl, r1, r2⟩ := r.two
  obtain ⟨as, ra⟩ := Dp.reads I d v u1 hd r1
  obtain ⟨bs, rb⟩ := Dp.reads I e u u2 he r2
  refine PySem.W.max_two_data (I.ok.hd hc) ra rb hal (by omega) fun w h' tk hw hk => ?_
  subst hw
  refine ⟨_, H, I.kept hk, ?_, q⟩
  by_cases c : PySem.W.dataLt d e = true
  · rw [if_pos c, if_pos c]; exact r2
  · rw [if_neg c, if_neg c]; exact r1
def gMM2 (lt : PyData → PyData → Bool) : GN := fun ds M => match ds with
  | [x, y] => if okAl [x, y] = true then some (if lt x.py y.py = true then y else x) else none
  | _ => none
def gMin2D : GN := gMM2 fun d e => PySem.W.dataLt e d
def gMax2D : GN := gMM2 fun d e => PySem.W.dataLt d e
theorem o_mm2 {K : PySem.W.Frag} {lt : PyData → PyData → Bool} : OpN K (rMM2 K lt) (gMM2 lt) := by
  intro W M ds d vs Q sr r hg k
  unfold gMM2 at hg
  split at hg
  · rename_i x y
    split at hg
    · rename_i ok
      cases hg
      unfold okAl at ok
      rw [Bool.and_eq_true, Bool.and_eq_true, Bool.and_eq_true] at ok
      obtain ⟨⟨o1, o2⟩, o3, o4⟩ := ok
      obtain ⟨v, u, rfl, r1, r2⟩ := rl2 r
      have hdp := dp_Dps 59 [x, y] [v, u] o2 r
      obtain ⟨q1, q2⟩ := dps_can 59 [x, y] o2
      rw [D.pys, D.pys, D.pys] at hdp q1 q2
      cases hdp with
      | cons h1 h2 =>
        cases h2 with
        | cons h2 _ =>
          refine ⟨v, u, x.py, y.py, rfl, h1, h2, ⟨fun a ha b hb => ?_, fun a ha => ?_⟩, by omega, ?_⟩
          · obtain ⟨a0, ha0, rfl⟩ := pys_mem (xs := [x, y]) (by rw [D.pys, D.pys, D.pys]; exact ha)
            obtain ⟨b0, hb0, rfl⟩ := pys_mem (xs := [x, y]) (by rw [D.pys, D.pys, D.pys]; exact hb)
            exact List.all_eq_true.mp (List.all_eq_true.mp o3 a0 ha0) b0 hb0
          · obtain ⟨a0, ha0, rfl⟩ := pys_mem (xs := [x, y]) (by rw [D.pys, D.pys, D.pys]; exact ha)
            have h4 := List.all_eq_true.mp o4 a0 ha0
            have h5 := nls_at o1 ha0
            cases a0 <;> simp [isNn, D.py, D.nl] at h4 h5 ⊢
          · by_cases c : lt x.py y.py = true
            · rw [if_pos c] at k ⊢; exact k W _ (.refl W) sr r2
            · rw [if_neg c] at k ⊢; exact k W _ (.refl W) sr r1
    · cases hg
  · cases hg
end PF
namespace PF
open PySem PySem.Spec PyProof.Rows L2
/-! ### what the pieces compute, for simp -/
def rg1 (a : List D) (M : Mem) : Option ((List D × Option Nat) × Mem) := match a with | [.int j] => if okR 0 j then some ((rgD 0 j.toNat, none), M) else none | _ => none
def rg2 (a : List D) (M : Mem) : Option ((List D × Option Nat) × Mem) := match a with | [.int i, .int j] => if okR i j then some ((rgD i (j - i).toNat, none), M) else none | _ => none
theorem ev_rgh1 {j : Int} (M : Mem) (h : okR 0 j = true) : rg1 [.int j] M = some ((rgD 0 j.toNat, none), M) := by unfold rg1; dsimp only; rw [if_pos h]
theorem ev_rgh2 {i j : Int} (M : Mem) (h : okR i j = true) : rg2 [.int i, .int j] M = some ((rgD i (j - i).toNat, none), M) := by unfold rg2; dsimp only; rw [if_pos h]
section
variable (ρ : Rho) (M : Mem)
@[simp] theorem ev_var (i) : fVar i ρ M = match ρ[i]? with | some (some d) => some (d, M) | _ => none := rfl
@[simp] theorem ev_c (d) : fC d ρ M = some (d, M) := rfl
@[simp] theorem ev_f1 (g a) : f1 g a ρ M = (a ρ M).bind fun a => (g a.1 a.2).bind fun d => some (d, a.2) := rfl
@[simp] theorem ev_f2 (g a b) : f2 g a b ρ M = (a ρ M).bind fun a => (b ρ a.2).bind fun b => (g a.1 b.1 b.2).bind fun d => some (d, b.2) := rfl
@[simp] theorem ev_f2T (g a b) : f2T g a b ρ M = (a ρ M).bind fun a => (b ρ a.2).bind fun b => (g a.1 b.1 b.2).bind fun d => some (d, b.2) := rfl
@[simp] theorem ev_gB (g x y) : gB g x y M = (g x y M).map .bl := rfl
@[simp] theorem ev_tru (a) : fTru a ρ M = (a ρ M).bind fun a => (gTru a.1 a.2).bind fun k => some (k, a.2) := rfl
@[simp] theorem ev_not (a) : fNot a ρ M = (a ρ M).bind fun a => some (!a.1, a.2) := rfl
@[simp] theorem ev_and (a b) : fAnd a b ρ M = (a ρ M).bind fun a => if a.1 = true then b ρ a.2 else some (false, a.2) := rfl
@[simp] theorem ev_or (a b) : fOr a b ρ M = (a ρ M).bind fun a => if a.1 = true then some (true, a.2) else b ρ a.2 := rfl
@[simp] theorem ev_andV (a b) : fAndV a b ρ M = (a ρ M).bind fun a => (gTru a.1 a.2).bind fun k => if k = true then b ρ a.2 else some a := rfl
@[simp] theorem ev_orV (a b) : fOrV a b ρ M = (a ρ M).bind fun a => (gTru a.1 a.2).bind fun k => if k = true then some a else b ρ a.2 := rfl
@[simp] theorem ev_notV (a) : fNotV a ρ M = (a ρ M).bind fun a => (gTru a.1 a.2).bind fun k => some (.bl (!k), a.2) := rfl
@[simp] theorem ev_ifE (c a b) : fIfE c a b ρ M = (c ρ M).bind fun c => if c.1 = true then a ρ c.2 else b ρ c.2 := rfl
theorem ev_chain (g g' : G2B) (fa fb fc : FE) : fChain g g' fa fb fc ρ M = (fa ρ M).bind fun a => (fb ρ a.2).bind fun b => (g a.1 b.1 b.2).bind fun k => if k = true then (fc ρ b.2).bind fun c => (g' b.1 c.1 c.2).bind fun j => some (.bl j, c.2) else some (.bl false, b.2) := rfl
theorem ev_chainT (g g' : G2B) (fa fb fc : FE) : fChainT g g' fa fb fc ρ M = (fa ρ M).bind fun a => (fb ρ a.2).bind fun b => (g a.1 b.1 b.2).bind fun k => if k = true then (fc ρ b.2).bind fun c => (g' b.1 c.1 c.2).bind fun j => some (j, c.2) else some (false, b.2) := rfl
@[simp] theorem ev_nil : fNil ρ M = some ([], M) := rfl
@[simp] theorem ev_cons (a r) : fCons a r ρ M = (a ρ M).bind fun a => (r ρ a.2).bind fun r => some (a.1 :: r.1, r.2) := rfl
@[simp] theorem ev_tup (f) : fTup f ρ M = (f ρ M).bind fun a => if a.1.length ≤ LINE then some (.tup a.1, a.2) else none := rfl
@[simp] theorem ev_lstD (f) : fLstD f ρ M = (f ρ M).bind fun a => if a.1.length ≤ LINE then some a else none := rfl
@[simp] theorem ev_fz (f) : fFz f ρ M = (f ρ M).bind fun a => some (.lst a.1, a.2) := rfl
@[simp] theorem ev_mut (f) : fMut f ρ M = (f ρ M).bind fun a => some (.ref a.2.length, a.2 ++ [.lst a.1]) := rfl
@[simp] theorem ev_rev (f) : fRevN f ρ M = (f ρ M).bind fun a => (lsOf a.1 a.2).bind fun xs => some (xs.reverse, a.2) := rfl
@[simp] theorem ev_b (g f) : fB g f ρ M = (f ρ M).bind fun a => (g a.1 a.2).bind fun d => some (d, a.2) := rfl
@[simp] theorem ev_bN (g f) : fBN g f ρ M = (f ρ M).bind fun a => (g a.1 a.2).bind fun d => some (d, a.2) := rfl
@[simp] theorem ev_isi (T f) : fIsi T f ρ M = (f ρ M).bind fun a => some (.bl (isi (tyOf a.1) T), a.2) := rfl
@[simp] theorem ev_call (c f) : fCall c f ρ M = (f ρ M).bind fun a => callP c a.1 a.2 := rfl
@[simp] theorem ev_callS (i c f) : fCallS i c f ρ M = (f ρ M).bind fun a => callS i c a.1 a.2 := rfl
@[simp] theorem ev_callSM (i c f) : fCallSM i c f ρ M = (f ρ M).bind fun a => callSM i c a.1 a.2 := rfl
@[simp] theorem ev_m (T g o f) : fM T g o f ρ M = (o ρ M).bind fun o => if tyOk T o.1 o.2 = true then (f ρ o.2).bind fun a => g o.1 a.1 a.2 else none := rfl
@[simp] theorem ev_next : sNext ρ M = some (.nx ρ, M) := rfl
@[simp] theorem ev_seq (f g) : sSeq f g ρ M = (f ρ M).bind fun o => match o.1 with | .nx ρ' => g ρ' o.2 | _ => some o := rfl
@[simp] theorem ev_brk : sBreak ρ M = some (.bk ρ, M) := rfl
@[simp] theorem ev_cont : sCont ρ M = some (.ct ρ, M) := rfl
@[simp] theorem ev_drop (f) : sDrop f ρ M = (f ρ M).bind fun a => some (.nx ρ, a.2) := rfl
@[simp] theorem ev_ret (f) : sRet f ρ M = (f ρ M).bind fun a => some (.ret a.1, a.2) := rfl
@[simp] theorem ev_retN : sRetN ρ M = some (.ret .non, M) := rfl
@[simp] theorem ev_if (c f g) : sIf c f g ρ M = (c ρ M).bind fun a => if a.1 = true then f ρ a.2 else g ρ a.2 := rfl
@[simp] theorem ev_set (i f) : sSet i f ρ M = (f ρ M).bind fun a => some (.nx (ρ.set i (some a.1)), a.2) := rfl
@[simp] theorem ev_asg (f t) : sAsg f t ρ M = (f ρ M).bind fun a => (t a.1 ρ).bind fun ρ' => some (.nx ρ', a.2) := rfl
@[simp] theorem ev_par (i j f) : sPar i j f ρ M = (f ρ M).bind fun a => match a.1 with | [x, y] => some (.nx ((ρ.set i (some x)).set j (some y)), a.2) | _ => none := rfl
@[simp] theorem ev_par3 (i j l f) : sPar3 i j l f ρ M = (f ρ M).bind fun a => match a.1 with | [x, y, z] => some (.nx (((ρ.set i (some x)).set j (some y)).set l (some z)), a.2) | _ => none := rfl
@[simp] theorem ev_aug (i g f) : sAug i g f ρ M = match ρ[i]? with | some (some x) => (f ρ M).bind fun a => (g x a.1 a.2).bind fun z => some (.nx (ρ.set i (some z.1)), z.2) | _ => none := rfl
@[simp] theorem ev_while (c f) : sWhile c f ρ M = sWhileN c f (fuel ρ M) ρ M := rfl
@[simp] theorem ev_for (i t f) : sFor i t f ρ M = (i ρ M).bind fun a => sLoop (chk a.1.2 a.1.1) (sStep t f) a.1.1 ρ a.2 := rfl
@[simp] theorem ev_step (t f d) : sStep t f d ρ M = (t d ρ).bind fun ρ' => f ρ' M := rfl
@[simp] theorem ev_tN (i d) : tN i d ρ = some (ρ.set i (some d)) := rfl
@[simp] theorem ev_tT (n t xs) : tT n t (.tup xs) ρ = if xs.length = n then t xs ρ else none := rfl
@[simp] theorem ev_tsN : tsN [] ρ = some ρ := rfl
@[simp] theorem ev_tsC (t u d r) : tsC t u (d :: r) ρ = (t d ρ).bind fun ρ' => u r ρ' := rfl
@[simp] theorem ev_rg1 (f) : fiRg1 f ρ M = (f ρ M).bind fun a => rg1 a.1 a.2 := rfl
@[simp] theorem ev_rg2 (f) : fiRg2 f ρ M = (f ρ M).bind fun a => rg2 a.1 a.2 := rfl
@[simp] theorem ev_lc (vs i t c e) : fLC vs i t c e ρ M = (i ρ M).bind fun a => lcLoop (chk a.1.2 a.1.1) t c e (wipeR ρ vs) a.1.1 [] a.2 := rfl
@[simp] theorem ev_lc2 (vs vs1 i t c i1 t1 c1 e) : fLC2 vs vs1 i t c i1 t1 c1 e ρ M = (i ρ M).bind fun a => (lc2Loop (chk a.1.2 a.1.1) t c i1 vs1 t1 c1 e (wipeR ρ vs) a.1.1 [] a.2).bind fun y => if y.1.length ≤ LINE then some y else none := rfl
@[simp] theorem ev_yes : fYes ρ M = some (true, M) := rfl
@[simp] theorem ev_setIx (v o i) : sSetIx v o i ρ M = (v ρ M).bind fun v => (o ρ v.2).bind fun o => (i ρ o.2).bind fun i => match i.1 with
  | .int k => (mlOf o.1 i.2).bind fun l => (ixN l.2.length k).bind fun j => some (.nx ρ, i.2.set l.1 (.lst (l.2.set j v.1)))
  | _ => none := rfl
@[simp] theorem ev_slice (a l h) : fSlice a l h ρ M = (a ρ M).bind fun a => (l ρ a.2).bind fun l => (h ρ l.2).bind fun h => (gSlice a.1 l.1 h.1 h.2).bind fun d => some (d, h.2) := rfl
@[simp] theorem ev_sliceN (a l h) : fSliceN a l h ρ M = (a ρ M).bind fun a => (l ρ a.2).bind fun l => (h ρ l.2).bind fun h => (lsOf a.1 h.2).bind fun d => some (cutD d l.1 h.1, h.2) := rfl
@[simp] theorem ev_noPart : fNoPart ρ M = some (none, M) := rfl
@[simp] theorem ev_part (a) : fPart a ρ M = (a ρ M).bind fun a => match a.1 with | .int i => some (some i, a.2) | _ => none := rfl
end
section
variable (M : Mem) (i j : Int)
@[simp] theorem ev_add : gAdd (.int i) (.int j) M = some (.int (i + j)) := rfl
@[simp] theorem ev_sub : gSub (.int i) (.int j) M = some (.int (i - j)) := rfl
@[simp] theorem ev_mul : gMul (.int i) (.int j) M = if okMul i j = true then some (.int (i * j)) else none := rfl
@[simp] theorem ev_fdiv : gFdiv (.int i) (.int j) M = if okDiv j = true then some (.int (i.fdiv j)) else none := rfl
@[simp] theorem ev_mod : gMod (.int i) (.int j) M = if decide (j ≠ 0) = true then some (.int (i.fmod j)) else none := rfl
@[simp] theorem ev_pow : gPow (.int i) (.int j) M = if okPow i j = true then some (.int (i ^ j.toNat)) else none := rfl
@[simp] theorem ev_neg : gNeg (.int i) M = some (.int (-i)) := rfl
@[simp] theorem ev_cmp (c) : gCmp c (.int i) (.int j) M = some (c i j) := rfl
@[simp] theorem ev_eq : gEq (.int i) (.int j) M = some (decide (i = j)) := by
  unfold gEq; simp [D.val, D.dp, D.py, PyData.eqv]; by_cases h : i = j <;> simp [h]
@[simp] theorem ev_ne : gNe (.int i) (.int j) M = some (!decide (i = j)) := by
  unfold gNe; rw [ev_eq]; rfl
@[simp] theorem ev_eqb (a b : Bool) : gEq (.bl a) (.bl b) M = some (decide (a = b)) := by cases a <;> cases b <;> rfl
@[simp] theorem ev_neb (a b : Bool) : gNe (.bl a) (.bl b) M = some (!decide (a = b)) := by cases a <;> cases b <;> rfl
@[simp] theorem ev_int : gInt [.int i] M = some (.int i) := rfl
@[simp] theorem ev_intb (b) : gInt [.bl b] M = some (.int (if b = true then 1 else 0)) := by cases b <;> rfl
@[simp] theorem ev_abs : gAbs [.int i] M = some (.int (i.natAbs : Int)) := by
  show some (D.int (if i < 0 then -i else i)) = _
  rw [show (if i < 0 then -i else i) = (i.natAbs : Int) by omega]
@[simp] theorem ev_gcd : gGcd [.int i, .int j] M = some (.int ((Nat.gcd i.natAbs j.natAbs : Nat) : Int)) := rfl
@[simp] theorem ev_max2 : gMax2 [.int i, .int j] M = some (.int (if j > i then j else i)) := rfl
@[simp] theorem ev_min2 : gMin2 [.int i, .int j] M = some (.int (if j < i then j else i)) := rfl
@[simp] theorem ev_trub (b) : gTru (.bl b) M = some b := rfl
@[simp] theorem ev_trui : gTru (.int i) M = some (i != 0) := rfl
@[simp] theorem ev_isb (a b : Bool) : gIs (.bl a) (.bl b) M = some (decide (a = b)) := rfl
@[simp] theorem ev_isn (d) : gIs d .non M = some (isNn d) := rfl
@[simp] theorem ev_isNot (d e) : gIsNot d e M = (gIs d e M).map (! ·) := rfl
@[simp] theorem ev_lent (xs : List D) : gLen [.tup xs] M = some (.int xs.length) := rfl
@[simp] theorem ev_lenl (xs : List D) : gLen [.lst xs] M = some (.int xs.length) := rfl
@[simp] theorem ev_lenk (xs : List D) : gLen [.kst xs] M = some (.int xs.length) := rfl
@[simp] theorem ev_lenr (n : Nat) : gLen [.ref n] M = (lsOf (.ref n) M).map fun xs => .int xs.length := rfl
@[simp] theorem ev_lsr (n : Nat) : lsOf (.ref n) M = match M[n]? with | some (.lst xs) => some xs | _ => none := rfl
@[simp] theorem ev_lsl (xs : List D) : lsOf (.lst xs) M = some xs := rfl
@[simp] theorem ev_lsk (xs : List D) : lsOf (.kst xs) M = some xs := rfl
@[simp] theorem ev_sqr (n : Nat) : sqOf (.ref n) M = lsOf (.ref n) M := rfl
@[simp] theorem ev_sql (xs : List D) : sqOf (.lst xs) M = some xs := rfl
@[simp] theorem ev_sqk (xs : List D) : sqOf (.kst xs) M = some xs := rfl
@[simp] theorem ev_sqt (xs : List D) : sqOf (.tup xs) M = some xs := rfl
@[simp] theorem ev_ixt (xs : List D) : gIx (.tup xs) (.int i) M = atI xs i := rfl
@[simp] theorem ev_ixl (xs : List D) : gIx (.lst xs) (.int i) M = atI xs i := rfl
@[simp] theorem ev_ixk (xs : List D) : gIx (.kst xs) (.int i) M = atI xs i := rfl
@[simp] theorem ev_ixr (n : Nat) : gIx (.ref n) (.int i) M = (lsOf (.ref n) M).bind fun xs => atI xs i := rfl
@[simp] theorem ev_tyOk (d : D) : tyOk "list" d M = (lsOf d M).isSome := rfl
@[simp] theorem ev_ml (n : Nat) : mlOf (.ref n) M = match M[n]? with | some (.lst xs) => some (n, xs) | _ => none := rfl
@[simp] theorem ev_append (x d : D) : gAppend x [d] M = (mlOf x M).bind fun l => if l.2.length < LINE then some (.non, M.set l.1 (.lst (l.2 ++ [d]))) else none := rfl
@[simp] theorem ev_pop (x : D) : gPop x [] M = (mlOf x M).bind fun l => (l.2[l.2.length - 1]?).bind fun d => some (d, M.set l.1 (.lst l.2.dropLast)) := rfl
@[simp] theorem ev_reverse (x : D) : gReverse x [] M = (mlOf x M).bind fun l => some (.non, M.set l.1 (.lst l.2.reverse)) := rfl
@[simp] theorem ev_chk0 (xs) : chk none xs M = true := rfl
@[simp] theorem ev_list (d : D) : gList [d] M = sqOf d M := rfl
@[simp] theorem ev_tuple (d : D) : gTuple [d] M = (sqOf d M).map .tup := rfl
theorem atI_eq {α} (xs : List α) : L2.atI xs i = (L2.ixN xs.length i).bind fun n => xs[n]? := rfl
end
theorem at_nat {α} {xs : List α} {n : Nat} {d : α} (h : xs[n]? = some d) : L2.atI xs (n : Int) = some d := by
  have hl := (List.getElem?_eq_some_iff.mp h).1
  rw [atI_eq]
  unfold L2.ixN
  rw [if_pos (by omega), if_pos (by omega)]
  exact h
@[simp] theorem atI_0 {α} (x : α) (xs) : L2.atI (x :: xs) 0 = some x := at_nat (n := 0) rfl
@[simp] theorem atI_1 {α} (x y : α) (xs) : L2.atI (x :: y :: xs) 1 = some y := at_nat (n := 1) rfl
@[simp] theorem atI_2 {α} (x y z : α) (xs) : L2.atI (x :: y :: z :: xs) 2 = some z := at_nat (n := 2) rfl
theorem atI_int {α} {xs : List α} {i : Int} {n : Nat} {d : α} (hi : i = n) (h : xs[n]? = some d) : L2.atI xs i = some d := by subst hi; exact at_nat h
/-- a list of iL -/
def iL (xs : List Int) : List D := xs.map .int
@[simp] theorem iL_len (xs : List Int) : (iL xs).length = xs.length := by simp [iL]
@[simp] theorem iL_nil : iL [] = [] := rfl
theorem iL_cons (x xs) : iL (x :: xs) = .int x :: iL xs := rfl
theorem iL_app (xs ys) : iL xs ++ iL ys = iL (xs ++ ys) := by simp [iL]
theorem iL_at {xs : List Int} {n : Nat} : (iL xs)[n]? = (xs[n]?).map .int := by simp [iL]
theorem nrs_iL : ∀ xs : List Int, D.nrs (iL xs) = true
  | [] => rfl
  | x :: xs => by
    show (D.nr (.int x) && D.nrs (iL xs)) = true
    rw [nrs_iL xs]; rfl
theorem nls_iL : ∀ xs : List Int, D.nls (iL xs) = true
  | [] => rfl
  | x :: xs => by
    show (D.nl (.int x) && D.nls (iL xs)) = true
    rw [nls_iL xs]; rfl
theorem beqs_iL : ∀ xs : List Int, D.beqs (iL xs) (iL xs) = true
  | [] => rfl
  | x :: xs => by
    show (D.beq (.int x) (.int x) && D.beqs (iL xs) (iL xs)) = true
    rw [beqs_iL xs]; simp [D.beq]
theorem line_le {n : Nat} (h : n ≤ 16777216) : n ≤ LINE := h
@[simp] theorem line_1 : (1 ≤ LINE) = True := by simp [LINE]
@[simp] theorem line_2 : (2 ≤ LINE) = True := by simp [LINE]
@[simp] theorem line_3 : (3 ≤ LINE) = True := by simp [LINE]
@[simp] theorem line_4 : (4 ≤ LINE) = True := by simp [LINE]
@[simp] theorem line_5 : (5 ≤ LINE) = True := by simp [LINE]
@[simp] theorem line_6 : (6 ≤ LINE) = True := by simp [LINE]
@[simp] theorem line_7 : (7 ≤ LINE) = True := by simp [LINE]
@[simp] theorem line_8 : (8 ≤ LINE) = True := by simp [LINE]
@[simp] theorem line_9 : (9 ≤ LINE) = True := by simp [LINE]
@[simp] theorem line_10 : (10 ≤ LINE) = True := by simp [LINE]
section
variable (M : Mem) (xs : List D)
@[simp] theorem ap_int (i) : argP M (.int i) = some (.int i) := rfl
@[simp] theorem ap_bl (i) : argP M (.bl i) = some (.bl i) := rfl
@[simp] theorem ap_non : argP M .non = some .non := rfl
@[simp] theorem ap_tup : argP M (.tup xs) = if D.nrs xs = true then some (.tup xs) else none := rfl
@[simp] theorem ap_lst : argP M (.lst xs) = if D.nrs xs = true then some (.lst xs) else none := rfl
@[simp] theorem ap_kst : argP M (.kst xs) = if D.nrs xs = true then some (.kst xs) else none := rfl
@[simp] theorem ir_int (i) : D.isRef (.int i) = false := rfl
@[simp] theorem ir_bl (i) : D.isRef (.bl i) = false := rfl
@[simp] theorem ir_non : D.isRef .non = false := rfl
@[simp] theorem ir_tup : D.isRef (.tup xs) = false := rfl
@[simp] theorem ir_lst : D.isRef (.lst xs) = false := rfl
@[simp] theorem ir_kst : D.isRef (.kst xs) = false := rfl
@[simp] theorem ir_ref (n) : D.isRef (.ref n) = true := rfl
end
@[simp] theorem ev_sum (d : D) (M : Mem) : gSum [d] M = (lsOf d M).bind fun xs => (intsOf xs).map fun ns => .int ns.sum := rfl
@[simp] theorem ev_sumA (d : D) (M : Mem) : gSumA [d] M = (sqOf d M).bind fun xs => (intsOf xs).map fun ns => .int ns.sum := rfl
@[simp] theorem ev_iadd (i j : Int) (M : Mem) : gIAdd (.int i) (.int j) M = some (.int (i + j), M) := rfl
@[simp] theorem ev_iaddA (i j : Int) (M : Mem) : gIAddA (.int i) (.int j) M = some (.int (i + j), M) := rfl
theorem ev_iaddT (a b : List D) (M : Mem) (h : a.length + b.length ≤ 10000) : gIAddA (.tup a) (.tup b) M = some (.tup (a ++ b), M) := by
  show (if a.length + b.length ≤ LINE then some (D.tup (a ++ b), M) else none) = _
  rw [if_pos (by show _ ≤ 16777216; omega)]
@[simp] theorem intsOf_iL : ∀ ns : List Int, intsOf (iL ns) = some ns
  | [] => rfl
  | n :: ns => by
    show (intsOf (iL ns)).map (n :: ·) = _
    rw [intsOf_iL ns]; rfl
/-! ### loops -/
theorem loop_inv {c : Mem → Bool} {step : D → FS} {xs : List D} (I : Nat → Rho → Mem → Prop) (hc : ∀ k ρ M, I k ρ M → c M = true)
    (hs : ∀ k d ρ M, xs[k]? = some d → I k ρ M → ∃ ρ' M', step d ρ M = some (.nx ρ', M') ∧ I (k + 1) ρ' M') {ρ : Rho} {M : Mem} (h0 : I 0 ρ M) : ∃ ρ' M', sLoop c step xs ρ M = some (.nx ρ', M') ∧ I xs.length ρ' M' := by
  have main : ∀ (ys : List D) (k : Nat) (ρ : Rho) (M : Mem), xs.drop k = ys → k ≤ xs.length → I k ρ M → ∃ ρ' M', sLoop c step ys ρ M = some (.nx ρ', M') ∧ I xs.length ρ' M' := by
    intro ys
    induction ys with
    | nil =>
      intro k ρ M e hk h
      have : k = xs.length := by
        have := congrArg List.length e
        simp at this; omega
      subst this
      exact ⟨ρ, M, by rw [sLoop, if_pos (hc _ _ _ h)], h⟩
    | cons d ys ih =>
      intro k ρ M e hk h
      have hd : xs[k]? = some d := by
        have h0 : (xs.drop k)[0]? = some d := by rw [e]; rfl
        rw [List.getElem?_drop] at h0
        simpa using h0
      obtain ⟨ρ', M', e1, h1⟩ := hs k d ρ M hd h
      have e2 : xs.drop (k + 1) = ys := by rw [← List.drop_drop, e]; rfl
      obtain ⟨ρ2, M2, e3, h3⟩ := ih (k + 1) ρ' M' e2 (by have := (List.getElem?_eq_some_iff.mp hd).1; omega) h1
      exact ⟨ρ2, M2, by rw [sLoop, if_pos (hc _ _ _ h), e1]; exact e3, h3⟩
  exact main xs 0 ρ M rfl (Nat.zero_le _) h0
theorem while_inv {fc : FT} {fb : FS} (I : Rho → Mem → Prop) (P : Rho → Mem → Prop) (μ : Rho → Mem → Nat)
    (hs : ∀ ρ M, I ρ M → (fc ρ M = some (false, M) ∧ P ρ M) ∨ (fc ρ M = some (true, M) ∧ ∃ ρ' M', fb ρ M = some (.nx ρ', M') ∧ I ρ' M' ∧ μ ρ' M' < μ ρ M)) : ∀ (n : Nat) (ρ : Rho) (M : Mem), I ρ M → μ ρ M < n → ∃ ρ' M', sWhileN fc fb n ρ M = some (.nx ρ', M') ∧ P ρ' M'
  | 0, _, _, _, h => absurd h (Nat.not_lt_zero _)
  | n + 1, ρ, M, hI, h => by
    rcases hs ρ M hI with ⟨e, hp⟩ | ⟨e, ρ', M', e1, h1, h2⟩
    · exact ⟨ρ, M, by rw [sWhileN, e]; rfl, hp⟩
    · obtain ⟨ρ2, M2, e3, h3⟩ := while_inv I P μ hs n ρ' M' h1 (by omega)
      exact ⟨ρ2, M2, by rw [sWhileN, e]; show ((fb ρ M).bind _) = _; rw [e1]; exact e3, h3⟩
theorem fuel_big (ρ : Rho) (M : Mem) : 1000000 ≤ fuel ρ M := by
  unfold fuel
  have : ∀ (l : Rho) (n : Nat), n ≤ l.foldl (fun n d => n + match d with | some (.int i) => i.natAbs | _ => 0) n := by
    intro l
    induction l with
    | nil => intro n; exact Nat.le_refl n
    | cons d l ih => intro n; exact Nat.le_trans (Nat.le_add_right _ _) (ih _)
  exact this ρ 1000000
theorem fuel_at {ρ : Rho} {M : Mem} {n : Nat} {i : Int} (h : ρ[n]? = some (some (.int i))) : 1000000 + i.natAbs ≤ fuel ρ M := by
  unfold fuel
  have mono : ∀ (l : Rho) (n : Nat), n ≤ l.foldl (fun n d => n + match d with | some (.int i) => i.natAbs | _ => 0) n := by
    intro l
    induction l with
    | nil => intro n; exact Nat.le_refl n
    | cons d l ih => intro n; exact Nat.le_trans (Nat.le_add_right _ _) (ih _)
  have : ∀ (l : Rho) (n m : Nat), l[n]? = some (some (.int i)) → m + i.natAbs ≤ l.foldl (fun n d => n + match d with | some (.int i) => i.natAbs | _ => 0) m := by
    intro l
    induction l with
    | nil => intro n m h; simp at h
    | cons d l ih =>
      intro n m h
      cases n with
      | zero => simp at h; subst h; exact mono l _
      | succ n => exact Nat.le_trans (Nat.add_le_add_right (Nat.le_add_right _ _) _) (ih n _ (by simpa using h))
  exact this ρ n _ h
theorem rgD_at {lo : Int} {n k : Nat} {d : D} (h : (rgD lo n)[k]? = some d) : k < n ∧ d = .int (lo + k) := by
  unfold rgD at h
  rw [List.getElem?_map] at h
  by_cases hk : k < n
  · rw [List.getElem?_range hk] at h
    simp at h
    exact ⟨hk, h.symm⟩
  · rw [List.getElem?_eq_none (by simp; omega)] at h
    simp at h
@[simp] theorem rgD_len (lo : Int) (n : Nat) : (rgD lo n).length = n := by simp [rgD]
/-! ### sides -/
theorem okMul_l {i j : Int} (h : i.natAbs < 18446744073709551616) : okMul i j = true := by simp [okMul, h]
theorem okMul_r {i j : Int} (h : j.natAbs < 18446744073709551616) : okMul i j = true := by simp [okMul, h]
theorem log2_lt_of {n k : Nat} (h : n < 2 ^ k) (hk : 0 < k) : n.log2 < k := by
  by_cases h0 : n = 0
  · subst h0; simpa using hk
  · exact (Nat.log2_lt h0).mpr h
theorem okMul_big {i j : Int} (hi : i.natAbs < 2 ^ 400000) (hj : j.natAbs < 2 ^ 400000) : okMul i j = true := by
  have h1 := log2_lt_of hi (by decide)
  have h2 := log2_lt_of hj (by decide)
  simp [okMul]; right; right; omega
theorem okDiv_of {j : Int} (h0 : j ≠ 0) (h : j.natAbs < 2 ^ 9000) : okDiv j = true := by
  have h1 := log2_lt_of h (by decide)
  simp [okDiv, h0, h1]
theorem okR_of {i j : Int} (h1 : -1000000 ≤ i) (h2 : j ≤ 10000000) (h3 : i ≤ 10000000) (h4 : -1000000 ≤ j) : okR i j = true := by
  unfold okR
  rw [Bool.and_eq_true, Bool.and_eq_true]
  exact ⟨Nat.ble_eq_true_of_le (by omega), Nat.ble_eq_true_of_le (by omega), Nat.ble_eq_true_of_le (by omega)⟩
end PF
namespace PF
open PySem PySem.Spec PyProof.Rows L2
/-- a fraction of the program's -/
def fr (q : Rat) : D := .tup [.int q.num, .int q.den]
theorem fr_nr (q : Rat) : (fr q).nr = true := rfl
theorem frac_parts (n d : Int) (hd : d ≠ 0) {e : Int} (he : e = if d < 0 then -((Nat.gcd n.natAbs d.natAbs : Nat) : Int) else ((Nat.gcd n.natAbs d.natAbs : Nat) : Int)) :
    n.fdiv e = (Rat.divInt n d).num ∧ d.fdiv e = ((Rat.divInt n d).den : Int) := by
  have hg : (Int.gcd d n : Int) = ((Nat.gcd n.natAbs d.natAbs : Nat) : Int) := by rw [Int.gcd_comm]; rfl
  have g0 : (Nat.gcd n.natAbs d.natAbs : Nat) ≠ 0 := by
    intro z
    have := Nat.eq_zero_of_gcd_eq_zero_right z
    omega
  rw [Rat.num_divInt, Rat.den_divInt, if_neg hd, hg, Int.natCast_ediv, show Int.gcd d n = Nat.gcd n.natAbs d.natAbs from by rw [Int.gcd_comm]; rfl]
  generalize hG : (Nat.gcd n.natAbs d.natAbs : Nat) = g at *
  obtain ⟨k, hk⟩ : (g : Int) ∣ n := by rw [← hG]; exact Int.ofNat_dvd_left.mpr (Nat.gcd_dvd_left _ _)
  obtain ⟨m, hm⟩ : (g : Int) ∣ d := by rw [← hG]; exact Int.ofNat_dvd_left.mpr (Nat.gcd_dvd_right _ _)
  have gz : (g : Int) ≠ 0 := by omega
  have gp : (0 : Int) < g := by omega
  by_cases hn : d < 0
  · rw [if_pos hn] at he
    have e1 : d.sign = -1 := Int.sign_eq_neg_one_of_neg hn
    have e2 : (d.natAbs : Int) = -d := by omega
    have en : (-(g : Int)) ≠ 0 := by omega
    rw [e1, e2, he]
    constructor
    · rw [hk, show (g : Int) * k = -(g : Int) * -k by grind, Int.mul_fdiv_cancel_left _ en, show -1 * (-(g : Int) * -k) = (g : Int) * -k by grind, Int.mul_ediv_cancel_left _ gz]
    · rw [hm, show (g : Int) * m = -(g : Int) * -m by grind, Int.mul_fdiv_cancel_left _ en, show -(-(g : Int) * -m) = (g : Int) * -m by grind, Int.mul_ediv_cancel_left _ gz]
  · rw [if_neg hn] at he
    have e1 : d.sign = 1 := Int.sign_eq_one_of_pos (by omega)
    have e2 : (d.natAbs : Int) = d := by omega
    rw [e1, e2, he]
    constructor
    · rw [hk, Int.mul_fdiv_cancel_left _ gz, show 1 * ((g : Int) * k) = (g : Int) * k by grind, Int.mul_ediv_cancel_left _ gz]
    · rw [hm, Int.mul_fdiv_cancel_left _ gz, Int.mul_ediv_cancel_left _ gz]
theorem gcd_le_d (n d : Int) (hd : d ≠ 0) : Nat.gcd n.natAbs d.natAbs ≤ d.natAbs ∧ Nat.gcd n.natAbs d.natAbs ≠ 0 := by
  have h : 0 < d.natAbs := by omega
  refine ⟨Nat.le_of_dvd h (Nat.gcd_dvd_right _ _), fun z => ?_⟩
  have := Nat.eq_zero_of_gcd_eq_zero_right z
  omega
/-- sizes -/
def Sz (k : Nat) (q : Rat) : Prop := q.num.natAbs < 2 ^ k ∧ q.den < 2 ^ k
theorem den_pos (q : Rat) : 0 < (q.den : Int) := by have := q.den_pos; omega
theorem fr_divInt (q : Rat) : Rat.divInt q.num q.den = q := Rat.num_divInt_den q
/-- p + q etc. by their parts -/
theorem add_parts (p q : Rat) : Rat.divInt (p.num * q.den + q.num * p.den) (p.den * q.den) = p + q := by
  conv => rhs; rw [← Rat.num_divInt_den p, ← Rat.num_divInt_den q]
  rw [Rat.divInt_add_divInt _ _ (Int.ne_of_gt (den_pos p)) (Int.ne_of_gt (den_pos q))]
theorem sub_parts (p q : Rat) : Rat.divInt (p.num * q.den - q.num * p.den) (p.den * q.den) = p - q := by
  conv => rhs; rw [← Rat.num_divInt_den p, ← Rat.num_divInt_den q]
  rw [Rat.divInt_sub_divInt _ _ (Int.ne_of_gt (den_pos p)) (Int.ne_of_gt (den_pos q))]
theorem mul_parts (p q : Rat) : Rat.divInt (p.num * q.num) (p.den * q.den) = p * q := by
  conv => rhs; rw [← Rat.num_divInt_den p, ← Rat.num_divInt_den q]
  rw [Rat.divInt_mul_divInt]
theorem div_parts (p q : Rat) : Rat.divInt (p.num * q.den) (p.den * q.num) = p / q := by
  conv => rhs; rw [← Rat.num_divInt_den p, ← Rat.num_divInt_den q]
  rw [Rat.div_def, Rat.inv_divInt, Rat.divInt_mul_divInt]
theorem lt_parts (p q : Rat) : (p.num * q.den < q.num * p.den) ↔ p < q := (Rat.lt_iff p q).symm
theorem natAbs_mul_lt {a b : Int} {k l : Nat} (h1 : a.natAbs < 2 ^ k) (h2 : b.natAbs < 2 ^ l) : (a * b).natAbs < 2 ^ (k + l) := by
  rw [Int.natAbs_mul, Nat.pow_add]
  exact Nat.mul_lt_mul'' h1 h2
theorem natAbs_add_lt {a b : Int} {k : Nat} (h1 : a.natAbs < 2 ^ k) (h2 : b.natAbs < 2 ^ k) : (a + b).natAbs < 2 ^ (k + 1) := by
  rw [Nat.pow_succ]; omega
theorem natAbs_sub_lt {a b : Int} {k : Nat} (h1 : a.natAbs < 2 ^ k) (h2 : b.natAbs < 2 ^ k) : (a - b).natAbs < 2 ^ (k + 1) := by
  rw [Nat.pow_succ]; omega
theorem lt_pow_of {n k l : Nat} (h : n < 2 ^ k) (hk : k ≤ l) : n < 2 ^ l := Nat.lt_of_lt_of_le h (Nat.pow_le_pow_right (by decide) hk)
/-- a fraction made of these is no bigger -/
theorem num_le (n d : Int) (hd : d ≠ 0) : (Rat.divInt n d).num.natAbs ≤ n.natAbs ∧ (Rat.divInt n d).den ≤ d.natAbs := by
  constructor
  · rw [Rat.num_divInt]
    have hs : (d.sign * n).natAbs = n.natAbs := by
      rw [Int.natAbs_mul, Int.natAbs_sign_of_ne_zero hd, Nat.one_mul]
    rw [← hs]
    exact Int.natAbs_ediv_le_natAbs _ _
  · rw [Rat.den_divInt, if_neg hd]
    exact Nat.div_le_self _ _
theorem Sz.mono {k l : Nat} {q : Rat} (h : Sz k q) (hk : k ≤ l) : Sz l q := ⟨lt_pow_of h.1 hk, lt_pow_of h.2 hk⟩
theorem Sz.of {n d : Int} {k : Nat} (hd : d ≠ 0) (h1 : n.natAbs < 2 ^ k) (h2 : d.natAbs < 2 ^ k) : Sz k (Rat.divInt n d) :=
  ⟨Nat.lt_of_le_of_lt (num_le n d hd).1 h1, Nat.lt_of_le_of_lt (num_le n d hd).2 h2⟩
theorem Sz.add {k : Nat} {p q : Rat} (hp : Sz k p) (hq : Sz k q) : Sz (2 * k + 1) (p + q) := by
  rw [← add_parts]
  have a1 := natAbs_mul_lt hp.1 (b := (q.den : Int)) (l := k) (by simpa using hq.2)
  have a2 := natAbs_mul_lt hq.1 (b := (p.den : Int)) (l := k) (by simpa using hp.2)
  have a3 := natAbs_mul_lt (a := (p.den : Int)) (b := (q.den : Int)) (k := k) (l := k) (by simpa using hp.2) (by simpa using hq.2)
  refine Sz.of (Int.ne_of_gt (Int.mul_pos (den_pos p) (den_pos q))) ?_ (lt_pow_of a3 (by omega))
  have := natAbs_add_lt a1 a2
  exact lt_pow_of this (by omega)
theorem Sz.sub {k : Nat} {p q : Rat} (hp : Sz k p) (hq : Sz k q) : Sz (2 * k + 1) (p - q) := by
  rw [← sub_parts]
  have a1 := natAbs_mul_lt hp.1 (b := (q.den : Int)) (l := k) (by simpa using hq.2)
  have a2 := natAbs_mul_lt hq.1 (b := (p.den : Int)) (l := k) (by simpa using hp.2)
  have a3 := natAbs_mul_lt (a := (p.den : Int)) (b := (q.den : Int)) (k := k) (l := k) (by simpa using hp.2) (by simpa using hq.2)
  refine Sz.of (Int.ne_of_gt (Int.mul_pos (den_pos p) (den_pos q))) ?_ (lt_pow_of a3 (by omega))
  have := natAbs_sub_lt a1 a2
  exact lt_pow_of this (by omega)
theorem Sz.div {k : Nat} {p q : Rat} (hp : Sz k p) (hq : Sz k q) (h0 : q ≠ 0) : Sz (2 * k) (p / q) := by
  rw [← div_parts]
  have hz : q.num ≠ 0 := by simpa using h0
  have a1 := natAbs_mul_lt hp.1 (b := (q.den : Int)) (l := k) (by simpa using hq.2)
  have a2 := natAbs_mul_lt (a := (p.den : Int)) (k := k) (by simpa using hp.2) hq.1
  exact Sz.of (Int.mul_ne_zero (Int.ne_of_gt (den_pos p)) hz) (lt_pow_of a1 (by omega)) (lt_pow_of a2 (by omega))
end PF
namespace TL
open PySem PySem.Spec PyProof.Rows L2 PF
/-! ### typed things as data -/
structure Ec (A : Type) where
  e : A → D
  nr : ∀ a, (e a).nr = true
variable {A B C A' B' C' E1 E2 E3 : Type}
theorem nrs_map {f : A → D} (h : ∀ a, (f a).nr = true) : ∀ xs : List A, D.nrs (xs.map f) = true
  | [] => rfl
  | x :: xs => by
    show ((f x).nr && D.nrs (xs.map f)) = true
    rw [h x, nrs_map h xs]; rfl
def eI : Ec Int := ⟨.int, fun _ => rfl⟩
def eB : Ec Bool := ⟨.bl, fun _ => rfl⟩
def eS : Ec Str := ⟨.str, fun _ => rfl⟩
def eN : Ec Unit := ⟨fun _ => .non, fun _ => rfl⟩
def eO (c : Ec A) : Ec (Option A) := ⟨fun o => match o with | none => .non | some a => c.e a, fun o => match o with | none => rfl | some a => c.nr a⟩
theorem nr_tup {xs : List D} (h : D.nrs xs = true) : (D.tup xs).nr = true := by rw [D.nr]; exact h
theorem nr_lst {xs : List D} (h : D.nrs xs = true) : (D.lst xs).nr = true := by rw [D.nr]; exact h
theorem nr_kst {xs : List D} (h : D.nrs xs = true) : (D.kst xs).nr = true := by rw [D.nr]; exact h
theorem nrs_c {x : D} {xs : List D} (h : x.nr = true) (h' : D.nrs xs = true) : D.nrs (x :: xs) = true := by rw [D.nrs, h, h']; rfl
theorem nrs_n : D.nrs [] = true := rfl
def e0 : Ec Unit := ⟨fun _ => .tup [], fun _ => nr_tup nrs_n⟩
def e1 (a : Ec A) : Ec A := ⟨fun x => .tup [a.e x], fun x => nr_tup (nrs_c (a.nr _) nrs_n)⟩
def e2 {A1 A2 : Type} (a1 : Ec A1) (a2 : Ec A2) : Ec (A1 × A2) := ⟨fun p => .tup [a1.e p.1, a2.e p.2], fun p => nr_tup (nrs_c (a1.nr _) (nrs_c (a2.nr _) nrs_n))⟩
def e3 {A1 A2 A3 : Type} (a1 : Ec A1) (a2 : Ec A2) (a3 : Ec A3) : Ec (A1 × A2 × A3) := ⟨fun p => .tup [a1.e p.1, a2.e p.2.1, a3.e p.2.2], fun p => nr_tup (nrs_c (a1.nr _) (nrs_c (a2.nr _) (nrs_c (a3.nr _) nrs_n)))⟩
def e4 {A1 A2 A3 A4 : Type} (a1 : Ec A1) (a2 : Ec A2) (a3 : Ec A3) (a4 : Ec A4) : Ec (A1 × A2 × A3 × A4) := ⟨fun p => .tup [a1.e p.1, a2.e p.2.1, a3.e p.2.2.1, a4.e p.2.2.2], fun p => nr_tup (nrs_c (a1.nr _) (nrs_c (a2.nr _) (nrs_c (a3.nr _) (nrs_c (a4.nr _) nrs_n))))⟩
def e5 {A1 A2 A3 A4 A5 : Type} (a1 : Ec A1) (a2 : Ec A2) (a3 : Ec A3) (a4 : Ec A4) (a5 : Ec A5) : Ec (A1 × A2 × A3 × A4 × A5) := ⟨fun p => .tup [a1.e p.1, a2.e p.2.1, a3.e p.2.2.1, a4.e p.2.2.2.1, a5.e p.2.2.2.2], fun p => nr_tup (nrs_c (a1.nr _) (nrs_c (a2.nr _) (nrs_c (a3.nr _) (nrs_c (a4.nr _) (nrs_c (a5.nr _) nrs_n)))))⟩
def e6 {A1 A2 A3 A4 A5 A6 : Type} (a1 : Ec A1) (a2 : Ec A2) (a3 : Ec A3) (a4 : Ec A4) (a5 : Ec A5) (a6 : Ec A6) : Ec (A1 × A2 × A3 × A4 × A5 × A6) := ⟨fun p => .tup [a1.e p.1, a2.e p.2.1, a3.e p.2.2.1, a4.e p.2.2.2.1, a5.e p.2.2.2.2.1, a6.e p.2.2.2.2.2], fun p => nr_tup (nrs_c (a1.nr _) (nrs_c (a2.nr _) (nrs_c (a3.nr _) (nrs_c (a4.nr _) (nrs_c (a5.nr _) (nrs_c (a6.nr _) nrs_n))))))⟩
def e7 {A1 A2 A3 A4 A5 A6 A7 : Type} (a1 : Ec A1) (a2 : Ec A2) (a3 : Ec A3) (a4 : Ec A4) (a5 : Ec A5) (a6 : Ec A6) (a7 : Ec A7) : Ec (A1 × A2 × A3 × A4 × A5 × A6 × A7) := ⟨fun p => .tup [a1.e p.1, a2.e p.2.1, a3.e p.2.2.1, a4.e p.2.2.2.1, a5.e p.2.2.2.2.1, a6.e p.2.2.2.2.2.1, a7.e p.2.2.2.2.2.2], fun p => nr_tup (nrs_c (a1.nr _) (nrs_c (a2.nr _) (nrs_c (a3.nr _) (nrs_c (a4.nr _) (nrs_c (a5.nr _) (nrs_c (a6.nr _) (nrs_c (a7.nr _) nrs_n)))))))⟩
def eV (c : Ec A) : Ec (List A) := ⟨fun xs => .tup (xs.map c.e), fun xs => nr_tup (nrs_map c.nr xs)⟩
def eL (c : Ec A) : Ec (List A) := ⟨fun xs => .lst (xs.map c.e), fun xs => nr_lst (nrs_map c.nr xs)⟩
def eK (c : Ec A) : Ec (List A) := ⟨fun xs => .kst (xs.map c.e), fun xs => nr_kst (nrs_map c.nr xs)⟩
/-- a changeable list of the state -/
def cl (c : Ec A) (xs : List A) : MO := .lst (xs.map c.e)
theorem ir_of {d : D} (h : d.nr = true) : d.isRef = false := by cases d <;> first | rfl | (rw [D.nr] at h; cases h)
theorem Ec.ir (c : Ec A) (a : A) : (c.e a).isRef = false := ir_of (c.nr a)
theorem argP_nr {d : D} (h : d.nr = true) (M : Mem) : argP M d = some d := by
  cases d with
  | ref n => cases h
  | non => rfl
  | bl _ => rfl
  | int _ => rfl
  | str _ => rfl
  | tup _ => exact if_pos h
  | lst _ => exact if_pos h
  | kst _ => exact if_pos h
/-! ### equality, order, no lists within -/
class Eqv (k : outParam Nat) (c : Ec A) [DecidableEq A] : Prop where
  dp : ∀ n, k ≤ n → ∀ a, (c.e a).dp n = true
  eq : ∀ a b, PyData.eqv (c.e a).py (c.e b).py = decide (a = b)
theorem dps_map {n : Nat} {f : A → D} (h : ∀ a, (f a).dp n = true) : ∀ xs : List A, D.dps n (xs.map f) = true
  | [] => rfl
  | x :: xs => by
    show ((f x).dp n && D.dps n (xs.map f)) = true
    rw [h x, dps_map h xs]; rfl
theorem dp_tup {n : Nat} {xs : List D} (h0 : 0 < n) (h : D.dps (n - 1) xs = true) : (D.tup xs).dp n = true := by rw [D.dp, h]; simp [h0]
theorem dp_lst {n : Nat} {xs : List D} (h0 : 0 < n) (h : D.dps (n - 1) xs = true) : (D.lst xs).dp n = true := by rw [D.dp, h]; simp [h0]
theorem dps_c {n : Nat} {x : D} {xs : List D} (h : x.dp n = true) (h' : D.dps n xs = true) : D.dps n (x :: xs) = true := by rw [D.dps, h, h']; rfl
theorem dps_n {n : Nat} : D.dps n [] = true := rfl
theorem pysm (xs : List D) : D.pys xs = xs.map D.py := by
  induction xs with
  | nil => rw [D.pys]; rfl
  | cons x xs ih => rw [D.pys, ih]; rfl
theorem eqvc (x y : PyData) (xs ys : List PyData) : PyData.eqvAll (x :: xs) (y :: ys) = (PyData.eqv x y && PyData.eqvAll xs ys) := by rw [PyData.eqvAll]
theorem eqvn : PyData.eqvAll [] [] = true := by rw [PyData.eqvAll]
theorem eqvcn (x : PyData) (xs : List PyData) : PyData.eqvAll (x :: xs) [] = false := by rw [PyData.eqvAll] <;> simp
theorem eqvnc (x : PyData) (xs : List PyData) : PyData.eqvAll [] (x :: xs) = false := by rw [PyData.eqvAll] <;> simp
theorem eqv_map [DecidableEq A] {f : A → D} (h : ∀ a b, PyData.eqv (f a).py (f b).py = decide (a = b)) : ∀ xs ys : List A, PyData.eqvAll (D.pys (xs.map f)) (D.pys (ys.map f)) = decide (xs = ys)
  | [], [] => by rw [List.map_nil, D.pys, eqvn]; rfl
  | [], y :: ys => by rw [List.map_nil, List.map_cons, D.pys, D.pys, eqvnc]; rfl
  | x :: xs, [] => by rw [List.map_nil, List.map_cons, D.pys, D.pys, eqvcn]; rfl
  | x :: xs, y :: ys => by
    rw [List.map_cons, List.map_cons, D.pys, D.pys, eqvc, h x y, eqv_map h xs ys]
    by_cases e1 : x = y <;> by_cases e2 : xs = ys <;> simp [e1, e2]
theorem eqv_tt (xs ys : List D) : PyData.eqv (D.tup xs).py (D.tup ys).py = PyData.eqvAll (D.pys xs) (D.pys ys) := by rw [D.py, D.py, PyData.eqv]
theorem eqv_ll (xs ys : List D) : PyData.eqv (D.lst xs).py (D.lst ys).py = PyData.eqvAll (D.pys xs) (D.pys ys) := by rw [D.py, D.py, PyData.eqv]
instance q_I : Eqv 0 eI := ⟨fun n _ a => rfl, fun a b => by show PyData.eqv (.int a) (.int b) = _; simp [PyData.eqv]; by_cases h : a = b <;> simp [h]⟩
instance q_B : Eqv 0 eB := ⟨fun n _ a => rfl, fun a b => by cases a <;> cases b <;> rfl⟩
instance q_N : Eqv 0 eN := ⟨fun n _ a => rfl, fun a b => by cases a; cases b; simp [eN, D.py, PyData.eqv]⟩
class NotN (c : Ec A) : Prop where
  nn : ∀ a, isNn (c.e a) = false
instance n_I : NotN eI := ⟨fun _ => rfl⟩
instance n_B : NotN eB := ⟨fun _ => rfl⟩
instance n_S : NotN eS := ⟨fun _ => rfl⟩
instance n_0 : NotN e0 := ⟨fun _ => rfl⟩
instance n_1 {a : Ec A} : NotN (e1 a) := ⟨fun _ => rfl⟩
section
variable {A1 A2 A3 A4 A5 A6 A7 : Type} {a1 : Ec A1} {a2 : Ec A2} {a3 : Ec A3} {a4 : Ec A4} {a5 : Ec A5} {a6 : Ec A6} {a7 : Ec A7}
instance n_2 : NotN (e2 a1 a2) := ⟨fun _ => rfl⟩
instance n_3 : NotN (e3 a1 a2 a3) := ⟨fun _ => rfl⟩
instance n_4 : NotN (e4 a1 a2 a3 a4) := ⟨fun _ => rfl⟩
instance n_5 : NotN (e5 a1 a2 a3 a4 a5) := ⟨fun _ => rfl⟩
instance n_6 : NotN (e6 a1 a2 a3 a4 a5 a6) := ⟨fun _ => rfl⟩
instance n_7 : NotN (e7 a1 a2 a3 a4 a5 a6 a7) := ⟨fun _ => rfl⟩
end
instance n_V {c : Ec A} : NotN (eV c) := ⟨fun _ => rfl⟩
instance n_L {c : Ec A} : NotN (eL c) := ⟨fun _ => rfl⟩
theorem eqv_nn {d : D} (h : isNn d = false) (hd : d.dp 60 = true) : PyData.eqv PyData.none d.py = false ∧ PyData.eqv d.py PyData.none = false := by
  cases d with
  | non => cases h
  | ref _ => rw [D.dp] at hd; cases hd
  | _ => constructor <;> simp [D.py, PyData.eqv]
instance q_O {k : Nat} {c : Ec A} [DecidableEq A] [q : Eqv k c] [n : NotN c] : Eqv (k + 0) (eO c) where
  dp := fun m hm o => match o with | none => rfl | some a => q.dp m hm a
  eq := fun a b => by
    have hz : ∀ d : D, isNn d = false → d.isRef = false → PyData.eqv PyData.none d.py = false ∧ PyData.eqv d.py PyData.none = false := fun d h hr => by
      cases d with
      | non => cases h
      | ref _ => cases hr
      | _ => constructor <;> simp [D.py, PyData.eqv]
    cases a with
    | none =>
      cases b with
      | none => simp [eO, D.py, PyData.eqv]
      | some b => show PyData.eqv PyData.none (c.e b).py = _; rw [(hz _ (n.nn b) (c.ir b)).1]; rfl
    | some a =>
      cases b with
      | none => show PyData.eqv (c.e a).py PyData.none = _; rw [(hz _ (n.nn a) (c.ir a)).2]; rfl
      | some b => show PyData.eqv (c.e a).py (c.e b).py = _; rw [q.eq]; by_cases h : a = b <;> simp [h]
instance q_V {k : Nat} {c : Ec A} [DecidableEq A] [q : Eqv k c] : Eqv (k + 1) (eV c) where
  dp := fun m hm xs => dp_tup (by omega) (dps_map (q.dp (m - 1) (by omega)) xs)
  eq := fun a b => by
    show PyData.eqv (D.tup _).py (D.tup _).py = _
    rw [eqv_tt, eqv_map q.eq]
instance q_L {k : Nat} {c : Ec A} [DecidableEq A] [q : Eqv k c] : Eqv (k + 1) (eL c) where
  dp := fun m hm xs => dp_lst (by omega) (dps_map (q.dp (m - 1) (by omega)) xs)
  eq := fun a b => by
    show PyData.eqv (D.lst _).py (D.lst _).py = _
    rw [eqv_ll, eqv_map q.eq]
instance q_0 : Eqv 1 e0 := ⟨fun n h a => dp_tup (by omega) dps_n, fun a b => by cases a; cases b; show PyData.eqv (D.tup _).py (D.tup _).py = _; rw [eqv_tt, D.pys, eqvn]; rfl⟩
instance q_1 {k : Nat} {c : Ec A} [DecidableEq A] [q : Eqv k c] : Eqv (k + 1) (e1 c) where
  dp := fun m hm a => dp_tup (by omega) (dps_c (q.dp _ (by omega) a) dps_n)
  eq := fun a b => by
    show PyData.eqv (D.tup _).py (D.tup _).py = _
    simp only [eqv_tt, D.pys, eqvc, eqvn, q.eq, Bool.and_true]
section
variable {A1 A2 A3 A4 A5 A6 A7 : Type} {a1 : Ec A1} {a2 : Ec A2} {a3 : Ec A3} {a4 : Ec A4} {a5 : Ec A5} {a6 : Ec A6} {a7 : Ec A7} {k1 k2 k3 k4 k5 k6 k7 : Nat} [DecidableEq A1] [DecidableEq A2] [DecidableEq A3] [DecidableEq A4] [DecidableEq A5] [DecidableEq A6] [DecidableEq A7]
  [q1 : Eqv k1 a1] [q2 : Eqv k2 a2] [q3 : Eqv k3 a3] [q4 : Eqv k4 a4] [q5 : Eqv k5 a5] [q6 : Eqv k6 a6] [q7 : Eqv k7 a7]
instance q_2 : Eqv (max k1 k2 + 1) (e2 a1 a2) where
  dp := fun m hm a => dp_tup (by omega) (dps_c (q1.dp _ (by omega) _) (dps_c (q2.dp _ (by omega) _) dps_n))
  eq := fun a b => by
    obtain ⟨x1, x2⟩ := a; obtain ⟨y1, y2⟩ := b
    show PyData.eqv (D.tup _).py (D.tup _).py = _
    simp only [eqv_tt, D.pys, eqvc, eqvn, q1.eq, q2.eq, Bool.and_true, Prod.mk.injEq, Bool.decide_and]
instance q_3 : Eqv (max (max k1 k2) k3 + 1) (e3 a1 a2 a3) where
  dp := fun m hm a => dp_tup (by omega) (dps_c (q1.dp _ (by omega) _) (dps_c (q2.dp _ (by omega) _) (dps_c (q3.dp _ (by omega) _) dps_n)))
  eq := fun a b => by
    obtain ⟨x1, x2, x3⟩ := a; obtain ⟨y1, y2, y3⟩ := b
    show PyData.eqv (D.tup _).py (D.tup _).py = _
    simp only [eqv_tt, D.pys, eqvc, eqvn, q1.eq, q2.eq, q3.eq, Bool.and_true, Prod.mk.injEq, Bool.decide_and]
instance q_4 : Eqv (max (max (max k1 k2) k3) k4 + 1) (e4 a1 a2 a3 a4) where
  dp := fun m hm a => dp_tup (by omega) (dps_c (q1.dp _ (by omega) _) (dps_c (q2.dp _ (by omega) _) (dps_c (q3.dp _ (by omega) _) (dps_c (q4.dp _ (by omega) _) dps_n))))
  eq := fun a b => by
    obtain ⟨x1, x2, x3, x4⟩ := a; obtain ⟨y1, y2, y3, y4⟩ := b
    show PyData.eqv (D.tup _).py (D.tup _).py = _
    simp only [eqv_tt, D.pys, eqvc, eqvn, q1.eq, q2.eq, q3.eq, q4.eq, Bool.and_true, Prod.mk.injEq, Bool.decide_and]
instance q_5 : Eqv (max (max (max (max k1 k2) k3) k4) k5 + 1) (e5 a1 a2 a3 a4 a5) where
  dp := fun m hm a => dp_tup (by omega) (dps_c (q1.dp _ (by omega) _) (dps_c (q2.dp _ (by omega) _) (dps_c (q3.dp _ (by omega) _) (dps_c (q4.dp _ (by omega) _) (dps_c (q5.dp _ (by omega) _) dps_n)))))
  eq := fun a b => by
    obtain ⟨x1, x2, x3, x4, x5⟩ := a; obtain ⟨y1, y2, y3, y4, y5⟩ := b
    show PyData.eqv (D.tup _).py (D.tup _).py = _
    simp only [eqv_tt, D.pys, eqvc, eqvn, q1.eq, q2.eq, q3.eq, q4.eq, q5.eq, Bool.and_true, Prod.mk.injEq, Bool.decide_and]
instance q_6 : Eqv (max (max (max (max (max k1 k2) k3) k4) k5) k6 + 1) (e6 a1 a2 a3 a4 a5 a6) where
  dp := fun m hm a => dp_tup (by omega) (dps_c (q1.dp _ (by omega) _) (dps_c (q2.dp _ (by omega) _) (dps_c (q3.dp _ (by omega) _) (dps_c (q4.dp _ (by omega) _) (dps_c (q5.dp _ (by omega) _) (dps_c (q6.dp _ (by omega) _) dps_n))))))
  eq := fun a b => by
    obtain ⟨x1, x2, x3, x4, x5, x6⟩ := a; obtain ⟨y1, y2, y3, y4, y5, y6⟩ := b
    show PyData.eqv (D.tup _).py (D.tup _).py = _
    simp only [eqv_tt, D.pys, eqvc, eqvn, q1.eq, q2.eq, q3.eq, q4.eq, q5.eq, q6.eq, Bool.and_true, Prod.mk.injEq, Bool.decide_and]
end
end TL
namespace TL
open PySem PySem.Spec PyProof.Rows L2 PF
variable {A B C A' B' C' : Type}
/-! ### order -/
class Ord (c : Ec A) (lt : outParam (A → A → Bool)) : Prop where
  al : ∀ a b, PySem.W.alike (c.e a).py (c.e b).py = true
  dl : ∀ a b, PySem.W.dataLt (c.e a).py (c.e b).py = lt a b
  nn : ∀ a, isNn (c.e a) = false
  nl : ∀ a, (c.e a).nl = true
instance o_I : Ord eI (fun a b => decide (a < b)) := ⟨fun _ _ => by simp [eI, D.py, PySem.W.alike], fun a b => PySem.W.dataLt_int a b, fun _ => rfl, fun _ => rfl⟩
def ltB (a b : Bool) : Bool := !a && b
instance o_B : Ord eB ltB := ⟨fun _ _ => by simp [eB, D.py, PySem.W.alike], fun a b => by show PySem.W.dataLt (.bool a) (.bool b) = _; rw [PySem.W.dataLt_bool]; cases a <;> cases b <;> rfl, fun _ => rfl, fun _ => rfl⟩
/-- tuples, place by place -/
def ltTok (xs ys : List D) : Bool := PyProof.Rows.lexLt itemOrd (PySem.W.keyToksAll (D.pys xs)) (PySem.W.keyToksAll (D.pys ys))
theorem dl_tt (xs ys : List D) : PySem.W.dataLt (D.tup xs).py (D.tup ys).py = ltTok xs ys := by rw [D.py, D.py, PySem.W.dataLt_tuple]; rfl
theorem dl_ll (xs ys : List D) : PySem.W.dataLt (D.lst xs).py (D.lst ys).py = ltTok xs ys := by rw [D.py, D.py, PySem.W.dataLt_list]; rfl
theorem al_tt (xs ys : List D) : PySem.W.alike (D.tup xs).py (D.tup ys).py = PySem.W.alikeAll (D.pys xs) (D.pys ys) := by rw [D.py, D.py, PySem.W.alike]
theorem al_ll (xs ys : List D) : PySem.W.alike (D.lst xs).py (D.lst ys).py = PySem.W.alikeAll (D.pys xs) (D.pys ys) := by rw [D.py, D.py, PySem.W.alike]
theorem al_c {x y : D} {xs ys : List D} (h : PySem.W.alike x.py y.py = true) (h' : PySem.W.alikeAll (D.pys xs) (D.pys ys) = true) : PySem.W.alikeAll (D.pys (x :: xs)) (D.pys (y :: ys)) = true := by rw [D.pys, D.pys, PySem.W.alikeAll, h, h']; rfl
theorem al_n (ys : List D) : PySem.W.alikeAll (D.pys []) (D.pys ys) = true := by rw [D.pys]; unfold PySem.W.alikeAll; rfl
theorem ltTok_c {x y : D} {xs ys : List D} (h : PySem.W.alike x.py y.py = true) : ltTok (x :: xs) (y :: ys) = if PyData.eqv x.py y.py = true then ltTok xs ys else PySem.W.dataLt x.py y.py := by
  unfold ltTok
  rw [D.pys, D.pys, PySem.W.dataLt_cons h]
theorem ltTok_n : ltTok [] [] = false := by unfold ltTok; exact PyProof.Rows.lex_irrefl _
theorem nl_tup {xs : List D} (h : D.nls xs = true) : (D.tup xs).nl = true := by rw [D.nl]; exact h
theorem nls_c {x : D} {xs : List D} (h : x.nl = true) (h' : D.nls xs = true) : D.nls (x :: xs) = true := by rw [D.nls, h, h']; rfl
theorem nls_map {f : A → D} (h : ∀ a, (f a).nl = true) : ∀ xs : List A, D.nls (xs.map f) = true
  | [] => rfl
  | x :: xs => by
    show ((f x).nl && D.nls (xs.map f)) = true
    rw [h x, nls_map h xs]; rfl
section
variable {A1 A2 A3 A4 A5 : Type} {a1 : Ec A1} {a2 : Ec A2} {a3 : Ec A3} {a4 : Ec A4} {a5 : Ec A5} {k1 k2 k3 k4 k5 : Nat} [DecidableEq A1] [DecidableEq A2] [DecidableEq A3] [DecidableEq A4] [DecidableEq A5]
  {l1 : A1 → A1 → Bool} {l2 : A2 → A2 → Bool} {l3 : A3 → A3 → Bool} {l4 : A4 → A4 → Bool} {l5 : A5 → A5 → Bool}
  [q1 : Eqv k1 a1] [q2 : Eqv k2 a2] [q3 : Eqv k3 a3] [q4 : Eqv k4 a4] [q5 : Eqv k5 a5] [o1 : Ord a1 l1] [o2 : Ord a2 l2] [o3 : Ord a3 l3] [o4 : Ord a4 l4] [o5 : Ord a5 l5]
def lx (l1 : A1 → A1 → Bool) (l2 : A2 → A2 → Bool) (p q : A1 × A2) : Bool := if p.1 = q.1 then l2 p.2 q.2 else l1 p.1 q.1
theorem irr (d : D) : PySem.W.dataLt d.py d.py = false := PyProof.Rows.lex_irrefl _
theorem ltTok_1 {x y : D} (h : PySem.W.alike x.py y.py = true) (he : PyData.eqv x.py y.py = true → PySem.W.dataLt x.py y.py = false) : ltTok [x] [y] = PySem.W.dataLt x.py y.py := by
  rw [ltTok_c h, ltTok_n]
  split
  · rename_i e; exact (he e).symm
  · rfl
theorem lt_irr [DecidableEq A1] [Eqv k1 a1] [Ord a1 l1] (x y : A1) (h : PyData.eqv (a1.e x).py (a1.e y).py = true) : PySem.W.dataLt (a1.e x).py (a1.e y).py = false := by
  rw [Eqv.eq] at h
  have := of_decide_eq_true h
  subst this
  exact irr _
instance o_1 : Ord (e1 a1) l1 := ⟨fun _ _ => by show PySem.W.alike (D.tup _).py (D.tup _).py = _; rw [al_tt]; exact al_c (o1.al _ _) (al_n _), fun x y => by
  show PySem.W.dataLt (D.tup _).py (D.tup _).py = _; rw [dl_tt, ltTok_1 (o1.al _ _) (lt_irr x y), o1.dl], fun _ => rfl, fun _ => nl_tup (nls_c (o1.nl _) rfl)⟩
instance o_2 : Ord (e2 a1 a2) (lx l1 l2) := ⟨fun _ _ => by show PySem.W.alike (D.tup _).py (D.tup _).py = _; rw [al_tt]; exact al_c (o1.al _ _) (al_c (o2.al _ _) (al_n _)), fun x y => by
  show PySem.W.dataLt (D.tup _).py (D.tup _).py = _
  rw [dl_tt, ltTok_c (o1.al _ _), ltTok_1 (o2.al _ _) (lt_irr x.2 y.2), o1.dl, o2.dl, q1.eq]
  unfold lx
  by_cases h : x.1 = y.1 <;> simp [h], fun _ => rfl, fun _ => nl_tup (nls_c (o1.nl _) (nls_c (o2.nl _) rfl))⟩
instance o_3 : Ord (e3 a1 a2 a3) (lx l1 (lx l2 l3)) := ⟨fun _ _ => by show PySem.W.alike (D.tup _).py (D.tup _).py = _; rw [al_tt]; exact al_c (o1.al _ _) (al_c (o2.al _ _) (al_c (o3.al _ _) (al_n _))), fun x y => by
  show PySem.W.dataLt (D.tup _).py (D.tup _).py = _
  rw [dl_tt, ltTok_c (o1.al _ _), ltTok_c (o2.al _ _), ltTok_1 (o3.al _ _) (lt_irr x.2.2 y.2.2), o1.dl, o2.dl, o3.dl, q1.eq, q2.eq]
  unfold lx
  by_cases h : x.1 = y.1 <;> by_cases h2 : x.2.1 = y.2.1 <;> simp [h, h2], fun _ => rfl, fun _ => nl_tup (nls_c (o1.nl _) (nls_c (o2.nl _) (nls_c (o3.nl _) rfl)))⟩
instance o_4 : Ord (e4 a1 a2 a3 a4) (lx l1 (lx l2 (lx l3 l4))) := ⟨fun _ _ => by show PySem.W.alike (D.tup _).py (D.tup _).py = _; rw [al_tt]; exact al_c (o1.al _ _) (al_c (o2.al _ _) (al_c (o3.al _ _) (al_c (o4.al _ _) (al_n _)))), fun x y => by
  show PySem.W.dataLt (D.tup _).py (D.tup _).py = _
  rw [dl_tt, ltTok_c (o1.al _ _), ltTok_c (o2.al _ _), ltTok_c (o3.al _ _), ltTok_1 (o4.al _ _) (lt_irr x.2.2.2 y.2.2.2), o1.dl, o2.dl, o3.dl, o4.dl, q1.eq, q2.eq, q3.eq]
  unfold lx
  by_cases h : x.1 = y.1 <;> by_cases h2 : x.2.1 = y.2.1 <;> by_cases h3 : x.2.2.1 = y.2.2.1 <;> simp [h, h2, h3], fun _ => rfl, fun _ => nl_tup (nls_c (o1.nl _) (nls_c (o2.nl _) (nls_c (o3.nl _) (nls_c (o4.nl _) rfl))))⟩
instance o_5 : Ord (e5 a1 a2 a3 a4 a5) (lx l1 (lx l2 (lx l3 (lx l4 l5)))) := ⟨fun _ _ => by show PySem.W.alike (D.tup _).py (D.tup _).py = _; rw [al_tt]; exact al_c (o1.al _ _) (al_c (o2.al _ _) (al_c (o3.al _ _) (al_c (o4.al _ _) (al_c (o5.al _ _) (al_n _))))), fun x y => by
  show PySem.W.dataLt (D.tup _).py (D.tup _).py = _
  rw [dl_tt, ltTok_c (o1.al _ _), ltTok_c (o2.al _ _), ltTok_c (o3.al _ _), ltTok_c (o4.al _ _), ltTok_1 (o5.al _ _) (lt_irr x.2.2.2.2 y.2.2.2.2), o1.dl, o2.dl, o3.dl, o4.dl, o5.dl, q1.eq, q2.eq, q3.eq, q4.eq]
  unfold lx
  by_cases h : x.1 = y.1 <;> by_cases h2 : x.2.1 = y.2.1 <;> by_cases h3 : x.2.2.1 = y.2.2.1 <;> by_cases h4 : x.2.2.2.1 = y.2.2.2.1 <;> simp [h, h2, h3, h4], fun _ => rfl, fun _ => nl_tup (nls_c (o1.nl _) (nls_c (o2.nl _) (nls_c (o3.nl _) (nls_c (o4.nl _) (nls_c (o5.nl _) rfl)))))⟩
/-- rows, place by place -/
def ltV (l : A1 → A1 → Bool) : List A1 → List A1 → Bool
  | _, [] => false
  | [], _ :: _ => true
  | x :: xs, y :: ys => if x = y then ltV l xs ys else l x y
theorem al_map [o1 : Ord a1 l1] : ∀ xs ys : List A1, PySem.W.alikeAll (D.pys (xs.map a1.e)) (D.pys (ys.map a1.e)) = true
  | [], ys => al_n _
  | x :: xs, [] => by rw [List.map_nil, List.map_cons, D.pys, D.pys]; unfold PySem.W.alikeAll; rfl
  | x :: xs, y :: ys => al_c (o1.al x y) (al_map xs ys)
theorem ltTok_map [q1 : Eqv k1 a1] [o1 : Ord a1 l1] : ∀ xs ys : List A1, ltTok (xs.map a1.e) (ys.map a1.e) = ltV l1 xs ys
  | [], [] => ltTok_n
  | [], y :: ys => by
    unfold ltTok
    rw [List.map_nil, List.map_cons, D.pys, D.pys, PySem.W.toks_all_cons]
    show PyProof.Rows.lexLt itemOrd (PySem.W.keyToksAll []) _ = true
    simp [PySem.W.keyToksAll, PyProof.Rows.lexLt, itemOrd, PySem.W.keyToks, itemLt]
  | x :: xs, [] => by
    unfold ltTok
    rw [List.map_nil, List.map_cons, D.pys, D.pys, PySem.W.toks_all_cons]
    show PyProof.Rows.lexLt itemOrd _ (PySem.W.keyToksAll []) = false
    simp [PySem.W.keyToksAll, PyProof.Rows.lexLt, itemOrd, PySem.W.keyToks, itemLt]
  | x :: xs, y :: ys => by
    rw [List.map_cons, List.map_cons, ltTok_c (o1.al x y), ltTok_map xs ys, q1.eq, o1.dl, ltV]
    by_cases h : x = y <;> simp [h]
instance o_V : Ord (eV a1) (ltV l1) := ⟨fun _ _ => by show PySem.W.alike (D.tup _).py (D.tup _).py = _; rw [al_tt]; exact al_map (l1 := l1) _ _, fun x y => by
  show PySem.W.dataLt (D.tup _).py (D.tup _).py = _
  rw [dl_tt, ltTok_map (l1 := l1)], fun _ => rfl, fun _ => nl_tup (nls_map o1.nl _)⟩
end
/-! ### nothing that is a list within -/
class NoL (c : Ec A) : Prop where
  nl : ∀ a, (c.e a).nl = true
instance nl_I : NoL eI := ⟨fun _ => rfl⟩
instance nl_B : NoL eB := ⟨fun _ => rfl⟩
instance nl_S : NoL eS := ⟨fun _ => rfl⟩
instance nl_N : NoL eN := ⟨fun _ => rfl⟩
instance nl_O {c : Ec A} [n : NoL c] : NoL (eO c) := ⟨fun o => match o with | none => rfl | some a => n.nl a⟩
instance nl_V {c : Ec A} [n : NoL c] : NoL (eV c) := ⟨fun xs => nl_tup (nls_map n.nl xs)⟩
instance nl_0 : NoL e0 := ⟨fun _ => nl_tup rfl⟩
section
variable {A1 A2 A3 A4 A5 A6 A7 : Type} {a1 : Ec A1} {a2 : Ec A2} {a3 : Ec A3} {a4 : Ec A4} {a5 : Ec A5} {a6 : Ec A6} {a7 : Ec A7} [n1 : NoL a1] [n2 : NoL a2] [n3 : NoL a3] [n4 : NoL a4] [n5 : NoL a5] [n6 : NoL a6] [n7 : NoL a7]
instance nl_1 : NoL (e1 a1) := ⟨fun _ => nl_tup (nls_c (n1.nl _) rfl)⟩
instance nl_2 : NoL (e2 a1 a2) := ⟨fun _ => nl_tup (nls_c (n1.nl _) (nls_c (n2.nl _) rfl))⟩
instance nl_3 : NoL (e3 a1 a2 a3) := ⟨fun _ => nl_tup (nls_c (n1.nl _) (nls_c (n2.nl _) (nls_c (n3.nl _) rfl)))⟩
instance nl_4 : NoL (e4 a1 a2 a3 a4) := ⟨fun _ => nl_tup (nls_c (n1.nl _) (nls_c (n2.nl _) (nls_c (n3.nl _) (nls_c (n4.nl _) rfl))))⟩
instance nl_5 : NoL (e5 a1 a2 a3 a4 a5) := ⟨fun _ => nl_tup (nls_c (n1.nl _) (nls_c (n2.nl _) (nls_c (n3.nl _) (nls_c (n4.nl _) (nls_c (n5.nl _) rfl)))))⟩
instance nl_6 : NoL (e6 a1 a2 a3 a4 a5 a6) := ⟨fun _ => nl_tup (nls_c (n1.nl _) (nls_c (n2.nl _) (nls_c (n3.nl _) (nls_c (n4.nl _) (nls_c (n5.nl _) (nls_c (n6.nl _) rfl))))))⟩
instance nl_7 : NoL (e7 a1 a2 a3 a4 a5 a6 a7) := ⟨fun _ => nl_tup (nls_c (n1.nl _) (nls_c (n2.nl _) (nls_c (n3.nl _) (nls_c (n4.nl _) (nls_c (n5.nl _) (nls_c (n6.nl _) (nls_c (n7.nl _) rfl)))))))⟩
end
end TL
namespace TL
open PySem PySem.Spec PyProof.Rows L2 PF
variable {A B C A' B' C' E : Type}
/-! ### slots and cells -/
def gs : Rho → Nat → Option D
  | [], _ => none
  | x :: _, 0 => x
  | _ :: xs, n + 1 => gs xs n
theorem gs_at : ∀ {ρ : Rho} {i : Nat} {d : D}, gs ρ i = some d → ρ[i]? = some (some d)
  | [], _, _, h => by cases h
  | x :: _, 0, d, h => by rw [show x = some d from h]; rfl
  | _ :: xs, n + 1, d, h => by simpa using gs_at (ρ := xs) (i := n) h
def gm : Mem → Nat → Option MO
  | [], _ => none
  | x :: _, 0 => some x
  | _ :: xs, n + 1 => gm xs n
theorem gm_at : ∀ {M : Mem} {n : Nat} {mo : MO}, gm M n = some mo → M[n]? = some mo
  | [], _, _, h => by cases h
  | x :: _, 0, mo, h => h
  | _ :: xs, n + 1, mo, h => by simpa using gm_at (M := xs) (n := n) h
/-! ### what typed code computes -/
def tlet (a : A) (f : A → Option B) : Option B := f a
theorem tlet_eq (a : A) (f : A → Option B) : tlet a f = f a := rfl
def tmul (a b : Int) : Option Int := if okMul a b = true then some (a * b) else none
def tdiv (a b : Int) : Option Int := if okDiv b = true then some (a.fdiv b) else none
def tmod (a b : Int) : Option Int := if b ≠ 0 then some (a.fmod b) else none
def tpow (a b : Int) : Option Int := if okPow a b = true then some (a ^ b.toNat) else none
def tat (xs : List A) (i : Int) : Option A := L2.atI xs i
def upto (lo : Int) (n : Nat) : List Int := (List.range n).map fun (k : Nat) => lo + k
def trg (lo hi : Int) : Option (List Int) := if okR lo hi = true then some (upto lo (hi - lo).toNat) else none
def tapp (xs : List A) (x : A) : Option (List A) := if xs.length < LINE then some (xs ++ [x]) else none
def tcat (xs ys : List A) : Option (List A) := if xs.length + ys.length ≤ LINE then some (xs ++ ys) else none
def tmin (lt : A → A → Bool) : List A → Option A
  | [] => none
  | x :: xs => some (xs.foldl (fun a y => if lt y a = true then y else a) x)
def tmax (lt : A → A → Bool) : List A → Option A
  | [] => none
  | x :: xs => some (xs.foldl (fun a y => if lt a y = true then y else a) x)
def tsort (lt : A → A → Bool) (xs : List A) : List A := xs.mergeSort fun a b => !lt b a
def tsortU (xs : List Int) : Option (List Int) := if xs.length < 64 then some (sortU xs) else none
def tlenU (xs : List Int) : Option Int := if xs.length ≤ 4000 then some (sortU xs).length else none
def cut (xs : List A) (lo hi : Option Int) : List A := (xs.drop (HT.sIx xs.length 0 lo)).take (HT.sIx xs.length xs.length hi - HT.sIx xs.length 0 lo)
def tset (xs : List A) (i : Int) (x : A) : Option (List A) := (L2.ixN xs.length i).map fun j => xs.set j x
def tpop (xs : List A) : Option (A × List A) := (xs[xs.length - 1]?).map fun a => (a, xs.dropLast)
def trepL (xs : List A) (j : Int) : Option (List A) := if decide (-(9223372036854775808) ≤ j) && (decide (j < 9223372036854775808) && decide (xs.length * j.toNat ≤ LINE)) then some (List.replicate j.toNat xs).flatten else none
def trepV (xs : List A) (j : Int) : Option (List A) := if j = 1 then some xs else if (!xs.isEmpty && decide (2 ≤ j)) && (decide (j ≤ 1000) && decide (xs.length ≤ 1000)) then some (List.replicate j.toNat xs).flatten else none
def trepZ (xs : List A) (j : Int) : Option (List A) := if j = 0 then (if xs.isEmpty = true then none else some []) else trepV xs j
def tall : List (Option A) → Option (List A)
  | [] => some []
  | x :: xs => x.bind fun a => (tall xs).bind fun as => some (a :: as)
def tmap (f : A → Option B) : List A → Option (List B)
  | [] => some []
  | x :: xs => (f x).bind fun y => (tmap f xs).bind fun ys => some (y :: ys)
def tfilt (p : A → Option Bool) : List A → Option (List A)
  | [] => some []
  | x :: xs => (p x).bind fun b => (tfilt p xs).bind fun ys => some (if b = true then x :: ys else ys)
def tmapS (f : A → B → Option (C × B)) : List A → B → Option (List C × B)
  | [], s => some ([], s)
  | x :: xs, s => (f x s).bind fun y => (tmapS f xs y.2).bind fun r => some (y.1 :: r.1, r.2)
/-- leave, or go on -/
inductive Ex (E B : Type) where
  | ex (e : E)
  | go (b : B)
def Ex.cas (x : Ex E B) (f : E → C) (g : B → C) : C := match x with | .ex e => f e | .go b => g b
@[simp] theorem cas_ex (e : E) (f : E → C) (g : B → C) : (Ex.ex e : Ex E B).cas f g = f e := rfl
@[simp] theorem cas_go (b : B) (f : E → C) (g : B → C) : (Ex.go b : Ex E B).cas f g = g b := rfl
def tfold (f : A → B → Option B) : List A → B → Option B
  | [], b => some b
  | a :: as, b => (f a b).bind fun b' => tfold f as b'
/-- a body that may leave -/
def tforr (f : A → B → Option (Ex E B)) : List A → B → Option (Ex E B)
  | [], b => some (.go b)
  | a :: as, b => (f a b).bind fun r => r.cas (fun e => some (.ex e)) fun b' => tforr f as b'
/-- a body that may break -/
def tforb (f : A → B → Option (Ex B B)) : List A → B → Option B
  | [], b => some b
  | a :: as, b => (f a b).bind fun r => r.cas (fun e => some e) fun b' => tforb f as b'
/-- .. and both: leaves with ex (ex e), breaks with ex (go b) -/
def tforx (f : A → B → Option (Ex (Ex E B) B)) : List A → B → Option (Ex E B)
  | [], b => some (.go b)
  | a :: as, b => (f a b).bind fun r => r.cas (fun e => some e) fun b' => tforx f as b'
def twh (c : B → Option Bool) (f : B → Option B) : Nat → B → Option B
  | 0, _ => none
  | n + 1, b => (c b).bind fun k => if k = true then (f b).bind fun b' => twh c f n b' else some b
def twhx (c : B → Option Bool) (f : B → Option (Ex (Ex E B) B)) : Nat → B → Option (Ex E B)
  | 0, _ => none
  | n + 1, b => (c b).bind fun k => if k = true then (f b).bind fun r => r.cas (fun e => some e) fun b' => twhx c f n b' else some (.go b)
def twhr (c : B → Option Bool) (f : B → Option (Ex E B)) : Nat → B → Option (Ex E B)
  | 0, _ => none
  | n + 1, b => (c b).bind fun k => if k = true then (f b).bind fun r => r.cas (fun e => some (.ex e)) fun b' => twhr c f n b' else some (.go b)
def twhb (c : B → Option Bool) (f : B → Option (Ex B B)) : Nat → B → Option B
  | 0, _ => none
  | n + 1, b => (c b).bind fun k => if k = true then (f b).bind fun r => r.cas (fun e => some e) fun b' => twhb c f n b' else some b
abbrev FUEL : Nat := 1000000
/-! ### reading the typed side -/
theorem bnd {x : Option A} {f : A → Option B} {r : B} (h : x.bind f = some r) : ∃ a, x = some a ∧ f a = some r := Option.bind_eq_some_iff.mp h
theorem lbnd {a : A} {f : A → Option B} {r : B} (h : tlet a f = some r) : ∃ x, a = x ∧ f x = some r := ⟨a, rfl, h⟩
/-! ### expressions -/
section
variable {ρ : Rho} {M M1 M2 M3 : Mem} {fa fb fc : FE} {d x y z : D} {i : Nat}
theorem x_var (h : gs ρ i = some d) : fVar i ρ M = some (d, M) := by rw [ev_var, gs_at h]
theorem x_int (i : Int) : fC (.int i) ρ M = some (eI.e i, M) := rfl
theorem x_bl (i : Bool) : fC (.bl i) ρ M = some (eB.e i, M) := rfl
theorem x_str (i : Str) : fC (.str i) ρ M = some (eS.e i, M) := rfl
theorem x_non : fC .non ρ M = some (eN.e (), M) := rfl
theorem x_f1 {g : G1} (ha : fa ρ M = some (x, M1)) (hg : g x M1 = some d) : f1 g fa ρ M = some (d, M1) := by rw [ev_f1, ha, Option.bind_some, hg]; rfl
theorem x_f2 {g : G2} (ha : fa ρ M = some (x, M1)) (hb : fb ρ M1 = some (y, M2)) (hg : g x y M2 = some d) : f2 g fa fb ρ M = some (d, M2) := by
  rw [ev_f2, ha, Option.bind_some]; simp only []; rw [hb, Option.bind_some]; simp only []; rw [hg]; rfl
theorem x_f2T {g : G2B} {b : Bool} (ha : fa ρ M = some (x, M1)) (hb : fb ρ M1 = some (y, M2)) (hg : g x y M2 = some b) : f2T g fa fb ρ M = some (b, M2) := by
  rw [ev_f2T, ha, Option.bind_some]; simp only []; rw [hb, Option.bind_some]; simp only []; rw [hg]; rfl
theorem g_B {g : G2B} {b : Bool} (h : g x y M = some b) : gB g x y M = some (eB.e b) := by rw [ev_gB, h]; rfl
theorem x_co {c : Ec A} {c' : Ec A'} {a : A} {a' : A'} (h : fa ρ M = some (c.e a, M1)) (E : c'.e a' = c.e a) : fa ρ M = some (c'.e a', M1) := by rw [E]; exact h
theorem x_cast {c : Ec A} {o : Option A} {a : A} (h : fa ρ M = some ((eO c).e o, M1)) (E : o = some a) : fa ρ M = some (c.e a, M1) := by rw [h, E]; rfl
theorem x_eq {c : Ec A} {a b : A} (h : fa ρ M = some (c.e a, M1)) (E : a = b) : fa ρ M = some (c.e b, M1) := by rw [h, E]
theorem x_chain {g g' : G2B} {b b' : Bool} (ha : fa ρ M = some (x, M1)) (hb : fb ρ M1 = some (y, M2)) (hg : g x y M2 = some b) (hc : fc ρ M2 = some (z, M2)) (hg' : g' y z M2 = some b') : fChain g g' fa fb fc ρ M = some (eB.e (b && b'), M2) := by
  rw [ev_chain, ha, Option.bind_some]; simp only []; rw [hb, Option.bind_some]; simp only []; rw [hg, Option.bind_some]
  cases b
  · rfl
  · rw [if_pos rfl, hc, Option.bind_some]; simp only []; rw [hg']; rfl
theorem x_chainT {g g' : G2B} {b b' : Bool} (ha : fa ρ M = some (x, M1)) (hb : fb ρ M1 = some (y, M2)) (hg : g x y M2 = some b) (hc : fc ρ M2 = some (z, M2)) (hg' : g' y z M2 = some b') : fChainT g g' fa fb fc ρ M = some (b && b', M2) := by
  rw [ev_chainT, ha, Option.bind_some]; simp only []; rw [hb, Option.bind_some]; simp only []; rw [hg, Option.bind_some]
  cases b
  · rfl
  · rw [if_pos rfl, hc, Option.bind_some]; simp only []; rw [hg']; rfl
theorem x_chainM {g g' : G2B} {b b' : Bool} (ha : fa ρ M = some (x, M1)) (hb : fb ρ M1 = some (y, M2)) (hg : g x y M2 = some b) (h : b = true → ∃ z, fc ρ M2 = some (z, M2) ∧ g' y z M2 = some b') (h0 : b = false → b' = false) : fChain g g' fa fb fc ρ M = some (eB.e b', M2) := by
  rw [ev_chain, ha, Option.bind_some]; simp only []; rw [hb, Option.bind_some]; simp only []; rw [hg, Option.bind_some]
  cases b
  · rw [h0 rfl]; rfl
  · obtain ⟨z, hc, hg'⟩ := h rfl
    rw [if_pos rfl, hc, Option.bind_some]; simp only []; rw [hg']; rfl
theorem x_chainTM {g g' : G2B} {b b' : Bool} (ha : fa ρ M = some (x, M1)) (hb : fb ρ M1 = some (y, M2)) (hg : g x y M2 = some b) (h : b = true → ∃ z, fc ρ M2 = some (z, M2) ∧ g' y z M2 = some b') (h0 : b = false → b' = false) : fChainT g g' fa fb fc ρ M = some (b', M2) := by
  rw [ev_chainT, ha, Option.bind_some]; simp only []; rw [hb, Option.bind_some]; simp only []; rw [hg, Option.bind_some]
  cases b
  · rw [h0 rfl]; rfl
  · obtain ⟨z, hc, hg'⟩ := h rfl
    rw [if_pos rfl, hc, Option.bind_some]; simp only []; rw [hg']; rfl
end
section
variable {M : Mem} (a b : Int)
theorem g_add : gAdd (eI.e a) (eI.e b) M = some (eI.e (a + b)) := rfl
theorem g_sub : gSub (eI.e a) (eI.e b) M = some (eI.e (a - b)) := rfl
theorem g_neg : gNeg (eI.e a) M = some (eI.e (-a)) := rfl
variable {a b}
theorem g_mul {c : Int} (h : tmul a b = some c) : gMul (eI.e a) (eI.e b) M = some (eI.e c) := by
  show (if okMul a b = true then some (D.int (a * b)) else none) = _
  unfold tmul at h
  split at h
  · rename_i q; rw [if_pos q]; cases h; rfl
  · cases h
theorem g_mulR (h : b.natAbs < 18446744073709551616) : gMul (eI.e a) (eI.e b) M = some (eI.e (a * b)) := if_pos (okMul_r h)
theorem g_mulL (h : a.natAbs < 18446744073709551616) : gMul (eI.e a) (eI.e b) M = some (eI.e (a * b)) := if_pos (okMul_l h)
theorem g_div {c : Int} (h : tdiv a b = some c) : gFdiv (eI.e a) (eI.e b) M = some (eI.e c) := by
  show (if okDiv b = true then some (D.int (a.fdiv b)) else none) = _
  unfold tdiv at h
  split at h
  · rename_i q; rw [if_pos q]; cases h; rfl
  · cases h
theorem two64_9000 : (18446744073709551616 : Nat) < 2 ^ 9000 := Nat.lt_of_lt_of_le (by decide : (18446744073709551616 : Nat) < 2 ^ 65) (Nat.pow_le_pow_right (by decide) (by decide))
theorem okDiv_lit (h0 : b ≠ 0) (h : b.natAbs < 18446744073709551616) : okDiv b = true := okDiv_of h0 (Nat.lt_trans h two64_9000)
theorem g_divL (h0 : b ≠ 0) (h : b.natAbs < 18446744073709551616) : gFdiv (eI.e a) (eI.e b) M = some (eI.e (a.fdiv b)) := if_pos (okDiv_lit h0 h)
theorem g_mod {c : Int} (h : tmod a b = some c) : gMod (eI.e a) (eI.e b) M = some (eI.e c) := by
  show (if decide (b ≠ 0) = true then some (D.int (a.fmod b)) else none) = _
  unfold tmod at h
  split at h
  · rename_i q; rw [if_pos (decide_eq_true q)]; cases h; rfl
  · cases h
theorem g_modL (h0 : b ≠ 0) : gMod (eI.e a) (eI.e b) M = some (eI.e (a.fmod b)) := if_pos (decide_eq_true h0)
theorem g_pow {c : Int} (h : tpow a b = some c) : gPow (eI.e a) (eI.e b) M = some (eI.e c) := by
  show (if okPow a b = true then some (D.int (a ^ b.toNat)) else none) = _
  unfold tpow at h
  split at h
  · rename_i q; rw [if_pos q]; cases h; rfl
  · cases h
theorem g_powL {c : Int} (h : okPow a b = true) (hc : a ^ b.toNat = c) : gPow (eI.e a) (eI.e b) M = some (eI.e c) := by subst hc; exact if_pos h
theorem c_int (c : Int → Int → Bool) : gCmp c (eI.e a) (eI.e b) M = some (c a b) := rfl
end
section
variable {M : Mem} {c : Ec A}
theorem val_nr {d : D} (h : d.nr = true) : d.val M = some d := by
  cases d with
  | ref _ => cases h
  | _ => rfl
theorem v_ec (c : Ec A) (a : A) : (c.e a).val M = some (c.e a) := val_nr (c.nr a)
theorem v_ref {n : Nat} {xs : List A} (h : gm M n = some (cl c xs)) : (D.ref n).val M = some ((eL c).e xs) := by
  show (match M[n]? with | some (.lst xs) => some (D.lst xs) | _ => none) = _
  rw [gm_at h]; rfl
theorem c_eq {x y : D} {a b : A} {k : Nat} [DecidableEq A] (hx : x.val M = some (c.e a)) (hy : y.val M = some (c.e b)) [q : Eqv k c] (hk : Nat.ble k 60 = true := by decide) : gEq x y M = some (decide (a = b)) := by
  unfold gEq
  rw [hx, hy]
  simp only [q.dp 60 (Nat.le_of_ble_eq_true hk) a, q.dp 60 (Nat.le_of_ble_eq_true hk) b, Bool.and_self, if_true, q.eq]
theorem c_ne {x y : D} {a b : A} {k : Nat} [DecidableEq A] (hx : x.val M = some (c.e a)) (hy : y.val M = some (c.e b)) [q : Eqv k c] (hk : Nat.ble k 60 = true := by decide) : gNe x y M = some (!decide (a = b)) := by
  unfold gNe; rw [c_eq hx hy hk]; rfl
theorem any_mem [DecidableEq A] (a : A) : ∀ xs : List A, (xs.any fun z => decide (z = a)) = decide (a ∈ xs)
  | [] => rfl
  | x :: xs => by
    rw [List.any_cons, any_mem a xs]
    by_cases h : x = a
    · subst h; simp
    · have h' : ¬ a = x := fun z => h z.symm
      simp [h, h']
/-- a is one of xs -/
def tin [DecidableEq A] (a : A) (xs : List A) : Bool := xs.any fun z => decide (z = a)
theorem tin_mem [DecidableEq A] {a : A} {xs : List A} : tin a xs = true ↔ a ∈ xs := by unfold tin; rw [any_mem]; exact decide_eq_true_iff
theorem c_in {x y : D} {a : A} {xs : List A} {k : Nat} [DecidableEq A] (hx : x.val M = some (c.e a)) (hy : ∃ y', y.val M = some y' ∧ seqItems y' = some (xs.map c.e) ∧ y'.dp 60 = true) [q : Eqv k c] (hk : Nat.ble k 60 = true := by decide) : gInX x y M = some (tin a xs) := by
  obtain ⟨y', h1, h2, h3⟩ := hy
  unfold gInX
  rw [hx, h1, Option.bind_some, Option.bind_some, q.dp 60 (Nat.le_of_ble_eq_true hk) a, h3, h2]
  simp only [Bool.and_self, if_true, Option.map_some, List.any_map, Function.comp_def, q.eq]; rfl
theorem c_notIn {x y : D} {b : Bool} (h : gInX x y M = some b) : gNotInX x y M = some (!b) := by unfold gNotInX; rw [h]; rfl
theorem i_V {xs : List A} {k : Nat} [DecidableEq A] [q : Eqv k c] (hk : Nat.ble k 59 = true := by decide) : ∃ y', ((eV c).e xs).val M = some y' ∧ seqItems y' = some (xs.map c.e) ∧ y'.dp 60 = true :=
  ⟨_, v_ec _ _, rfl, (q_V (c := c)).dp 60 (by have := Nat.le_of_ble_eq_true hk; omega) xs⟩
theorem i_L {xs : List A} {k : Nat} [DecidableEq A] [q : Eqv k c] (hk : Nat.ble k 59 = true := by decide) : ∃ y', ((eL c).e xs).val M = some y' ∧ seqItems y' = some (xs.map c.e) ∧ y'.dp 60 = true :=
  ⟨_, v_ec _ _, rfl, (q_L (c := c)).dp 60 (by have := Nat.le_of_ble_eq_true hk; omega) xs⟩
theorem i_R {xs : List A} {k n : Nat} [DecidableEq A] [q : Eqv k c] (h : gm M n = some (cl c xs)) (hk : Nat.ble k 59 = true := by decide) : ∃ y', (D.ref n).val M = some y' ∧ seqItems y' = some (xs.map c.e) ∧ y'.dp 60 = true :=
  ⟨_, v_ref h, rfl, (q_L (c := c)).dp 60 (by have := Nat.le_of_ble_eq_true hk; omega) xs⟩
theorem is_O [n : NotN c] (o : Option A) : gIs ((eO c).e o) (eN.e ()) M = some o.isNone := by
  cases o with
  | none => rfl
  | some a => show some (isNn (c.e a)) = _; rw [n.nn]; rfl
theorem is_X [n : NotN c] (a : A) : gIs (c.e a) (eN.e ()) M = some false := by show some (isNn (c.e a)) = _; rw [n.nn]
theorem is_N : gIs (eN.e ()) (eN.e ()) M = some true := rfl
theorem is_B (a b : Bool) : gIs (eB.e a) (eB.e b) M = some (decide (a = b)) := rfl
theorem isNot_O [n : NotN c] (o : Option A) : gIsNot ((eO c).e o) (eN.e ()) M = some o.isSome := by unfold gIsNot; rw [is_O]; cases o <;> rfl
theorem is_not {x y : D} {b : Bool} (h : gIs x y M = some b) : gIsNot x y M = some (!b) := by unfold gIsNot; rw [h]; rfl
theorem is_R {n : Nat} : gIs (.ref n) (eN.e ()) M = some false := rfl
theorem c_lt {k : Nat} {lt : A → A → Bool} [DecidableEq A] [q : Eqv k c] [o : Ord c lt] (a b : A) (hk : Nat.ble k 60 = true := by decide) : gCmpD PySem.W.dataLt (c.e a) (c.e b) M = some (lt a b) := by
  unfold gCmpD
  rw [v_ec, v_ec]
  simp only [q.dp 60 (Nat.le_of_ble_eq_true hk) a, q.dp 60 (Nat.le_of_ble_eq_true hk) b, o.al, o.nn, Bool.and_self, Bool.not_false, Bool.and_true, if_true, o.dl]
theorem c_gt {k : Nat} {lt : A → A → Bool} [DecidableEq A] [q : Eqv k c] [o : Ord c lt] (a b : A) (hk : Nat.ble k 60 = true := by decide) : gCmpD (fun a b => PySem.W.dataLt b a) (c.e a) (c.e b) M = some (lt b a) := by
  unfold gCmpD
  rw [v_ec, v_ec]
  simp only [q.dp 60 (Nat.le_of_ble_eq_true hk) a, q.dp 60 (Nat.le_of_ble_eq_true hk) b, o.al, o.nn, Bool.and_self, Bool.not_false, Bool.and_true, if_true, o.dl]
/-! sequences -/
structure Sq (d : D) (M : Mem) (c : Ec A) (xs : List A) : Prop where
  sq : sqOf d M = some (xs.map c.e)
  ns : ∀ x, d ≠ .str x
structure Ls (d : D) (M : Mem) (c : Ec A) (xs : List A) : Prop where
  ls : lsOf d M = some (xs.map c.e)
  nt : ∀ x, d ≠ .tup x
structure Lt (d : D) (M : Mem) (c : Ec A) (xs : List A) : Prop where
  lt : ltOf d M = some (xs.map c.e)
  nt : ∀ x, d ≠ .tup x
  ns : ∀ x, d ≠ .str x
  ni : ∀ x, d ≠ .int x
theorem s_V {xs : List A} : Sq ((eV c).e xs) M c xs := ⟨rfl, fun _ h => by cases h⟩
theorem s_L {xs : List A} : Sq ((eL c).e xs) M c xs := ⟨rfl, fun _ h => by cases h⟩
theorem s_K {xs : List A} : Sq ((eK c).e xs) M c xs := ⟨rfl, fun _ h => by cases h⟩
theorem ls_ref {n : Nat} {xs : List A} (h : gm M n = some (cl c xs)) : lsOf (.ref n) M = some (xs.map c.e) := by rw [ev_lsr, gm_at h]; rfl
theorem s_R {n : Nat} {xs : List A} (h : gm M n = some (cl c xs)) : Sq (.ref n) M c xs := ⟨ls_ref h, fun _ h => by cases h⟩
theorem l_L {xs : List A} : Ls ((eL c).e xs) M c xs := ⟨rfl, fun _ h => by cases h⟩
theorem l_K {xs : List A} : Ls ((eK c).e xs) M c xs := ⟨rfl, fun _ h => by cases h⟩
theorem l_R {n : Nat} {xs : List A} (h : gm M n = some (cl c xs)) : Ls (.ref n) M c xs := ⟨ls_ref h, fun _ h => by cases h⟩
theorem t_L {xs : List A} : Lt ((eL c).e xs) M c xs := ⟨rfl, fun _ h => (by cases h), fun _ h => (by cases h), fun _ h => (by cases h)⟩
theorem t_R {n : Nat} {xs : List A} (h : gm M n = some (cl c xs)) : Lt (.ref n) M c xs := ⟨ls_ref h, fun _ h => (by cases h), fun _ h => (by cases h), fun _ h => (by cases h)⟩
/-! truth -/
theorem tr_B (b : Bool) : gTru (eB.e b) M = some b := rfl
theorem tr_I (i : Int) : gTru (eI.e i) M = some (i != 0) := rfl
theorem tr_N : gTru (eN.e ()) M = some false := rfl
theorem tr_S {d : D} {xs : List A} (s : Sq d M c xs) : gTru d M = some (!xs.isEmpty) := by
  have h : (sqOf d M).map (fun xs => !xs.isEmpty) = some (!xs.isEmpty) := by rw [s.sq]; cases xs <;> rfl
  cases d with
  | str x => exact absurd rfl (s.ns x)
  | non => cases s.sq
  | bl _ => cases s.sq
  | int _ => cases s.sq
  | tup _ => exact h
  | lst _ => exact h
  | kst _ => exact h
  | ref _ => exact h
theorem tr_T {d : D} {ds : List D} : gTru (.tup (d :: ds)) M = some true := rfl
theorem tr_O (o : Option A) (h : ∀ a, gTru (c.e a) M = some true) : gTru ((eO c).e o) M = some o.isSome := by
  cases o with
  | none => rfl
  | some a => exact h a
end
/-! displays, parts -/
section
variable {ρ : Rho} {M M1 M2 M3 : Mem} {fa fb fc : FE} {f : FA} {d x y z : D} {ds : List D}
theorem x_nil : fNil ρ M = some ([], M) := rfl
theorem x_cons (ha : fa ρ M = some (x, M1)) (hr : f ρ M1 = some (ds, M2)) : fCons fa f ρ M = some (x :: ds, M2) := by
  rw [ev_cons, ha, Option.bind_some]; simp only []; rw [hr]; rfl
theorem x_tup (h : f ρ M = some (ds, M1)) (hl : Nat.ble ds.length 10000 = true) : fTup f ρ M = some (.tup ds, M1) := by
  rw [ev_tup, h, Option.bind_some]
  exact if_pos (Nat.le_trans (Nat.le_of_ble_eq_true hl) (by decide))
section
variable {A1 A2 A3 A4 A5 A6 A7 : Type} {a1 : Ec A1} {a2 : Ec A2} {a3 : Ec A3} {a4 : Ec A4} {a5 : Ec A5} {a6 : Ec A6} {a7 : Ec A7} {u1 : A1} {u2 : A2} {u3 : A3} {u4 : A4} {u5 : A5} {u6 : A6} {u7 : A7}
theorem x_tup0 (h : f ρ M = some ([], M1)) : fTup f ρ M = some (e0.e (), M1) := x_tup h rfl
theorem x_tup1 (h : f ρ M = some ([a1.e u1], M1)) : fTup f ρ M = some ((e1 a1).e u1, M1) := x_tup h rfl
theorem x_tup2 (h : f ρ M = some ([a1.e u1, a2.e u2], M1)) : fTup f ρ M = some ((e2 a1 a2).e (u1, u2), M1) := x_tup h rfl
theorem x_tup3 (h : f ρ M = some ([a1.e u1, a2.e u2, a3.e u3], M1)) : fTup f ρ M = some ((e3 a1 a2 a3).e (u1, u2, u3), M1) := x_tup h rfl
theorem x_tup4 (h : f ρ M = some ([a1.e u1, a2.e u2, a3.e u3, a4.e u4], M1)) : fTup f ρ M = some ((e4 a1 a2 a3 a4).e (u1, u2, u3, u4), M1) := x_tup h rfl
theorem x_tup5 (h : f ρ M = some ([a1.e u1, a2.e u2, a3.e u3, a4.e u4, a5.e u5], M1)) : fTup f ρ M = some ((e5 a1 a2 a3 a4 a5).e (u1, u2, u3, u4, u5), M1) := x_tup h rfl
theorem x_tup6 (h : f ρ M = some ([a1.e u1, a2.e u2, a3.e u3, a4.e u4, a5.e u5, a6.e u6], M1)) : fTup f ρ M = some ((e6 a1 a2 a3 a4 a5 a6).e (u1, u2, u3, u4, u5, u6), M1) := x_tup h rfl
theorem x_tup7 (h : f ρ M = some ([a1.e u1, a2.e u2, a3.e u3, a4.e u4, a5.e u5, a6.e u6, a7.e u7], M1)) : fTup f ρ M = some ((e7 a1 a2 a3 a4 a5 a6 a7).e (u1, u2, u3, u4, u5, u6, u7), M1) := x_tup h rfl
end
theorem x_tupV {c : Ec A} (xs : List A) (h : f ρ M = some (ds, M1)) (e : ds = xs.map c.e) (hl : Nat.ble ds.length 10000 = true) : fTup f ρ M = some ((eV c).e xs, M1) := by subst e; exact x_tup h hl
theorem x_lst {c : Ec A} (xs : List A) (h : f ρ M = some (ds, M1)) (e : ds = xs.map c.e) (hl : Nat.ble ds.length 10000 = true) : fLstD f ρ M = some (xs.map c.e, M1) := by
  subst e
  rw [ev_lstD, h, Option.bind_some]
  exact if_pos (Nat.le_trans (Nat.le_of_ble_eq_true hl) (by decide))
theorem x_fz {c : Ec A} {xs : List A} (h : f ρ M = some (xs.map c.e, M1)) : fFz f ρ M = some ((eL c).e xs, M1) := by rw [ev_fz, h]; rfl
theorem x_mut {c : Ec A} {xs : List A} (h : f ρ M = some (xs.map c.e, M1)) : fMut f ρ M = some (.ref M1.length, M1 ++ [cl c xs]) := by rw [ev_mut, h]; rfl
theorem x_faco {c : Ec A} {c' : Ec A'} {xs : List A} {ys : List A'} (h : f ρ M = some (xs.map c.e, M1)) (E : ys.map c'.e = xs.map c.e) : f ρ M = some (ys.map c'.e, M1) := by rw [E]; exact h
theorem g_at {c : Ec A} {xs : List A} {i : Int} {a : A} (s : Sq d M c xs) (h : tat xs i = some a) : gIx d (eI.e i) M = some (c.e a) := by
  have e : (sqOf d M).bind (fun xs => L2.atI xs i) = some (c.e a) := by
    rw [s.sq, Option.bind_some, atI_eq, List.length_map]
    unfold tat at h
    rw [atI_eq] at h
    obtain ⟨j, h1, h2⟩ := Option.bind_eq_some_iff.mp h
    rw [h1, Option.bind_some, List.getElem?_map, h2]; rfl
  cases d with
  | str x => exact absurd rfl (s.ns x)
  | _ => exact e
theorem g_ix {L : List D} {i : Int} (h : L2.atI L i = some d) : gIx (.tup L) (eI.e i) M = some d := h
theorem o_none : fNoPart ρ M = some (none, M) := rfl
theorem o_part {i : Int} (h : fa ρ M = some (eI.e i, M1)) : fPart fa ρ M = some (some i, M1) := by rw [ev_part, h]; rfl
theorem x_slice {fl fh : FO} {lo hi : Option Int} (ha : fa ρ M = some (x, M1)) (hl : fl ρ M1 = some (lo, M2)) (hh : fh ρ M2 = some (hi, M3)) (hg : gSlice x lo hi M3 = some d) : fSlice fa fl fh ρ M = some (d, M3) := by
  rw [ev_slice, ha, Option.bind_some]; simp only []; rw [hl, Option.bind_some]; simp only []; rw [hh, Option.bind_some]; simp only []; rw [hg]; rfl
theorem cut_map (f : A → B) (xs : List A) (lo hi : Option Int) : cut (xs.map f) lo hi = (cut xs lo hi).map f := by unfold cut; rw [List.length_map, List.map_take, List.map_drop]
theorem cutD_map (f : A → D) (xs : List A) (lo hi : Option Int) : cutD (xs.map f) lo hi = (cut xs lo hi).map f := cut_map f xs lo hi
theorem g_slV {c : Ec A} {xs : List A} {lo hi : Option Int} : gSlice ((eV c).e xs) lo hi M = some ((eV c).e (cut xs lo hi)) := by
  show some (D.tup (cutD (xs.map c.e) lo hi)) = _
  rw [cutD_map]; rfl
theorem g_slL {c : Ec A} {xs : List A} {lo hi : Option Int} (l : Ls d M c xs) : gSlice d lo hi M = some ((eL c).e (cut xs lo hi)) := by
  have e : (lsOf d M).map (fun xs => D.lst (cutD xs lo hi)) = some ((eL c).e (cut xs lo hi)) := by rw [l.ls, Option.map_some, cutD_map]; rfl
  cases d with
  | tup x => exact absurd rfl (l.nt x)
  | _ => exact e
theorem g_slT {L L' : List D} {lo hi : Option Int} (h : cutD L lo hi = L') : gSlice (.tup L) lo hi M = some (.tup L') := by subst h; rfl
theorem x_sliceN {c : Ec A} {xs : List A} {fl fh : FO} {lo hi : Option Int} (ha : fa ρ M = some (x, M1)) (hl : fl ρ M1 = some (lo, M2)) (hh : fh ρ M2 = some (hi, M3)) (l : Ls x M3 c xs) : fSliceN fa fl fh ρ M = some ((cut xs lo hi).map c.e, M3) := by
  rw [ev_sliceN, ha, Option.bind_some]; simp only []; rw [hl, Option.bind_some]; simp only []; rw [hh, Option.bind_some]; simp only []; rw [l.ls, Option.bind_some, cutD_map]
theorem x_rev {c : Ec A} {xs : List A} (ha : fa ρ M = some (x, M1)) (l : Ls x M1 c xs) : fRevN fa ρ M = some (xs.reverse.map c.e, M1) := by
  rw [ev_rev, ha, Option.bind_some]; simp only []; rw [l.ls, Option.bind_some, List.map_reverse]
theorem tcat_ok {xs ys zs : List A} (h : tcat xs ys = some zs) : xs.length + ys.length ≤ LINE ∧ zs = xs ++ ys := by
  unfold tcat at h
  split at h
  · rename_i q; cases h; exact ⟨q, rfl⟩
  · cases h
theorem g_catV {c : Ec A} {xs ys zs : List A} (h : tcat xs ys = some zs) : gAdd ((eV c).e xs) ((eV c).e ys) M = some ((eV c).e zs) := by
  obtain ⟨hq, rfl⟩ := tcat_ok h
  show (if (xs.map c.e).length + (ys.map c.e).length ≤ LINE then some (D.tup (xs.map c.e ++ ys.map c.e)) else none) = _
  rw [if_pos (by simpa using hq), ← List.map_append]; rfl
theorem g_catL {c : Ec A} {xs ys zs : List A} (l : Lt x M c xs) (r : Lt y M c ys) (h : tcat xs ys = some zs) : gAdd x y M = some ((eL c).e zs) := by
  obtain ⟨hq, rfl⟩ := tcat_ok h
  have e : (match ltOf x M, ltOf y M with
    | some a, some b => if a.length + b.length ≤ LINE then some (D.lst (a ++ b)) else none
    | _, _ => none) = some ((eL c).e (xs ++ ys)) := by
    rw [l.lt, r.lt]
    simp only [List.length_map]
    rw [if_pos hq, ← List.map_append]; rfl
  unfold gAdd
  split
  · exact absurd rfl (l.ni _)
  · exact absurd rfl (l.ns _)
  · exact absurd rfl (l.nt _)
  · exact e
theorem g_catT {L L' : List D} (h : Nat.ble (L.length + L'.length) 10000 = true) : gAdd (.tup L) (.tup L') M = some (.tup (L ++ L')) := by
  show (if L.length + L'.length ≤ LINE then some (D.tup (L ++ L')) else none) = _
  rw [if_pos (Nat.le_trans (Nat.le_of_ble_eq_true h) (by decide))]
theorem x_catN {c : Ec A} {xs ys zs : List A} (ha : fa ρ M = some (x, M1)) (hb : fb ρ M1 = some (y, M2)) (l : Lt x M2 c xs) (r : Lt y M2 c ys) (h : tcat xs ys = some zs) : f2N gCat fa fb ρ M = some (zs.map c.e, M2) := by
  obtain ⟨hq, rfl⟩ := tcat_ok h
  unfold f2N
  rw [ha, Option.bind_some]; simp only []; rw [hb, Option.bind_some]; simp only []
  unfold gCat
  rw [l.lt, r.lt]
  simp only [List.length_map]
  rw [if_pos hq, ← List.map_append]; rfl
theorem flat_map (f : A → B) (xs : List A) : ∀ n : Nat, (List.replicate n (xs.map f)).flatten = (List.replicate n xs).flatten.map f
  | 0 => rfl
  | n + 1 => by rw [List.replicate_succ, List.replicate_succ, List.flatten_cons, List.flatten_cons, flat_map f xs n, List.map_append]
theorem trepL_ok {xs zs : List A} {j : Int} (h : trepL xs j = some zs) : (decide (-(9223372036854775808) ≤ j) && (decide (j < 9223372036854775808) && decide (xs.length * j.toNat ≤ LINE))) = true ∧ zs = (List.replicate j.toNat xs).flatten := by
  unfold trepL at h
  split at h
  · rename_i q; cases h; exact ⟨q, rfl⟩
  · cases h
theorem g_repL {c : Ec A} {xs zs : List A} {j : Int} (l : Lt x M c xs) (h : trepL xs j = some zs) : gMul x (eI.e j) M = some ((eL c).e zs) := by
  obtain ⟨hq, rfl⟩ := trepL_ok h
  have e : (match ltOf x M with
    | some xs => if decide (-(9223372036854775808) ≤ j) && (decide (j < 9223372036854775808) && decide (xs.length * j.toNat ≤ LINE)) then some (D.lst (List.replicate j.toNat xs).flatten) else none
    | none => none) = some ((eL c).e (List.replicate j.toNat xs).flatten) := by
    rw [l.lt]
    simp only [List.length_map]
    rw [if_pos hq, flat_map]; rfl
  cases x with
  | int i => exact absurd rfl (l.ni _)
  | _ => exact e
theorem trepV_map {c : A → D} {xs zs : List A} {j : Int} (h : trepV xs j = some zs) : gRepT (.tup (xs.map c)) (.int j) M = some (.tup (zs.map c)) := by
  show (if j = 1 then some (D.tup (xs.map c)) else if (!(xs.map c).isEmpty && decide (2 ≤ j)) && (decide (j ≤ 1000) && decide ((xs.map c).length ≤ 1000)) then some (.tup (List.replicate j.toNat (xs.map c)).flatten) else none) = _
  unfold trepV at h
  have e1 : (xs.map c).isEmpty = xs.isEmpty := by cases xs <;> rfl
  rw [e1, List.length_map, flat_map]
  split at h
  · rename_i q; cases h; rw [if_pos q]
  · rename_i q
    rw [if_neg q]
    split at h
    · rename_i q2; cases h; rw [if_pos q2]
    · cases h
theorem g_repV {c : Ec A} {xs zs : List A} {j : Int} (h : trepV xs j = some zs) : gRepT ((eV c).e xs) (eI.e j) M = some ((eV c).e zs) := trepV_map h
theorem g_repZ {c : Ec A} {xs zs : List A} {j : Int} (h : trepZ xs j = some zs) : gRepZ ((eV c).e xs) (eI.e j) M = some ((eV c).e zs) := by
  show (if j = 0 then (if (xs.map c.e).isEmpty = true then none else some (.tup [])) else gRepT (.tup (xs.map c.e)) (.int j) M) = _
  unfold trepZ at h
  have e1 : (xs.map c.e).isEmpty = xs.isEmpty := by cases xs <;> rfl
  rw [e1]
  split at h
  · rename_i q
    rw [if_pos q]
    split at h
    · cases h
    · rename_i q2; cases h; rw [if_neg q2]; rfl
  · rename_i q; rw [if_neg q]; exact trepV_map h
/-! built-ins -/
theorem x_b {g : GN} (ha : f ρ M = some (ds, M1)) (hg : g ds M1 = some d) : fB g f ρ M = some (d, M1) := by rw [ev_b, ha, Option.bind_some]; simp only []; rw [hg]; rfl
theorem x_bN {g : GNN} {xs : List D} (ha : f ρ M = some (ds, M1)) (hg : g ds M1 = some xs) : fBN g f ρ M = some (xs, M1) := by rw [ev_bN, ha, Option.bind_some]; simp only []; rw [hg]; rfl
end
section
variable {M : Mem} {c : Ec A} {d : D} {xs : List A}
theorem b_len (s : Sq d M c xs) : gLen [d] M = some (eI.e (xs.length : Int)) := by
  have e : (sqOf d M).map (fun xs => D.int xs.length) = some (eI.e (xs.length : Int)) := by rw [s.sq, Option.map_some, List.length_map]; rfl
  cases d with
  | str x => exact absurd rfl (s.ns x)
  | _ => exact e
theorem b_lenT {L : List D} {n : Int} (h : (L.length : Int) = n) : gLen [.tup L] M = some (eI.e n) := by subst h; rfl
theorem b_int (i : Int) : gInt [eI.e i] M = some (eI.e i) := rfl
theorem b_intb (b : Bool) : gInt [eB.e b] M = some (eI.e (if b = true then 1 else 0)) := ev_intb M b
theorem b_abs (i : Int) : gAbs [eI.e i] M = some (eI.e (i.natAbs : Int)) := ev_abs M i
theorem b_gcd (i j : Int) : gGcd [eI.e i, eI.e j] M = some (eI.e ((Nat.gcd i.natAbs j.natAbs : Nat) : Int)) := rfl
theorem b_max2 (i j : Int) : gMax2 [eI.e i, eI.e j] M = some (eI.e (max i j)) := by
  show some (D.int (if j > i then j else i)) = some (D.int (max i j))
  congr 2; omega
theorem b_min2 (i j : Int) : gMin2 [eI.e i, eI.e j] M = some (eI.e (min i j)) := by
  show some (D.int (if j < i then j else i)) = some (D.int (min i j))
  congr 2; omega
theorem intsOf_map : ∀ ns : List Int, intsOf (ns.map eI.e) = some ns
  | [] => rfl
  | n :: ns => by
    show (intsOf (ns.map eI.e)).map (n :: ·) = _
    rw [intsOf_map ns]; rfl
theorem blsOf_map : ∀ ns : List Bool, blsOf (ns.map eB.e) = some ns
  | [] => rfl
  | n :: ns => by
    show (blsOf (ns.map eB.e)).map (n :: ·) = _
    rw [blsOf_map ns]; rfl
theorem b_sum {ns : List Int} (s : Sq d M eI ns) : gSumA [d] M = some (eI.e ns.sum) := by
  show (sqOf d M).bind (fun xs => (intsOf xs).map fun ns => D.int ns.sum) = _
  rw [s.sq, Option.bind_some, intsOf_map]; rfl
theorem b_any {bs : List Bool} (l : Ls d M eB bs) : gAny [d] M = some (eB.e (bs.any id)) := by
  show (lsOf d M).bind (fun xs => (blsOf xs).map fun bs => D.bl (bs.any id)) = _
  rw [l.ls, Option.bind_some, blsOf_map]; rfl
theorem b_all {bs : List Bool} (l : Ls d M eB bs) : gAll [d] M = some (eB.e (bs.all id)) := by
  show (lsOf d M).bind (fun xs => (blsOf xs).map fun bs => D.bl (bs.all id)) = _
  rw [l.ls, Option.bind_some, blsOf_map]; rfl
theorem b_tuple (s : Sq d M c xs) : gTuple [d] M = some ((eV c).e xs) := by
  show (sqOf d M).map D.tup = _
  rw [s.sq]; rfl
theorem b_lenU {ns : List Int} {n : Int} (s : Sq d M eI ns) (h : tlenU ns = some n) : gLenU [d] M = some (eI.e n) := by
  show (sqOf d M).bind (fun xs => (intsOf xs).bind fun ns => if ns.length ≤ 4000 then some (D.int (sortU ns).length) else none) = _
  rw [s.sq, Option.bind_some, intsOf_map, Option.bind_some]
  unfold tlenU at h
  split at h
  · rename_i q; rw [if_pos q]; cases h; rfl
  · cases h
theorem n_list (s : Sq d M c xs) : gList [d] M = some (xs.map c.e) := s.sq
theorem n_sortU {ns ms : List Int} (s : Sq d M eI ns) (h : tsortU ns = some ms) : gSortU [d] M = some (ms.map eI.e) := by
  show (sqOf d M).bind (fun xs => (intsOf xs).bind fun ns => if ns.length < 64 then some ((sortU ns).map D.int) else none) = _
  rw [s.sq, Option.bind_some, intsOf_map, Option.bind_some]
  unfold tsortU at h
  split at h
  · rename_i q; rw [if_pos q]; cases h; rfl
  · cases h
variable {lt : A → A → Bool} {k : Nat}
theorem okAl_map [DecidableEq A] [q : Eqv k c] [o : Ord c lt] (hk : k ≤ 59) (xs : List A) : okAl (xs.map c.e) = true := by
  unfold okAl
  rw [nls_map o.nl xs, dps_map (q.dp 59 hk) xs]
  simp only [Bool.and_self, Bool.true_and, Bool.and_eq_true, List.all_eq_true]
  refine ⟨fun a ha b hb => ?_, fun a ha => ?_⟩
  · obtain ⟨x, _, rfl⟩ := List.mem_map.mp ha
    obtain ⟨y, _, rfl⟩ := List.mem_map.mp hb
    exact o.al x y
  · obtain ⟨x, _, rfl⟩ := List.mem_map.mp ha
    rw [o.nn]; rfl
theorem minDd_map [o : Ord c lt] : ∀ (xs : List A) (x : A), minDd (c.e x) (xs.map c.e) = c.e (xs.foldl (fun a y => if lt y a = true then y else a) x)
  | [], _ => rfl
  | y :: xs, x => by
    show minDd (if PySem.W.dataLt (c.e y).py (c.e x).py = true then c.e y else c.e x) (xs.map c.e) = _
    rw [o.dl, show (if lt y x = true then c.e y else c.e x) = c.e (if lt y x = true then y else x) by split <;> rfl, minDd_map xs]; rfl
theorem maxDd_map [o : Ord c lt] : ∀ (xs : List A) (x : A), maxDd (c.e x) (xs.map c.e) = c.e (xs.foldl (fun a y => if lt a y = true then y else a) x)
  | [], _ => rfl
  | y :: xs, x => by
    show maxDd (if PySem.W.dataLt (c.e x).py (c.e y).py = true then c.e y else c.e x) (xs.map c.e) = _
    rw [o.dl, show (if lt x y = true then c.e y else c.e x) = c.e (if lt x y = true then y else x) by split <;> rfl, maxDd_map xs]; rfl
theorem b_min {a : A} [DecidableEq A] [q : Eqv k c] [o : Ord c lt] (s : Sq d M c xs) (h : tmin lt xs = some a) (hk : Nat.ble k 59 = true := by decide) : gMin1 [d] M = some (c.e a) := by
  show (sqOf d M).bind (fun l => match l with | x :: xs => if okAl (x :: xs) = true then some (minDd x xs) else none | [] => none) = _
  rw [s.sq, Option.bind_some]
  cases xs with
  | nil => cases h
  | cons x xs =>
    cases h
    show (if okAl ((x :: xs).map c.e) = true then some (minDd (c.e x) (xs.map c.e)) else none) = _
    rw [if_pos (okAl_map (Nat.le_of_ble_eq_true hk) _), minDd_map]
theorem b_max {a : A} [DecidableEq A] [q : Eqv k c] [o : Ord c lt] (s : Sq d M c xs) (h : tmax lt xs = some a) (hk : Nat.ble k 59 = true := by decide) : gMax1 [d] M = some (c.e a) := by
  show (sqOf d M).bind (fun l => match l with | x :: xs => if okAl (x :: xs) = true then some (maxDd x xs) else none | [] => none) = _
  rw [s.sq, Option.bind_some]
  cases xs with
  | nil => cases h
  | cons x xs =>
    cases h
    show (if okAl ((x :: xs).map c.e) = true then some (maxDd (c.e x) (xs.map c.e)) else none) = _
    rw [if_pos (okAl_map (Nat.le_of_ble_eq_true hk) _), maxDd_map]
class Srt (c : Ec A) : Prop where
  s : ∀ xs : List A, srtb (xs.map c.e) = true
theorem srt_t {f : A → D} (h : ∀ a, ∃ d ds, f a = .tup (d :: ds)) (xs : List A) : srtb (xs.map f) = true := by
  unfold srtb
  rw [Bool.or_eq_true]
  refine .inl (List.all_eq_true.mpr fun x hx => ?_)
  obtain ⟨a, _, rfl⟩ := List.mem_map.mp hx
  obtain ⟨d, ds, e⟩ := h a
  rw [e]
theorem srt_i {f : A → D} (h : ∀ a, (∃ i, f a = .int i) ∨ (∃ i, f a = .bl i)) (xs : List A) : srtb (xs.map f) = true := by
  unfold srtb
  rw [Bool.or_eq_true]
  refine .inr (List.all_eq_true.mpr fun x hx => ?_)
  obtain ⟨a, _, rfl⟩ := List.mem_map.mp hx
  rcases h a with ⟨d, e⟩ | ⟨d, e⟩ <;> rw [e]
instance sr_I : Srt eI := ⟨srt_i fun a => .inl ⟨a, rfl⟩⟩
instance sr_B : Srt eB := ⟨srt_i fun a => .inr ⟨a, rfl⟩⟩
section
variable {A1 A2 A3 A4 A5 : Type} {a1 : Ec A1} {a2 : Ec A2} {a3 : Ec A3} {a4 : Ec A4} {a5 : Ec A5}
instance sr_1 : Srt (e1 a1) := ⟨srt_t fun _ => ⟨_, _, rfl⟩⟩
instance sr_2 : Srt (e2 a1 a2) := ⟨srt_t fun _ => ⟨_, _, rfl⟩⟩
instance sr_3 : Srt (e3 a1 a2 a3) := ⟨srt_t fun _ => ⟨_, _, rfl⟩⟩
instance sr_4 : Srt (e4 a1 a2 a3 a4) := ⟨srt_t fun _ => ⟨_, _, rfl⟩⟩
instance sr_5 : Srt (e5 a1 a2 a3 a4 a5) := ⟨srt_t fun _ => ⟨_, _, rfl⟩⟩
end
theorem n_sort [DecidableEq A] [q : Eqv k c] [o : Ord c lt] [t : Srt c] (l : Sq d M c xs) (hk : Nat.ble k 59 = true := by decide) : gSortA [d] M = some ((tsort lt xs).map c.e) := by
  show (sqOf d M).bind (fun xs => if (okAl xs && srtb xs) = true then some (sortD xs) else none) = _
  rw [l.sq, Option.bind_some, if_pos (by rw [okAl_map (Nat.le_of_ble_eq_true hk), t.s]; rfl)]
  congr 1
  refine (List.map_mergeSort (f := c.e) (r := fun a b => !lt b a) (s := leD) fun a _ b _ => ?_).symm
  show _ = PySem.W.dataLe false D.py (c.e a) (c.e b)
  rw [PySem.W.dataLe_eq]
  show _ = !PySem.W.dataLt (c.e b).py (c.e a).py
  rw [o.dl]
end
end TL
namespace TL
open PySem PySem.Spec PyProof.Rows L2 PF
variable {A B C S A' B' C' E : Type}
/-! ### what is walked -/
section
variable {ρ : Rho} {M M1 M2 : Mem} {fa : FE} {f : FA} {d : D} {c : Ec A} {xs : List A}
theorem i_sq (ha : fa ρ M = some (d, M1)) (s : Sq d M1 c xs) (hr : d.isRef = false) : fiSq fa ρ M = some ((xs.map c.e, none), M1) := by
  unfold fiSq
  rw [ha, Option.bind_some]
  simp only []
  have e : (sqOf d M1).bind (fun xs => some ((xs, (none : Option Nat)), M1)) = some ((xs.map c.e, none), M1) := by rw [s.sq]; rfl
  cases d with
  | ref _ => cases hr
  | _ => exact e
theorem i_ref {n : Nat} (ha : fa ρ M = some (.ref n, M1)) (h : gm M1 n = some (cl c xs)) : fiSq fa ρ M = some ((xs.map c.e, some n), M1) := by
  unfold fiSq
  rw [ha, Option.bind_some]
  simp only []
  rw [ls_ref h]; rfl
theorem trg_ok {lo hi : Int} {xs : List Int} (h : trg lo hi = some xs) : okR lo hi = true ∧ xs = upto lo (hi - lo).toNat := by
  unfold trg at h
  split at h
  · rename_i q; cases h; exact ⟨q, rfl⟩
  · cases h
theorem upto_map (lo : Int) (n : Nat) : rgD lo n = (upto lo n).map eI.e := by unfold rgD upto; rw [List.map_map]; rfl
theorem i_rg1 {j : Int} {xs : List Int} (hf : f ρ M = some ([eI.e j], M1)) (h : trg 0 j = some xs) : fiRg1 f ρ M = some ((xs.map eI.e, none), M1) := by
  obtain ⟨h1, rfl⟩ := trg_ok h
  rw [ev_rg1, hf, Option.bind_some]
  show rg1 [.int j] M1 = _
  rw [ev_rgh1 _ h1, ← upto_map, Int.sub_zero]
theorem i_rg2 {i j : Int} {xs : List Int} (hf : f ρ M = some ([eI.e i, eI.e j], M1)) (h : trg i j = some xs) : fiRg2 f ρ M = some ((xs.map eI.e, none), M1) := by
  obtain ⟨h1, rfl⟩ := trg_ok h
  rw [ev_rg2, hf, Option.bind_some]
  show rg2 [.int i, .int j] M1 = _
  rw [ev_rgh2 _ h1, ← upto_map]
theorem x_lrg1 {j : Int} {xs : List Int} (hf : f ρ M = some ([eI.e j], M1)) (h : trg 0 j = some xs) : fLstRg1 f ρ M = some (xs.map eI.e, M1) := by
  obtain ⟨h1, rfl⟩ := trg_ok h
  unfold fLstRg1
  rw [hf, Option.bind_some]
  show (if okR 0 j then some (rgD 0 j.toNat, M1) else none) = _
  rw [if_pos h1, ← upto_map, Int.sub_zero]
theorem x_lrg2 {i j : Int} {xs : List Int} (hf : f ρ M = some ([eI.e i, eI.e j], M1)) (h : trg i j = some xs) : fLstRg2 f ρ M = some (xs.map eI.e, M1) := by
  obtain ⟨h1, rfl⟩ := trg_ok h
  unfold fLstRg2
  rw [hf, Option.bind_some]
  show (if okR i j then some (rgD i (j - i).toNat, M1) else none) = _
  rw [if_pos h1, ← upto_map]
theorem x_trg1 {j : Int} {xs : List Int} (hf : f ρ M = some ([eI.e j], M1)) (h : trg 0 j = some xs) : fTupRg1 f ρ M = some ((eV eI).e xs, M1) := by
  obtain ⟨h1, rfl⟩ := trg_ok h
  unfold fTupRg1
  rw [hf, Option.bind_some]
  show (if okR 0 j then some (D.tup (rgD 0 j.toNat), M1) else none) = _
  rw [if_pos h1, upto_map, Int.sub_zero]; rfl
theorem chk_0 {M : Mem} {L : List D} : chk none L M = true := rfl
theorem chk_r {n : Nat} (h : gm M n = some (cl c xs)) : chk (some n) (xs.map c.e) M = true := by
  unfold chk
  simp only [gm_at h]
  exact D.beqs_refl _
end
/-! ### comprehensions -/
section
variable {c : Mem → Bool} {t : FG} {ft : FT} {fe : FE} {ρ : Rho} {cA : Ec A} {cB : Ec B}
theorem tfilt_some (p : A → Bool) : ∀ xs : List A, tfilt (fun x => some (p x)) xs = some (xs.filter p)
  | [] => rfl
  | x :: xs => by
    rw [tfilt, Option.bind_some, tfilt_some p xs, Option.bind_some, List.filter_cons]
theorem tmap_some (f : A → B) : ∀ xs : List A, tmap (fun x => some (f x)) xs = some (xs.map f)
  | [] => rfl
  | x :: xs => by rw [tmap, Option.bind_some, tmap_some f xs]; rfl
/-- the core: a state s that stands for the changeable lists -/
theorem lcore {p : A → Option Bool} {f : A → S → Option (B × S)} (Mm : S → Mem) (hc : ∀ s, c (Mm s) = true)
    (step : ∀ x s, ∃ ρ', t (cA.e x) ρ = some ρ' ∧ (∀ b, p x = some b → ft ρ' (Mm s) = some (b, Mm s)) ∧ ∀ y s1, f x s = some (y, s1) → fe ρ' (Mm s) = some (cB.e y, Mm s1)) :
    ∀ (xs zs : List A) (ys : List B) (s s' : S) (acc : List D), tfilt p xs = some zs → tmapS f zs s = some (ys, s') → lcLoop c t ft fe ρ (xs.map cA.e) acc (Mm s) = some (acc ++ ys.map cB.e, Mm s')
  | [], zs, ys, s, s', acc, hz, h => by
    cases hz; cases h
    rw [List.map_nil, lcLoop, if_pos (hc s), List.map_nil, List.append_nil]
  | x :: xs, zs, ys, s, s', acc, hz, h => by
    obtain ⟨b, hb, hz⟩ := bnd hz
    obtain ⟨zs', hz', hz⟩ := bnd hz
    obtain ⟨ρ', e1, e2, e3⟩ := step x s
    rw [List.map_cons, lcLoop, if_pos (hc s), e1, Option.bind_some, e2 b hb, Option.bind_some]
    simp only []
    cases b with
    | false =>
      rw [if_neg Bool.false_ne_true] at hz ⊢
      cases hz
      exact lcore Mm hc step xs zs ys s s' acc hz' h
    | true =>
      rw [if_pos rfl] at hz ⊢
      cases hz
      obtain ⟨⟨y, s1⟩, hy, h⟩ := bnd h
      obtain ⟨⟨ys', s2⟩, hys, h⟩ := bnd h
      cases h
      rw [e3 y s1 hy, Option.bind_some]
      simp only []
      rw [lcore Mm hc step xs zs' ys' s1 _ _ hz' hys, List.map_cons, List.append_assoc]; rfl
theorem tmap_S {f : A → Option B} : ∀ {xs : List A} {ys : List B}, tmap f xs = some ys → tmapS (fun x (_ : Unit) => (f x).map fun y => (y, ())) xs () = some (ys, ())
  | [], ys, h => by cases h; rfl
  | x :: xs, ys, h => by
    obtain ⟨y, hy, h⟩ := bnd h
    obtain ⟨ys', hys, h⟩ := bnd h
    cases h
    rw [tmapS, hy, Option.map_some, Option.bind_some, tmap_S hys]; rfl
theorem lclM {p : A → Option Bool} {f : A → Option B} {M : Mem} (hc : c M = true)
    (step : ∀ x, ∃ ρ', t (cA.e x) ρ = some ρ' ∧ (∀ b, p x = some b → ft ρ' M = some (b, M)) ∧ ∀ y, f x = some y → fe ρ' M = some (cB.e y, M))
    (xs zs : List A) (ys : List B) (acc : List D) (hz : tfilt p xs = some zs) (h : tmap f zs = some ys) : lcLoop c t ft fe ρ (xs.map cA.e) acc M = some (acc ++ ys.map cB.e, M) :=
  lcore (S := Unit) (fun _ => M) (fun _ => hc) (fun x _ => by
    obtain ⟨ρ', h1, h2, h3⟩ := step x
    refine ⟨ρ', h1, h2, fun y s1 hy => ?_⟩
    obtain ⟨y', hy', e⟩ := Option.map_eq_some_iff.mp hy
    cases e
    exact h3 y hy') xs zs ys () () acc hz (tmap_S h)
variable {fi : FI} {vs : List Nat} {M M1 : Mem} {kk : Option Nat} {xs zs : List A} {ys : List B}
theorem x_lcS {f : A → S → Option (B × S)} (Mm : S → Mem) {s s' : S} (hi : fi ρ M = some ((xs.map cA.e, kk), Mm s)) (hc : ∀ s, chk kk (xs.map cA.e) (Mm s) = true) (h : tmapS f xs s = some (ys, s'))
    (step : ∀ x s, ∃ ρ', t (cA.e x) (wipeR ρ vs) = some ρ' ∧ ∀ y s1, f x s = some (y, s1) → fe ρ' (Mm s) = some (cB.e y, Mm s1)) : fLC vs fi t fYes fe ρ M = some (ys.map cB.e, Mm s') := by
  rw [ev_lc, hi, Option.bind_some]
  exact (lcore (p := fun _ => some true) Mm hc (fun x s => by
    obtain ⟨ρ', h1, h2⟩ := step x s
    exact ⟨ρ', h1, fun b hb => by cases hb; rfl, h2⟩) xs xs ys s s' [] (by rw [tfilt_some, List.filter_eq_self.mpr fun _ _ => rfl]) h)
theorem x_lcSf {p : A → Bool} {f : A → S → Option (B × S)} (Mm : S → Mem) {s s' : S} (hi : fi ρ M = some ((xs.map cA.e, kk), Mm s)) (hc : ∀ s, chk kk (xs.map cA.e) (Mm s) = true) (h : tmapS f (xs.filter p) s = some (ys, s'))
    (step : ∀ x s, ∃ ρ', t (cA.e x) (wipeR ρ vs) = some ρ' ∧ ft ρ' (Mm s) = some (p x, Mm s) ∧ ∀ y s1, f x s = some (y, s1) → fe ρ' (Mm s) = some (cB.e y, Mm s1)) : fLC vs fi t ft fe ρ M = some (ys.map cB.e, Mm s') := by
  rw [ev_lc, hi, Option.bind_some]
  exact (lcore (p := fun x => some (p x)) Mm hc (fun x s => by
    obtain ⟨ρ', h1, h2, h3⟩ := step x s
    exact ⟨ρ', h1, fun b hb => by cases hb; exact h2, h3⟩) xs _ ys s s' [] (tfilt_some p xs) h)
theorem x_lcG {p : A → Option Bool} {f : A → Option B} (hi : fi ρ M = some ((xs.map cA.e, kk), M1)) (hc : chk kk (xs.map cA.e) M1 = true) (hz : tfilt p xs = some zs) (h : tmap f zs = some ys)
    (step : ∀ x, ∃ ρ', t (cA.e x) (wipeR ρ vs) = some ρ' ∧ (∀ b, p x = some b → ft ρ' M1 = some (b, M1)) ∧ ∀ y, f x = some y → fe ρ' M1 = some (cB.e y, M1)) : fLC vs fi t ft fe ρ M = some (ys.map cB.e, M1) := by
  rw [ev_lc, hi, Option.bind_some]
  exact lclM hc step xs zs ys [] hz h
/-- pure -/
theorem x_lc0 {g : A → B} (hi : fi ρ M = some ((xs.map cA.e, kk), M1)) (hc : chk kk (xs.map cA.e) M1 = true)
    (step : ∀ x, ∃ ρ', t (cA.e x) (wipeR ρ vs) = some ρ' ∧ fe ρ' M1 = some (cB.e (g x), M1)) : fLC vs fi t fYes fe ρ M = some ((xs.map g).map cB.e, M1) :=
  x_lcG (p := fun _ => some true) (f := fun x => some (g x)) hi hc (by rw [tfilt_some, List.filter_eq_self.mpr fun _ _ => rfl]) (tmap_some g xs) fun x => by
    obtain ⟨ρ', h1, h2⟩ := step x
    exact ⟨ρ', h1, fun b hb => by cases hb; rfl, fun y hy => by cases hy; exact h2⟩
theorem x_lc0f {p : A → Bool} {g : A → B} (hi : fi ρ M = some ((xs.map cA.e, kk), M1)) (hc : chk kk (xs.map cA.e) M1 = true)
    (step : ∀ x, ∃ ρ', t (cA.e x) (wipeR ρ vs) = some ρ' ∧ ft ρ' M1 = some (p x, M1) ∧ fe ρ' M1 = some (cB.e (g x), M1)) : fLC vs fi t ft fe ρ M = some (((xs.filter p).map g).map cB.e, M1) :=
  x_lcG (p := fun x => some (p x)) (f := fun x => some (g x)) hi hc (tfilt_some p xs) (tmap_some g _) fun x => by
    obtain ⟨ρ', h1, h2, h3⟩ := step x
    exact ⟨ρ', h1, fun b hb => by cases hb; exact h2, fun y hy => by cases hy; exact h3⟩
theorem x_lcM {f : A → Option B} (hi : fi ρ M = some ((xs.map cA.e, kk), M1)) (hc : chk kk (xs.map cA.e) M1 = true) (h : tmap f xs = some ys)
    (step : ∀ x, ∃ ρ', t (cA.e x) (wipeR ρ vs) = some ρ' ∧ ∀ y, f x = some y → fe ρ' M1 = some (cB.e y, M1)) : fLC vs fi t fYes fe ρ M = some (ys.map cB.e, M1) :=
  x_lcG (p := fun _ => some true) hi hc (by rw [tfilt_some, List.filter_eq_self.mpr fun _ _ => rfl]) h fun x => by
    obtain ⟨ρ', h1, h2⟩ := step x
    exact ⟨ρ', h1, fun b hb => by cases hb; rfl, h2⟩
theorem x_lcMf {p : A → Bool} {f : A → Option B} (hi : fi ρ M = some ((xs.map cA.e, kk), M1)) (hc : chk kk (xs.map cA.e) M1 = true) (h : tmap f (xs.filter p) = some ys)
    (step : ∀ x, ∃ ρ', t (cA.e x) (wipeR ρ vs) = some ρ' ∧ ft ρ' M1 = some (p x, M1) ∧ ∀ y, f x = some y → fe ρ' M1 = some (cB.e y, M1)) : fLC vs fi t ft fe ρ M = some (ys.map cB.e, M1) :=
  x_lcG (p := fun x => some (p x)) hi hc (tfilt_some p xs) h fun x => by
    obtain ⟨ρ', h1, h2, h3⟩ := step x
    exact ⟨ρ', h1, fun b hb => by cases hb; exact h2, h3⟩
theorem x_lcF {p : A → Option Bool} {g : A → B} (hi : fi ρ M = some ((xs.map cA.e, kk), M1)) (hc : chk kk (xs.map cA.e) M1 = true) (hz : tfilt p xs = some zs)
    (step : ∀ x, ∃ ρ', t (cA.e x) (wipeR ρ vs) = some ρ' ∧ (∀ b, p x = some b → ft ρ' M1 = some (b, M1)) ∧ fe ρ' M1 = some (cB.e (g x), M1)) : fLC vs fi t ft fe ρ M = some ((zs.map g).map cB.e, M1) :=
  x_lcG (f := fun x => some (g x)) hi hc hz (tmap_some g _) fun x => by
    obtain ⟨ρ', h1, h2, h3⟩ := step x
    exact ⟨ρ', h1, h2, fun y hy => by cases hy; exact h3⟩
end
/-! ### two fors -/
def tflat (yss : List (List B)) : Option (List B) := if yss.flatten.length ≤ LINE then some yss.flatten else none
section
variable {c : Mem → Bool} {t t1 : FG} {ft ft1 : FT} {fe : FE} {fi fi1 : FI} {vs vs1 : List Nat} {ρ : Rho} {cA : Ec A} {cB : Ec B} {M M1 : Mem}
theorem lcl2 {p : A → Option Bool} {F : A → Option (List B)} (hc : c M = true)
    (step : ∀ x, ∃ ρ', t (cA.e x) ρ = some ρ' ∧ (∀ b, p x = some b → ft ρ' M = some (b, M)) ∧ ∀ ys, F x = some ys → ∃ ds kk1, fi1 ρ' M = some ((ds, kk1), M) ∧ ∀ acc, lcLoop (chk kk1 ds) t1 ft1 fe (wipeR ρ' vs1) ds acc M = some (acc ++ ys.map cB.e, M)) :
    ∀ (xs zs : List A) (yss : List (List B)) (acc : List D), tfilt p xs = some zs → tmap F zs = some yss → lc2Loop c t ft fi1 vs1 t1 ft1 fe ρ (xs.map cA.e) acc M = some (acc ++ yss.flatten.map cB.e, M)
  | [], zs, ys, acc, hz, h => by
    cases hz; cases h
    rw [List.map_nil, lc2Loop, if_pos hc, List.flatten_nil, List.map_nil, List.append_nil]
  | x :: xs, zs, ys, acc, hz, h => by
    obtain ⟨b, hb, hz⟩ := bnd hz
    obtain ⟨zs', hz', hz⟩ := bnd hz
    obtain ⟨ρ', e1, e2, e3⟩ := step x
    rw [List.map_cons, lc2Loop, if_pos hc, e1, Option.bind_some, e2 b hb, Option.bind_some]
    simp only []
    cases b with
    | false =>
      rw [if_neg Bool.false_ne_true] at hz ⊢
      cases hz
      exact lcl2 hc step xs zs ys acc hz' h
    | true =>
      rw [if_pos rfl] at hz ⊢
      cases hz
      obtain ⟨y, hy, h⟩ := bnd h
      obtain ⟨ys', hys, h⟩ := bnd h
      cases h
      obtain ⟨ds, kk1, g1, g2⟩ := e3 y hy
      rw [g1, Option.bind_some]
      simp only []
      rw [g2 acc, Option.bind_some]
      simp only []
      rw [lcl2 hc step xs zs' ys' _ hz' hys, List.flatten_cons, List.map_append, List.append_assoc]
theorem x_lc2 {kk : Option Nat} {xs zs : List A} {yss : List (List B)} {ys : List B} {p : A → Option Bool} {F : A → Option (List B)} (hi : fi ρ M = some ((xs.map cA.e, kk), M1)) (hc : chk kk (xs.map cA.e) M1 = true) (hz : tfilt p xs = some zs) (h : tmap F zs = some yss) (hl : tflat yss = some ys)
    (step : ∀ x, ∃ ρ', t (cA.e x) (wipeR ρ vs) = some ρ' ∧ (∀ b, p x = some b → ft ρ' M1 = some (b, M1)) ∧ ∀ ys, F x = some ys → ∃ ds kk1, fi1 ρ' M1 = some ((ds, kk1), M1) ∧ ∀ acc, lcLoop (chk kk1 ds) t1 ft1 fe (wipeR ρ' vs1) ds acc M1 = some (acc ++ ys.map cB.e, M1)) :
    fLC2 vs vs1 fi t ft fi1 t1 ft1 fe ρ M = some (ys.map cB.e, M1) := by
  unfold tflat at hl
  split at hl
  · rename_i hq
    cases hl
    rw [ev_lc2, hi, Option.bind_some]
    simp only []
    rw [lcl2 hc step xs zs yss [] hz h, Option.bind_some]
    simp only [List.nil_append, List.length_map]
    rw [if_pos hq]
  · cases hl
/-- the inner for -/
theorem x_in {cC : Ec C} {kk1 : Option Nat} {xs zs : List C} {ys : List B} {p : C → Option Bool} {f : C → Option B} (hi : fi1 ρ M = some ((xs.map cC.e, kk1), M)) (hc : chk kk1 (xs.map cC.e) M = true) (hz : tfilt p xs = some zs) (h : tmap f zs = some ys)
    (step : ∀ x, ∃ ρ', t1 (cC.e x) (wipeR ρ vs1) = some ρ' ∧ (∀ b, p x = some b → ft1 ρ' M = some (b, M)) ∧ ∀ y, f x = some y → fe ρ' M = some (cB.e y, M)) :
    ∃ ds kk1, fi1 ρ M = some ((ds, kk1), M) ∧ ∀ acc, lcLoop (chk kk1 ds) t1 ft1 fe (wipeR ρ vs1) ds acc M = some (acc ++ ys.map cB.e, M) :=
  ⟨_, _, hi, fun acc => lclM hc step xs zs ys acc hz h⟩
end
/-! ### tests -/
section
variable {ρ : Rho} {M M1 M2 : Mem} {ta tb : FT} {fa fb : FE} {d : D} {a b : Bool}
theorem k_tru (ha : fa ρ M = some (d, M1)) (h : gTru d M1 = some a) : fTru fa ρ M = some (a, M1) := by rw [ev_tru, ha, Option.bind_some]; simp only []; rw [h]; rfl
theorem k_not (ha : ta ρ M = some (a, M1)) : fNot ta ρ M = some (!a, M1) := by rw [ev_not, ha]; rfl
theorem k_and (ha : ta ρ M = some (a, M1)) (hb : tb ρ M1 = some (b, M1)) : fAnd ta tb ρ M = some (a && b, M1) := by
  rw [ev_and, ha, Option.bind_some]; cases a
  · rfl
  · rw [if_pos rfl, hb]; rfl
theorem k_or (ha : ta ρ M = some (a, M1)) (hb : tb ρ M1 = some (b, M1)) : fOr ta tb ρ M = some (a || b, M1) := by
  rw [ev_or, ha, Option.bind_some]; cases a
  · rw [if_neg Bool.false_ne_true, hb]; rfl
  · rfl
theorem k_andM {t : Option Bool} {r : Bool} (ha : ta ρ M = some (a, M1)) (h : (if a = true then t else some false) = some r) (hb : t = some r → tb ρ M1 = some (r, M1)) : fAnd ta tb ρ M = some (r, M1) := by
  rw [ev_and, ha, Option.bind_some]; cases a
  · cases h; rfl
  · exact hb h
theorem k_orM {t : Option Bool} {r : Bool} (ha : ta ρ M = some (a, M1)) (h : (if a = true then some true else t) = some r) (hb : t = some r → tb ρ M1 = some (r, M1)) : fOr ta tb ρ M = some (r, M1) := by
  rw [ev_or, ha, Option.bind_some]; cases a
  · exact hb h
  · cases h; rfl
theorem k_yes : fYes ρ M = some (true, M) := rfl
theorem x_not (ha : fa ρ M = some (d, M1)) (h : gTru d M1 = some a) : fNotV fa ρ M = some (eB.e (!a), M1) := by rw [ev_notV, ha, Option.bind_some]; simp only []; rw [h]; rfl
/-- and, or of bools as values -/
theorem x_and (ha : fa ρ M = some (eB.e a, M1)) (hb : fb ρ M1 = some (eB.e b, M1)) : fAndV fa fb ρ M = some (eB.e (a && b), M1) := by
  rw [ev_andV, ha, Option.bind_some]; simp only []; rw [tr_B, Option.bind_some]; cases a
  · rfl
  · rw [if_pos rfl]; exact hb
theorem x_or (ha : fa ρ M = some (eB.e a, M1)) (hb : fb ρ M1 = some (eB.e b, M1)) : fOrV fa fb ρ M = some (eB.e (a || b), M1) := by
  rw [ev_orV, ha, Option.bind_some]; simp only []; rw [tr_B, Option.bind_some]; cases a
  · rw [if_neg Bool.false_ne_true]; exact hb
  · rfl
theorem x_andM {t : Option Bool} {r : Bool} (ha : fa ρ M = some (eB.e a, M1)) (h : (if a = true then t else some false) = some r) (hb : t = some r → fb ρ M1 = some (eB.e r, M1)) : fAndV fa fb ρ M = some (eB.e r, M1) := by
  rw [ev_andV, ha, Option.bind_some]; simp only []; rw [tr_B, Option.bind_some]; cases a
  · cases h; rfl
  · exact hb h
theorem x_orM {t : Option Bool} {r : Bool} (ha : fa ρ M = some (eB.e a, M1)) (h : (if a = true then some true else t) = some r) (hb : t = some r → fb ρ M1 = some (eB.e r, M1)) : fOrV fa fb ρ M = some (eB.e r, M1) := by
  rw [ev_orV, ha, Option.bind_some]; simp only []; rw [tr_B, Option.bind_some]; cases a
  · exact hb h
  · cases h; rfl
/-- the same with the state that the second part leaves -/
theorem x_andS {c : Ec A} {Mm : S → Mem} {t : Option (Bool × S)} {r : Bool × S} {s0 : S} (ha : fa ρ M = some (eB.e a, Mm s0)) (h : (if a = true then t else some (false, s0)) = some r) (hb : t = some r → fb ρ (Mm s0) = some (eB.e r.1, Mm r.2)) : fAndV fa fb ρ M = some (eB.e r.1, Mm r.2) := by
  rw [ev_andV, ha, Option.bind_some]; simp only []; rw [tr_B, Option.bind_some]; cases a
  · cases h; rfl
  · exact hb h
theorem x_if {c : Ec A} {u v : A} {fc : FT} (hc : fc ρ M = some (a, M1)) (ha : fa ρ M1 = some (c.e u, M1)) (hb : fb ρ M1 = some (c.e v, M1)) : fIfE fc fa fb ρ M = some (c.e (if a = true then u else v), M1) := by
  rw [ev_ifE, hc, Option.bind_some]; cases a
  · exact hb
  · exact ha
theorem x_ifM {c : Ec A} {fc : FT} {t u : Option A} {r : A} (hc : fc ρ M = some (a, M1)) (h : (if a = true then t else u) = some r) (ha : t = some r → fa ρ M1 = some (c.e r, M1)) (hb : u = some r → fb ρ M1 = some (c.e r, M1)) : fIfE fc fa fb ρ M = some (c.e r, M1) := by
  rw [ev_ifE, hc, Option.bind_some]; cases a
  · exact hb h
  · exact ha h
end
/-! ### calls -/
/-- arguments that are values -/
structure AV (ds : List D) : Prop where
  p : ∀ M, argsP M ds = some ds
  r : anyRef ds = false
  i : ∀ n, refIn n ds = false
theorem av_nil : AV [] := ⟨fun _ => rfl, rfl, fun _ => rfl⟩
theorem av_d {d : D} {ds : List D} (hd : d.nr = true) (h : AV ds) : AV (d :: ds) := by
  have hr := ir_of hd
  refine ⟨fun M => ?_, ?_, fun n => ?_⟩
  · show (argP M d).bind (fun e => (argsP M ds).bind fun es => some (e :: es)) = _
    rw [argP_nr hd M, Option.bind_some, h.p M]; rfl
  · show (d.isRef || anyRef ds) = false
    rw [hr, h.r]; rfl
  · cases d with
    | ref _ => cases hr
    | _ => exact h.i n
theorem av_c (c : Ec A) (a : A) {ds : List D} (h : AV ds) : AV (c.e a :: ds) := av_d (c.nr a) h
/-- arguments, lists of the state among them -/
structure AR (M : Mem) (ds es : List D) : Prop where
  p : argsP M ds = some es
theorem ar_nil {M : Mem} : AR M [] [] := ⟨rfl⟩
theorem ar_c {M : Mem} (c : Ec A) (a : A) {ds es : List D} (h : AR M ds es) : AR M (c.e a :: ds) (c.e a :: es) := ⟨by
  show (argP M (c.e a)).bind (fun e => (argsP M ds).bind fun es => some (e :: es)) = _
  rw [argP_nr (c.nr a) M, Option.bind_some, h.p]; rfl⟩
theorem ar_r {M : Mem} {c : Ec A} {xs : List A} {n : Nat} {ds es : List D} (hn : gm M n = some (cl c xs)) (h : AR M ds es) : AR M (.ref n :: ds) ((eL c).e xs :: es) := ⟨by
  show (argP M (.ref n)).bind (fun e => (argsP M ds).bind fun es => some (e :: es)) = _
  have e : argP M (.ref n) = some ((eL c).e xs) := by
    unfold argP
    simp only [gm_at hn]
    exact if_pos (nrs_map c.nr xs)
  rw [e, Option.bind_some, h.p]; rfl⟩
section
variable {ρ : Rho} {M M1 M2 : Mem} {f : FA} {ds es : List D} {q : FnC} {cR : Ec A} {r : A}
theorem x_call {z : D × Mem} (hf : f ρ M = some (ds, M1)) (h : callP q ds M1 = some z) : fCall q f ρ M = some z := by rw [ev_call, hf]; exact h
theorem p_v (a : AV ds) (h : q ds [] = some (cR.e r, [])) : callP q ds M = some (cR.e r, M) := by
  unfold callP
  rw [a.p M, Option.bind_some, h, Option.bind_some]
  simp only [a.r, Bool.false_and]
  rfl
theorem p_r (a : AR M ds es) (h : q es [] = some (cR.e r, [])) [n : NoL cR] : callP q ds M = some (cR.e r, M) := by
  unfold callP
  rw [a.p, Option.bind_some, h, Option.bind_some]
  simp only [n.nl, Bool.not_true, Bool.and_false]
  rfl
theorem p_m {c : Ec B} {xs : List B} (a : AV ds) (h : q ds [] = some (.ref 0, [cl c xs])) : callP q ds M = some (.ref M.length, M ++ [cl c xs]) := by
  unfold callP
  rw [a.p M, Option.bind_some, h, Option.bind_some]
  show (if anyRef ds && !D.nls (xs.map c.e) then none else if D.nrs (xs.map c.e) = true then some (D.ref M.length, M ++ [cl c xs]) else none) = _
  rw [a.r, Bool.false_and, if_neg Bool.false_ne_true, if_pos (nrs_map c.nr xs)]
theorem x_callS {i : Nat} {z : D × Mem} (hf : f ρ M = some (ds, M1)) (h : callS i q ds M1 = some z) : fCallS i q f ρ M = some z := by rw [ev_callS, hf]; exact h
theorem mo_nr (c : Ec B) (xs : List B) : (cl c xs).nr = true := nrs_map c.nr xs
theorem p_s {M' : Mem} {i n : Nat} {c c' : Ec B} {xs ys : List B} (h1 : ds[i]? = some (.ref n)) (h2 : gm M n = some (cl c xs)) (a : AV (ds.set i .non)) (h : q (ds.set i (.ref 0)) [cl c xs] = some (cR.e r, [cl c' ys])) (hM : M.set n (cl c' ys) = M') : callS i q ds M = some (cR.e r, M') := by
  subst hM
  have h2' := gm_at h2
  have e : (ds.set i .non).set i (.ref 0) = ds.set i (.ref 0) := List.set_set ..
  unfold callS
  simp only [h1, h2', mo_nr, a.i n, Bool.not_false, Bool.and_self, if_true, a.p M, Option.bind_some, e, h]
  rw [if_pos (by show ((D.nrs (ys.map c'.e) && (cR.e r).nr) && !(anyRef (ds.set i .non) && !((cR.e r).nl && D.nls (ys.map c'.e)))) = true; rw [nrs_map c'.nr ys, cR.nr r, a.r]; rfl)]
/-- .. with other lists of the state handed in -/
theorem p_sr {M' : Mem} {i n : Nat} {c c' : Ec B} {xs ys : List B} (h1 : ds[i]? = some (.ref n)) (h2 : gm M n = some (cl c xs)) (hi : refIn n (ds.set i .non) = false) (a : AR M (ds.set i .non) es) (h : q (es.set i (.ref 0)) [cl c xs] = some (cR.e r, [cl c' ys])) (hM : M.set n (cl c' ys) = M') [nr : NoL cR] [nc : NoL c'] : callS i q ds M = some (cR.e r, M') := by
  subst hM
  have h2' := gm_at h2
  unfold callS
  simp only [h1, h2', mo_nr, hi, Bool.not_false, Bool.and_self, if_true, a.p, Option.bind_some, h]
  rw [if_pos (by show ((D.nrs (ys.map c'.e) && (cR.e r).nr) && !(anyRef (ds.set i .non) && !((cR.e r).nl && D.nls (ys.map c'.e)))) = true; rw [nrs_map c'.nr ys, cR.nr r, nr.nl, nls_map nc.nl]; simp)]
theorem refIn_c {n : Nat} (c : Ec A) (a : A) {ds : List D} (h : refIn n ds = false) : refIn n (c.e a :: ds) = false := by
  have hr := c.ir a
  generalize c.e a = d at *
  cases d with
  | ref _ => cases hr
  | _ => exact h
theorem refIn_r {n m : Nat} {ds : List D} (hm : Nat.beq m n = false) (h : refIn n ds = false) : refIn n (.ref m :: ds) = false := by
  show (decide (m = n) || refIn n ds) = false
  rw [h, Bool.or_false, decide_eq_false]
  intro e
  subst e
  rw [Nat.beq_refl] at hm; cases hm
theorem refIn_non {n : Nat} {ds : List D} (h : refIn n ds = false) : refIn n (.non :: ds) = false := h
/-! what a def hands back -/
theorem startR_eq (n : Nat) (ds : List D) : startR n ds = ds.map some ++ List.replicate (n - ds.length) none := rfl
def FQ (mu : Bool) (k : Nat) (res : D × Mem) : Out → Mem → Prop := fun o M' => match o with
  | .ret d => fin mu k d M' = some res
  | .nx _ => fin mu k .non M' = some res
  | _ => False
theorem fin_nr {mu : Bool} {k : Nat} {d : D} {M' : Mem} (h : d.nr = true) (hm : Mem.nr (M'.take k) = true) : fin mu k d M' = some (d, M'.take k) := by
  unfold fin
  rw [if_pos hm]
  cases d with
  | ref _ => cases h
  | _ => exact if_pos h
theorem f_v0 {mu : Bool} {M' : Mem} (c : Ec A) (a : A) : fin mu 0 (c.e a) M' = some (c.e a, []) := fin_nr (c.nr a) rfl
theorem nr1 (c : Ec B) (xs : List B) : Mem.nr [cl c xs] = true := by
  show ((cl c xs).nr && Mem.nr []) = true
  rw [mo_nr]; rfl
theorem f_v1 {mu : Bool} {M' : Mem} (c : Ec A) (a : A) {c' : Ec B} {xs : List B} : fin mu 1 (c.e a) (cl c' xs :: M') = some (c.e a, [cl c' xs]) := fin_nr (c.nr a) (nr1 c' xs)
theorem f_r0 {j : Nat} {M' : Mem} {c : Ec A} {xs : List A} (h : gm M' j = some (cl c xs)) : fin false 0 (.ref j) M' = some ((eL c).e xs, []) := by
  unfold fin
  rw [if_pos (by rfl)]
  show (if j < 0 then none else match M'[j]? with | some (.lst xs) => if D.nrs xs = true then (if false = true then some (D.ref 0, M'.take 0 ++ [.lst xs]) else some (.lst xs, M'.take 0)) else none | none => none) = _
  rw [if_neg (by omega), gm_at h]
  show (if D.nrs (xs.map c.e) = true then _ else none) = _
  rw [if_pos (nrs_map c.nr xs)]; rfl
theorem f_r1 {j : Nat} {M' : Mem} {c : Ec A} {xs : List A} {c' : Ec B} {ys : List B} (hj : Nat.ble 1 j = true) (h : gm (cl c' ys :: M') j = some (cl c xs)) : fin false 1 (.ref j) (cl c' ys :: M') = some ((eL c).e xs, [cl c' ys]) := by
  have hj' := Nat.le_of_ble_eq_true hj
  unfold fin
  rw [if_pos (show Mem.nr ((cl c' ys :: M').take 1) = true from nr1 c' ys)]
  show (if j < 1 then none else match (cl c' ys :: M')[j]? with | some (.lst xs) => if D.nrs xs = true then (if false = true then some (D.ref 1, (cl c' ys :: M').take 1 ++ [.lst xs]) else some (.lst xs, (cl c' ys :: M').take 1)) else none | none => none) = _
  rw [if_neg (by omega), gm_at h]
  show (if D.nrs (xs.map c.e) = true then _ else none) = _
  rw [if_pos (nrs_map c.nr xs)]; rfl
theorem f_m0 {j : Nat} {M' : Mem} {c : Ec A} {xs : List A} (h : gm M' j = some (cl c xs)) : fin true 0 (.ref j) M' = some (.ref 0, [cl c xs]) := by
  unfold fin
  rw [if_pos (by rfl)]
  show (if j < 0 then none else match M'[j]? with | some (.lst xs) => if D.nrs xs = true then (if true = true then some (D.ref 0, M'.take 0 ++ [.lst xs]) else some (.lst xs, M'.take 0)) else none | none => none) = _
  rw [if_neg (by omega), gm_at h]
  show (if D.nrs (xs.map c.e) = true then _ else none) = _
  rw [if_pos (nrs_map c.nr xs)]; rfl
end
/-! ### statements -/
def WP (f : FS) (ρ : Rho) (M : Mem) (Q : Out → Mem → Prop) : Prop := ∃ o M', f ρ M = some (o, M') ∧ Q o M'
section
variable {ρ ρ1 : Rho} {M M1 M2 : Mem} {Q : Out → Mem → Prop} {f g k : FS} {fe : FE} {d : D} {i : Nat}
theorem run_wp {mu : Bool} {n : Nat} {ds : List D} {res : D × Mem} (h : WP f (startR n ds) M (FQ mu M.length res)) : runFn mu n f ds M = some res := by
  obtain ⟨o, M', e, q⟩ := h
  unfold runFn
  rw [e, Option.bind_some]
  cases o with
  | ret d => exact q
  | nx ρ => exact q
  | bk _ => exact q.elim
  | ct _ => exact q.elim
theorem w_add (h : WP (sSeq f sNext) ρ M Q) : WP f ρ M Q := by
  obtain ⟨o, M', e, q⟩ := h
  rw [ev_seq] at e
  obtain ⟨⟨o1, M1⟩, h1, e⟩ := Option.bind_eq_some_iff.mp e
  refine ⟨o1, M1, h1, ?_⟩
  cases o1 <;> (cases e; exact q)
theorem w_assoc {a b : FS} (h : WP (sSeq a (sSeq b k)) ρ M Q) : WP (sSeq (sSeq a b) k) ρ M Q := by
  obtain ⟨o, M', e, q⟩ := h
  refine ⟨o, M', ?_, q⟩
  rw [ev_seq] at e
  rw [ev_seq, ev_seq]
  obtain ⟨⟨o1, M1⟩, h1, e⟩ := Option.bind_eq_some_iff.mp e
  rw [h1, Option.bind_some]
  cases o1 with
  | nx ρ1 => exact e
  | _ => exact e
theorem w_next (h : WP k ρ M Q) : WP (sSeq sNext k) ρ M Q := h
theorem w_end (h : Q (.nx ρ) M) : WP sNext ρ M Q := ⟨_, _, rfl, h⟩
theorem w_step (h : f ρ M = some (.nx ρ1, M1)) (K : WP k ρ1 M1 Q) : WP (sSeq f k) ρ M Q := by
  obtain ⟨o, M', e, q⟩ := K
  exact ⟨o, M', by rw [ev_seq, h]; exact e, q⟩
theorem w_set {c : Ec A} {a : A} (h : fe ρ M = some (c.e a, M1)) (K : WP k (ρ.set i (some (c.e a))) M1 Q) : WP (sSeq (sSet i fe) k) ρ M Q := w_step (by rw [ev_set, h]; rfl) K
theorem w_setE {c : Ec A} {a b : A} (h : fe ρ M = some (c.e a, M1)) (E : a = b) (K : WP k (ρ.set i (some (c.e b))) M1 Q) : WP (sSeq (sSet i fe) k) ρ M Q := by subst E; exact w_set h K
theorem w_setR (h : fe ρ M = some (d, M1)) (K : WP k (ρ.set i (some d)) M1 Q) : WP (sSeq (sSet i fe) k) ρ M Q := w_step (by rw [ev_set, h]; rfl) K
theorem w_drop (h : fe ρ M = some (d, M1)) (K : WP k ρ M1 Q) : WP (sSeq (sDrop fe) k) ρ M Q := w_step (by rw [ev_drop, h]; rfl) K
theorem w_asg {t : FG} {ρ' : Rho} (h : fe ρ M = some (d, M1)) (ht : t d ρ = some ρ') (K : WP k ρ' M1 Q) : WP (sSeq (sAsg fe t) k) ρ M Q := w_step (by rw [ev_asg, h, Option.bind_some]; simp only []; rw [ht]; rfl) K
theorem w_asgE {c : Ec A} {a b : A} {t : FG} {ρ' : Rho} (h : fe ρ M = some (c.e a, M1)) (E : a = b) (ht : t (c.e b) ρ = some ρ') (K : WP k ρ' M1 Q) : WP (sSeq (sAsg fe t) k) ρ M Q := by subst E; exact w_asg h ht K
theorem w_par {j : Nat} {fa : FA} {x y : D} (h : fa ρ M = some ([x, y], M1)) (K : WP k ((ρ.set i (some x)).set j (some y)) M1 Q) : WP (sSeq (sPar i j fa) k) ρ M Q := w_step (by rw [ev_par, h]; rfl) K
theorem w_par3 {j l : Nat} {fa : FA} {x y z : D} (h : fa ρ M = some ([x, y, z], M1)) (K : WP k (((ρ.set i (some x)).set j (some y)).set l (some z)) M1 Q) : WP (sSeq (sPar3 i j l fa) k) ρ M Q := w_step (by rw [ev_par3, h]; rfl) K
theorem w_ret (h : fe ρ M = some (d, M1)) (q : Q (.ret d) M1) : WP (sSeq (sRet fe) k) ρ M Q := ⟨.ret d, M1, by rw [ev_seq, ev_ret, h]; rfl, q⟩
theorem w_retN (q : Q (.ret .non) M) : WP (sSeq sRetN k) ρ M Q := ⟨.ret .non, M, rfl, q⟩
theorem w_brk (q : Q (.bk ρ) M) : WP (sSeq sBreak k) ρ M Q := ⟨.bk ρ, M, rfl, q⟩
theorem w_cont (q : Q (.ct ρ) M) : WP (sSeq sCont k) ρ M Q := ⟨.ct ρ, M, rfl, q⟩
theorem w_if {fc : FT} {b : Bool} (hc : fc ρ M = some (b, M1)) (h1 : b = true → WP (sSeq f k) ρ M1 Q) (h2 : b = false → WP (sSeq g k) ρ M1 Q) : WP (sSeq (sIf fc f g) k) ρ M Q := by
  have e : ∀ r, (if b = true then sSeq f k ρ M1 else sSeq g k ρ M1) = some r → sSeq (sIf fc f g) k ρ M = some r := fun r h => by
    rw [ev_seq, ev_if, hc, Option.bind_some]
    cases b <;> exact h
  cases b with
  | true =>
    obtain ⟨o, M', h, q⟩ := h1 rfl
    exact ⟨o, M', e _ h, q⟩
  | false =>
    obtain ⟨o, M', h, q⟩ := h2 rfl
    exact ⟨o, M', e _ h, q⟩
theorem w_ifT {fc : FT} {b : Bool} {t u : Option A} {r : A} (hc : fc ρ M = some (b, M1)) (h : (if b = true then t else u) = some r) (h1 : t = some r → WP (sSeq f k) ρ M1 Q) (h2 : u = some r → WP (sSeq g k) ρ M1 Q) : WP (sSeq (sIf fc f g) k) ρ M Q :=
  w_if hc (fun e => by subst e; exact h1 h) fun e => by subst e; exact h2 h
/-- a statement whose end is told by R -/
def CQ (R : Rho → Mem → Prop) (Q : Out → Mem → Prop) : Out → Mem → Prop := fun o M' => match o with
  | .nx ρ' => R ρ' M'
  | o => Q o M'
theorem w_endC {R : Rho → Mem → Prop} (h : R ρ M) : WP sNext ρ M (CQ R Q) := ⟨_, _, rfl, h⟩
theorem cq_ret {R : Rho → Mem → Prop} (h : Q (.ret d) M) : CQ R Q (.ret d) M := h
theorem cq_bk {R : Rho → Mem → Prop} (h : Q (.bk ρ) M) : CQ R Q (.bk ρ) M := h
theorem cq_ct {R : Rho → Mem → Prop} (h : Q (.ct ρ) M) : CQ R Q (.ct ρ) M := h
theorem w_cut (R : Rho → Mem → Prop) (h : WP (sSeq f sNext) ρ M (CQ R Q)) (K : ∀ ρ' M', R ρ' M' → WP k ρ' M' Q) : WP (sSeq f k) ρ M Q := by
  obtain ⟨o, M', e, q⟩ := w_add h
  cases o with
  | nx ρ' => exact w_step e (K ρ' M' q)
  | ret d => exact ⟨.ret d, M', by rw [ev_seq, e]; rfl, q⟩
  | bk d => exact ⟨.bk d, M', by rw [ev_seq, e]; rfl, q⟩
  | ct d => exact ⟨.ct d, M', by rw [ev_seq, e]; rfl, q⟩
/-! lists of the state -/
theorem ml_at {n : Nat} {c : Ec A} {xs : List A} (h : gm M n = some (cl c xs)) : mlOf (.ref n) M = some (n, xs.map c.e) := by
  show (match M[n]? with | some (.lst xs) => some (n, xs) | _ => none) = _
  rw [gm_at h]; rfl
theorem ty_at {n : Nat} {c : Ec A} {xs : List A} (h : gm M n = some (cl c xs)) : tyOk "list" (.ref n) M = true := by
  show (lsOf (.ref n) M).isSome = true
  rw [ls_ref h]; rfl
theorem x_m {g : GM} {fo : FE} {fa : FA} {n : Nat} {c : Ec A} {xs : List A} {ds : List D} {z : D × Mem} (ho : fo ρ M = some (.ref n, M)) (hn : gm M n = some (cl c xs)) (ha : fa ρ M = some (ds, M1)) (hg : g (.ref n) ds M1 = some z) : fM "list" g fo fa ρ M = some z := by
  rw [ev_m, ho, Option.bind_some]; simp only []; rw [if_pos (ty_at hn), ha, Option.bind_some]; exact hg
theorem m_app {M' : Mem} {n : Nat} {c : Ec A} {xs zs : List A} {a : A} (hn : gm M n = some (cl c xs)) (h : tapp xs a = some zs) (hM : M.set n (cl c zs) = M') : gAppend (.ref n) [c.e a] M = some (eN.e (), M') := by
  subst hM
  unfold tapp at h
  split at h
  · rename_i hq
    cases h
    rw [ev_append, ml_at hn, Option.bind_some]
    simp only [List.length_map]
    rw [if_pos hq]
    unfold cl
    rw [List.map_append]; rfl
  · cases h
theorem m_pop {M' : Mem} {n : Nat} {c : Ec A} {xs : List A} {p : A × List A} (hn : gm M n = some (cl c xs)) (h : tpop xs = some p) (hM : M.set n (cl c p.2) = M') : gPop (.ref n) [] M = some (c.e p.1, M') := by
  subst hM
  obtain ⟨a, zs⟩ := p
  unfold tpop at h
  obtain ⟨b, hb, e⟩ := Option.map_eq_some_iff.mp h
  cases e
  rw [ev_pop, ml_at hn, Option.bind_some]
  simp only [List.length_map, List.getElem?_map, hb, Option.map_some, Option.bind_some]
  unfold cl
  rw [List.map_dropLast]
def tpop1 (xs : List A) (i : Int) : Option (A × List A) := (L2.ixN xs.length i).bind fun k => (xs[k]?).map fun a => (a, xs.eraseIdx k)
theorem map_erase (f : A → B) : ∀ (xs : List A) (k : Nat), (xs.map f).eraseIdx k = (xs.eraseIdx k).map f
  | [], _ => rfl
  | x :: xs, 0 => rfl
  | x :: xs, k + 1 => by
    show f x :: (xs.map f).eraseIdx k = f x :: (xs.eraseIdx k).map f
    rw [map_erase f xs k]
theorem m_pop1 {M' : Mem} {n : Nat} {c : Ec A} {xs : List A} {p : A × List A} {i : Int} (hn : gm M n = some (cl c xs)) (h : tpop1 xs i = some p) (hM : M.set n (cl c p.2) = M') : gPop1 (.ref n) [eI.e i] M = some (c.e p.1, M') := by
  subst hM
  obtain ⟨a, zs⟩ := p
  unfold tpop1 at h
  obtain ⟨k, hk, h⟩ := bnd h
  obtain ⟨b, hb, e⟩ := Option.map_eq_some_iff.mp h
  cases e
  show (mlOf (.ref n) M).bind _ = _
  rw [ml_at hn, Option.bind_some]
  simp only [List.length_map, List.getElem?_map, hk, hb, Option.map_some, Option.bind_some, map_erase]
  rfl
theorem m_rev {M' : Mem} {n : Nat} {c : Ec A} {xs : List A} (hn : gm M n = some (cl c xs)) (hM : M.set n (cl c xs.reverse) = M') : gReverse (.ref n) [] M = some (eN.e (), M') := by
  subst hM
  rw [ev_reverse, ml_at hn, Option.bind_some]
  simp only []
  unfold cl
  rw [List.map_reverse]; rfl
theorem w_setIx {fo fi : FE} {n : Nat} {c : Ec A} {xs zs : List A} {a : A} {j : Int} (hv : fe ρ M = some (c.e a, M1)) (ho : fo ρ M1 = some (.ref n, M1)) (hi : fi ρ M1 = some (eI.e j, M2)) (hn : gm M2 n = some (cl c xs)) (h : tset xs j a = some zs) (K : WP k ρ (M2.set n (cl c zs)) Q) : WP (sSeq (sSetIx fe fo fi) k) ρ M Q := by
  unfold tset at h
  obtain ⟨m, hm, e⟩ := Option.map_eq_some_iff.mp h
  subst e
  refine w_step (ρ1 := ρ) (M1 := M2.set n (cl c (xs.set m a))) ?_ K
  rw [ev_setIx, hv, Option.bind_some]; simp only []; rw [ho, Option.bind_some]; simp only []; rw [hi, Option.bind_some]
  show (mlOf (.ref n) M2).bind _ = _
  rw [ml_at hn, Option.bind_some]
  simp only [List.length_map, hm, Option.bind_some]
  unfold cl
  rw [List.map_set]
theorem w_aug {gm' : G2M} {x y : D} (hx : gs ρ i = some x) (hy : fe ρ M = some (y, M1)) {z : D} (hg : gm' x y M1 = some (z, M2)) (K : WP k (ρ.set i (some z)) M2 Q) : WP (sSeq (sAug i gm' fe) k) ρ M Q :=
  w_step (by rw [ev_aug, gs_at hx]; simp only []; rw [hy, Option.bind_some]; simp only []; rw [hg]; rfl) K
theorem u_add {a b : Int} : gIAddA (eI.e a) (eI.e b) M = some (eI.e (a + b), M) := rfl
theorem u_catT {L L' : List D} (h : Nat.ble (L.length + L'.length) 10000 = true) : gIAddA (.tup L) (.tup L') M = some (.tup (L ++ L'), M) := by
  show (if L.length + L'.length ≤ LINE then some (D.tup (L ++ L'), M) else none) = _
  rw [if_pos (Nat.le_trans (Nat.le_of_ble_eq_true h) (by decide))]
theorem u_catV {c : Ec A} {xs ys zs : List A} (h : tcat xs ys = some zs) : gIAddA ((eV c).e xs) ((eV c).e ys) M = some ((eV c).e zs, M) := by
  obtain ⟨hq, rfl⟩ := tcat_ok h
  show (if (xs.map c.e).length + (ys.map c.e).length ≤ LINE then some (D.tup (xs.map c.e ++ ys.map c.e), M) else none) = _
  rw [if_pos (by simpa using hq), ← List.map_append]; rfl
theorem u_ext {M' : Mem} {n : Nat} {c : Ec A} {xs ys zs : List A} (hn : gm M n = some (cl c xs)) (r : Lt d M c ys) (h : tcat xs ys = some zs) (hM : M.set n (cl c zs) = M') : gIExt (.ref n) d M = some (.ref n, M') := by
  subst hM
  obtain ⟨hq, rfl⟩ := tcat_ok h
  unfold gIExt
  rw [ml_at hn, Option.bind_some, r.lt, Option.bind_some]
  simp only [List.length_map]
  rw [if_pos hq, ← List.map_append]; rfl
end
end TL
namespace TL
open PySem PySem.Spec PyProof.Rows L2 PF
variable {A B C S A' B' C' E : Type}
/-! ### loops -/
section
variable {ρ : Rho} {M M1 : Mem} {Q : Out → Mem → Prop} {k fb : FS} {fi : FI} {t : FG} {cA : Ec A} {xs : List A} {kk : Option Nat} {c : Mem → Bool} {R : S → Rho → Mem → Prop} {QR : E → D → Mem → Prop}
def BQ0 (R : S → Rho → Mem → Prop) (s' : S) : Out → Mem → Prop := fun o M' => match o with
  | .nx ρ' => R s' ρ' M'
  | .ct ρ' => R s' ρ' M'
  | _ => False
def BQr (R : S → Rho → Mem → Prop) (QR : E → D → Mem → Prop) (r : Ex E S) : Out → Mem → Prop := fun o M' => match o with
  | .nx ρ' => ∃ s', Ex.go s' = r ∧ R s' ρ' M'
  | .ct ρ' => ∃ s', Ex.go s' = r ∧ R s' ρ' M'
  | .ret d => ∃ e, Ex.ex e = r ∧ QR e d M'
  | _ => False
def BQb (R : S → Rho → Mem → Prop) (r : Ex S S) : Out → Mem → Prop := fun o M' => match o with
  | .nx ρ' => ∃ s', Ex.go s' = r ∧ R s' ρ' M'
  | .ct ρ' => ∃ s', Ex.go s' = r ∧ R s' ρ' M'
  | .bk ρ' => ∃ s', Ex.ex s' = r ∧ R s' ρ' M'
  | _ => False
def BQx (R : S → Rho → Mem → Prop) (QR : E → D → Mem → Prop) (r : Ex (Ex E S) S) : Out → Mem → Prop := fun o M' => match o with
  | .nx ρ' => ∃ s', Ex.go s' = r ∧ R s' ρ' M'
  | .ct ρ' => ∃ s', Ex.go s' = r ∧ R s' ρ' M'
  | .bk ρ' => ∃ s', Ex.ex (Ex.go s') = r ∧ R s' ρ' M'
  | .ret d => ∃ e, Ex.ex (Ex.ex e) = r ∧ QR e d M'
theorem e_0 {s' : S} (h : R s' ρ M) : BQ0 R s' (.nx ρ) M := h
theorem c_0 {s' : S} (h : R s' ρ M) : BQ0 R s' (.ct ρ) M := h
theorem e_r (s' : S) (h : R s' ρ M) : BQr R QR (.go s') (.nx ρ) M := ⟨s', rfl, h⟩
theorem c_r (s' : S) (h : R s' ρ M) : BQr R QR (.go s') (.ct ρ) M := ⟨s', rfl, h⟩
theorem r_r {e : E} {d : D} (h : QR e d M) : BQr R QR (.ex e) (.ret d) M := ⟨e, rfl, h⟩
theorem e_b (s' : S) (h : R s' ρ M) : BQb R (.go s') (.nx ρ) M := ⟨s', rfl, h⟩
theorem c_b (s' : S) (h : R s' ρ M) : BQb R (.go s') (.ct ρ) M := ⟨s', rfl, h⟩
theorem b_b (s' : S) (h : R s' ρ M) : BQb R (.ex s') (.bk ρ) M := ⟨s', rfl, h⟩
theorem e_x (s' : S) (h : R s' ρ M) : BQx R QR (.go s') (.nx ρ) M := ⟨s', rfl, h⟩
theorem c_x (s' : S) (h : R s' ρ M) : BQx R QR (.go s') (.ct ρ) M := ⟨s', rfl, h⟩
theorem b_x (s' : S) (h : R s' ρ M) : BQx R QR (.ex (.go s')) (.bk ρ) M := ⟨s', rfl, h⟩
theorem r_x {e : E} {d : D} (h : QR e d M) : BQx R QR (.ex (.ex e)) (.ret d) M := ⟨e, rfl, h⟩
theorem w_stp {d : D} {ρ' : Rho} (ht : t d ρ = some ρ') (h : WP fb ρ' M Q) : WP (sStep t fb d) ρ M Q := by
  obtain ⟨o, M', e, q⟩ := h
  exact ⟨o, M', by rw [ev_step, ht]; exact e, q⟩
theorem lp0 {f : A → S → Option S} {step : D → FS} (hc : ∀ s ρ M, R s ρ M → c M = true) (hs : ∀ a s s' ρ M, f a s = some s' → R s ρ M → WP (step (cA.e a)) ρ M (BQ0 R s')) :
    ∀ (xs : List A) (s s' : S) (ρ : Rho) (M : Mem), tfold f xs s = some s' → R s ρ M → ∃ ρ' M', sLoop c step (xs.map cA.e) ρ M = some (.nx ρ', M') ∧ R s' ρ' M'
  | [], s, s', ρ, M, h, h0 => by cases h; exact ⟨ρ, M, by rw [List.map_nil, sLoop, if_pos (hc _ _ _ h0)], h0⟩
  | a :: xs, s, s', ρ, M, h, h0 => by
    obtain ⟨s1, h1, h2⟩ := bnd h
    obtain ⟨o, M1, e, q⟩ := hs a s s1 ρ M h1 h0
    cases o with
    | nx ρ1 =>
      obtain ⟨ρ2, M2, e2, q2⟩ := lp0 hc hs xs s1 s' ρ1 M1 h2 q
      exact ⟨ρ2, M2, by rw [List.map_cons, sLoop, if_pos (hc _ _ _ h0), e]; exact e2, q2⟩
    | ct ρ1 =>
      obtain ⟨ρ2, M2, e2, q2⟩ := lp0 hc hs xs s1 s' ρ1 M1 h2 q
      exact ⟨ρ2, M2, by rw [List.map_cons, sLoop, if_pos (hc _ _ _ h0), e]; exact e2, q2⟩
    | bk _ => exact q.elim
    | ret _ => exact q.elim
theorem w_fold (R : S → Rho → Mem → Prop) {f : A → S → Option S} {s s' : S} (hi : fi ρ M = some ((xs.map cA.e, kk), M1)) (h : tfold f xs s = some s') (h0 : R s ρ M1) (hc : ∀ s ρ M, R s ρ M → chk kk (xs.map cA.e) M = true)
    (step : ∀ a s s' ρ M, f a s = some s' → R s ρ M → WP (sStep t fb (cA.e a)) ρ M (BQ0 R s')) (K : ∀ ρ' M', R s' ρ' M' → WP k ρ' M' Q) : WP (sSeq (sFor fi t fb) k) ρ M Q := by
  obtain ⟨ρ', M', e, q⟩ := lp0 (c := chk kk (xs.map cA.e)) hc step xs s s' ρ M1 h h0
  exact w_step (by rw [ev_for, hi]; exact e) (K ρ' M' q)
theorem lpr {f : A → S → Option (Ex E S)} {step : D → FS} (hc : ∀ s ρ M, R s ρ M → c M = true) (hs : ∀ a s r ρ M, f a s = some r → R s ρ M → WP (step (cA.e a)) ρ M (BQr R QR r)) :
    ∀ (xs : List A) (s : S) (r : Ex E S) (ρ : Rho) (M : Mem), tforr f xs s = some r → R s ρ M → ∃ o M', sLoop c step (xs.map cA.e) ρ M = some (o, M') ∧ match o with | .nx ρ' => ∃ s', Ex.go s' = r ∧ R s' ρ' M' | .ret d => ∃ e, Ex.ex e = r ∧ QR e d M' | _ => False
  | [], s, r, ρ, M, h, h0 => by cases h; exact ⟨.nx ρ, M, by rw [List.map_nil, sLoop, if_pos (hc _ _ _ h0)], s, rfl, h0⟩
  | a :: xs, s, r, ρ, M, h, h0 => by
    obtain ⟨r1, h1, h2⟩ := bnd h
    obtain ⟨o, M1, e, q⟩ := hs a s r1 ρ M h1 h0
    cases o with
    | nx ρ1 =>
      obtain ⟨s1, rfl, q⟩ := q
      obtain ⟨o2, M2, e2, q2⟩ := lpr hc hs xs s1 r ρ1 M1 h2 q
      exact ⟨o2, M2, by rw [List.map_cons, sLoop, if_pos (hc _ _ _ h0), e]; exact e2, q2⟩
    | ct ρ1 =>
      obtain ⟨s1, rfl, q⟩ := q
      obtain ⟨o2, M2, e2, q2⟩ := lpr hc hs xs s1 r ρ1 M1 h2 q
      exact ⟨o2, M2, by rw [List.map_cons, sLoop, if_pos (hc _ _ _ h0), e]; exact e2, q2⟩
    | bk _ => exact q.elim
    | ret d =>
      obtain ⟨x, rfl, q⟩ := q
      cases h2
      exact ⟨.ret d, M1, by rw [List.map_cons, sLoop, if_pos (hc _ _ _ h0), e]; rfl, x, rfl, q⟩
theorem w_forr (R : S → Rho → Mem → Prop) (QR : E → D → Mem → Prop) {f : A → S → Option (Ex E S)} {s : S} {r : Ex E S} (hi : fi ρ M = some ((xs.map cA.e, kk), M1)) (h : tforr f xs s = some r) (h0 : R s ρ M1) (hc : ∀ s ρ M, R s ρ M → chk kk (xs.map cA.e) M = true)
    (step : ∀ a s r ρ M, f a s = some r → R s ρ M → WP (sStep t fb (cA.e a)) ρ M (BQr R QR r)) (KR : ∀ e d M', Ex.ex e = r → QR e d M' → Q (.ret d) M') (K : ∀ s' ρ' M', Ex.go s' = r → R s' ρ' M' → WP k ρ' M' Q) : WP (sSeq (sFor fi t fb) k) ρ M Q := by
  obtain ⟨o, M', e, q⟩ := lpr (c := chk kk (xs.map cA.e)) hc step xs s r ρ M1 h h0
  have e' : sFor fi t fb ρ M = some (o, M') := by rw [ev_for, hi]; exact e
  cases o with
  | nx ρ' => obtain ⟨s', h1, h2⟩ := q; exact w_step e' (K s' ρ' M' h1 h2)
  | ret d => obtain ⟨x, h1, h2⟩ := q; exact ⟨.ret d, M', by rw [ev_seq, e']; rfl, KR x d M' h1 h2⟩
  | bk _ => exact q.elim
  | ct _ => exact q.elim
theorem lpb {f : A → S → Option (Ex S S)} {step : D → FS} (hc : ∀ s ρ M, R s ρ M → c M = true) (hs : ∀ a s r ρ M, f a s = some r → R s ρ M → WP (step (cA.e a)) ρ M (BQb R r)) :
    ∀ (xs : List A) (s s' : S) (ρ : Rho) (M : Mem), tforb f xs s = some s' → R s ρ M → ∃ ρ' M', sLoop c step (xs.map cA.e) ρ M = some (.nx ρ', M') ∧ R s' ρ' M'
  | [], s, r, ρ, M, h, h0 => by cases h; exact ⟨ρ, M, by rw [List.map_nil, sLoop, if_pos (hc _ _ _ h0)], h0⟩
  | a :: xs, s, r, ρ, M, h, h0 => by
    obtain ⟨r1, h1, h2⟩ := bnd h
    obtain ⟨o, M1, e, q⟩ := hs a s r1 ρ M h1 h0
    cases o with
    | nx ρ1 =>
      obtain ⟨s1, rfl, q⟩ := q
      obtain ⟨o2, M2, e2, q2⟩ := lpb hc hs xs s1 r ρ1 M1 h2 q
      exact ⟨o2, M2, by rw [List.map_cons, sLoop, if_pos (hc _ _ _ h0), e]; exact e2, q2⟩
    | ct ρ1 =>
      obtain ⟨s1, rfl, q⟩ := q
      obtain ⟨o2, M2, e2, q2⟩ := lpb hc hs xs s1 r ρ1 M1 h2 q
      exact ⟨o2, M2, by rw [List.map_cons, sLoop, if_pos (hc _ _ _ h0), e]; exact e2, q2⟩
    | bk ρ1 =>
      obtain ⟨s1, rfl, q⟩ := q
      cases h2
      exact ⟨ρ1, M1, by rw [List.map_cons, sLoop, if_pos (hc _ _ _ h0), e]; rfl, q⟩
    | ret _ => exact q.elim
theorem w_forb (R : S → Rho → Mem → Prop) {f : A → S → Option (Ex S S)} {s s' : S} (hi : fi ρ M = some ((xs.map cA.e, kk), M1)) (h : tforb f xs s = some s') (h0 : R s ρ M1) (hc : ∀ s ρ M, R s ρ M → chk kk (xs.map cA.e) M = true)
    (step : ∀ a s r ρ M, f a s = some r → R s ρ M → WP (sStep t fb (cA.e a)) ρ M (BQb R r)) (K : ∀ ρ' M', R s' ρ' M' → WP k ρ' M' Q) : WP (sSeq (sFor fi t fb) k) ρ M Q := by
  obtain ⟨ρ', M', e, q⟩ := lpb (c := chk kk (xs.map cA.e)) hc step xs s s' ρ M1 h h0
  exact w_step (by rw [ev_for, hi]; exact e) (K ρ' M' q)
theorem lpx {f : A → S → Option (Ex (Ex E S) S)} {step : D → FS} (hc : ∀ s ρ M, R s ρ M → c M = true) (hs : ∀ a s r ρ M, f a s = some r → R s ρ M → WP (step (cA.e a)) ρ M (BQx R QR r)) :
    ∀ (xs : List A) (s : S) (r : Ex E S) (ρ : Rho) (M : Mem), tforx f xs s = some r → R s ρ M → ∃ o M', sLoop c step (xs.map cA.e) ρ M = some (o, M') ∧ match o with | .nx ρ' => ∃ s', Ex.go s' = r ∧ R s' ρ' M' | .ret d => ∃ e, Ex.ex e = r ∧ QR e d M' | _ => False
  | [], s, r, ρ, M, h, h0 => by cases h; exact ⟨.nx ρ, M, by rw [List.map_nil, sLoop, if_pos (hc _ _ _ h0)], s, rfl, h0⟩
  | a :: xs, s, r, ρ, M, h, h0 => by
    obtain ⟨r1, h1, h2⟩ := bnd h
    obtain ⟨o, M1, e, q⟩ := hs a s r1 ρ M h1 h0
    cases o with
    | nx ρ1 =>
      obtain ⟨s1, rfl, q⟩ := q
      obtain ⟨o2, M2, e2, q2⟩ := lpx hc hs xs s1 r ρ1 M1 h2 q
      exact ⟨o2, M2, by rw [List.map_cons, sLoop, if_pos (hc _ _ _ h0), e]; exact e2, q2⟩
    | ct ρ1 =>
      obtain ⟨s1, rfl, q⟩ := q
      obtain ⟨o2, M2, e2, q2⟩ := lpx hc hs xs s1 r ρ1 M1 h2 q
      exact ⟨o2, M2, by rw [List.map_cons, sLoop, if_pos (hc _ _ _ h0), e]; exact e2, q2⟩
    | bk ρ1 =>
      obtain ⟨s1, rfl, q⟩ := q
      cases h2
      exact ⟨.nx ρ1, M1, by rw [List.map_cons, sLoop, if_pos (hc _ _ _ h0), e]; rfl, s1, rfl, q⟩
    | ret d =>
      obtain ⟨x, rfl, q⟩ := q
      cases h2
      exact ⟨.ret d, M1, by rw [List.map_cons, sLoop, if_pos (hc _ _ _ h0), e]; rfl, x, rfl, q⟩
theorem w_forx (R : S → Rho → Mem → Prop) (QR : E → D → Mem → Prop) {f : A → S → Option (Ex (Ex E S) S)} {s : S} {r : Ex E S} (hi : fi ρ M = some ((xs.map cA.e, kk), M1)) (h : tforx f xs s = some r) (h0 : R s ρ M1) (hc : ∀ s ρ M, R s ρ M → chk kk (xs.map cA.e) M = true)
    (step : ∀ a s r ρ M, f a s = some r → R s ρ M → WP (sStep t fb (cA.e a)) ρ M (BQx R QR r)) (KR : ∀ e d M', Ex.ex e = r → QR e d M' → Q (.ret d) M') (K : ∀ s' ρ' M', Ex.go s' = r → R s' ρ' M' → WP k ρ' M' Q) : WP (sSeq (sFor fi t fb) k) ρ M Q := by
  obtain ⟨o, M', e, q⟩ := lpx (c := chk kk (xs.map cA.e)) hc step xs s r ρ M1 h h0
  have e' : sFor fi t fb ρ M = some (o, M') := by rw [ev_for, hi]; exact e
  cases o with
  | nx ρ' => obtain ⟨s', h1, h2⟩ := q; exact w_step e' (K s' ρ' M' h1 h2)
  | ret d => obtain ⟨x, h1, h2⟩ := q; exact ⟨.ret d, M', by rw [ev_seq, e']; rfl, KR x d M' h1 h2⟩
  | bk _ => exact q.elim
  | ct _ => exact q.elim
/-! while -/
variable {fc : FT}
theorem whx {f : S → Option (Ex (Ex E S) S)} {cc : S → Option Bool} (hcc : ∀ s b ρ M, cc s = some b → R s ρ M → fc ρ M = some (b, M)) (hs : ∀ s r ρ M, f s = some r → R s ρ M → WP fb ρ M (BQx R QR r)) :
    ∀ (n m : Nat) (s : S) (r : Ex E S) (ρ : Rho) (M : Mem), n ≤ m → twhx cc f n s = some r → R s ρ M → ∃ o M', sWhileN fc fb m ρ M = some (o, M') ∧ match o with | .nx ρ' => ∃ s', Ex.go s' = r ∧ R s' ρ' M' | .ret d => ∃ e, Ex.ex e = r ∧ QR e d M' | _ => False
  | 0, _, s, r, ρ, M, _, h, h0 => by cases h
  | n + 1, 0, s, r, ρ, M, hm, h, h0 => by omega
  | n + 1, m + 1, s, r, ρ, M, hm, h, h0 => by
    obtain ⟨b, hb, h⟩ := bnd h
    have e0 := hcc s b ρ M hb h0
    cases b with
    | false =>
      rw [if_neg Bool.false_ne_true] at h
      cases h
      exact ⟨.nx ρ, M, by rw [sWhileN, e0]; rfl, s, rfl, h0⟩
    | true =>
      rw [if_pos rfl] at h
      obtain ⟨r1, h1, h2⟩ := bnd h
      obtain ⟨o, M1, e, q⟩ := hs s r1 ρ M h1 h0
      cases o with
      | nx ρ1 =>
        obtain ⟨s1, rfl, q⟩ := q
        obtain ⟨o2, M2, e2, q2⟩ := whx hcc hs n m s1 r ρ1 M1 (by omega) h2 q
        exact ⟨o2, M2, by rw [sWhileN, e0, Option.bind_some, if_pos rfl]; simp only []; rw [e]; exact e2, q2⟩
      | ct ρ1 =>
        obtain ⟨s1, rfl, q⟩ := q
        obtain ⟨o2, M2, e2, q2⟩ := whx hcc hs n m s1 r ρ1 M1 (by omega) h2 q
        exact ⟨o2, M2, by rw [sWhileN, e0, Option.bind_some, if_pos rfl]; simp only []; rw [e]; exact e2, q2⟩
      | bk ρ1 =>
        obtain ⟨s1, rfl, q⟩ := q
        cases h2
        exact ⟨.nx ρ1, M1, by rw [sWhileN, e0, Option.bind_some, if_pos rfl]; simp only []; rw [e]; rfl, s1, rfl, q⟩
      | ret d =>
        obtain ⟨x, rfl, q⟩ := q
        cases h2
        exact ⟨.ret d, M1, by rw [sWhileN, e0, Option.bind_some, if_pos rfl]; simp only []; rw [e]; rfl, x, rfl, q⟩
theorem fuel_ge (ρ : Rho) (M : Mem) : FUEL ≤ fuel ρ M := fuel_big ρ M
theorem w_whx (R : S → Rho → Mem → Prop) (QR : E → D → Mem → Prop) {f : S → Option (Ex (Ex E S) S)} {cc : S → Option Bool} {s : S} {r : Ex E S} (h : twhx cc f FUEL s = some r) (h0 : R s ρ M) (hcc : ∀ s b ρ M, cc s = some b → R s ρ M → fc ρ M = some (b, M))
    (step : ∀ s r ρ M, f s = some r → R s ρ M → WP fb ρ M (BQx R QR r)) (KR : ∀ e d M', Ex.ex e = r → QR e d M' → Q (.ret d) M') (K : ∀ s' ρ' M', Ex.go s' = r → R s' ρ' M' → WP k ρ' M' Q) : WP (sSeq (sWhile fc fb) k) ρ M Q := by
  obtain ⟨o, M', e, q⟩ := whx hcc step FUEL (fuel ρ M) s r ρ M (fuel_ge ρ M) h h0
  have e' : sWhile fc fb ρ M = some (o, M') := e
  cases o with
  | nx ρ' => obtain ⟨s', h1, h2⟩ := q; exact w_step e' (K s' ρ' M' h1 h2)
  | ret d => obtain ⟨x, h1, h2⟩ := q; exact ⟨.ret d, M', by rw [ev_seq, e']; rfl, KR x d M' h1 h2⟩
  | bk _ => exact q.elim
  | ct _ => exact q.elim
theorem twhr_x {f : S → Option (Ex E S)} {cc : S → Option Bool} : ∀ (n : Nat) (s : S), twhx cc (fun s => (f s).map fun r => match r with | .ex e => Ex.ex (Ex.ex e) | .go b => Ex.go b) n s = twhr cc f n s
  | 0, _ => rfl
  | n + 1, s => by
    show (cc s).bind _ = (cc s).bind _
    congr 1; funext b
    cases b
    · rfl
    · simp only [if_true]
      cases f s with
      | none => rfl
      | some r => cases r with
        | ex e => rfl
        | go b => exact twhr_x n b
theorem w_whr (R : S → Rho → Mem → Prop) (QR : E → D → Mem → Prop) {f : S → Option (Ex E S)} {cc : S → Option Bool} {s : S} {r : Ex E S} (h : twhr cc f FUEL s = some r) (h0 : R s ρ M) (hcc : ∀ s b ρ M, cc s = some b → R s ρ M → fc ρ M = some (b, M))
    (step : ∀ s r ρ M, f s = some r → R s ρ M → WP fb ρ M (BQr R QR r)) (KR : ∀ e d M', Ex.ex e = r → QR e d M' → Q (.ret d) M') (K : ∀ s' ρ' M', Ex.go s' = r → R s' ρ' M' → WP k ρ' M' Q) : WP (sSeq (sWhile fc fb) k) ρ M Q :=
  w_whx R QR ((twhr_x FUEL s).trans h) h0 hcc (fun s r1 ρ M hf hR => by
    obtain ⟨r0, h1, rfl⟩ := Option.map_eq_some_iff.mp hf
    obtain ⟨o, M', e, q⟩ := step s r0 ρ M h1 hR
    refine ⟨o, M', e, ?_⟩
    cases o with
    | nx _ => obtain ⟨s', rfl, q⟩ := q; exact ⟨s', rfl, q⟩
    | ct _ => obtain ⟨s', rfl, q⟩ := q; exact ⟨s', rfl, q⟩
    | bk _ => exact q.elim
    | ret d => obtain ⟨x, rfl, q⟩ := q; exact ⟨x, rfl, q⟩) KR K
theorem twh_x {f : S → Option S} {cc : S → Option Bool} : ∀ (n : Nat) (s : S), twhx (E := Unit) cc (fun s => (f s).map fun b => Ex.go b) n s = (twh cc f n s).map Ex.go
  | 0, _ => rfl
  | n + 1, s => by
    show (cc s).bind _ = ((cc s).bind _).map Ex.go
    cases cc s with
    | none => rfl
    | some b =>
      cases b
      · rfl
      · simp only [if_true, Option.bind_some]
        cases f s with
        | none => rfl
        | some r => exact twh_x n r
theorem w_wh (R : S → Rho → Mem → Prop) {f : S → Option S} {cc : S → Option Bool} {s s' : S} (h : twh cc f FUEL s = some s') (h0 : R s ρ M) (hcc : ∀ s b ρ M, cc s = some b → R s ρ M → fc ρ M = some (b, M))
    (step : ∀ s s' ρ M, f s = some s' → R s ρ M → WP fb ρ M (BQ0 R s')) (K : ∀ ρ' M', R s' ρ' M' → WP k ρ' M' Q) : WP (sSeq (sWhile fc fb) k) ρ M Q :=
  w_whx (E := Unit) R (fun _ _ _ => False) (r := .go s') ((twh_x FUEL s).trans (by rw [h]; rfl)) h0 hcc (fun s r1 ρ M hf hR => by
    obtain ⟨r0, h1, rfl⟩ := Option.map_eq_some_iff.mp hf
    obtain ⟨o, M', e, q⟩ := step s r0 ρ M h1 hR
    refine ⟨o, M', e, ?_⟩
    cases o with
    | nx _ => exact ⟨_, rfl, q⟩
    | ct _ => exact ⟨_, rfl, q⟩
    | bk _ => exact q.elim
    | ret d => exact q.elim) (fun _ _ _ _ h => h.elim) fun s1 ρ' M' e q => by cases e; exact K ρ' M' q
theorem twhb_x {f : S → Option (Ex S S)} {cc : S → Option Bool} : ∀ (n : Nat) (s : S), twhx (E := Unit) cc (fun s => (f s).map fun r => match r with | .ex b => Ex.ex (Ex.go b) | .go b => Ex.go b) n s = (twhb cc f n s).map Ex.go
  | 0, _ => rfl
  | n + 1, s => by
    show (cc s).bind _ = ((cc s).bind _).map Ex.go
    cases cc s with
    | none => rfl
    | some b =>
      cases b
      · rfl
      · simp only [if_true, Option.bind_some]
        cases f s with
        | none => rfl
        | some r => cases r with
          | ex b => rfl
          | go b => exact twhb_x n b
theorem w_whb (R : S → Rho → Mem → Prop) {f : S → Option (Ex S S)} {cc : S → Option Bool} {s s' : S} (h : twhb cc f FUEL s = some s') (h0 : R s ρ M) (hcc : ∀ s b ρ M, cc s = some b → R s ρ M → fc ρ M = some (b, M))
    (step : ∀ s r ρ M, f s = some r → R s ρ M → WP fb ρ M (BQb R r)) (K : ∀ ρ' M', R s' ρ' M' → WP k ρ' M' Q) : WP (sSeq (sWhile fc fb) k) ρ M Q :=
  w_whx (E := Unit) R (fun _ _ _ => False) (r := .go s') ((twhb_x FUEL s).trans (by rw [h]; rfl)) h0 hcc (fun s r1 ρ M hf hR => by
    obtain ⟨r0, h1, rfl⟩ := Option.map_eq_some_iff.mp hf
    obtain ⟨o, M', e, q⟩ := step s r0 ρ M h1 hR
    refine ⟨o, M', e, ?_⟩
    cases o with
    | nx _ => obtain ⟨s', rfl, q⟩ := q; exact ⟨s', rfl, q⟩
    | ct _ => obtain ⟨s', rfl, q⟩ := q; exact ⟨s', rfl, q⟩
    | bk _ => obtain ⟨s', rfl, q⟩ := q; exact ⟨s', rfl, q⟩
    | ret d => exact q.elim) (fun _ _ _ _ h => h.elim) fun s1 ρ' M' e q => by cases e; exact K ρ' M' q
end
/-! ### a body whose own lists are frozen at its end -/
section
variable {ρ : Rho} {M M1 : Mem} {Q : Out → Mem → Prop} {f : FS}
theorem fe_v {m : Nat} {d : D} (h : d.nr = true) : frE m M1 d = some d := by
  cases d with
  | ref _ => cases h
  | non => rfl
  | bl _ => rfl
  | int _ => rfl
  | str _ => rfl
  | tup _ => exact if_pos h
  | lst _ => exact if_pos h
  | kst _ => exact if_pos h
theorem fl_v {m : Nat} : ∀ {l : List D}, D.nrs l = true → frL m M1 l = some l
  | [], _ => rfl
  | d :: l, h => by
    rw [D.nrs, Bool.and_eq_true] at h
    show (frE m M1 d).bind _ = _
    rw [fe_v h.1, Option.bind_some, fl_v h.2]; rfl
theorem fm_cl {m : Nat} {c : Ec A} {xs : List A} {ms ns : Mem} (h : frMs m M1 ms = some ns) : frMs m M1 (cl c xs :: ms) = some (cl c xs :: ns) := by
  show (frL m M1 (xs.map c.e)).bind (fun ys => (frMs m M1 ms).bind fun ns => some (.lst ys :: ns)) = _
  rw [fl_v (nrs_map c.nr xs), Option.bind_some, h]; rfl
theorem fm_n {m : Nat} : frMs m M1 [] = some [] := rfl
/-- the slots behind it, one by one -/
def FrS (m : Nat) (M1 : Mem) (ρ ρ' : Rho) : Prop := frS m M1 ρ = ρ'
theorem fs_n {m : Nat} : FrS m M1 [] [] := rfl
theorem fs_c {m : Nat} {c : Ec A} {a : A} {ρ ρ' : Rho} (h : FrS m M1 ρ ρ') : FrS m M1 (some (c.e a) :: ρ) (some (c.e a) :: ρ') := by
  show frE m M1 (c.e a) :: frS m M1 ρ = _
  rw [fe_v (c.nr a)]; unfold FrS at h; rw [h]
theorem fs_o {m : Nat} {n : Nat} {ρ ρ' : Rho} (hn : Nat.blt n m = true) (h : FrS m M1 ρ ρ') : FrS m M1 (some (.ref n) :: ρ) (some (.ref n) :: ρ') := by
  show frE m M1 (.ref n) :: frS m M1 ρ = _
  have : n < m := Nat.le_of_ble_eq_true hn
  rw [show frE m M1 (.ref n) = some (.ref n) from if_pos this]; unfold FrS at h; rw [h]
theorem fs_r {m : Nat} {c : Ec A} {xs : List A} {n : Nat} {ρ ρ' : Rho} (hn : Nat.blt n m = false) (hm : gm M1 n = some (cl c xs)) (h : FrS m M1 ρ ρ') : FrS m M1 (some (.ref n) :: ρ) (some ((eL c).e xs) :: ρ') := by
  show frE m M1 (.ref n) :: frS m M1 ρ = _
  have hlt : ¬ n < m := fun z => by
    have z2 : Nat.blt n m = true := Nat.ble_eq_true_of_le z
    rw [hn] at z2; cases z2
  have e : frE m M1 (.ref n) = some ((eL c).e xs) := by
    show (if n < m then some (D.ref n) else match M1[n]? with
      | some (.lst xs) => if D.nrs xs = true then some (D.lst xs) else none
      | none => none) = _
    rw [if_neg hlt, gm_at hm]
    exact if_pos (nrs_map c.nr xs)
  rw [e]; unfold FrS at h; rw [h]
/-- a slot that nobody reads behind it -/
theorem fs_j {m : Nat} {o : Option D} {ρ ρ' : Rho} (h : FrS m M1 ρ ρ') : FrS m M1 (o :: ρ) ((o.bind fun d => frE m M1 d) :: ρ') := by
  show _ :: frS m M1 ρ = _
  unfold FrS at h; rw [h]
/-- what the body leaves, with its own lists frozen -/
def FZ (m : Nat) (Q : Out → Mem → Prop) : Out → Mem → Prop := fun o M1 => match o with
  | .nx ρ1 => ∃ ρ2 M2, FrS m M1 ρ1 ρ2 ∧ frMs m M1 (M1.take m) = some M2 ∧ Q (.nx ρ2) M2
  | .bk ρ1 => ∃ ρ2 M2, FrS m M1 ρ1 ρ2 ∧ frMs m M1 (M1.take m) = some M2 ∧ Q (.bk ρ2) M2
  | .ct ρ1 => ∃ ρ2 M2, FrS m M1 ρ1 ρ2 ∧ frMs m M1 (M1.take m) = some M2 ∧ Q (.ct ρ2) M2
  | .ret d => ∃ e M2, frE m M1 d = some e ∧ frMs m M1 (M1.take m) = some M2 ∧ Q (.ret e) M2
theorem z_nx {m : Nat} {ρ1 ρ2 : Rho} {M2 : Mem} (h1 : FrS m M1 ρ1 ρ2) (h2 : frMs m M1 (M1.take m) = some M2) (q : Q (.nx ρ2) M2) : FZ m Q (.nx ρ1) M1 := ⟨ρ2, M2, h1, h2, q⟩
theorem z_bk {m : Nat} {ρ1 ρ2 : Rho} {M2 : Mem} (h1 : FrS m M1 ρ1 ρ2) (h2 : frMs m M1 (M1.take m) = some M2) (q : Q (.bk ρ2) M2) : FZ m Q (.bk ρ1) M1 := ⟨ρ2, M2, h1, h2, q⟩
theorem z_ct {m : Nat} {ρ1 ρ2 : Rho} {M2 : Mem} (h1 : FrS m M1 ρ1 ρ2) (h2 : frMs m M1 (M1.take m) = some M2) (q : Q (.ct ρ2) M2) : FZ m Q (.ct ρ1) M1 := ⟨ρ2, M2, h1, h2, q⟩
theorem z_rt {m : Nat} {d e : D} {M2 : Mem} (h1 : frE m M1 d = some e) (h2 : frMs m M1 (M1.take m) = some M2) (q : Q (.ret e) M2) : FZ m Q (.ret d) M1 := ⟨e, M2, h1, h2, q⟩
theorem fe_c {m : Nat} (c : Ec A) (a : A) : frE m M1 (c.e a) = some (c.e a) := fe_v (c.nr a)
theorem fe_r {m : Nat} {c : Ec A} {xs : List A} {n : Nat} (hn : Nat.blt n m = false) (hm : gm M1 n = some (cl c xs)) : frE m M1 (.ref n) = some ((eL c).e xs) := by
  have h := fs_r (ρ := []) (ρ' := []) hn hm rfl
  exact List.head_eq_of_cons_eq h
theorem w_blk (h : WP (sSeq f sNext) ρ M (FZ M.length Q)) : WP (sBlk f) ρ M Q := by
  obtain ⟨o, M1, e, q⟩ := w_add h
  cases o with
  | nx ρ1 => obtain ⟨ρ2, M2, h1, h2, q⟩ := q; exact ⟨.nx ρ2, M2, by unfold sBlk; rw [e, Option.bind_some]; simp only []; rw [h2]; unfold FrS at h1; rw [← h1]; rfl, q⟩
  | bk ρ1 => obtain ⟨ρ2, M2, h1, h2, q⟩ := q; exact ⟨.bk ρ2, M2, by unfold sBlk; rw [e, Option.bind_some]; simp only []; rw [h2]; unfold FrS at h1; rw [← h1]; rfl, q⟩
  | ct ρ1 => obtain ⟨ρ2, M2, h1, h2, q⟩ := q; exact ⟨.ct ρ2, M2, by unfold sBlk; rw [e, Option.bind_some]; simp only []; rw [h2]; unfold FrS at h1; rw [← h1]; rfl, q⟩
  | ret d => obtain ⟨e', M2, h1, h2, q⟩ := q; exact ⟨.ret e', M2, by unfold sBlk; rw [e, Option.bind_some]; simp only []; rw [h2, Option.bind_some]; rw [h1]; rfl, q⟩
end
end TL
namespace TL
open PySem PySem.Spec PyProof.Rows L2 PF
variable {A B C S A' B' C' E : Type}
/-! ### one type seen as another -/
theorem co_O {c : Ec A} {c' : Ec B} {f : A → B} (h : ∀ a, c'.e (f a) = c.e a) (o : Option A) : (eO c').e (o.map f) = (eO c).e o := by
  cases o with
  | none => rfl
  | some a => exact h a
theorem co_map {c : Ec A} {c' : Ec B} {f : A → B} (h : ∀ a, c'.e (f a) = c.e a) (xs : List A) : (xs.map f).map c'.e = xs.map c.e := by
  rw [List.map_map]; exact List.map_congr_left fun a _ => h a
theorem co_L {c : Ec A} {c' : Ec B} {f : A → B} (h : ∀ a, c'.e (f a) = c.e a) (xs : List A) : (eL c').e (xs.map f) = (eL c).e xs := by
  show D.lst _ = D.lst _
  rw [co_map h]
theorem co_V {c : Ec A} {c' : Ec B} {f : A → B} (h : ∀ a, c'.e (f a) = c.e a) (xs : List A) : (eV c').e (xs.map f) = (eV c).e xs := by
  show D.tup _ = D.tup _
  rw [co_map h]
def tv1 (xs : List A) : Option A := match xs with | [a] => some a | _ => none
def tv2 (xs : List A) : Option (A × A) := match xs with | [a, b] => some (a, b) | _ => none
def tv3 (xs : List A) : Option (A × A × A) := match xs with | [a, b, c] => some (a, b, c) | _ => none
def tv4 (xs : List A) : Option (A × A × A × A) := match xs with | [a, b, c, d] => some (a, b, c, d) | _ => none
section
variable {c : Ec A} {ρ : Rho} {M M1 : Mem} {fa : FE} {xs : List A}
theorem x_v1 {p : A} (h : fa ρ M = some ((eV c).e xs, M1)) (E : tv1 xs = some p) : fa ρ M = some ((e1 c).e p, M1) := by
  unfold tv1 at E; split at E
  · cases E; exact h
  · cases E
theorem x_v2 {p : A × A} (h : fa ρ M = some ((eV c).e xs, M1)) (E : tv2 xs = some p) : fa ρ M = some ((e2 c c).e p, M1) := by
  unfold tv2 at E; split at E
  · cases E; exact h
  · cases E
theorem x_v3 {p : A × A × A} (h : fa ρ M = some ((eV c).e xs, M1)) (E : tv3 xs = some p) : fa ρ M = some ((e3 c c c).e p, M1) := by
  unfold tv3 at E; split at E
  · cases E; exact h
  · cases E
theorem x_v4 {p : A × A × A × A} (h : fa ρ M = some ((eV c).e xs, M1)) (E : tv4 xs = some p) : fa ρ M = some ((e4 c c c c).e p, M1) := by
  unfold tv4 at E; split at E
  · cases E; exact h
  · cases E
theorem tall_map : ∀ {xs : List (Option A)} {ys : List A}, tall xs = some ys → xs.map (eO c).e = ys.map c.e
  | [], ys, h => by cases h; rfl
  | x :: xs, ys, h => by
    obtain ⟨a, ha, h⟩ := bnd h
    obtain ⟨as, has, h⟩ := bnd h
    cases h
    subst ha
    rw [List.map_cons, List.map_cons, tall_map has]; rfl
theorem x_allL {os : List (Option A)} (h : fa ρ M = some ((eL (eO c)).e os, M1)) (E : tall os = some xs) : fa ρ M = some ((eL c).e xs, M1) := by
  rw [h]; show some (D.lst _, M1) = some (D.lst _, M1); rw [tall_map E]
theorem x_allV {os : List (Option A)} (h : fa ρ M = some ((eV (eO c)).e os, M1)) (E : tall os = some xs) : fa ρ M = some ((eV c).e xs, M1) := by
  rw [h]; show some (D.tup _, M1) = some (D.tup _, M1); rw [tall_map E]
theorem x_allN {f : FA} {os : List (Option A)} (h : f ρ M = some (os.map (eO c).e, M1)) (E : tall os = some xs) : f ρ M = some (xs.map c.e, M1) := by
  rw [h, tall_map E]
theorem x_mutE {f : FA} {ys : List A} (h : f ρ M = some (xs.map c.e, M1)) (E : xs = ys) : fMut f ρ M = some (.ref M1.length, M1 ++ [cl c ys]) := by subst E; exact x_mut h
end
theorem pinj {a c : A} {b d : B} (h : some (a, b) = some (c, d)) : a = c ∧ b = d := by cases h; exact ⟨rfl, rfl⟩
theorem at3 {x0 x1 x2 x3 : A} {xs : List A} : L2.atI (x0 :: x1 :: x2 :: x3 :: xs) 3 = some x3 := at_nat (n := 3) rfl
theorem at4 {x0 x1 x2 x3 x4 : A} {xs : List A} : L2.atI (x0 :: x1 :: x2 :: x3 :: x4 :: xs) 4 = some x4 := at_nat (n := 4) rfl
theorem at5 {x0 x1 x2 x3 x4 x5 : A} {xs : List A} : L2.atI (x0 :: x1 :: x2 :: x3 :: x4 :: x5 :: xs) 5 = some x5 := at_nat (n := 5) rfl
theorem at6 {x0 x1 x2 x3 x4 x5 x6 : A} {xs : List A} : L2.atI (x0 :: x1 :: x2 :: x3 :: x4 :: x5 :: x6 :: xs) 6 = some x6 := at_nat (n := 6) rfl
theorem at0 {x0 : A} {xs : List A} : L2.atI (x0 :: xs) 0 = some x0 := at_nat (n := 0) rfl
theorem at1 {x0 x1 : A} {xs : List A} : L2.atI (x0 :: x1 :: xs) 1 = some x1 := at_nat (n := 1) rfl
theorem at2 {x0 x1 x2 : A} {xs : List A} : L2.atI (x0 :: x1 :: x2 :: xs) 2 = some x2 := at_nat (n := 2) rfl
/-! ### _law_same, of two things -/
def bsame (q : FnC) : FS := (sSeq (sIf (fTru (fIsi .bl (fVar 1)))
      (sRet (fAndV (fIsi .bl (fVar 0)) (f2 (gB (gEq)) (fVar 0) (fVar 1))))
      (sNext))
      (sSeq (sIf (fTru (fIsi .int (fVar 1)))
      (sRet (fAndV (fIsi .int (fVar 0)) (fAndV (fNotV (fIsi .bl (fVar 0))) (f2 (gB (gEq)) (fVar 0) (fVar 1)))))
      (sNext))
      (sSeq (sIf (fTru (fIsi .str (fVar 1)))
      (sRet (fAndV (fIsi .str (fVar 0)) (f2 (gB (gEq)) (fVar 0) (fVar 1))))
      (sNext))
      (sSeq (sIf (f2T (gIs) (fVar 1) (fC .non))
      (sRet (f2 (gB (gIs)) (fVar 0) (fC .non)))
      (sNext))
      (sSeq (sIf (fOr (fNot (fTru (fIsi .tup (fVar 0)))) (f2T (gNe) (fB gLen (fCons (fVar 0) (fNil))) (fB gLen (fCons (fVar 1) (fNil)))))
      (sRet (fC (.bl false)))
      (sNext))
      (sSeq (sFor (fiRg1 (fCons (fB gLen (fCons (fVar 1) (fNil))) (fNil))) (tN 2)
      (sIf (fNot (fTru (fCall q (fCons (f2 gIx (fVar 0) (fVar 2)) (fCons (f2 gIx (fVar 1) (fVar 2)) (fNil))))))
      (sRet (fC (.bl false)))
      (sNext)))
      (sRet (fC (.bl true)))))))))
end TL
namespace TL
open PySem PySem.Spec PyProof.Rows L2 PF
variable {A B C S A' B' C' E : Type}
theorem gm_l {L : Mem} : ∀ {M : Mem} {n : Nat} {mo : MO}, gm M n = some mo → gm (M ++ L) n = some mo
  | [], _, _, h => by cases h
  | _ :: _, 0, _, h => h
  | _ :: M, n + 1, _, h => gm_l (M := M) (n := n) h
theorem gm_end {mo : MO} : ∀ {M : Mem}, gm (M ++ [mo]) M.length = some mo
  | [] => rfl
  | _ :: M => gm_end (M := M)
theorem gm_st {x mo : MO} : ∀ {M : Mem} {i n : Nat}, i < n → gm M n = some mo → gm (M.set i x) n = some mo
  | [], _, _, _, h => by cases h
  | _ :: _, 0, 0, hi, _ => absurd hi (Nat.lt_irrefl _)
  | _ :: _, 0, _ + 1, _, h => h
  | _ :: _, _ + 1, 0, hi, _ => absurd hi (Nat.not_lt_zero _)
  | _ :: M, i + 1, n + 1, hi, h => gm_st (M := M) (Nat.lt_of_succ_lt_succ hi) h
theorem x_isi (T : Ty) {fa : FE} {ρ : Rho} {M M1 : Mem} {d : D} {b : Bool} (ha : fa ρ M = some (d, M1)) (h : isi (tyOf d) T = b) : fIsi T fa ρ M = some (eB.e b, M1) := by
  rw [ev_isi, ha, Option.bind_some]
  subst h; rfl
theorem x_isiO (T : Ty) {fa : FE} {ρ : Rho} {M M1 : Mem} {c : Ec A} {o : Option A} (ha : fa ρ M = some ((eO c).e o, M1)) (h : ∀ a, isi (tyOf (c.e a)) T = true) (hT : isi .non T = false := by rfl) : fIsi T fa ρ M = some (eB.e o.isSome, M1) := by
  refine x_isi T ha ?_
  cases o with
  | none => exact hT
  | some a => exact h a
theorem x_isiO0 (T : Ty) {fa : FE} {ρ : Rho} {M M1 : Mem} {c : Ec A} {o : Option A} (ha : fa ρ M = some ((eO c).e o, M1)) (h : ∀ a, isi (tyOf (c.e a)) T = false) (hT : isi .non T = false := by rfl) : fIsi T fa ρ M = some (eB.e false, M1) := by
  refine x_isi T ha ?_
  cases o with
  | none => exact hT
  | some a => exact h a
theorem x_repN {c : Ec A} {xs zs : List A} {j : Int} {fa fb : FE} {x : D} {ρ : Rho} {M M1 M2 : Mem} (ha : fa ρ M = some (x, M1)) (hb : fb ρ M1 = some (eI.e j, M2)) (l : Lt x M2 c xs) (h : trepL xs j = some zs) : f2N gRep fa fb ρ M = some (zs.map c.e, M2) := by
  obtain ⟨hq, rfl⟩ := trepL_ok h
  unfold f2N
  rw [ha, Option.bind_some]; simp only []; rw [hb, Option.bind_some]
  show (match ltOf x M2 with | some xs => if (decide (-(9223372036854775808) ≤ j) && (decide (j < 9223372036854775808) && decide (xs.length * j.toNat ≤ LINE))) = true then some (List.replicate j.toNat xs).flatten else none | none => none).bind _ = _
  rw [l.lt]
  simp only [List.length_map]
  rw [if_pos hq, flat_map]; rfl
theorem u_sub {a b : Int} {M : Mem} : gISub (eI.e a) (eI.e b) M = some (eI.e (a - b), M) := rfl
theorem u_mul {a b c : Int} {M : Mem} (h : tmul a b = some c) : gIMul (eI.e a) (eI.e b) M = some (eI.e c, M) := by
  show (if okMul a b = true then some (D.int (a * b), M) else none) = _
  unfold tmul at h
  split at h
  · rename_i q; rw [if_pos q]; cases h; rfl
  · cases h
theorem x_fzD {f : FA} {ρ : Rho} {M M1 : Mem} {ds : List D} (h : f ρ M = some (ds, M1)) (hl : Nat.ble ds.length 10000 = true) : fFz (fLstD f) ρ M = some (.lst ds, M1) := by
  rw [ev_fz, ev_lstD, h, Option.bind_some, if_pos (Nat.le_trans (Nat.le_of_ble_eq_true hl) (by decide))]; rfl
section
variable {c : Ec A} {ρ : Rho} {M M1 : Mem} {fa : FE} {xs : List A}
theorem x_l2 {p : A × A} (h : fa ρ M = some ((eL c).e xs, M1)) (E : tv2 xs = some p) : fa ρ M = some (.lst [c.e p.1, c.e p.2], M1) := by
  unfold tv2 at E; split at E
  · cases E; exact h
  · cases E
theorem x_l3 {p : A × A × A} (h : fa ρ M = some ((eL c).e xs, M1)) (E : tv3 xs = some p) : fa ρ M = some (.lst [c.e p.1, c.e p.2.1, c.e p.2.2], M1) := by
  unfold tv3 at E; split at E
  · cases E; exact h
  · cases E
theorem x_l4 {p : A × A × A × A} (h : fa ρ M = some ((eL c).e xs, M1)) (E : tv4 xs = some p) : fa ρ M = some (.lst [c.e p.1, c.e p.2.1, c.e p.2.2.1, c.e p.2.2.2], M1) := by
  unfold tv4 at E; split at E
  · cases E; exact h
  · cases E
end
theorem tf_all (xs : List A) : tfilt (fun _ => some true) xs = some xs := by rw [tfilt_some, List.filter_eq_self.mpr fun _ _ => rfl]
theorem u_eq {g : G2M} {x y : D} {c : Ec A} {a b : A} {M M1 : Mem} (h : g x y M = some (c.e a, M1)) (E : a = b) : g x y M = some (c.e b, M1) := by subst E; exact h
/-! ### _law_same -/
def okA (_ : A) : Bool := true
def okO (f : A → Bool) (o : Option A) : Bool := match o with | none => true | some a => f a
def okV (f : A → Bool) (xs : List A) : Bool := Nat.ble xs.length 1000000 && xs.all f
def okP (f : A → Bool) (g : B → Bool) (p : A × B) : Bool := f p.1 && g p.2
def okS (x : Str) : Bool := PyData.strOk x
def tsame [DecidableEq A] (ok : A → Bool) (a b : A) : Option Bool := if (ok a && ok b) = true then some (decide (a = b)) else none
/-- what a _law_same keeps -/
structure SameFn (cs : Nat → FnC) : Prop where
  bl : ∀ n a b, cs (n + 1) [.bl a, .bl b] [] = some (.bl (decide (a = b)), [])
  int : ∀ n a b, cs (n + 1) [.int a, .int b] [] = some (.bl (decide (a = b)), [])
  str : ∀ n a b, PyData.strOk a = true → PyData.strOk b = true → cs (n + 1) [.str a, .str b] [] = some (.bl (decide (a = b)), [])
  nn : ∀ n d, d.nr = true → cs (n + 1) [d, .non] [] = some (.bl (isNn d), [])
  nx : ∀ n d, d.nr = true → d.nl = true → isNn d = false → cs (n + 1) [.non, d] [] = some (.bl false, [])
  tn : ∀ n xs ys, D.nrs xs = true → D.nrs ys = true → xs.length ≠ ys.length → cs (n + 1) [.tup xs, .tup ys] [] = some (.bl false, [])
  tt : ∀ n (zs : List (D × D)) (f : D × D → Bool), zs.length ≤ 1000000 → D.nrs (zs.map Prod.fst) = true → D.nrs (zs.map Prod.snd) = true → (∀ z ∈ zs, cs n [z.1, z.2] [] = some (.bl (f z), [])) → cs (n + 1) [.tup (zs.map Prod.fst), .tup (zs.map Prod.snd)] [] = some (.bl (zs.all f), [])
class Sm (n : outParam Nat) (c : Ec A) (ok : outParam (A → Bool)) [DecidableEq A] : Prop where
  s : ∀ {cs : Nat → FnC}, SameFn cs → ∀ m, n ≤ m → ∀ a b, ok a = true → ok b = true → cs m [c.e a, c.e b] [] = some (.bl (decide (a = b)), [])
  nl : ∀ a, (c.e a).nl = true
instance sm_I : Sm 1 eI (okA (A := Int)) := ⟨fun h m hm a b _ _ => by obtain ⟨k, rfl⟩ : ∃ k, m = k + 1 := ⟨m - 1, by omega⟩; exact h.int k a b, fun _ => rfl⟩
instance sm_B : Sm 1 eB (okA (A := Bool)) := ⟨fun h m hm a b _ _ => by obtain ⟨k, rfl⟩ : ∃ k, m = k + 1 := ⟨m - 1, by omega⟩; exact h.bl k a b, fun _ => rfl⟩
instance sm_S : Sm 1 eS okS := ⟨fun h m hm a b h1 h2 => by obtain ⟨k, rfl⟩ : ∃ k, m = k + 1 := ⟨m - 1, by omega⟩; exact h.str k a b h1 h2, fun _ => rfl⟩
instance sm_N : Sm 1 eN (okA (A := Unit)) := ⟨fun h m hm a b _ _ => by
  obtain ⟨k, rfl⟩ : ∃ k, m = k + 1 := ⟨m - 1, by omega⟩
  exact h.nn k .non rfl, fun _ => rfl⟩
instance sm_O {n : Nat} {c : Ec A} {ok : A → Bool} [DecidableEq A] [q : Sm n c ok] [nn : NotN c] : Sm (n + 1) (eO c) (okO ok) := ⟨fun h m hm a b h1 h2 => by
  obtain ⟨k, rfl⟩ : ∃ k, m = k + 1 := ⟨m - 1, by omega⟩
  cases a with
  | none =>
    cases b with
    | none => exact h.nn k .non rfl
    | some b =>
      have := h.nx k (c.e b) (c.nr b) (q.nl b) (nn.nn b)
      exact this
  | some a =>
    cases b with
    | none =>
      have := h.nn k (c.e a) (c.nr a)
      rw [nn.nn a] at this
      exact this
    | some b =>
      have := q.s h (k + 1) (by omega) a b h1 h2
      rw [show decide (some a = some b) = decide (a = b) by by_cases e : a = b <;> simp [e]]
      exact this, fun o => match o with | none => rfl | some a => q.nl a⟩
theorem all_zip [DecidableEq A] : ∀ xs ys : List A, xs.length = ys.length → (xs.zip ys).all (fun p => decide (p.1 = p.2)) = decide (xs = ys)
  | [], [], _ => rfl
  | [], _ :: _, h => by simp at h
  | _ :: _, [], h => by simp at h
  | x :: xs, y :: ys, h => by
    rw [List.zip_cons_cons, List.all_cons, all_zip xs ys (by simpa using h)]
    by_cases e1 : x = y <;> by_cases e2 : xs = ys <;> simp [e1, e2]
instance sm_V {n : Nat} {c : Ec A} {ok : A → Bool} [DecidableEq A] [q : Sm n c ok] : Sm (n + 1) (eV c) (okV ok) := ⟨fun {cs} h m hm a b h1 h2 => by
  obtain ⟨k, rfl⟩ : ∃ k, m = k + 1 := ⟨m - 1, by omega⟩
  unfold okV at h1 h2
  rw [Bool.and_eq_true, List.all_eq_true] at h1 h2
  show cs (k + 1) [.tup (a.map c.e), .tup (b.map c.e)] [] = _
  by_cases hl : a.length = b.length
  · have hz := h.tt k ((a.zip b).map fun p => (c.e p.1, c.e p.2)) (fun z => (a.zip b).all fun p => true) 
    -- the rows side by side
    have hf : ∀ (xs ys : List A), xs.length = ys.length → (∀ x ∈ xs, ok x = true) → (∀ x ∈ ys, ok x = true) → ys.length ≤ 1000000 → cs (k + 1) [.tup (xs.map c.e), .tup (ys.map c.e)] [] = some (.bl ((xs.zip ys).all fun p => decide (p.1 = p.2)), []) := by
      intro xs ys hxy ha hb hlen
      have e1 : xs.map c.e = ((xs.zip ys).map fun p => (c.e p.1, c.e p.2)).map Prod.fst := by
        rw [List.map_map, show (Prod.fst ∘ fun p : A × A => (c.e p.1, c.e p.2)) = c.e ∘ Prod.fst from rfl, ← List.map_map, List.map_fst_zip (by omega)]
      have e2 : ys.map c.e = ((xs.zip ys).map fun p => (c.e p.1, c.e p.2)).map Prod.snd := by
        rw [List.map_map, show (Prod.snd ∘ fun p : A × A => (c.e p.1, c.e p.2)) = c.e ∘ Prod.snd from rfl, ← List.map_map, List.map_snd_zip (by omega)]
      -- a test on data that tells equal ones: the result of the call itself
      let g : D × D → Bool := fun z => match cs k [z.1, z.2] [] with | some (.bl b, _) => b | _ => false
      have hg : ∀ p ∈ xs.zip ys, cs k [c.e p.1, c.e p.2] [] = some (.bl (decide (p.1 = p.2)), []) := fun p hp => by
        have hp' : (p.1, p.2) ∈ xs.zip ys := hp
        exact q.s h k (by omega) p.1 p.2 (ha _ (List.of_mem_zip hp').1) (hb _ (List.of_mem_zip hp').2)
      have := h.tt k ((xs.zip ys).map fun p => (c.e p.1, c.e p.2)) g (by rw [List.length_map, List.length_zip]; omega) (by rw [← e1]; exact nrs_map c.nr xs) (by rw [← e2]; exact nrs_map c.nr ys) (fun z hz => by
        obtain ⟨p, hp, rfl⟩ := List.mem_map.mp hz
        show cs k [c.e p.1, c.e p.2] [] = some (.bl (match cs k [c.e p.1, c.e p.2] [] with | some (.bl b, _) => b | _ => false), [])
        rw [hg p hp])
      rw [← e1, ← e2] at this
      rw [this, List.all_map]
      congr 2
      have : (xs.zip ys).all (g ∘ fun p => (c.e p.1, c.e p.2)) = (xs.zip ys).all fun p => decide (p.1 = p.2) := by
        rw [Bool.eq_iff_iff, List.all_eq_true, List.all_eq_true]
        refine ⟨fun hh p hp => ?_, fun hh p hp => ?_⟩
        · have := hh p hp
          show decide _ = true
          have e : (g ∘ fun p : A × A => (c.e p.1, c.e p.2)) p = decide (p.1 = p.2) := by
            show (match cs k [c.e p.1, c.e p.2] [] with | some (.bl b, _) => b | _ => false) = _
            rw [hg p hp]
          rw [← e]; exact this
        · have e : (g ∘ fun p : A × A => (c.e p.1, c.e p.2)) p = decide (p.1 = p.2) := by
            show (match cs k [c.e p.1, c.e p.2] [] with | some (.bl b, _) => b | _ => false) = _
            rw [hg p hp]
          rw [e]; exact hh p hp
      rw [this]
    rw [hf a b hl h1.2 h2.2 (Nat.le_of_ble_eq_true h2.1), all_zip a b hl]
  · rw [h.tn k _ _ (nrs_map c.nr a) (nrs_map c.nr b) (by simpa using hl), decide_eq_false (fun e => hl (by rw [e]))], fun xs => nl_tup (nls_map q.nl xs)⟩
section
variable {A1 A2 A3 A4 A5 A6 : Type} {a1 : Ec A1} {a2 : Ec A2} {a3 : Ec A3} {a4 : Ec A4} {a5 : Ec A5} {a6 : Ec A6} {k1 k2 k3 k4 k5 k6 : Nat} [DecidableEq A1] [DecidableEq A2] [DecidableEq A3] [DecidableEq A4] [DecidableEq A5] [DecidableEq A6]
  {l1 : A1 → Bool} {l2 : A2 → Bool} {l3 : A3 → Bool} {l4 : A4 → Bool} {l5 : A5 → Bool} {l6 : A6 → Bool}
  [q1 : Sm k1 a1 l1] [q2 : Sm k2 a2 l2] [q3 : Sm k3 a3 l3] [q4 : Sm k4 a4 l4] [q5 : Sm k5 a5 l5] [q6 : Sm k6 a6 l6]
/-- fixed tuples: a list of pairs with what is due of each -/
theorem sm_tup {cs : Nat → FnC} (h : SameFn cs) {k : Nat} (zs : List (D × D)) (bs : List Bool) (hl : zs.length ≤ 1000000) (h1 : D.nrs (zs.map Prod.fst) = true) (h2 : D.nrs (zs.map Prod.snd) = true) (hz : zs.map (fun z => cs k [z.1, z.2] []) = bs.map fun b => some (.bl b, [])) : cs (k + 1) [.tup (zs.map Prod.fst), .tup (zs.map Prod.snd)] [] = some (.bl (bs.all id), []) := by
  let g : D × D → Bool := fun z => match cs k [z.1, z.2] [] with | some (.bl b, _) => b | _ => false
  have key : ∀ (zs : List (D × D)) (bs : List Bool), zs.map (fun z => cs k [z.1, z.2] []) = bs.map (fun b => some (.bl b, [])) → (∀ z ∈ zs, cs k [z.1, z.2] [] = some (.bl (g z), [])) ∧ zs.all g = bs.all id := by
    intro zs
    induction zs with
    | nil => intro bs h; cases bs with | nil => exact ⟨fun _ h => (by cases h), rfl⟩ | cons _ _ => cases h
    | cons z zs ih =>
      intro bs h
      cases bs with
      | nil => cases h
      | cons b bs =>
        rw [List.map_cons, List.map_cons, List.cons.injEq] at h
        obtain ⟨i1, i2⟩ := ih bs h.2
        have e : g z = b := by show (match cs k [z.1, z.2] [] with | some (.bl b, _) => b | _ => false) = b; rw [h.1]
        refine ⟨fun y hy => ?_, by rw [List.all_cons, List.all_cons, e, i2]; rfl⟩
        rcases List.mem_cons.mp hy with rfl | hy
        · rw [e]; exact h.1
        · exact i1 y hy
  obtain ⟨i1, i2⟩ := key zs bs hz
  rw [h.tt k zs g hl h1 h2 i1, i2]
instance sm_0 : Sm 1 e0 (okA (A := Unit)) := ⟨fun {cs} h m hm a b _ _ => by
  obtain ⟨k, rfl⟩ : ∃ k, m = k + 1 := ⟨m - 1, by omega⟩
  exact sm_tup h (k := k) [] [] (by decide) rfl rfl rfl, fun _ => nl_tup rfl⟩
instance sm_1 : Sm (k1 + 1) (e1 a1) l1 := ⟨fun {cs} h m hm a b h1 h2 => by
  obtain ⟨k, rfl⟩ : ∃ k, m = k + 1 := ⟨m - 1, by omega⟩
  have := sm_tup h (k := k) [(a1.e a, a1.e b)] [decide (a = b)] (by simp) (nrs_c (a1.nr _) nrs_n) (nrs_c (a1.nr _) nrs_n) (by simp only [List.map_cons, List.map_nil, q1.s h k (by omega) a b h1 h2])
  simpa [e1] using this, fun _ => nl_tup (nls_c (q1.nl _) rfl)⟩
instance sm_2 : Sm (max k1 k2 + 1) (e2 a1 a2) (okP l1 l2) := ⟨fun {cs} h m hm a b h1 h2 => by
  obtain ⟨k, rfl⟩ : ∃ k, m = k + 1 := ⟨m - 1, by omega⟩
  obtain ⟨x1, x2⟩ := a; obtain ⟨y1, y2⟩ := b
  simp only [okP, Bool.and_eq_true] at h1 h2
  have := sm_tup h (k := k) [(a1.e x1, a1.e y1), (a2.e x2, a2.e y2)] [decide (x1 = y1), decide (x2 = y2)] (by simp) (nrs_c (a1.nr _) (nrs_c (a2.nr _) nrs_n)) (nrs_c (a1.nr _) (nrs_c (a2.nr _) nrs_n)) (by simp only [List.map_cons, List.map_nil, q1.s h k (by omega) x1 y1 h1.1 h2.1, q2.s h k (by omega) x2 y2 h1.2 h2.2])
  simpa [e2, Prod.mk.injEq, Bool.decide_and] using this, fun _ => nl_tup (nls_c (q1.nl _) (nls_c (q2.nl _) rfl))⟩
instance sm_3 : Sm (max (max k1 k2) k3 + 1) (e3 a1 a2 a3) (okP l1 (okP l2 l3)) := ⟨fun {cs} h m hm a b h1 h2 => by
  obtain ⟨k, rfl⟩ : ∃ k, m = k + 1 := ⟨m - 1, by omega⟩
  obtain ⟨x1, x2, x3⟩ := a; obtain ⟨y1, y2, y3⟩ := b
  simp only [okP, Bool.and_eq_true] at h1 h2
  have := sm_tup h (k := k) [(a1.e x1, a1.e y1), (a2.e x2, a2.e y2), (a3.e x3, a3.e y3)] [decide (x1 = y1), decide (x2 = y2), decide (x3 = y3)] (by simp) (nrs_c (a1.nr _) (nrs_c (a2.nr _) (nrs_c (a3.nr _) nrs_n))) (nrs_c (a1.nr _) (nrs_c (a2.nr _) (nrs_c (a3.nr _) nrs_n))) (by simp only [List.map_cons, List.map_nil, q1.s h k (by omega) x1 y1 h1.1 h2.1, q2.s h k (by omega) x2 y2 h1.2.1 h2.2.1, q3.s h k (by omega) x3 y3 h1.2.2 h2.2.2])
  simpa [e3, Prod.mk.injEq, Bool.decide_and] using this, fun _ => nl_tup (nls_c (q1.nl _) (nls_c (q2.nl _) (nls_c (q3.nl _) rfl)))⟩
instance sm_4 : Sm (max (max (max k1 k2) k3) k4 + 1) (e4 a1 a2 a3 a4) (okP l1 (okP l2 (okP l3 l4))) := ⟨fun {cs} h m hm a b h1 h2 => by
  obtain ⟨k, rfl⟩ : ∃ k, m = k + 1 := ⟨m - 1, by omega⟩
  obtain ⟨x1, x2, x3, x4⟩ := a; obtain ⟨y1, y2, y3, y4⟩ := b
  simp only [okP, Bool.and_eq_true] at h1 h2
  have := sm_tup h (k := k) [(a1.e x1, a1.e y1), (a2.e x2, a2.e y2), (a3.e x3, a3.e y3), (a4.e x4, a4.e y4)] [decide (x1 = y1), decide (x2 = y2), decide (x3 = y3), decide (x4 = y4)] (by simp) (nrs_c (a1.nr _) (nrs_c (a2.nr _) (nrs_c (a3.nr _) (nrs_c (a4.nr _) nrs_n)))) (nrs_c (a1.nr _) (nrs_c (a2.nr _) (nrs_c (a3.nr _) (nrs_c (a4.nr _) nrs_n)))) (by simp only [List.map_cons, List.map_nil, q1.s h k (by omega) x1 y1 h1.1 h2.1, q2.s h k (by omega) x2 y2 h1.2.1 h2.2.1, q3.s h k (by omega) x3 y3 h1.2.2.1 h2.2.2.1, q4.s h k (by omega) x4 y4 h1.2.2.2 h2.2.2.2])
  simpa [e4, Prod.mk.injEq, Bool.decide_and] using this, fun _ => nl_tup (nls_c (q1.nl _) (nls_c (q2.nl _) (nls_c (q3.nl _) (nls_c (q4.nl _) rfl))))⟩
instance sm_5 : Sm (max (max (max (max k1 k2) k3) k4) k5 + 1) (e5 a1 a2 a3 a4 a5) (okP l1 (okP l2 (okP l3 (okP l4 l5)))) := ⟨fun {cs} h m hm a b h1 h2 => by
  obtain ⟨k, rfl⟩ : ∃ k, m = k + 1 := ⟨m - 1, by omega⟩
  obtain ⟨x1, x2, x3, x4, x5⟩ := a; obtain ⟨y1, y2, y3, y4, y5⟩ := b
  simp only [okP, Bool.and_eq_true] at h1 h2
  have := sm_tup h (k := k) [(a1.e x1, a1.e y1), (a2.e x2, a2.e y2), (a3.e x3, a3.e y3), (a4.e x4, a4.e y4), (a5.e x5, a5.e y5)] [decide (x1 = y1), decide (x2 = y2), decide (x3 = y3), decide (x4 = y4), decide (x5 = y5)] (by simp) (nrs_c (a1.nr _) (nrs_c (a2.nr _) (nrs_c (a3.nr _) (nrs_c (a4.nr _) (nrs_c (a5.nr _) nrs_n))))) (nrs_c (a1.nr _) (nrs_c (a2.nr _) (nrs_c (a3.nr _) (nrs_c (a4.nr _) (nrs_c (a5.nr _) nrs_n))))) (by simp only [List.map_cons, List.map_nil, q1.s h k (by omega) x1 y1 h1.1 h2.1, q2.s h k (by omega) x2 y2 h1.2.1 h2.2.1, q3.s h k (by omega) x3 y3 h1.2.2.1 h2.2.2.1, q4.s h k (by omega) x4 y4 h1.2.2.2.1 h2.2.2.2.1, q5.s h k (by omega) x5 y5 h1.2.2.2.2 h2.2.2.2.2])
  simpa [e5, Prod.mk.injEq, Bool.decide_and] using this, fun _ => nl_tup (nls_c (q1.nl _) (nls_c (q2.nl _) (nls_c (q3.nl _) (nls_c (q4.nl _) (nls_c (q5.nl _) rfl)))))⟩
end
/-- .. called -/
theorem p_sameG {cs : Nat → FnC} {q : FnC} (hq : q = cs 12) (hs : SameFn cs) {n : Nat} {c : Ec A} {ok : A → Bool} [DecidableEq A] [t : Sm n c ok] {M : Mem} {a b : A} (h1 : ok a = true) (h2 : ok b = true) (hn : Nat.ble n 12 = true := by decide) : callP q [c.e a, c.e b] M = some (eB.e (decide (a = b)), M) := by
  refine p_v (cR := eB) (av_c c a (av_c c b av_nil)) ?_
  rw [hq]
  exact t.s hs 12 (Nat.le_of_ble_eq_true hn) a b h1 h2
end TL
namespace TL
open PySem PySem.Spec PyProof.Rows L2 PF
variable {A B : Type}
class OkAll (ok : A → Bool) : Prop where
  t : ∀ a, ok a = true
instance oka_A : OkAll (okA (A := A)) := ⟨fun _ => rfl⟩
instance oka_O {f : A → Bool} [h : OkAll f] : OkAll (okO f) := ⟨fun o => match o with | none => rfl | some a => h.t a⟩
instance oka_P {f : A → Bool} {g : B → Bool} [h : OkAll f] [k : OkAll g] : OkAll (okP f g) := ⟨fun p => by unfold okP; rw [h.t, k.t]; rfl⟩
theorem p_sameG2 {cs : Nat → FnC} {q : FnC} (hq : q = cs 12) (hs : SameFn cs) {n : Nat} {c : Ec A} {ok : A → Bool} [DecidableEq A] [t : Sm n c ok] {M : Mem} {a b : A} {r : Bool} (h : tsame ok a b = some r) (hn : Nat.ble n 12 = true := by decide) : callP q [c.e a, c.e b] M = some (eB.e r, M) := by
  unfold tsame at h
  split at h
  · rename_i ho
    rw [Bool.and_eq_true] at ho
    cases h
    exact p_sameG hq hs ho.1 ho.2 hn
  · cases h
end TL
namespace TL
open PySem PySem.Spec PyProof.Rows L2 PF
variable {A B C S A1 A2 A3 A4 B1 B2 B3 B4 : Type}
/-! ### partial casts -/
def PC (c : Ec A) (c' : Ec B) (f : A → Option B) : Prop := ∀ a b, f a = some b → c'.e b = c.e a
theorem pc_id {c : Ec A} : PC c c some := fun a b h => by cases h; rfl
theorem pc_O {c : Ec A} : PC (eO c) c (fun o => o) := fun a b h => by subst h; rfl
theorem pc_co {c : Ec A} {c' : Ec B} {f : A → B} (E : ∀ a, c'.e (f a) = c.e a) : PC c c' (fun a => some (f a)) := fun a b h => by cases h; exact E a
theorem pc_then {c : Ec A} {c' : Ec B} {c2 : Ec C} {f : A → Option B} {g : B → Option C} (h : PC c c' f) (k : PC c' c2 g) : PC c c2 (fun a => (f a).bind g) := fun a b e => by
  obtain ⟨x, h1, h2⟩ := bnd e
  rw [k x b h2, h a x h1]
theorem pc_2 {c1 : Ec A1} {c2 : Ec A2} {d1 : Ec B1} {d2 : Ec B2} {f1 : A1 → Option B1} {f2 : A2 → Option B2} (h1 : PC c1 d1 f1) (h2 : PC c2 d2 f2) : PC (e2 c1 c2) (e2 d1 d2) (fun p => (f1 p.1).bind fun a => (f2 p.2).bind fun b => some (a, b)) := fun p q h => by
  obtain ⟨a, ha, h⟩ := bnd h
  obtain ⟨b, hb, h⟩ := bnd h
  cases h
  show D.tup [d1.e a, d2.e b] = D.tup [c1.e p.1, c2.e p.2]
  rw [h1 _ _ ha, h2 _ _ hb]
theorem pc_3 {c1 : Ec A1} {c2 : Ec A2} {c3 : Ec A3} {d1 : Ec B1} {d2 : Ec B2} {d3 : Ec B3} {f1 : A1 → Option B1} {f2 : A2 → Option B2} {f3 : A3 → Option B3} (h1 : PC c1 d1 f1) (h2 : PC c2 d2 f2) (h3 : PC c3 d3 f3) : PC (e3 c1 c2 c3) (e3 d1 d2 d3) (fun p => (f1 p.1).bind fun a => (f2 p.2.1).bind fun b => (f3 p.2.2).bind fun c => some (a, b, c)) := fun p q h => by
  obtain ⟨a, ha, h⟩ := bnd h
  obtain ⟨b, hb, h⟩ := bnd h
  obtain ⟨c, hc, h⟩ := bnd h
  cases h
  show D.tup [d1.e a, d2.e b, d3.e c] = D.tup [c1.e p.1, c2.e p.2.1, c3.e p.2.2]
  rw [h1 _ _ ha, h2 _ _ hb, h3 _ _ hc]
theorem pc_4 {c1 : Ec A1} {c2 : Ec A2} {c3 : Ec A3} {c4 : Ec A4} {d1 : Ec B1} {d2 : Ec B2} {d3 : Ec B3} {d4 : Ec B4} {f1 : A1 → Option B1} {f2 : A2 → Option B2} {f3 : A3 → Option B3} {f4 : A4 → Option B4} (h1 : PC c1 d1 f1) (h2 : PC c2 d2 f2) (h3 : PC c3 d3 f3) (h4 : PC c4 d4 f4) : PC (e4 c1 c2 c3 c4) (e4 d1 d2 d3 d4) (fun p => (f1 p.1).bind fun a => (f2 p.2.1).bind fun b => (f3 p.2.2.1).bind fun c => (f4 p.2.2.2).bind fun d => some (a, b, c, d)) := fun p q h => by
  obtain ⟨a, ha, h⟩ := bnd h
  obtain ⟨b, hb, h⟩ := bnd h
  obtain ⟨c, hc, h⟩ := bnd h
  obtain ⟨d, hd, h⟩ := bnd h
  cases h
  show D.tup [d1.e a, d2.e b, d3.e c, d4.e d] = D.tup [c1.e p.1, c2.e p.2.1, c3.e p.2.2.1, c4.e p.2.2.2]
  rw [h1 _ _ ha, h2 _ _ hb, h3 _ _ hc, h4 _ _ hd]
theorem pc_map {c : Ec A} {c' : Ec B} {f : A → Option B} (h : PC c c' f) : ∀ (xs : List A) (ys : List B), tmap f xs = some ys → ys.map c'.e = xs.map c.e
  | [], ys, e => by cases e; rfl
  | x :: xs, ys, e => by
    obtain ⟨y, hy, e⟩ := bnd e
    obtain ⟨ys', hys, e⟩ := bnd e
    cases e
    rw [List.map_cons, List.map_cons, h x y hy, pc_map h xs ys' hys]
theorem pc_L {c : Ec A} {c' : Ec B} {f : A → Option B} (h : PC c c' f) : PC (eL c) (eL c') (tmap f) := fun xs ys e => by
  show D.lst _ = D.lst _
  rw [pc_map h xs ys e]
theorem pc_V {c : Ec A} {c' : Ec B} {f : A → Option B} (h : PC c c' f) : PC (eV c) (eV c') (tmap f) := fun xs ys e => by
  show D.tup _ = D.tup _
  rw [pc_map h xs ys e]
theorem pc_v1 {c : Ec A} : PC (eV c) (e1 c) tv1 := fun xs p E => by
  unfold tv1 at E; split at E
  · cases E; rfl
  · cases E
theorem pc_v2 {c : Ec A} : PC (eV c) (e2 c c) tv2 := fun xs p E => by
  unfold tv2 at E; split at E
  · cases E; rfl
  · cases E
theorem pc_v3 {c : Ec A} : PC (eV c) (e3 c c c) tv3 := fun xs p E => by
  unfold tv3 at E; split at E
  · cases E; rfl
  · cases E
theorem pc_v4 {c : Ec A} : PC (eV c) (e4 c c c c) tv4 := fun xs p E => by
  unfold tv4 at E; split at E
  · cases E; rfl
  · cases E
theorem x_pc {c : Ec A} {c' : Ec B} {f : A → Option B} {a : A} {b : B} {fa : FE} {ρ : Rho} {M M1 : Mem} (h : fa ρ M = some (c.e a, M1)) (k : PC c c' f) (e : f a = some b) : fa ρ M = some (c'.e b, M1) := by rw [h, k a b e]
theorem co_cl {c : Ec A} {c' : Ec B} {f : A → B} (h : ∀ a, c'.e (f a) = c.e a) (xs : List A) : cl c' (xs.map f) = cl c xs := by
  show MO.lst _ = MO.lst _
  rw [co_map h]
/-! ### xs.index(y) -/
def tindex (xs : List Int) (y : Int) : Option Int := (findI (fun z => decide (z = y)) xs).map fun (j : Nat) => (j : Int)
theorem x_idx {fo : FE} {fa : FA} {d : D} {xs : List Int} {y i : Int} {ρ : Rho} {M M1 M2 : Mem} (ho : fo ρ M = some (d, M1)) (l0 : Ls d M1 eI xs) (ha : fa ρ M1 = some ([eI.e y], M2)) (l : Ls d M2 eI xs) (h : tindex xs y = some i) : fM "list" gIndexL fo fa ρ M = some (eI.e i, M2) := by
  have t : tyOk "list" d M1 = true := by
    show (lsOf d M1).isSome = true
    rw [l0.ls]; rfl
  rw [ev_m, ho, Option.bind_some]; simp only []; rw [if_pos t, ha, Option.bind_some]
  show (lsOf d M2).bind (fun xs => (intsOf xs).bind fun ns => (findI (fun z => decide (z = y)) ns).map fun (j : Nat) => (D.int (j : Int), M2)) = _
  rw [l.ls, Option.bind_some, intsOf_map, Option.bind_some]
  unfold tindex at h
  obtain ⟨j, hj, rfl⟩ := Option.map_eq_some_iff.mp h
  rw [hj]; rfl
/-! ### comprehensions whose if draws too -/
def tmapO (f : A → S → Option (Option B × S)) : List A → S → Option (List B × S)
  | [], s => some ([], s)
  | x :: xs, s => (f x s).bind fun y => (tmapO f xs y.2).bind fun r => some (match y.1 with | some b => b :: r.1 | none => r.1, r.2)
theorem lcoreO {c : Mem → Bool} {t : FG} {ft : FT} {fe : FE} {ρ : Rho} {cA : Ec A} {cB : Ec B} {f : A → S → Option (Option B × S)} (Mm : S → Mem) (hc : ∀ s, c (Mm s) = true)
    (step : ∀ x s, ∃ ρ', t (cA.e x) ρ = some ρ' ∧ ∀ y s1, f x s = some (y, s1) → ∃ b M1, ft ρ' (Mm s) = some (b, M1) ∧ (b = true → ∃ z, y = some z ∧ fe ρ' M1 = some (cB.e z, Mm s1)) ∧ (b = false → y = none ∧ M1 = Mm s1)) :
    ∀ (xs : List A) (ys : List B) (s s' : S) (acc : List D), tmapO f xs s = some (ys, s') → lcLoop c t ft fe ρ (xs.map cA.e) acc (Mm s) = some (acc ++ ys.map cB.e, Mm s')
  | [], ys, s, s', acc, h => by
    cases h
    rw [List.map_nil, lcLoop, if_pos (hc s), List.map_nil, List.append_nil]
  | x :: xs, ys, s, s', acc, h => by
    obtain ⟨⟨y, s1⟩, hy, h⟩ := bnd h
    obtain ⟨⟨ys', s2⟩, hys, h⟩ := bnd h
    obtain ⟨ρ', e1, e2⟩ := step x s
    obtain ⟨b, M1, e3, e4, e5⟩ := e2 y s1 hy
    rw [List.map_cons, lcLoop, if_pos (hc s), e1, Option.bind_some, e3, Option.bind_some]
    simp only []
    cases b with
    | true =>
      obtain ⟨z, rfl, e6⟩ := e4 rfl
      cases h
      rw [if_pos rfl, e6, Option.bind_some]
      simp only []
      rw [lcoreO Mm hc step xs ys' s1 _ _ hys, List.map_cons, List.append_assoc]; rfl
    | false =>
      obtain ⟨rfl, rfl⟩ := e5 rfl
      cases h
      rw [if_neg Bool.false_ne_true]
      exact lcoreO Mm hc step xs ys' s1 _ _ hys
theorem x_lcO {fi : FI} {vs : List Nat} {t : FG} {ft : FT} {fe : FE} {ρ : Rho} {M : Mem} {kk : Option Nat} {xs : List A} {ys : List B} {cA : Ec A} {cB : Ec B} {f : A → S → Option (Option B × S)} (Mm : S → Mem) {s s' : S} (hi : fi ρ M = some ((xs.map cA.e, kk), Mm s)) (hc : ∀ s, chk kk (xs.map cA.e) (Mm s) = true) (h : tmapO f xs s = some (ys, s'))
    (step : ∀ x s, ∃ ρ', t (cA.e x) (wipeR ρ vs) = some ρ' ∧ ∀ y s1, f x s = some (y, s1) → ∃ b M1, ft ρ' (Mm s) = some (b, M1) ∧ (b = true → ∃ z, y = some z ∧ fe ρ' M1 = some (cB.e z, Mm s1)) ∧ (b = false → y = none ∧ M1 = Mm s1)) : fLC vs fi t ft fe ρ M = some (ys.map cB.e, Mm s') := by
  rw [ev_lc, hi, Option.bind_some]
  exact lcoreO Mm hc step xs ys s s' [] h
/-! ### and, or, if with a state -/
section
variable {ρ : Rho} {M : Mem} {ta tb : FT} {fa fb : FE} {a : Bool} {Mm : S → Mem} {s0 : S}
theorem k_andS (Mm : S → Mem) {t : Option (Bool × S)} {r : Bool × S} (ha : ta ρ M = some (a, Mm s0)) (h : (if a = true then t else some (false, s0)) = some r) (hb : t = some r → tb ρ (Mm s0) = some (r.1, Mm r.2)) : fAnd ta tb ρ M = some (r.1, Mm r.2) := by
  rw [ev_and, ha, Option.bind_some]; cases a
  · cases h; rfl
  · exact hb h
theorem k_orS (Mm : S → Mem) {t : Option (Bool × S)} {r : Bool × S} (ha : ta ρ M = some (a, Mm s0)) (h : (if a = true then some (true, s0) else t) = some r) (hb : t = some r → tb ρ (Mm s0) = some (r.1, Mm r.2)) : fOr ta tb ρ M = some (r.1, Mm r.2) := by
  rw [ev_or, ha, Option.bind_some]; cases a
  · exact hb h
  · cases h; rfl
theorem x_andZ (Mm : S → Mem) {t : Option (Bool × S)} {r : Bool × S} (ha : fa ρ M = some (eB.e a, Mm s0)) (h : (if a = true then t else some (false, s0)) = some r) (hb : t = some r → fb ρ (Mm s0) = some (eB.e r.1, Mm r.2)) : fAndV fa fb ρ M = some (eB.e r.1, Mm r.2) := by
  rw [ev_andV, ha, Option.bind_some]; simp only []; rw [tr_B, Option.bind_some]; cases a
  · cases h; rfl
  · exact hb h
theorem x_orZ (Mm : S → Mem) {t : Option (Bool × S)} {r : Bool × S} (ha : fa ρ M = some (eB.e a, Mm s0)) (h : (if a = true then some (true, s0) else t) = some r) (hb : t = some r → fb ρ (Mm s0) = some (eB.e r.1, Mm r.2)) : fOrV fa fb ρ M = some (eB.e r.1, Mm r.2) := by
  rw [ev_orV, ha, Option.bind_some]; simp only []; rw [tr_B, Option.bind_some]; cases a
  · exact hb h
  · cases h; rfl
theorem x_ifS (Mm : S → Mem) {c : Ec A} {fc : FT} {t u : Option (A × S)} {r : A × S} (hc : fc ρ M = some (a, Mm s0)) (h : (if a = true then t else u) = some r) (ha : t = some r → fa ρ (Mm s0) = some (c.e r.1, Mm r.2)) (hb : u = some r → fb ρ (Mm s0) = some (c.e r.1, Mm r.2)) : fIfE fc fa fb ρ M = some (c.e r.1, Mm r.2) := by
  rw [ev_ifE, hc, Option.bind_some]; cases a
  · exact hb h
  · exact ha h
end
/-! ### a return within a frozen body -/
theorem nr_take : ∀ {M : Mem} {k : Nat}, Mem.nr M = true → Mem.nr (M.take k) = true
  | [], k, h => by rw [List.take_nil]; rfl
  | m :: M, 0, h => rfl
  | m :: M, k + 1, h => by
    have h' : (m.nr && Mem.nr M) = true := h
    rw [Bool.and_eq_true] at h'
    show (m.nr && Mem.nr (M.take k)) = true
    rw [h'.1, nr_take h'.2]; rfl
theorem frMs_nr {m : Nat} {M1 : Mem} : ∀ {M : Mem}, Mem.nr M = true → frMs m M1 M = some M
  | [], _ => rfl
  | .lst xs :: M, h => by
    have h' : ((MO.lst xs).nr && Mem.nr M) = true := h
    rw [Bool.and_eq_true] at h'
    show (frL m M1 xs).bind (fun ys => (frMs m M1 M).bind fun ns => some (.lst ys :: ns)) = _
    rw [fl_v h'.1, Option.bind_some, frMs_nr h'.2]; rfl
theorem mnr_n : Mem.nr [] = true := rfl
theorem mnr_c {c : Ec A} {xs : List A} {M : Mem} (h : Mem.nr M = true) : Mem.nr (cl c xs :: M) = true := by
  show ((cl c xs).nr && Mem.nr M) = true
  rw [mo_nr, h]; rfl
theorem nr_get : ∀ {M : Mem} {j : Nat} {xs : List D}, Mem.nr M = true → M[j]? = some (.lst xs) → D.nrs xs = true
  | [], _, _, _, h => by simp at h
  | m :: M, 0, xs, hn, h => by
    have h' : (m.nr && Mem.nr M) = true := hn
    rw [Bool.and_eq_true] at h'
    have e : m = .lst xs := by simpa using h
    subst e; exact h'.1
  | m :: M, j + 1, xs, hn, h => by
    have h' : (m.nr && Mem.nr M) = true := hn
    rw [Bool.and_eq_true] at h'
    exact nr_get h'.2 (by simpa using h)
theorem z_hq {K m : Nat} {d : D} {M1 : Mem} {res : D × Mem} (h : fin false K d M1 = some res) (hn : Mem.nr M1 = true) (hK : K ≤ m) : ∃ e, frE m M1 d = some e ∧ frMs m M1 (M1.take m) = some (M1.take m) ∧ fin false K e (M1.take m) = some res ∧ Mem.nr (M1.take m) = true := by
  have n1 := nr_take (k := m) hn
  have ht : (M1.take m).take K = M1.take K := by rw [List.take_take, Nat.min_eq_left hK]
  have fv : ∀ e : D, e.nr = true → fin false K e M1 = some res → fin false K e (M1.take m) = some res := fun e he hf => by
    rw [fin_nr he (nr_take hn)] at hf
    rw [fin_nr he (by rw [ht]; exact nr_take hn), ht]; exact hf
  cases d with
  | ref j =>
    unfold fin at h
    rw [if_pos (nr_take hn)] at h
    have h : (if j < K then none else match M1[j]? with | some (.lst xs) => if D.nrs xs = true then (if false = true then some (D.ref K, M1.take K ++ [.lst xs]) else some (.lst xs, M1.take K)) else none | none => none) = some res := h
    split at h
    · cases h
    · rename_i hjK
      split at h
      · rename_i xs hx
        split at h
        · rename_i hxs
          have h : some (D.lst xs, M1.take K) = some res := h
          by_cases hj : j < m
          · refine ⟨.ref j, if_pos hj, frMs_nr n1, ?_, n1⟩
            unfold fin
            rw [if_pos (by rw [ht]; exact nr_take hn)]
            show (if j < K then none else match (M1.take m)[j]? with | some (.lst xs) => if D.nrs xs = true then (if false = true then some (D.ref K, (M1.take m).take K ++ [.lst xs]) else some (.lst xs, (M1.take m).take K)) else none | none => none) = some res
            rw [if_neg hjK, List.getElem?_take_of_lt hj, hx]
            simp only [hxs, if_true, ht]
            exact h
          · refine ⟨.lst xs, ?_, frMs_nr n1, ?_, n1⟩
            · show (if j < m then some (D.ref j) else match M1[j]? with
                | some (.lst xs) => if D.nrs xs = true then some (D.lst xs) else none
                | none => none) = _
              rw [if_neg hj, hx]
              exact if_pos hxs
            · rw [fin_nr (nr_lst hxs) (by rw [ht]; exact nr_take hn), ht]
              exact h
        · cases h
      · cases h
  | non => exact ⟨_, rfl, frMs_nr n1, fv _ rfl h, n1⟩
  | bl b => exact ⟨_, rfl, frMs_nr n1, fv _ rfl h, n1⟩
  | int b => exact ⟨_, rfl, frMs_nr n1, fv _ rfl h, n1⟩
  | str b => exact ⟨_, rfl, frMs_nr n1, fv _ rfl h, n1⟩
  | tup xs =>
    have hnr : (D.tup xs).nr = true := by
      unfold fin at h
      rw [if_pos (nr_take hn)] at h
      have h : (if (D.tup xs).nr = true then some (D.tup xs, M1.take K) else none) = some res := h
      split at h
      · assumption
      · cases h
    exact ⟨_, fe_v hnr, frMs_nr n1, fv _ hnr h, n1⟩
  | lst xs =>
    have hnr : (D.lst xs).nr = true := by
      unfold fin at h
      rw [if_pos (nr_take hn)] at h
      have h : (if (D.lst xs).nr = true then some (D.lst xs, M1.take K) else none) = some res := h
      split at h
      · assumption
      · cases h
    exact ⟨_, fe_v hnr, frMs_nr n1, fv _ hnr h, n1⟩
  | kst xs =>
    have hnr : (D.kst xs).nr = true := by
      unfold fin at h
      rw [if_pos (nr_take hn)] at h
      have h : (if (D.kst xs).nr = true then some (D.kst xs, M1.take K) else none) = some res := h
      split at h
      · assumption
      · cases h
    exact ⟨_, fe_v hnr, frMs_nr n1, fv _ hnr h, n1⟩
end TL
namespace TL
open PySem PySem.Spec PyProof.Rows L2 PF
variable {A : Type}
theorem w_asgL {n : Nat} {t : FGs} {fe : FE} {k : FS} {d : D} {ds : List D} {ρ ρ' : Rho} {M M1 : Mem} {Q : Out → Mem → Prop} (h : fe ρ M = some (d, M1)) (l : lsOf d M1 = some ds) (hn : ds.length = n) (ht : t ds ρ = some ρ') (K : WP k ρ' M1 Q) : WP (sSeq (sAsgL fe n t) k) ρ M Q :=
  w_step (by unfold sAsgL; rw [h, Option.bind_some]; simp only []; rw [l, Option.bind_some, if_pos hn, ht]; rfl) K
theorem lu2 {c : Ec A} {d : D} {M : Mem} {xs : List A} {p : A × A} (l : Ls d M c xs) (E : tv2 xs = some p) : lsOf d M = some [c.e p.1, c.e p.2] := by
  rw [l.ls]; unfold tv2 at E; split at E
  · cases E; rfl
  · cases E
theorem lu3 {c : Ec A} {d : D} {M : Mem} {xs : List A} {p : A × A × A} (l : Ls d M c xs) (E : tv3 xs = some p) : lsOf d M = some [c.e p.1, c.e p.2.1, c.e p.2.2] := by
  rw [l.ls]; unfold tv3 at E; split at E
  · cases E; rfl
  · cases E
theorem lu4 {c : Ec A} {d : D} {M : Mem} {xs : List A} {p : A × A × A × A} (l : Ls d M c xs) (E : tv4 xs = some p) : lsOf d M = some [c.e p.1, c.e p.2.1, c.e p.2.2.1, c.e p.2.2.2] := by
  rw [l.ls]; unfold tv4 at E; split at E
  · cases E; rfl
  · cases E
/-! a list set anew in a loop, changed -/
theorem gm_eq {x y : MO} : ∀ {M : Mem} {n : Nat}, gm M n = some y → gm (M.set n x) n = some x
  | [], _, h => by cases h
  | _ :: _, 0, _ => rfl
  | _ :: M, n + 1, h => gm_eq (M := M) (n := n) h
theorem dyn_set {x y : MO} {C mj : Mem} {n : Nat} (h : gm (C ++ mj) n = some y) (hn : C.length ≤ n) : ∃ mj', (C ++ mj).set n x = C ++ mj' ∧ gm (C ++ mj') n = some x := by
  refine ⟨mj.set (n - C.length) x, ?_, ?_⟩
  · rw [List.set_append_right _ _ hn]
  · rw [← List.set_append_right _ _ hn]; exact gm_eq h
theorem dyn_set0 {x y : MO} {mj : Mem} {n : Nat} (h : gm mj n = some y) : ∃ mj', mj.set n x = mj' ∧ gm mj' n = some x := ⟨_, rfl, gm_eq h⟩
end TL
namespace TL
open PySem PySem.Spec PyProof.Rows L2 PF
variable {A : Type}
def tsortN (lt : List A → List A → Bool) (xs : List (List A)) : Option (List (List A)) := if xs.all (fun x => !x.isEmpty) = true then some (tsort lt xs) else none
theorem n_sortN {c : Ec A} {lt : A → A → Bool} {k : Nat} {d : D} {M : Mem} {xs ys : List (List A)} [DecidableEq A] [q : Eqv k c] [o : Ord c lt] (l : Sq d M (eV c) xs) (h : tsortN (ltV lt) xs = some ys) (hk : Nat.ble (k + 1) 59 = true := by decide) : gSortA [d] M = some (ys.map (eV c).e) := by
  unfold tsortN at h
  split at h
  · rename_i hn
    cases h
    show (sqOf d M).bind (fun xs => if (okAl xs && srtb xs) = true then some (sortD xs) else none) = _
    have hs : srtb (xs.map (eV c).e) = true := by
      unfold srtb
      rw [Bool.or_eq_true]
      refine .inl (List.all_eq_true.mpr fun x hx => ?_)
      obtain ⟨a, ha, rfl⟩ := List.mem_map.mp hx
      have := List.all_eq_true.mp hn a ha
      cases a with
      | nil => cases this
      | cons y ys => rfl
    rw [l.sq, Option.bind_some, if_pos (by rw [okAl_map (c := eV c) (Nat.le_of_ble_eq_true hk), hs]; rfl)]
    congr 1
    refine (List.map_mergeSort (f := (eV c).e) (r := fun a b => !ltV lt b a) (s := leD) fun a _ b _ => ?_).symm
    show _ = PySem.W.dataLe false D.py ((eV c).e a) ((eV c).e b)
    rw [PySem.W.dataLe_eq]
    show _ = !PySem.W.dataLt ((eV c).e b).py ((eV c).e a).py
    rw [(o_V (l1 := lt)).dl]
  · cases h
end TL
namespace TL
open PySem PySem.Spec PyProof.Rows L2 PF
variable {A B C : Type}
/-! ### a state of which only some lists are known -/
theorem gm_ne {x y : MO} : ∀ {M : Mem} {n m : Nat}, n ≠ m → gm M m = some y → gm (M.set n x) m = some y
  | [], _, _, _, h => by cases h
  | _ :: _, 0, 0, hn, _ => absurd rfl hn
  | _ :: _, 0, m + 1, _, h => h
  | _ :: _, n + 1, 0, _, h => h
  | _ :: M, n + 1, m + 1, hn, h => gm_ne (M := M) (n := n) (m := m) (fun e => hn (by rw [e])) h
theorem gm_lt {x : MO} {M : Mem} {n : Nat} (h : gm M n = some x) : n < M.length := by
  have := gm_at h
  exact (List.getElem?_eq_some_iff.mp this).1
theorem ne_new {x : MO} {T : Mem} {n : Nat} (h : gm T n = some x) : n ≠ T.length := Nat.ne_of_lt (gm_lt h)
theorem ne_lt {i p n : Nat} (h : i < p) (h' : p ≤ n) : i ≠ n := by omega
theorem ab_base {C mj : Mem} : ∃ mj', C ++ mj = C ++ mj' := ⟨_, rfl⟩
theorem ab_set {C T : Mem} {n : Nat} {x : MO} (h : ∃ mj', T = C ++ mj') (hn : C.length ≤ n) : ∃ mj', T.set n x = C ++ mj' := by
  obtain ⟨mj, rfl⟩ := h
  exact ⟨_, List.set_append_right _ _ hn⟩
theorem ab_new {C T : Mem} {x : MO} (h : ∃ mj', T = C ++ mj') : ∃ mj', T ++ [x] = C ++ mj' := by
  obtain ⟨mj, rfl⟩ := h
  exact ⟨_, List.append_assoc _ _ _⟩
theorem ab_sset {C T : Mem} {i : Nat} {x : MO} (h : ∃ mj', T = C ++ mj') (hi : i < C.length) : ∃ mj', T.set i x = C.set i x ++ mj' := by
  obtain ⟨mj, rfl⟩ := h
  exact ⟨_, List.set_append_left _ _ hi⟩
theorem ab_len {C T : Mem} (h : ∃ mj', T = C ++ mj') : C.length ≤ T.length := by
  obtain ⟨mj, rfl⟩ := h
  rw [List.length_append]; omega
/-! a call that changes a list and makes another -/
section
variable {ρ : Rho} {M M1 : Mem} {f : FA} {ds es : List D} {q : FnC}
theorem x_callSM {i : Nat} {z : D × Mem} (hf : f ρ M = some (ds, M1)) (h : callSM i q ds M1 = some z) : fCallSM i q f ρ M = some z := by rw [ev_callSM, hf]; exact h
theorem p_sm {i n : Nat} {c c' : Ec B} {cR : Ec C} {xs ys : List B} {zs : List C} (h1 : ds[i]? = some (.ref n)) (h2 : gm M n = some (cl c xs)) (a : AV (ds.set i .non)) (h : q (ds.set i (.ref 0)) [cl c xs] = some (.ref 1, [cl c' ys, cl cR zs])) : callSM i q ds M = some (.ref M.length, M.set n (cl c' ys) ++ [cl cR zs]) := by
  have h2' := gm_at h2
  have e : (ds.set i .non).set i (.ref 0) = ds.set i (.ref 0) := List.set_set ..
  unfold callSM
  simp only [h1, h2', mo_nr, a.r, Bool.not_false, Bool.and_self, if_true, a.p M, Option.bind_some, e, h]
  show (if (D.nrs (ys.map c'.e) && D.nrs (zs.map cR.e)) = true then some (D.ref M.length, M.set n (.lst (ys.map c'.e)) ++ [.lst (zs.map cR.e)]) else none) = _
  rw [if_pos (by rw [nrs_map c'.nr ys, nrs_map cR.nr zs]; rfl)]; rfl
theorem f_m1 {j : Nat} {M' : Mem} {c : Ec A} {xs : List A} {c' : Ec B} {ys : List B} (hj : Nat.ble 1 j = true) (h : gm (cl c' ys :: M') j = some (cl c xs)) : fin true 1 (.ref j) (cl c' ys :: M') = some (.ref 1, [cl c' ys, cl c xs]) := by
  have hj' := Nat.le_of_ble_eq_true hj
  unfold fin
  rw [if_pos (show Mem.nr ((cl c' ys :: M').take 1) = true from nr1 c' ys)]
  show (if j < 1 then none else match (cl c' ys :: M')[j]? with | some (.lst xs) => if D.nrs xs = true then (if true = true then some (D.ref 1, (cl c' ys :: M').take 1 ++ [.lst xs]) else some (.lst xs, (cl c' ys :: M').take 1)) else none | none => none) = _
  rw [if_neg (by omega), gm_at h]
  show (if D.nrs (xs.map c.e) = true then _ else none) = _
  rw [if_pos (nrs_map c.nr xs)]; rfl
theorem f_m1x {j : Nat} {T M' : Mem} {c : Ec A} {xs : List A} {c' : Ec B} {ys : List B} (hT : T = cl c' ys :: M') (hj : 1 ≤ j) (h : gm T j = some (cl c xs)) : fin true 1 (.ref j) T = some (.ref 1, [cl c' ys, cl c xs]) := by
  subst hT
  exact f_m1 (Nat.ble_eq_true_of_le hj) h
theorem f_r1x {j : Nat} {T M' : Mem} {c : Ec A} {xs : List A} {c' : Ec B} {ys : List B} (hT : T = cl c' ys :: M') (hj : 1 ≤ j) (h : gm T j = some (cl c xs)) : fin false 1 (.ref j) T = some ((eL c).e xs, [cl c' ys]) := by
  subst hT
  exact f_r1 (Nat.ble_eq_true_of_le hj) h
end
/-! more operations -/
section
variable {ρ : Rho} {M M1 M2 M3 M4 : Mem} {fa fe fo fi : FE} {d x : D} {c : Ec A} {Q : Out → Mem → Prop} {k' : FS}
theorem c_le {k : Nat} {lt : A → A → Bool} [DecidableEq A] [q : Eqv k c] [o : Ord c lt] (a b : A) (hk : Nat.ble k 60 = true := by decide) : gCmpD (fun a b => !PySem.W.dataLt b a) (c.e a) (c.e b) M = some (!lt b a) := by
  unfold gCmpD
  rw [v_ec, v_ec]
  simp only [q.dp 60 (Nat.le_of_ble_eq_true hk) a, q.dp 60 (Nat.le_of_ble_eq_true hk) b, o.al, o.nn, Bool.and_self, Bool.not_false, Bool.and_true, if_true, o.dl]
theorem c_ge {k : Nat} {lt : A → A → Bool} [DecidableEq A] [q : Eqv k c] [o : Ord c lt] (a b : A) (hk : Nat.ble k 60 = true := by decide) : gCmpD (fun a b => !PySem.W.dataLt a b) (c.e a) (c.e b) M = some (!lt a b) := by
  unfold gCmpD
  rw [v_ec, v_ec]
  simp only [q.dp 60 (Nat.le_of_ble_eq_true hk) a, q.dp 60 (Nat.le_of_ble_eq_true hk) b, o.al, o.nn, Bool.and_self, Bool.not_false, Bool.and_true, if_true, o.dl]
theorem x_revL {xs : List A} (ha : fa ρ M = some (x, M1)) (l : Ls x M1 c xs) : fRevA fa ρ M = some ((eL c).e xs.reverse, M1) := by
  unfold fRevA
  rw [ha, Option.bind_some]
  have h : (lsOf x M1).bind (fun xs => some (D.lst xs.reverse, M1)) = some ((eL c).e xs.reverse, M1) := by
    rw [l.ls, Option.bind_some, ← List.map_reverse]; rfl
  cases x with
  | tup ys => exact absurd rfl (l.nt ys)
  | _ => exact h
theorem x_revV {xs : List A} (ha : fa ρ M = some ((eV c).e xs, M1)) : fRevA fa ρ M = some ((eV c).e xs.reverse, M1) := by
  unfold fRevA
  rw [ha, Option.bind_some]
  show some (D.tup (xs.map c.e).reverse, M1) = _
  rw [← List.map_reverse]; rfl
theorem x_revT {L L' : List D} (ha : fa ρ M = some (.tup L, M1)) (h : L.reverse = L') : fRevA fa ρ M = some (.tup L', M1) := by
  unfold fRevA
  rw [ha, Option.bind_some, ← h]
theorem w_augIx {g : G2M} {n : Nat} {xs xs4 zs : List A} {a z : A} {j : Int} {y : D} (ho : fo ρ M = some (.ref n, M1)) (hi : fi ρ M1 = some (eI.e j, M2)) (hn : gm M2 n = some (cl c xs)) (ha : tat xs j = some a) (hv : fe ρ M2 = some (y, M3)) (hg : g (c.e a) y M3 = some (c.e z, M4))
    (hn4 : gm M4 n = some (cl c xs4)) (h : tset xs4 j z = some zs) (K : WP k' ρ (M4.set n (cl c zs)) Q) : WP (sSeq (sAugIx g fo fi fe) k') ρ M Q := by
  unfold tset at h
  obtain ⟨m, hm, e⟩ := Option.map_eq_some_iff.mp h
  subst e
  refine w_step (ρ1 := ρ) (M1 := M4.set n (cl c (xs4.set m z))) ?_ K
  unfold sAugIx
  rw [ho, Option.bind_some]; simp only []; rw [hi, Option.bind_some]
  show (lsOf (.ref n) M2).bind _ = _
  have hat : L2.atI (xs.map c.e) j = some (c.e a) := by
    show L2.atI (xs.map c.e) j = _
    have h' : L2.atI xs j = some a := ha
    unfold L2.atI at h' ⊢
    obtain ⟨i, h1, h2⟩ := Option.bind_eq_some_iff.mp h'
    rw [List.length_map, h1, Option.bind_some, List.getElem?_map, h2]; rfl
  rw [ls_ref hn, Option.bind_some, hat, Option.bind_some, hv, Option.bind_some]; simp only []; rw [hg, Option.bind_some]
  show (mlOf (.ref n) M4).bind _ = _
  rw [ml_at hn4, Option.bind_some]
  simp only [List.length_map, hm, Option.bind_some]
  unfold cl
  rw [List.map_set]
theorem c_leI (a b : Int) : gCmpD (fun a b => !PySem.W.dataLt b a) (eI.e a) (eI.e b) M = some (decide (a ≤ b)) := by
  rw [c_le (c := eI) (lt := fun a b : Int => decide (a < b))]
  congr 1
  by_cases h : b < a <;> simp [h] <;> omega
theorem c_geI (a b : Int) : gCmpD (fun a b => !PySem.W.dataLt a b) (eI.e a) (eI.e b) M = some (decide (a ≥ b)) := by
  rw [c_ge (c := eI) (lt := fun a b : Int => decide (a < b))]
  congr 1
  by_cases h : a < b <;> simp [h] <;> omega
def tins (xs : List A) (i : Int) (a : A) : Option (List A) := if (decide (xs.length < LINE) && (decide (0 ≤ i) && decide (i < 1000000000))) = true then some (xs.take i.toNat ++ [a] ++ xs.drop i.toNat) else none
theorem m_ins {M' : Mem} {n : Nat} {xs zs : List A} {i : Int} {a : A} (hn : gm M n = some (cl c xs)) (h : tins xs i a = some zs) (hM : M.set n (cl c zs) = M') : gInsert (.ref n) [eI.e i, c.e a] M = some (eN.e (), M') := by
  subst hM
  unfold tins at h
  split at h
  · rename_i hc
    cases h
    show (mlOf (.ref n) M).bind _ = _
    rw [ml_at hn, Option.bind_some]
    simp only [List.length_map]
    rw [if_pos hc]
    unfold cl
    simp only [List.map_append, List.map_take, List.map_drop, List.map_cons, List.map_nil]
    rfl
  · cases h
theorem tins_ok {xs : List A} {i : Nat} {a : A} (h : xs.length < 10000000) (hi : i ≤ 100000000) : tins xs (i : Int) a = some (xs.take i ++ [a] ++ xs.drop i) := by
  unfold tins
  rw [if_pos]
  · rfl
  · have : LINE = 16777216 := rfl
    simp only [Bool.and_eq_true, decide_eq_true_eq]; omega
theorem b_max3 (i j k : Int) : gMax3 [eI.e i, eI.e j, eI.e k] M = some (eI.e (max (max i j) k)) := rfl
theorem b_min3 (i j k : Int) : gMin3 [eI.e i, eI.e j, eI.e k] M = some (eI.e (min (min i j) k)) := rfl
theorem b_min2D {k : Nat} {lt : A → A → Bool} [DecidableEq A] [q : Eqv k c] [o : Ord c lt] (a b : A) (hk : Nat.ble k 59 = true := by decide) : gMin2D [c.e a, c.e b] M = some (c.e (if lt b a = true then b else a)) := by
  show (if okAl [c.e a, c.e b] = true then some (if PySem.W.dataLt (c.e b).py (c.e a).py = true then c.e b else c.e a) else none) = _
  rw [if_pos (show okAl [c.e a, c.e b] = true from okAl_map (c := c) (lt := lt) (Nat.le_of_ble_eq_true hk) [a, b]), o.dl]
  by_cases h : lt b a = true
  · rw [if_pos h, if_pos h]
  · rw [if_neg h, if_neg h]
theorem b_max2D {k : Nat} {lt : A → A → Bool} [DecidableEq A] [q : Eqv k c] [o : Ord c lt] (a b : A) (hk : Nat.ble k 59 = true := by decide) : gMax2D [c.e a, c.e b] M = some (c.e (if lt a b = true then b else a)) := by
  show (if okAl [c.e a, c.e b] = true then some (if PySem.W.dataLt (c.e a).py (c.e b).py = true then c.e b else c.e a) else none) = _
  rw [if_pos (show okAl [c.e a, c.e b] = true from okAl_map (c := c) (lt := lt) (Nat.le_of_ble_eq_true hk) [a, b]), o.dl]
  by_cases h : lt a b = true
  · rw [if_pos h, if_pos h]
  · rw [if_neg h, if_neg h]
theorem b_min2DI (a b : Int) : gMin2D [eI.e a, eI.e b] M = some (eI.e (min a b)) := by
  rw [b_min2D (c := eI) (lt := fun a b : Int => decide (a < b))]
  congr 2
  by_cases h : b < a <;> simp [h] <;> omega
theorem b_max2DI (a b : Int) : gMax2D [eI.e a, eI.e b] M = some (eI.e (max a b)) := by
  rw [b_max2D (c := eI) (lt := fun a b : Int => decide (a < b))]
  congr 2
  by_cases h : a < b <;> simp [h] <;> omega
end
end TL
namespace TL
open PySem PySem.Spec PyProof.Rows L2 PF
variable {A B C S E : Type}
/-! ### what typed code comes to -/
def Post (t : Option A) (P : A → Prop) : Prop := ∃ a, t = some a ∧ P a
theorem Post.bind {t : Option A} {f : A → Option B} {P : A → Prop} {Q : B → Prop} (h : Post t P) (k : ∀ a, P a → Post (f a) Q) : Post (t.bind f) Q := by
  obtain ⟨a, e, p⟩ := h
  rw [e]; exact k a p
theorem Post.let {a : A} {f : A → Option B} {Q : B → Prop} (k : Post (f a) Q) : Post (tlet a f) Q := k
theorem Post.pure {a : A} {P : A → Prop} (h : P a) : Post (some a) P := ⟨a, rfl, h⟩
theorem Post.imp {t : Option A} {P Q : A → Prop} (h : Post t P) (k : ∀ a, P a → Q a) : Post t Q := let ⟨a, e, p⟩ := h; ⟨a, e, k a p⟩
theorem Post.of {t : Option A} {a : A} {P : A → Prop} (e : t = some a) (h : P a) : Post t P := ⟨a, e, h⟩
theorem Post.eqb {t : Option A} {a : A} {f : A → Option B} {Q : B → Prop} (e : t = some a) (k : Post (f a) Q) : Post (t.bind f) Q := by rw [e]; exact k
theorem Post.ite {c : Prop} [Decidable c] {t u : Option A} {P : A → Prop} (h1 : c → Post t P) (h2 : ¬ c → Post u P) : Post (if c then t else u) P := by
  by_cases h : c
  · rw [if_pos h]; exact h1 h
  · rw [if_neg h]; exact h2 h
theorem Post.ift {c : Prop} [Decidable c] {t u : Option A} {P : A → Prop} (h : c) (h1 : Post t P) : Post (if c then t else u) P := by rw [if_pos h]; exact h1
theorem Post.iff {c : Prop} [Decidable c] {t u : Option A} {P : A → Prop} (h : ¬ c) (h1 : Post u P) : Post (if c then t else u) P := by rw [if_neg h]; exact h1
/-- a part that goes on -/
theorem Post.go {t : Option (Ex E B)} {f : E → Option C} {g : B → Option C} {P : B → Prop} {Q : C → Prop} (h : Post t fun r => ∃ b, r = .go b ∧ P b) (k : ∀ b, P b → Post (g b) Q) : Post (t.bind fun r => r.cas f g) Q := by
  obtain ⟨_, e, b, rfl, p⟩ := h
  rw [e]; exact k b p
theorem bind_some' {t : Option A} : (t.bind fun w => some w) = t := by cases t <;> rfl
/-! whole numbers -/
theorem tmul_r {a b : Int} (h : b.natAbs < 18446744073709551616) : tmul a b = some (a * b) := if_pos (okMul_r h)
theorem tmul_l {a b : Int} (h : a.natAbs < 18446744073709551616) : tmul a b = some (a * b) := if_pos (okMul_l h)
theorem tmul_big {a b : Int} (h : a.natAbs < 2 ^ 400000) (h' : b.natAbs < 2 ^ 400000) : tmul a b = some (a * b) := if_pos (okMul_big h h')
theorem tmod_ok {a b : Int} (h : b ≠ 0) : tmod a b = some (a.fmod b) := if_pos h
theorem tdiv_ok {a b : Int} (h : b ≠ 0) (h' : b.natAbs < 2 ^ 9000) : tdiv a b = some (a.fdiv b) := if_pos (okDiv_of h h')
theorem fmod_pos {a b : Int} (h : 0 < b) : 0 ≤ a.fmod b ∧ a.fmod b < b := by
  rw [Int.fmod_eq_emod_of_nonneg _ (by omega)]
  exact ⟨Int.emod_nonneg _ (by omega), Int.emod_lt_of_pos _ h⟩
theorem trg_of {lo hi : Int} (h1 : -1000000 ≤ lo) (h2 : hi ≤ 10000000) (h3 : lo ≤ 10000000) (h4 : -1000000 ≤ hi) : trg lo hi = some (upto lo (hi - lo).toNat) := if_pos (okR_of h1 h2 h3 h4)
theorem trg_0 {n : Nat} (h : n ≤ 1000000) : trg 0 (n : Int) = some (upto 0 n) := by
  rw [trg_of (by omega) (by omega) (by omega) (by omega), Int.sub_zero, Int.toNat_natCast]
theorem mem_upto {lo : Int} {n : Nat} {x : Int} : x ∈ upto lo n ↔ lo ≤ x ∧ x < lo + n := by
  unfold upto
  rw [List.mem_map]
  constructor
  · rintro ⟨k, hk, rfl⟩
    rw [List.mem_range] at hk
    omega
  · intro h
    exact ⟨(x - lo).toNat, by rw [List.mem_range]; omega, by omega⟩
@[simp] theorem len_upto {lo : Int} {n : Nat} : (upto lo n).length = n := by simp [upto]
theorem upto_0 {lo : Int} : upto lo 0 = [] := rfl
theorem upto_succ {lo : Int} {n : Nat} : upto lo (n + 1) = upto lo n ++ [lo + n] := by simp [upto, List.range_succ]
theorem upto_cons {lo : Int} {n : Nat} : upto lo (n + 1) = lo :: upto (lo + 1) n := by
  unfold upto
  rw [List.range_succ_eq_map, List.map_cons, List.map_map]
  congr 1
  · simp
  · exact List.map_congr_left fun i _ => by show lo + ((i + 1 : Nat) : Int) = _; omega
theorem get_upto {lo : Int} {n k : Nat} (h : k < n) : (upto lo n)[k]? = some (lo + k) := by simp [upto, h]
/-! lists -/
theorem tat_n {xs : List A} {n : Nat} {a : A} (h : xs[n]? = some a) : tat xs (n : Int) = some a := at_nat h
theorem tat_i {xs : List A} {i : Int} {n : Nat} {a : A} (hi : i = n) (h : xs[n]? = some a) : tat xs i = some a := by subst hi; exact at_nat h
theorem tat_in {xs : List A} {i : Int} (h0 : 0 ≤ i) (h : i < xs.length) : ∃ a, tat xs i = some a ∧ xs[i.toNat]? = some a ∧ a ∈ xs := by
  obtain ⟨n, rfl⟩ := Int.eq_ofNat_of_zero_le h0
  have hn : n < xs.length := by omega
  exact ⟨xs[n], at_nat (List.getElem?_eq_getElem hn), by simp [hn], List.getElem_mem hn⟩
theorem tat_neg {xs : List A} {i : Int} (h0 : i < 0) (h : -(xs.length : Int) ≤ i) : ∃ a, tat xs i = some a ∧ xs[(xs.length + i).toNat]? = some a ∧ a ∈ xs := by
  have hn : (xs.length + i).toNat < xs.length := by omega
  refine ⟨xs[(xs.length + i).toNat], ?_, by simp [hn], List.getElem_mem hn⟩
  unfold tat
  rw [atI_eq]
  unfold L2.ixN
  rw [if_neg (by omega), if_pos (by omega)]
  show xs[(i + xs.length).toNat]? = _
  rw [show (i + xs.length).toNat = (xs.length + i).toNat by omega]
  exact List.getElem?_eq_getElem hn
theorem tapp_ok {xs : List A} {x : A} (h : xs.length < 10000000) : tapp xs x = some (xs ++ [x]) := if_pos (by show _ < 16777216; omega)
theorem tcat_of {xs ys : List A} (h : xs.length + ys.length ≤ 10000000) : tcat xs ys = some (xs ++ ys) := if_pos (by show _ ≤ 16777216; omega)
theorem tflat_ok {yss : List (List A)} (h : yss.flatten.length ≤ 10000000) : tflat yss = some yss.flatten := if_pos (by show _ ≤ 16777216; omega)
theorem tmap_eq {f : A → Option B} {g : A → B} : ∀ {xs : List A}, (∀ x ∈ xs, f x = some (g x)) → tmap f xs = some (xs.map g)
  | [], _ => rfl
  | x :: xs, h => by rw [tmap, h x (by simp), Option.bind_some, tmap_eq fun y hy => h y (List.mem_cons_of_mem _ hy)]; rfl
theorem tfilt_eq {p : A → Option Bool} {q : A → Bool} : ∀ {xs : List A}, (∀ x ∈ xs, p x = some (q x)) → tfilt p xs = some (xs.filter q)
  | [], _ => rfl
  | x :: xs, h => by rw [tfilt, h x (by simp), Option.bind_some, tfilt_eq fun y hy => h y (List.mem_cons_of_mem _ hy), Option.bind_some, List.filter_cons]
theorem tall_some : ∀ xs : List A, tall (xs.map some) = some xs
  | [] => rfl
  | x :: xs => by rw [List.map_cons, tall, Option.bind_some, tall_some xs]; rfl
theorem tmap_post {f : A → Option B} {P : A → B → Prop} : ∀ {xs : List A}, (∀ x ∈ xs, Post (f x) (P x)) → Post (tmap f xs) fun ys => ys.length = xs.length ∧ ∀ (k : Nat) (x : A) (y : B), xs[k]? = some x → ys[k]? = some y → P x y
  | [], _ => ⟨[], rfl, rfl, fun k x y h => by simp at h⟩
  | x :: xs, h => by
    obtain ⟨y, hy, p⟩ := h x (by simp)
    obtain ⟨ys, hys, hl, q⟩ := tmap_post (f := f) (P := P) fun z hz => h z (List.mem_cons_of_mem _ hz)
    refine ⟨y :: ys, by rw [tmap, hy, Option.bind_some, hys]; rfl, by simp [hl], fun k x' y' h1 h2 => ?_⟩
    cases k with
    | zero => simp at h1 h2; subst h1 h2; exact p
    | succ k => exact q k x' y' (by simpa using h1) (by simpa using h2)
theorem tmapS_post {f : A → S → Option (B × S)} {I : S → Prop} {P : B → Prop} (h : ∀ x s, I s → Post (f x s) fun r => P r.1 ∧ I r.2) : ∀ (xs : List A) (s : S), I s → Post (tmapS f xs s) fun r => r.1.length = xs.length ∧ (∀ y ∈ r.1, P y) ∧ I r.2
  | [], s, hs => ⟨([], s), rfl, rfl, by simp, hs⟩
  | x :: xs, s, hs => by
    obtain ⟨⟨y, s1⟩, e1, p, i1⟩ := h x s hs
    obtain ⟨⟨ys, s2⟩, e2, hl, q, i2⟩ := tmapS_post h xs s1 i1
    refine ⟨(y :: ys, s2), by rw [tmapS, e1, Option.bind_some, e2]; rfl, by simp [hl], fun z hz => ?_, i2⟩
    rcases List.mem_cons.mp hz with rfl | hz
    · exact p
    · exact q z hz
theorem tmapS_mem {f : A → S → Option (B × S)} {I : S → Prop} {P : B → Prop} : ∀ (xs : List A), (∀ x ∈ xs, ∀ s, I s → Post (f x s) fun r => P r.1 ∧ I r.2) → ∀ (s : S), I s → Post (tmapS f xs s) fun r => r.1.length = xs.length ∧ (∀ y ∈ r.1, P y) ∧ I r.2
  | [], _, s, hs => ⟨([], s), rfl, rfl, by simp, hs⟩
  | x :: xs, h, s, hs => by
    obtain ⟨⟨y, s1⟩, e1, p, i1⟩ := h x (by simp) s hs
    obtain ⟨⟨ys, s2⟩, e2, hl, q, i2⟩ := tmapS_mem xs (fun y hy => h y (List.mem_cons_of_mem _ hy)) s1 i1
    refine ⟨(y :: ys, s2), by rw [tmapS, e1, Option.bind_some, e2]; rfl, by simp [hl], fun z hz => ?_, i2⟩
    rcases List.mem_cons.mp hz with rfl | hz
    · exact p
    · exact q z hz
/-! loops -/
theorem tfold_post {f : A → S → Option S} {xs : List A} (I : List A → S → Prop) {s : S} (h0 : I [] s) (h : ∀ pre x suf s, xs = pre ++ x :: suf → I pre s → Post (f x s) (I (pre ++ [x]))) : Post (tfold f xs s) (I xs) := by
  have main : ∀ (suf pre : List A) (s : S), xs = pre ++ suf → I pre s → Post (tfold f suf s) (I xs) := by
    intro suf
    induction suf with
    | nil => intro pre s e i; rw [List.append_nil] at e; subst e; exact ⟨s, rfl, i⟩
    | cons x suf ih =>
      intro pre s e i
      obtain ⟨s1, e1, i1⟩ := h pre x suf s e i
      obtain ⟨s2, e2, i2⟩ := ih (pre ++ [x]) s1 (by rw [e]; simp) i1
      exact ⟨s2, by rw [tfold, e1]; exact e2, i2⟩
  exact main xs [] s rfl h0
theorem tfold_inv {f : A → S → Option S} (I : S → Prop) : ∀ {xs : List A} {s : S}, I s → (∀ x ∈ xs, ∀ s, I s → Post (f x s) I) → Post (tfold f xs s) I
  | [], s, h0, _ => ⟨s, rfl, h0⟩
  | x :: xs, s, h0, h => by
    obtain ⟨s1, e1, i1⟩ := h x (by simp) s h0
    obtain ⟨s2, e2, i2⟩ := tfold_inv I (xs := xs) i1 fun y hy => h y (List.mem_cons_of_mem _ hy)
    exact ⟨s2, by rw [tfold, e1]; exact e2, i2⟩
theorem tfold_eq {f : A → S → Option S} {g : S → A → S} : ∀ {xs : List A} {s : S}, (∀ x ∈ xs, ∀ s, f x s = some (g s x)) → tfold f xs s = some (xs.foldl g s)
  | [], _, _ => rfl
  | x :: xs, s, h => by rw [tfold, h x (by simp) s, Option.bind_some, tfold_eq fun y hy => h y (List.mem_cons_of_mem _ hy)]; rfl
theorem tforr_go {f : A → S → Option (Ex E S)} (I : S → Prop) : ∀ {xs : List A} {s : S}, I s → (∀ x ∈ xs, ∀ s, I s → Post (f x s) fun r => ∃ s', r = .go s' ∧ I s') → Post (tforr f xs s) fun r => ∃ s', r = .go s' ∧ I s'
  | [], s, h0, _ => ⟨.go s, rfl, s, rfl, h0⟩
  | x :: xs, s, h0, h => by
    obtain ⟨_, e1, s1, rfl, i1⟩ := h x (by simp) s h0
    obtain ⟨r, e2, i2⟩ := tforr_go I (xs := xs) i1 fun y hy => h y (List.mem_cons_of_mem _ hy)
    exact ⟨r, by rw [tforr, e1]; exact e2, i2⟩
theorem tforr_post {f : A → S → Option (Ex E S)} {xs : List A} (I : List A → S → Prop) {s : S} (h0 : I [] s) (h : ∀ pre x suf s, xs = pre ++ x :: suf → I pre s → Post (f x s) fun r => ∃ s', r = .go s' ∧ I (pre ++ [x]) s') : Post (tforr f xs s) fun r => ∃ s', r = .go s' ∧ I xs s' := by
  have main : ∀ (suf pre : List A) (s : S), xs = pre ++ suf → I pre s → Post (tforr f suf s) fun r => ∃ s', r = .go s' ∧ I xs s' := by
    intro suf
    induction suf with
    | nil => intro pre s e i; rw [List.append_nil] at e; subst e; exact ⟨_, rfl, s, rfl, i⟩
    | cons x suf ih =>
      intro pre s e i
      obtain ⟨_, e1, s1, rfl, i1⟩ := h pre x suf s e i
      obtain ⟨s2, e2, i2⟩ := ih (pre ++ [x]) s1 (by rw [e]; simp) i1
      exact ⟨s2, by rw [tforr, e1]; exact e2, i2⟩
  exact main xs [] s rfl h0
theorem tforr_gen {f : A → S → Option (Ex E S)} {xs : List A} (Q : E → Prop) (I : List A → S → Prop) {s : S} (h0 : I [] s) (h : ∀ pre x suf s, xs = pre ++ x :: suf → I pre s → Post (f x s) fun r => (∃ e, r = .ex e ∧ Q e) ∨ ∃ s', r = .go s' ∧ I (pre ++ [x]) s') : Post (tforr f xs s) fun r => (∃ e, r = .ex e ∧ Q e) ∨ ∃ s', r = .go s' ∧ I xs s' := by
  have main : ∀ (suf pre : List A) (s : S), xs = pre ++ suf → I pre s → Post (tforr f suf s) fun r => (∃ e, r = .ex e ∧ Q e) ∨ ∃ s', r = .go s' ∧ I xs s' := by
    intro suf
    induction suf with
    | nil => intro pre s e i; rw [List.append_nil] at e; subst e; exact ⟨_, rfl, .inr ⟨s, rfl, i⟩⟩
    | cons x suf ih =>
      intro pre s e i
      obtain ⟨_, e1, ⟨z, rfl, q⟩ | ⟨s1, rfl, i1⟩⟩ := h pre x suf s e i
      · exact ⟨_, by rw [tforr, e1]; rfl, .inl ⟨z, rfl, q⟩⟩
      · obtain ⟨s2, e2, i2⟩ := ih (pre ++ [x]) s1 (by rw [e]; simp) i1
        exact ⟨s2, by rw [tforr, e1]; exact e2, i2⟩
  exact main xs [] s rfl h0
/-- a loop that leaves with the first one that e tells -/
theorem tforr_find {f : A → Unit → Option (Ex E Unit)} (e : A → Option E) : ∀ {xs : List A}, (∀ x ∈ xs, f x () = some (match e x with | some r => .ex r | none => .go ())) → tforr f xs () = some (match xs.findSome? e with | some r => .ex r | none => .go ())
  | [], _ => rfl
  | x :: xs, h => by
    rw [tforr, h x (by simp), Option.bind_some, List.findSome?_cons]
    cases e x with
    | some r => rfl
    | none => exact tforr_find e fun y hy => h y (List.mem_cons_of_mem _ hy)
/-! least and greatest, sorted -/
def ltI (a b : Int) : Bool := decide (a < b)
abbrev mnI (x : Int) (xs : List Int) : Int := xs.foldl (fun a y => if decide (y < a) = true then y else a) x
theorem tmin_I {x : Int} {xs : List Int} : tmin (fun a b : Int => decide (a < b)) (x :: xs) = some (xs.foldl min x) := by
  show some (xs.foldl (fun a y => if decide (y < a) = true then y else a) x) = _
  rw [show (fun a y : Int => if decide (y < a) = true then y else a) = min by funext a y; by_cases h : y < a <;> simp [h] <;> omega]
theorem tmax_I {x : Int} {xs : List Int} : tmax (fun a b : Int => decide (a < b)) (x :: xs) = some (xs.foldl max x) := by
  show some (xs.foldl (fun a y => if decide (a < y) = true then y else a) x) = _
  rw [show (fun a y : Int => if decide (a < y) = true then y else a) = max by funext a y; by_cases h : a < y <;> simp [h] <;> omega]
theorem foldl_min_le : ∀ (xs : List Int) (x : Int), xs.foldl min x ≤ x ∧ ∀ y ∈ xs, xs.foldl min x ≤ y
  | [], x => ⟨Int.le_refl _, by simp⟩
  | y :: xs, x => by
    obtain ⟨h1, h2⟩ := foldl_min_le xs (min x y)
    rw [List.foldl_cons]
    refine ⟨by omega, fun z hz => ?_⟩
    rcases List.mem_cons.mp hz with rfl | hz
    · omega
    · exact h2 z hz
theorem foldl_min_mem : ∀ (xs : List Int) (x : Int), xs.foldl min x ∈ x :: xs
  | [], x => by simp
  | y :: xs, x => by
    rw [List.foldl_cons]
    have := foldl_min_mem xs (min x y)
    rcases List.mem_cons.mp this with h | h
    · rw [h]; rcases Int.le_total x y with q | q
      · rw [Int.min_eq_left q]; simp
      · rw [Int.min_eq_right q]; simp
    · exact List.mem_cons_of_mem _ (List.mem_cons_of_mem _ h)
theorem foldl_max_le : ∀ (xs : List Int) (x : Int), x ≤ xs.foldl max x ∧ ∀ y ∈ xs, y ≤ xs.foldl max x
  | [], x => ⟨Int.le_refl _, by simp⟩
  | y :: xs, x => by
    obtain ⟨h1, h2⟩ := foldl_max_le xs (max x y)
    rw [List.foldl_cons]
    refine ⟨by omega, fun z hz => ?_⟩
    rcases List.mem_cons.mp hz with rfl | hz
    · omega
    · exact h2 z hz
theorem foldl_max_mem : ∀ (xs : List Int) (x : Int), xs.foldl max x ∈ x :: xs
  | [], x => by simp
  | y :: xs, x => by
    rw [List.foldl_cons]
    have := foldl_max_mem xs (max x y)
    rcases List.mem_cons.mp this with h | h
    · rw [h]; rcases Int.le_total x y with q | q
      · rw [Int.max_eq_right q]; simp
      · rw [Int.max_eq_left q]; simp
    · exact List.mem_cons_of_mem _ (List.mem_cons_of_mem _ h)
/-- the least of numbers that are there, told by what it is -/
theorem tmin_is {xs : List Int} {m : Int} (h : m ∈ xs) (hl : ∀ y ∈ xs, m ≤ y) : tmin (fun a b : Int => decide (a < b)) xs = some m := by
  cases xs with
  | nil => simp at h
  | cons x xs =>
    rw [tmin_I]
    obtain ⟨h1, h2⟩ := foldl_min_le xs x
    have h3 := foldl_min_mem xs x
    have h4 := hl _ h3
    rcases List.mem_cons.mp h with rfl | h
    · congr 1; omega
    · have := h2 m h; congr 1; omega
theorem tmax_is {xs : List Int} {m : Int} (h : m ∈ xs) (hl : ∀ y ∈ xs, y ≤ m) : tmax (fun a b : Int => decide (a < b)) xs = some m := by
  cases xs with
  | nil => simp at h
  | cons x xs =>
    rw [tmax_I]
    obtain ⟨h1, h2⟩ := foldl_max_le xs x
    have h3 := foldl_max_mem xs x
    have h4 := hl _ h3
    rcases List.mem_cons.mp h with rfl | h
    · congr 1; omega
    · have := h2 m h; congr 1; omega
theorem tmin_post {xs : List Int} (h : xs ≠ []) : Post (tmin (fun a b : Int => decide (a < b)) xs) fun m => m ∈ xs ∧ ∀ y ∈ xs, m ≤ y := by
  cases xs with
  | nil => exact absurd rfl h
  | cons x xs =>
    refine ⟨_, tmin_I, foldl_min_mem xs x, fun y hy => ?_⟩
    obtain ⟨h1, h2⟩ := foldl_min_le xs x
    rcases List.mem_cons.mp hy with rfl | hy
    · exact h1
    · exact h2 y hy
theorem tmax_post {xs : List Int} (h : xs ≠ []) : Post (tmax (fun a b : Int => decide (a < b)) xs) fun m => m ∈ xs ∧ ∀ y ∈ xs, y ≤ m := by
  cases xs with
  | nil => exact absurd rfl h
  | cons x xs =>
    refine ⟨_, tmax_I, foldl_max_mem xs x, fun y hy => ?_⟩
    obtain ⟨h1, h2⟩ := foldl_max_le xs x
    rcases List.mem_cons.mp hy with rfl | hy
    · exact h1
    · exact h2 y hy
/-- sorted whole numbers -/
theorem srt_perm (xs : List Int) : (tsort (fun a b : Int => decide (a < b)) xs).Perm xs := List.mergeSort_perm _ _
theorem srt_len (xs : List Int) : (tsort (fun a b : Int => decide (a < b)) xs).length = xs.length := (srt_perm xs).length_eq
theorem srt_mem {xs : List Int} {x : Int} : x ∈ tsort (fun a b : Int => decide (a < b)) xs ↔ x ∈ xs := (srt_perm xs).mem_iff
theorem srt_le (xs : List Int) : (tsort (fun a b : Int => decide (a < b)) xs).Pairwise (· ≤ ·) := by
  have := List.pairwise_mergeSort (le := fun a b : Int => !decide (b < a)) (fun a b c h1 h2 => by simp at *; omega) (fun a b => by simp; omega) xs
  exact this.imp fun h => by simpa using h
theorem srt_at {xs : List Int} {i j : Nat} {x y : Int} (hij : i ≤ j) (hi : (tsort (fun a b : Int => decide (a < b)) xs)[i]? = some x) (hj : (tsort (fun a b : Int => decide (a < b)) xs)[j]? = some y) : x ≤ y := by
  rcases Nat.lt_or_eq_of_le hij with h | h
  · obtain ⟨h1, rfl⟩ := List.getElem?_eq_some_iff.mp hi
    obtain ⟨h2, rfl⟩ := List.getElem?_eq_some_iff.mp hj
    exact List.pairwise_iff_getElem.mp (srt_le xs) i j h1 h2 h
  · subst h; rw [hi] at hj; cases hj; exact Int.le_refl _
theorem srt_eq {xs ys : List Int} (h : xs.Perm ys) : tsort (fun a b : Int => decide (a < b)) xs = tsort (fun a b : Int => decide (a < b)) ys := sort_uniq ((srt_perm xs).trans (h.trans (srt_perm ys).symm)) (srt_le xs) (srt_le ys)
theorem srt_of {xs : List Int} (h : xs.Pairwise (· ≤ ·)) : tsort (fun a b : Int => decide (a < b)) xs = xs := sort_uniq (srt_perm xs) (srt_le xs) h
/-- sorted, to be reckoned -/
def insI (x : Int) : List Int → List Int
  | [] => [x]
  | y :: ys => if x ≤ y then x :: y :: ys else y :: insI x ys
def isrt : List Int → List Int
  | [] => []
  | x :: xs => insI x (isrt xs)
theorem insI_perm (x : Int) : ∀ ys : List Int, (insI x ys).Perm (x :: ys)
  | [] => List.Perm.refl _
  | y :: ys => by
    rw [insI]
    split
    · exact List.Perm.refl _
    · exact ((insI_perm x ys).cons y).trans (List.Perm.swap x y ys)
theorem insI_le (x : Int) : ∀ {ys : List Int}, ys.Pairwise (· ≤ ·) → (insI x ys).Pairwise (· ≤ ·)
  | [], _ => by simp [insI]
  | y :: ys, h => by
    have h1 := List.pairwise_cons.mp h
    rw [insI]
    split
    · rename_i q
      refine List.pairwise_cons.mpr ⟨fun z hz => ?_, h⟩
      rcases List.mem_cons.mp hz with rfl | hz
      · exact q
      · have := h1.1 z hz; omega
    · rename_i q
      refine List.pairwise_cons.mpr ⟨fun z hz => ?_, insI_le x h1.2⟩
      rcases List.mem_cons.mp ((insI_perm x ys).mem_iff.mp hz) with rfl | hz
      · omega
      · exact h1.1 z hz
theorem isrt_ok : ∀ xs : List Int, (isrt xs).Perm xs ∧ (isrt xs).Pairwise (· ≤ ·)
  | [] => ⟨List.Perm.refl _, List.Pairwise.nil⟩
  | x :: xs => ⟨(insI_perm x _).trans ((isrt_ok xs).1.cons x), insI_le x (isrt_ok xs).2⟩
theorem srt_isrt : tsort (fun a b : Int => decide (a < b)) = isrt := by
  funext xs
  exact sort_uniq ((srt_perm xs).trans (isrt_ok xs).1.symm) (srt_le xs) (isrt_ok xs).2
end TL
/-!
TW: sorting by any order of rows of ints, so that the kernel can reckon it
-/
namespace LP
open PySem PySem.Spec PyProof.Rows L2 PF TL
theorem perm_uniq {R : A → A → Prop} (an : ∀ a b, R a b → R b a → a = b) : ∀ {xs ys : List A}, xs.Perm ys → xs.Pairwise R → ys.Pairwise R → xs = ys
  | [], ys, h, _, _ => by rw [List.Perm.nil_eq h]
  | x :: xs, [], h, _, _ => by have := h.length_eq; simp at this
  | x :: xs, y :: ys, h, h1, h2 => by
    cases h1 with | cons a1 b1 =>
    cases h2 with | cons a2 b2 =>
    have hx : x ∈ y :: ys := h.mem_iff.mp (by simp)
    have hy : y ∈ x :: xs := h.mem_iff.mpr (by simp)
    have e : x = y := by
      rcases List.mem_cons.mp hx with e | hx
      · exact e
      · rcases List.mem_cons.mp hy with e | hy
        · exact e.symm
        · exact an x y (a1 y hy) (a2 x hx)
    subst e
    rw [perm_uniq an ((List.perm_cons x).mp h) b1 b2]
structure Lin (lt : A → A → Bool) : Prop where
  tr : ∀ a b c, lt b a = false → lt c b = false → lt c a = false
  to : ∀ a b, lt a b = false ∨ lt b a = false
  an : ∀ a b, lt a b = false → lt b a = false → a = b
theorem lin_int : Lin fun a b : Int => decide (a < b) := by
  refine ⟨fun a b c h1 h2 => ?_, fun a b => ?_, fun a b h1 h2 => ?_⟩
  · rw [decide_eq_false_iff_not] at *; omega
  · rw [decide_eq_false_iff_not, decide_eq_false_iff_not]; omega
  · rw [decide_eq_false_iff_not] at *; omega
theorem lin_lx [DecidableEq A] [DecidableEq B] {l1 : A → A → Bool} {l2 : B → B → Bool} (h1 : Lin l1) (h2 : Lin l2) : Lin (lx l1 l2) := by
  refine ⟨fun a b c p q => ?_, fun a b => ?_, fun a b p q => ?_⟩
  · unfold lx at p q ⊢
    by_cases e1 : b.1 = a.1
    · rw [if_pos e1] at p
      by_cases e2 : c.1 = b.1
      · rw [if_pos e2] at q
        rw [if_pos (e2.trans e1)]
        exact h2.tr _ _ _ p q
      · rw [if_neg e2] at q
        rw [if_neg fun z => e2 (z.trans e1.symm), ← e1]
        exact q
    · rw [if_neg e1] at p
      by_cases e2 : c.1 = b.1
      · rw [if_neg fun z => e1 (e2.symm.trans z), e2]
        exact p
      · rw [if_neg e2] at q
        by_cases e3 : c.1 = a.1
        · exfalso
          rw [e3] at q
          exact e1 (h1.an _ _ p q)
        · rw [if_neg e3]
          exact h1.tr _ _ _ p q
  · unfold lx
    by_cases e : a.1 = b.1
    · rw [if_pos e, if_pos e.symm]; exact h2.to _ _
    · rw [if_neg e, if_neg fun z => e z.symm]; exact h1.to _ _
  · unfold lx at p q
    by_cases e : a.1 = b.1
    · rw [if_pos e] at p
      rw [if_pos e.symm] at q
      exact Prod.ext e (h2.an _ _ p q)
    · rw [if_neg e] at p
      rw [if_neg fun z => e z.symm] at q
      exact absurd (h1.an _ _ p q) e
def insG (lt : A → A → Bool) (x : A) : List A → List A
  | [] => [x]
  | y :: ys => if lt y x = true then y :: insG lt x ys else x :: y :: ys
def isrtG (lt : A → A → Bool) : List A → List A
  | [] => []
  | x :: xs => insG lt x (isrtG lt xs)
theorem insG_perm (lt : A → A → Bool) (x : A) : ∀ ys : List A, (insG lt x ys).Perm (x :: ys)
  | [] => .refl _
  | y :: ys => by
    unfold insG
    split
    · exact ((insG_perm lt x ys).cons y).trans (.swap ..)
    · exact .refl _
theorem insG_le {lt : A → A → Bool} (h : Lin lt) (x : A) : ∀ {ys : List A}, ys.Pairwise (fun a b => lt b a = false) → (insG lt x ys).Pairwise fun a b => lt b a = false
  | [], _ => by unfold insG; exact .cons (fun _ h => by cases h) .nil
  | y :: ys, hp => by
    cases hp with | cons a b =>
    unfold insG
    split
    · rename_i q
      refine .cons (fun z hz => ?_) (insG_le h x b)
      rcases List.mem_cons.mp ((insG_perm lt x ys).mem_iff.mp hz) with rfl | hz
      · rcases h.to z y with e | e
        · exact e
        · rw [q] at e; cases e
      · exact a z hz
    · rename_i q
      have q := Bool.eq_false_iff.mpr q
      refine .cons (fun z hz => ?_) (.cons a b)
      rcases List.mem_cons.mp hz with rfl | hz
      · exact q
      · exact h.tr _ _ _ q (a z hz)
theorem isrtG_ok {lt : A → A → Bool} (h : Lin lt) : ∀ xs : List A, (isrtG lt xs).Perm xs ∧ (isrtG lt xs).Pairwise fun a b => lt b a = false
  | [] => ⟨.refl _, .nil⟩
  | x :: xs => ⟨(insG_perm lt x _).trans ((isrtG_ok h xs).1.cons x), insG_le h x (isrtG_ok h xs).2⟩
theorem tsort_perm (lt : A → A → Bool) (xs : List A) : (tsort lt xs).Perm xs := List.mergeSort_perm _ _
theorem tsort_len (lt : A → A → Bool) (xs : List A) : (tsort lt xs).length = xs.length := (tsort_perm lt xs).length_eq
theorem tsort_le {lt : A → A → Bool} (h : Lin lt) (xs : List A) : (tsort lt xs).Pairwise fun a b => lt b a = false := by
  have := List.pairwise_mergeSort (le := fun a b : A => !lt b a) (fun a b c h1 h2 => by
    simp only [Bool.not_eq_true'] at *; exact h.tr _ _ _ h1 h2) (fun a b => by
    rw [Bool.or_eq_true, Bool.not_eq_true', Bool.not_eq_true']; exact (h.to b a)) xs
  exact this.imp fun {a b} h => by simpa using h
theorem tsort_uniq {lt : A → A → Bool} (h : Lin lt) {xs ys : List A} (hp : ys.Perm xs) (hl : ys.Pairwise fun a b => lt b a = false) : tsort lt xs = ys :=
  perm_uniq (fun a b p q => h.an _ _ q p) ((tsort_perm lt xs).trans hp.symm) (tsort_le h xs) hl
theorem tsort_isrt {lt : A → A → Bool} (h : Lin lt) : tsort lt = isrtG lt := funext fun xs => tsort_uniq h (isrtG_ok h xs).1 (isrtG_ok h xs).2
theorem tsort_eq {lt : A → A → Bool} (h : Lin lt) {xs ys : List A} (p : xs.Perm ys) : tsort lt xs = tsort lt ys := tsort_uniq h ((tsort_perm lt ys).trans p.symm) (tsort_le h ys)
theorem lin2 : Lin (lx (fun a b : Int => decide (a < b)) (fun a b : Int => decide (a < b))) := lin_lx lin_int lin_int
theorem lin3 : Lin (lx (fun a b : Int => decide (a < b)) (lx (fun a b : Int => decide (a < b)) (fun a b : Int => decide (a < b)))) := lin_lx lin_int lin2
theorem sortU_k (xs : List Int) : sortU xs = dedS (isrt xs) := by
  unfold sortU
  congr 1
  exact sort_uniq ((sortI_perm xs).trans (isrt_ok xs).1.symm) (sortI_le xs) (isrt_ok xs).2
theorem tsortU_k : tsortU = fun xs : List Int => if xs.length < 64 then some (dedS (isrt xs)) else none := by
  funext xs; unfold tsortU; rw [sortU_k]
theorem tlenU_k : tlenU = fun xs : List Int => if xs.length ≤ 4000 then some ((dedS (isrt xs)).length : Int) else none := by
  funext xs; unfold tlenU; rw [sortU_k]
end LP
namespace LP
open PySem PySem.Spec PyProof.Rows L2 PF
/-- fraction(n, d): slots ['n', 'd', 'divisor'] -/
def bfraction : FS :=
    sSeq (sSet 2 (fB gGcd (fCons (fVar 0) (fCons (fVar 1) (fNil)))))
      (sSeq (sIf (f2T (gCmp fun i j => decide (i < j)) (fVar 1) (fC (.int 0)))
      (sSet 2 (f1 gNeg (fVar 2)))
      (sNext))
      (sRet (fTup (fCons (f2 gFdiv (fVar 0) (fVar 2)) (fCons (f2 gFdiv (fVar 1) (fVar 2)) (fNil))))))
def cfraction : FnC := runFn false 3 bfraction
abbrev qfraction : FnC := cfraction
theorem hqfraction : ∀ ds M r, qfraction ds M = some r → cfraction ds M = some r := fun _ _ _ h => h
/-- middle_pick(minutes): slots ['minutes'] -/
def bmiddle_pick : FS :=
    sRet (f2 gIx (fFz (fBN gSortA (fCons (fVar 0) (fNil)))) (f2 gFdiv (f2 gSub (fB gLen (fCons (fVar 0) (fNil))) (fC (.int 1))) (fC (.int 2))))
def cmiddle_pick : FnC := runFn false 1 bmiddle_pick
abbrev qmiddle_pick : FnC := cmiddle_pick
theorem hqmiddle_pick : ∀ ds M r, qmiddle_pick ds M = some r → cmiddle_pick ds M = some r := fun _ _ _ h => h
/-- far_from_middle(minutes): slots ['minutes', 'middle', 'minute'] -/
def bfar_from_middle : FS :=
    sSeq (sSet 1 (fCall qmiddle_pick (fCons (fVar 0) (fNil))))
      (sRet (fFz (fLC [2] (fiSq (fVar 0)) (tN 2) (fYes) (fB gAbs (fCons (f2 gSub (fVar 2) (fVar 1)) (fNil))))))
def cfar_from_middle : FnC := runFn false 3 bfar_from_middle
abbrev qfar_from_middle : FnC := cfar_from_middle
theorem hqfar_from_middle : ∀ ds M r, qfar_from_middle ds M = some r → cfar_from_middle ds M = some r := fun _ _ _ h => h
/-- spread_of_picks(minutes): slots ['minutes'] -/
def bspread_of_picks : FS :=
    sRet (fCall qmiddle_pick (fCons (fCall qfar_from_middle (fCons (fVar 0) (fNil))) (fNil)))
def cspread_of_picks : FnC := runFn false 1 bspread_of_picks
abbrev qspread_of_picks : FnC := cspread_of_picks
theorem hqspread_of_picks : ∀ ds M r, qspread_of_picks ds M = some r → cspread_of_picks ds M = some r := fun _ _ _ h => h
/-- without_far(minutes, times): slots ['minutes', 'times', 'bound', 'far', 'at'] -/
def bwithout_far : FS :=
    sSeq (sSet 2 (f2 gMul (fVar 1) (fCall qspread_of_picks (fCons (fVar 0) (fNil)))))
      (sSeq (sSet 3 (fCall qfar_from_middle (fCons (fVar 0) (fNil))))
      (sRet (fB gTuple (fCons (fFz (fLC [4] (fiRg1 (fCons (fB gLen (fCons (fVar 0) (fNil))) (fNil))) (tN 4) (f2T (gCmp fun i j => decide (i ≤ j)) (f2 gIx (fVar 3) (fVar 4)) (fVar 2)) (f2 gIx (fVar 0) (fVar 4)))) (fNil)))))
def cwithout_far : FnC := runFn false 5 bwithout_far
abbrev qwithout_far : FnC := cwithout_far
theorem hqwithout_far : ∀ ds M r, qwithout_far ds M = some r → cwithout_far ds M = some r := fun _ _ _ h => h
/-- mean_of_picks(minutes): slots ['minutes'] -/
def bmean_of_picks : FS :=
    sRet (fCall qfraction (fCons (fB gSumA (fCons (fVar 0) (fNil))) (fCons (fB gLen (fCons (fVar 0) (fNil))) (fNil))))
def cmean_of_picks : FnC := runFn false 1 bmean_of_picks
abbrev qmean_of_picks : FnC := cmean_of_picks
theorem hqmean_of_picks : ∀ ds M r, qmean_of_picks ds M = some r → cmean_of_picks ds M = some r := fun _ _ _ h => h
/-- best_pick(minutes, weights): slots ['minutes', 'weights', 'told', 'minute', 'at'] -/
def bbest_pick : FS :=
    sSeq (sSet 2 (fMut (fLstD (fNil))))
      (sSeq (sFor (fiSq (fVar 0)) (tN 3)
      (sDrop (fM "list" gAppend (fVar 2) (fCons (fTup (fCons (fB gSumA (fCons (fFz (fLC [4] (fiRg1 (fCons (fB gLen (fCons (fVar 0) (fNil))) (fNil))) (tN 4) (fYes) (f2 gMul (f2 gIx (fVar 1) (fVar 4)) (fB gAbs (fCons (f2 gSub (f2 gIx (fVar 0) (fVar 4)) (fVar 3)) (fNil)))))) (fNil))) (fCons (fVar 3) (fNil)))) (fNil)))))
      (sRet (f2 gIx (fB gMin1 (fCons (fVar 2) (fNil))) (fC (.int 1)))))
def cbest_pick : FnC := runFn false 5 bbest_pick
abbrev qbest_pick : FnC := cbest_pick
theorem hqbest_pick : ∀ ds M r, qbest_pick ds M = some r → cbest_pick ds M = some r := fun _ _ _ h => h
/-- moved_by_one(minutes): slots ['minutes', 'told', 'at'] -/
def bmoved_by_one : FS :=
    sSeq (sSet 1 (fFz (fBN gSortA (fCons (fVar 0) (fNil)))))
      (sSeq (sSet 2 (f2 gFdiv (f2 gSub (fB gLen (fCons (fVar 1) (fNil))) (fC (.int 1))) (fC (.int 2))))
      (sRet (fB gMax2 (fCons (f2 gSub (f2 gIx (fVar 1) (fVar 2)) (f2 gIx (fVar 1) (f2 gSub (fVar 2) (fC (.int 1))))) (fCons (f2 gSub (f2 gIx (fVar 1) (f2 gAdd (fVar 2) (fC (.int 1)))) (f2 gIx (fVar 1) (fVar 2))) (fNil))))))
def cmoved_by_one : FnC := runFn false 3 bmoved_by_one
abbrev qmoved_by_one : FnC := cmoved_by_one
theorem hqmoved_by_one : ∀ ds M r, qmoved_by_one ds M = some r → cmoved_by_one ds M = some r := fun _ _ _ h => h
/-- weighed_middles(pairs): slots ['pairs', 'whole', 'number', 'weight', 'found', 'below'] -/
def bweighed_middles : FS :=
    sSeq (sSet 1 (fB gSumA (fCons (fFz (fLC [2, 3] (fiSq (fVar 0)) (tTA 2 (tsC (tN 2) (tsC (tN 3) (tsN)))) (fYes) (fVar 3))) (fNil))))
      (sSeq (sSet 4 (fMut (fLstD (fNil))))
      (sSeq (sSet 5 (fC (.int 0)))
      (sSeq (sFor (fiSq (fFz (fBN gSortA (fCons (fVar 0) (fNil))))) (tTA 2 (tsC (tN 2) (tsC (tN 3) (tsN))))
      (sSeq (sAug 5 gIAddA (fVar 3))
      (sSeq (sIf (fAnd (f2T (gEq) (fB gLen (fCons (fVar 4) (fNil))) (fC (.int 0))) (f2T (gCmp fun i j => decide (j ≤ i)) (f2 gMul (fC (.int 2)) (fVar 5)) (fVar 1)))
      (sDrop (fM "list" gAppend (fVar 4) (fCons (fVar 2) (fNil))))
      (sNext))
      (sIf (fAnd (f2T (gEq) (fB gLen (fCons (fVar 4) (fNil))) (fC (.int 1))) (f2T (gCmp fun i j => decide (j < i)) (f2 gMul (fC (.int 2)) (fVar 5)) (fVar 1)))
      (sDrop (fM "list" gAppend (fVar 4) (fCons (fVar 2) (fNil))))
      (sNext)))))
      (sRet (fTup (fCons (f2 gIx (fVar 4) (fC (.int 0))) (fCons (f2 gIx (fVar 4) (fC (.int 1))) (fNil))))))))
def cweighed_middles : FnC := runFn false 6 bweighed_middles
abbrev qweighed_middles : FnC := cweighed_middles
theorem hqweighed_middles : ∀ ds M r, qweighed_middles ds M = some r → cweighed_middles ds M = some r := fun _ _ _ h => h
/-- best_span(votes): slots ['votes', 'xs', 'x', 'y', 'weight', 'ys'] -/
def bbest_span : FS :=
    sSeq (sSet 1 (fCall qweighed_middles (fCons (fFz (fLC [2, 3, 4] (fiSq (fVar 0)) (tTA 3 (tsC (tN 2) (tsC (tN 3) (tsC (tN 4) (tsN))))) (fYes) (fTup (fCons (fVar 2) (fCons (fVar 4) (fNil)))))) (fNil))))
      (sSeq (sSet 5 (fCall qweighed_middles (fCons (fFz (fLC [2, 3, 4] (fiSq (fVar 0)) (tTA 3 (tsC (tN 2) (tsC (tN 3) (tsC (tN 4) (tsN))))) (fYes) (fTup (fCons (fVar 3) (fCons (fVar 4) (fNil)))))) (fNil))))
      (sRet (fTup (fCons (fTup (fCons (f2 gIx (fVar 1) (fC (.int 0))) (fCons (f2 gIx (fVar 5) (fC (.int 0))) (fNil)))) (fCons (fTup (fCons (f2 gIx (fVar 1) (fC (.int 1))) (fCons (f2 gIx (fVar 5) (fC (.int 1))) (fNil)))) (fNil))))))
def cbest_span : FnC := runFn false 6 bbest_span
abbrev qbest_span : FnC := cbest_span
theorem hqbest_span : ∀ ds M r, qbest_span ds M = some r → cbest_span ds M = some r := fun _ _ _ h => h
/-- best_vote(votes): slots ['votes'] -/
def bbest_vote : FS :=
    sRet (f2 gIx (fCall qbest_span (fCons (fVar 0) (fNil))) (fC (.int 0)))
def cbest_vote : FnC := runFn false 1 bbest_vote
abbrev qbest_vote : FnC := cbest_vote
theorem hqbest_vote : ∀ ds M r, qbest_vote ds M = some r → cbest_vote ds M = some r := fun _ _ _ h => h
/-- sum_far(votes, place): slots ['votes', 'place', 'x', 'y', 'weight'] -/
def bsum_far : FS :=
    sRet (fB gSumA (fCons (fFz (fLC [2, 3, 4] (fiSq (fVar 0)) (tTA 3 (tsC (tN 2) (tsC (tN 3) (tsC (tN 4) (tsN))))) (fYes) (f2 gMul (fVar 4) (f2 gAdd (fB gAbs (fCons (f2 gSub (fVar 2) (f2 gIx (fVar 1) (fC (.int 0)))) (fNil))) (fB gAbs (fCons (f2 gSub (fVar 3) (f2 gIx (fVar 1) (fC (.int 1)))) (fNil))))))) (fNil)))
def csum_far : FnC := runFn false 5 bsum_far
abbrev qsum_far : FnC := csum_far
theorem hqsum_far : ∀ ds M r, qsum_far ds M = some r → csum_far ds M = some r := fun _ _ _ h => h
/-- worst_far(votes, place): slots ['votes', 'place', 'x', 'y', 'weight'] -/
def bworst_far : FS :=
    sRet (fB gMax1 (fCons (fFz (fLC [2, 3, 4] (fiSq (fVar 0)) (tTA 3 (tsC (tN 2) (tsC (tN 3) (tsC (tN 4) (tsN))))) (fYes) (f2 gAdd (fB gAbs (fCons (f2 gSub (fVar 2) (f2 gIx (fVar 1) (fC (.int 0)))) (fNil))) (fB gAbs (fCons (f2 gSub (fVar 3) (f2 gIx (fVar 1) (fC (.int 1)))) (fNil)))))) (fNil)))
def cworst_far : FnC := runFn false 5 bworst_far
abbrev qworst_far : FnC := cworst_far
theorem hqworst_far : ∀ ds M r, qworst_far ds M = some r → cworst_far ds M = some r := fun _ _ _ h => h
/-- without_one(votes, at): slots ['votes', 'at'] -/
def bwithout_one : FS :=
    sRet (fCall qbest_vote (fCons (f2 gAdd (fSlice (fVar 0) (fNoPart) (fPart (fVar 1))) (fSlice (fVar 0) (fPart (f2 gAdd (fVar 1) (fC (.int 1)))) (fNoPart))) (fNil)))
def cwithout_one : FnC := runFn false 2 bwithout_one
abbrev qwithout_one : FnC := cwithout_one
theorem hqwithout_one : ∀ ds M r, qwithout_one ds M = some r → cwithout_one ds M = some r := fun _ _ _ h => h
/-- greatest_move(votes): slots ['votes', 'x', 'y', 'moved', 'at', 'other', 'beside'] -/
def bgreatest_move : FS :=
    sSeq (sAsg (fCall qbest_vote (fCons (fVar 0) (fNil))) (tTA 2 (tsC (tN 1) (tsC (tN 2) (tsN)))))
      (sSeq (sSet 3 (fFz (fLC [4] (fiRg1 (fCons (fB gLen (fCons (fVar 0) (fNil))) (fNil))) (tN 4) (fYes) (fCall qwithout_one (fCons (fVar 0) (fCons (fVar 4) (fNil)))))))
      (sRet (fB gMax1 (fCons (fFz (fLC [5, 6] (fiSq (fVar 3)) (tTA 2 (tsC (tN 5) (tsC (tN 6) (tsN)))) (fYes) (f2 gAdd (fB gAbs (fCons (f2 gSub (fVar 5) (fVar 1)) (fNil))) (fB gAbs (fCons (f2 gSub (fVar 6) (fVar 2)) (fNil)))))) (fNil)))))
def cgreatest_move : FnC := runFn false 7 bgreatest_move
abbrev qgreatest_move : FnC := cgreatest_move
theorem hqgreatest_move : ∀ ds M r, qgreatest_move ds M = some r → cgreatest_move ds M = some r := fun _ _ _ h => h
/-- _law_draws(script, many): slots ['script', 'many', 'cells', 'cell', 'rest', 'draws', 'k', 'at', 'once'] -/
def b_law_draws : FS :=
    sSeq (sSet 2 (fMut (fLC [3] (fiSq (fVar 0)) (tN 3) (fYes) (fB gInt (fCons (fVar 3) (fNil))))))
      (sSeq (sIf (f2T (gEq) (fB gLen (fCons (fVar 2) (fNil))) (fC (.int 0)))
      (sDrop (fM "list" gAppend (fVar 2) (fCons (fC (.int 0)) (fNil))))
      (sNext))
      (sSeq (sSet 4 (fMut (fBN gList (fCons (fVar 2) (fNil)))))
      (sSeq (sSet 5 (fMut (fLstD (fNil))))
      (sSeq (sFor (fiRg1 (fCons (fVar 1) (fNil))) (tN 6)
      (sSeq (sSet 7 (f2 gMod (fVar 6) (fB gLen (fCons (fVar 2) (fNil)))))
      (sIf (fAnd (f2T (gCmp fun i j => decide (j ≤ i)) (f2 gIx (fVar 2) (fVar 7)) (f2 gPow (fC (.int 10)) (fC (.int 18)))) (f2T (gCmp fun i j => decide (j < i)) (f2 gIx (fVar 4) (fVar 7)) (fC (.int 0))))
      (sSeq (sDrop (fM "list" gAppend (fVar 5) (fCons (f2 gMod (fB gInt (fCons (f2 gIx (fVar 4) (fVar 7)) (fNil))) (fC (.int 1000))) (fNil))))
      (sSetIx (f2 gFdiv (f2 gIx (fVar 4) (fVar 7)) (fC (.int 1000))) (fVar 4) (fVar 7)))
      (sSeq (sSet 8 (f2 gMod (fB gInt (fCons (f2 gAdd (f2 gAdd (f2 gMul (f2 gIx (fVar 2) (fVar 7)) (fC (.int 48271))) (f2 gMul (fVar 6) (fC (.int 69621)))) (fC (.int 11))) (fNil))) (fC (.int 2147483647))))
      (sDrop (fM "list" gAppend (fVar 5) (fCons (f2 gMod (fB gInt (fCons (f2 gAdd (f2 gAdd (f2 gMul (fVar 8) (fVar 8)) (f2 gMul (fC (.int 3)) (fVar 8))) (fVar 6)) (fNil))) (fC (.int 1000003))) (fNil))))))))
      (sSeq (sDrop (fM "list" gReverse (fVar 5) (fNil)))
      (sRet (fVar 5)))))))
def c_law_draws : FnC := runFn true 9 b_law_draws
abbrev q_law_draws : FnC := c_law_draws
theorem hq_law_draws : ∀ ds M r, q_law_draws ds M = some r → c_law_draws ds M = some r := fun _ _ _ h => h
/-- _law_take(draws, many): slots ['draws', 'many'] -/
def b_law_take : FS :=
    sSeq (sIf (f2T (gEq) (fB gLen (fCons (fVar 0) (fNil))) (fC (.int 0)))
      (sRet (fC (.int 0)))
      (sNext))
      (sRet (f2 gMod (fB gInt (fCons (fM "list" gPop (fVar 0) (fNil)) (fNil))) (fVar 1)))
def c_law_take : FnC := runFn false 2 b_law_take
abbrev q_law_take : FnC := c_law_take
theorem hq_law_take : ∀ ds M r, q_law_take ds M = some r → c_law_take ds M = some r := fun _ _ _ h => h
/-- _law_cell(script, at): slots ['script', 'at', 'cell'] -/
def b_law_cell : FS :=
    sSeq (sIf (f2T (gEq) (fB gLen (fCons (fVar 0) (fNil))) (fC (.int 0)))
      (sRet (fC (.int 0)))
      (sNext))
      (sSeq (sSet 2 (fB gInt (fCons (f2 gIx (fVar 0) (f2 gMod (fB gInt (fCons (fVar 1) (fNil))) (fB gLen (fCons (fVar 0) (fNil))))) (fNil))))
      (sRet (f2 gMul (f2 gMod (fB gAbs (fCons (fVar 2) (fNil))) (f2 gPow (fC (.int 10)) (fC (.int 60)))) (f2 gIx (fFz (fLstD (fCons (fC (.int 1)) (fCons (f1 gNeg (fC (.int 1))) (fNil))))) (fB gInt (fCons (f2 (gB (gCmp fun i j => decide (i < j))) (fVar 2) (fC (.int 0))) (fNil)))))))
def c_law_cell : FnC := runFn false 3 b_law_cell
abbrev q_law_cell : FnC := c_law_cell
theorem hq_law_cell : ∀ ds M r, q_law_cell ds M = some r → c_law_cell ds M = some r := fun _ _ _ h => h
/-- _law_same(actual, due): slots ['actual', 'due', 'k'] -/
def b_law_same (q_law_same : FnC) : FS :=
    sSeq (sIf (fTru (fIsi .bl (fVar 1)))
      (sRet (fAndV (fIsi .bl (fVar 0)) (f2 (gB (gEq)) (fVar 0) (fVar 1))))
      (sNext))
      (sSeq (sIf (fTru (fIsi .int (fVar 1)))
      (sRet (fAndV (fIsi .int (fVar 0)) (fAndV (fNotV (fIsi .bl (fVar 0))) (f2 (gB (gEq)) (fVar 0) (fVar 1)))))
      (sNext))
      (sSeq (sIf (fTru (fIsi .str (fVar 1)))
      (sRet (fAndV (fIsi .str (fVar 0)) (f2 (gB (gEq)) (fVar 0) (fVar 1))))
      (sNext))
      (sSeq (sIf (f2T (gIs) (fVar 1) (fC .non))
      (sRet (f2 (gB (gIs)) (fVar 0) (fC .non)))
      (sNext))
      (sSeq (sIf (fOr (fNot (fTru (fIsi .tup (fVar 0)))) (f2T (gNe) (fB gLen (fCons (fVar 0) (fNil))) (fB gLen (fCons (fVar 1) (fNil)))))
      (sRet (fC (.bl false)))
      (sNext))
      (sSeq (sFor (fiRg1 (fCons (fB gLen (fCons (fVar 1) (fNil))) (fNil))) (tN 2)
      (sIf (fNot (fTru (fCall q_law_same (fCons (f2 gIx (fVar 0) (fVar 2)) (fCons (f2 gIx (fVar 1) (fVar 2)) (fNil))))))
      (sRet (fC (.bl false)))
      (sNext)))
      (sRet (fC (.bl true))))))))
def c_law_same : Nat → FnC
  | 0, _, _ => none
  | n + 1, ds, M => runFn false 3 (b_law_same (c_law_same n)) ds M
def q_law_same : FnC := c_law_same 12
theorem hq_law_same : ∀ ds M r, q_law_same ds M = some r → c_law_same 12 ds M = some r := fun _ _ _ h => h
/-- _law_minutes(draws, script, many): slots ['draws', 'script', 'many', 'far', 'wide', 'k'] -/
def b_law_minutes : FS :=
    sSeq (sSet 3 (f2 gIx (fFz (fLstD (fCons (fC (.int 0)) (fCons (f2 gFdiv (fCall q_law_cell (fCons (fVar 1) (fCons (fCallS 0 q_law_take (fCons (fVar 0) (fCons (fC (.int 64)) (fNil)))) (fNil)))) (f2 gPow (fC (.int 10)) (fC (.int 32)))) (fNil))))) (fCallS 0 q_law_take (fCons (fVar 0) (fCons (fC (.int 2)) (fNil))))))
      (sSeq (sSet 4 (f2 gIx (fFz (fLstD (fCons (fC (.int 5)) (fCons (fC (.int 20)) (fCons (fC (.int 99)) (fNil)))))) (fCallS 0 q_law_take (fCons (fVar 0) (fCons (fC (.int 3)) (fNil))))))
      (sRet (fB gTuple (fCons (fFz (fLC [5] (fiRg1 (fCons (fVar 2) (fNil))) (tN 5) (fYes) (f2 gAdd (fVar 3) (fCallS 0 q_law_take (fCons (fVar 0) (fCons (fVar 4) (fNil))))))) (fNil)))))
def c_law_minutes : FnC := runFn false 6 b_law_minutes
abbrev q_law_minutes : FnC := c_law_minutes
theorem hq_law_minutes : ∀ ds M r, q_law_minutes ds M = some r → c_law_minutes ds M = some r := fun _ _ _ h => h
/-- _law_apart(one, other): slots ['one', 'other'] -/
def b_law_apart : FS :=
    sRet (f2 gSub (fB gMax2 (fCons (fVar 0) (fCons (fVar 1) (fNil)))) (fB gMin2 (fCons (fVar 0) (fCons (fVar 1) (fNil)))))
def c_law_apart : FnC := runFn false 2 b_law_apart
abbrev q_law_apart : FnC := c_law_apart
theorem hq_law_apart : ∀ ds M r, q_law_apart ds M = some r → c_law_apart ds M = some r := fun _ _ _ h => h
/-- _law_sum(minutes, weights, minute): slots ['minutes', 'weights', 'minute', 'k'] -/
def b_law_sum : FS :=
    sRet (fB gSumA (fCons (fFz (fLC [3] (fiRg1 (fCons (fB gLen (fCons (fVar 0) (fNil))) (fNil))) (tN 3) (fYes) (f2 gMul (f2 gIx (fVar 1) (fVar 3)) (fCall q_law_apart (fCons (f2 gIx (fVar 0) (fVar 3)) (fCons (fVar 2) (fNil))))))) (fNil)))
def c_law_sum : FnC := runFn false 4 b_law_sum
abbrev q_law_sum : FnC := c_law_sum
theorem hq_law_sum : ∀ ds M r, q_law_sum ds M = some r → c_law_sum ds M = some r := fun _ _ _ h => h
/-- _law_ends(minutes, weights): slots ['minutes', 'weights', 'sums', 'minute', 'fit', 'k'] -/
def b_law_ends : FS :=
    sSeq (sSet 2 (fFz (fLC [3] (fiSq (fVar 0)) (tN 3) (fYes) (fCall q_law_sum (fCons (fVar 0) (fCons (fVar 1) (fCons (fVar 3) (fNil))))))))
      (sSeq (sSet 4 (fFz (fLC [5] (fiRg1 (fCons (fB gLen (fCons (fVar 0) (fNil))) (fNil))) (tN 5) (f2T (gEq) (f2 gIx (fVar 2) (fVar 5)) (fB gMin1 (fCons (fVar 2) (fNil)))) (f2 gIx (fVar 0) (fVar 5)))))
      (sRet (fTup (fCons (fB gMin1 (fCons (fVar 4) (fNil))) (fCons (fB gMax1 (fCons (fVar 4) (fNil))) (fNil))))))
def c_law_ends : FnC := runFn false 6 b_law_ends
abbrev q_law_ends : FnC := c_law_ends
theorem hq_law_ends : ∀ ds M r, q_law_ends ds M = some r → c_law_ends ds M = some r := fun _ _ _ h => h
/-- _law_line_right(minutes, weights, is_up): slots ['minutes', 'weights', 'is_up', 'low', 'high', 'votes', 'k', 'best', 'other', 'minute', 'place', 'one', 'move', 'at', 'rest'] -/
def b_law_line_right : FS :=
    sSeq (sAsg (fCall q_law_ends (fCons (fVar 0) (fCons (fVar 1) (fNil)))) (tTA 2 (tsC (tN 3) (tsC (tN 4) (tsN)))))
      (sSeq (sSet 5 (fMut (fLstD (fNil))))
      (sSeq (sFor (fiRg1 (fCons (fB gLen (fCons (fVar 0) (fNil))) (fNil))) (tN 6)
      (sDrop (fM "list" gAppend (fVar 5) (fCons (f2 gIx (fFz (fLstD (fCons (fTup (fCons (f2 gIx (fVar 0) (fVar 6)) (fCons (fC (.int 0)) (fCons (f2 gIx (fVar 1) (fVar 6)) (fNil))))) (fCons (fTup (fCons (fC (.int 0)) (fCons (f2 gIx (fVar 0) (fVar 6)) (fCons (f2 gIx (fVar 1) (fVar 6)) (fNil))))) (fNil))))) (fB gInt (fCons (fVar 2) (fNil)))) (fNil)))))
      (sSeq (sSet 5 (fB gTuple (fCons (fVar 5) (fNil))))
      (sSeq (sSet 7 (f2 gIx (fFz (fLstD (fCons (fTup (fCons (fVar 3) (fCons (fC (.int 0)) (fNil)))) (fCons (fTup (fCons (fC (.int 0)) (fCons (fVar 3) (fNil)))) (fNil))))) (fB gInt (fCons (fVar 2) (fNil)))))
      (sSeq (sSet 8 (f2 gIx (fFz (fLstD (fCons (fTup (fCons (fVar 4) (fCons (fC (.int 0)) (fNil)))) (fCons (fTup (fCons (fC (.int 0)) (fCons (fVar 4) (fNil)))) (fNil))))) (fB gInt (fCons (fVar 2) (fNil)))))
      (sSeq (sIf (fOr (fNot (fTru (fCall q_law_same (fCons (fCall qbest_pick (fCons (fVar 0) (fCons (fVar 1) (fNil)))) (fCons (fVar 3) (fNil)))))) (fOr (fNot (fTru (fCall q_law_same (fCons (fCall qbest_vote (fCons (fVar 5) (fNil))) (fCons (fVar 7) (fNil)))))) (fNot (fTru (fCall q_law_same (fCons (fCall qbest_span (fCons (fVar 5) (fNil))) (fCons (fTup (fCons (fVar 7) (fCons (fVar 8) (fNil)))) (fNil))))))))
      (sRet (fC (.bl false)))
      (sNext))
      (sSeq (sFor (fiSq (f2 gAdd (fVar 0) (fTup (fCons (f2 gSub (fVar 3) (fC (.int 1))) (fCons (f2 gAdd (fVar 4) (fC (.int 1))) (fNil)))))) (tN 9)
      (sSeq (sSet 10 (f2 gIx (fFz (fLstD (fCons (fTup (fCons (fVar 9) (fCons (fC (.int 0)) (fNil)))) (fCons (fTup (fCons (fC (.int 0)) (fCons (fVar 9) (fNil)))) (fNil))))) (fB gInt (fCons (fVar 2) (fNil)))))
      (sSeq (sIf (fNot (fTru (fCall q_law_same (fCons (fCall qsum_far (fCons (fVar 5) (fCons (fVar 10) (fNil)))) (fCons (fCall q_law_sum (fCons (fVar 0) (fCons (fVar 1) (fCons (fVar 9) (fNil))))) (fNil))))))
      (sRet (fC (.bl false)))
      (sNext))
      (sSeq (sIf (fNot (fTru (fCall q_law_same (fCons (fCall qworst_far (fCons (fVar 5) (fCons (fVar 10) (fNil)))) (fCons (fB gMax1 (fCons (fFz (fLC [11] (fiSq (fVar 0)) (tN 11) (fYes) (fCall q_law_apart (fCons (fVar 9) (fCons (fVar 11) (fNil)))))) (fNil))) (fNil))))))
      (sRet (fC (.bl false)))
      (sNext))
      (sIf (f2T (gCmp fun i j => decide (i < j)) (fCall q_law_sum (fCons (fVar 0) (fCons (fVar 1) (fCons (fVar 9) (fNil))))) (fCall q_law_sum (fCons (fVar 0) (fCons (fVar 1) (fCons (fVar 3) (fNil))))))
      (sRet (fC (.bl false)))
      (sNext))))))
      (sSeq (sIf (f2T (gCmp fun i j => decide (i < j)) (fB gLen (fCons (fVar 0) (fNil))) (fC (.int 2)))
      (sRet (fC (.bl true)))
      (sNext))
      (sSeq (sSet 12 (fC (.int 0)))
      (sSeq (sFor (fiRg1 (fCons (fB gLen (fCons (fVar 0) (fNil))) (fNil))) (tN 13)
      (sSeq (sSet 14 (fCall qbest_pick (fCons (f2 gAdd (fSlice (fVar 0) (fNoPart) (fPart (fVar 13))) (fSlice (fVar 0) (fPart (f2 gAdd (fVar 13) (fC (.int 1)))) (fNoPart))) (fCons (f2 gAdd (fSlice (fVar 1) (fNoPart) (fPart (fVar 13))) (fSlice (fVar 1) (fPart (f2 gAdd (fVar 13) (fC (.int 1)))) (fNoPart))) (fNil)))))
      (sSeq (sIf (fNot (fTru (fCall q_law_same (fCons (fVar 14) (fCons (f2 gIx (fCall q_law_ends (fCons (f2 gAdd (fSlice (fVar 0) (fNoPart) (fPart (fVar 13))) (fSlice (fVar 0) (fPart (f2 gAdd (fVar 13) (fC (.int 1)))) (fNoPart))) (fCons (f2 gAdd (fSlice (fVar 1) (fNoPart) (fPart (fVar 13))) (fSlice (fVar 1) (fPart (f2 gAdd (fVar 13) (fC (.int 1)))) (fNoPart))) (fNil)))) (fC (.int 0))) (fNil))))))
      (sRet (fC (.bl false)))
      (sNext))
      (sSeq (sIf (fNot (fTru (fCall q_law_same (fCons (fCall qwithout_one (fCons (fVar 5) (fCons (fVar 13) (fNil)))) (fCons (f2 gIx (fFz (fLstD (fCons (fTup (fCons (fVar 14) (fCons (fC (.int 0)) (fNil)))) (fCons (fTup (fCons (fC (.int 0)) (fCons (fVar 14) (fNil)))) (fNil))))) (fB gInt (fCons (fVar 2) (fNil)))) (fNil))))))
      (sRet (fC (.bl false)))
      (sNext))
      (sSet 12 (fB gMax2 (fCons (fVar 12) (fCons (fCall q_law_apart (fCons (fVar 14) (fCons (fVar 3) (fNil)))) (fNil)))))))))
      (sRet (fCall q_law_same (fCons (fCall qgreatest_move (fCons (fVar 5) (fNil))) (fCons (fVar 12) (fNil)))))))))))))))
def c_law_line_right : FnC := runFn false 15 b_law_line_right
abbrev q_law_line_right : FnC := c_law_line_right
theorem hq_law_line_right : ∀ ds M r, q_law_line_right ds M = some r → c_law_line_right ds M = some r := fun _ _ _ h => h
/-- _law_both_right(xs, ys, weights): slots ['xs', 'ys', 'weights', 'votes', 'k', 'best', 'least', 'x', 'y'] -/
def b_law_both_right : FS :=
    sSeq (sSet 3 (fB gTuple (fCons (fFz (fLC [4] (fiRg1 (fCons (fB gLen (fCons (fVar 0) (fNil))) (fNil))) (tN 4) (fYes) (fTup (fCons (f2 gIx (fVar 0) (fVar 4)) (fCons (f2 gIx (fVar 1) (fVar 4)) (fCons (f2 gIx (fVar 2) (fVar 4)) (fNil))))))) (fNil))))
      (sSeq (sSet 5 (fCall qbest_vote (fCons (fVar 3) (fNil))))
      (sSeq (sIf (fNot (fTru (fCall q_law_same (fCons (fVar 5) (fCons (fTup (fCons (fCall qbest_pick (fCons (fVar 0) (fCons (fVar 2) (fNil)))) (fCons (fCall qbest_pick (fCons (fVar 1) (fCons (fVar 2) (fNil)))) (fNil)))) (fNil))))))
      (sRet (fC (.bl false)))
      (sNext))
      (sSeq (sIf (fNot (fTru (fCall q_law_same (fCons (fCall qbest_span (fCons (fVar 3) (fNil))) (fCons (fTup (fCons (fVar 5) (fCons (fTup (fCons (f2 gIx (fCall q_law_ends (fCons (fVar 0) (fCons (fVar 2) (fNil)))) (fC (.int 1))) (fCons (f2 gIx (fCall q_law_ends (fCons (fVar 1) (fCons (fVar 2) (fNil)))) (fC (.int 1))) (fNil)))) (fNil)))) (fNil))))))
      (sRet (fC (.bl false)))
      (sNext))
      (sSeq (sSet 6 (f2 gAdd (fCall q_law_sum (fCons (fVar 0) (fCons (fVar 2) (fCons (f2 gIx (fVar 5) (fC (.int 0))) (fNil))))) (fCall q_law_sum (fCons (fVar 1) (fCons (fVar 2) (fCons (f2 gIx (fVar 5) (fC (.int 1))) (fNil)))))))
      (sSeq (sIf (fNot (fTru (fCall q_law_same (fCons (fCall qsum_far (fCons (fVar 3) (fCons (fVar 5) (fNil)))) (fCons (fVar 6) (fNil))))))
      (sRet (fC (.bl false)))
      (sNext))
      (sSeq (sFor (fiSq (fVar 0)) (tN 7)
      (sFor (fiSq (fVar 1)) (tN 8)
      (sIf (f2T (gCmp fun i j => decide (i < j)) (fCall qsum_far (fCons (fVar 3) (fCons (fTup (fCons (fVar 7) (fCons (fVar 8) (fNil)))) (fNil)))) (fVar 6))
      (sRet (fC (.bl false)))
      (sNext))))
      (sRet (fC (.bl true)))))))))
def c_law_both_right : FnC := runFn false 9 b_law_both_right
abbrev q_law_both_right : FnC := c_law_both_right
theorem hq_law_both_right : ∀ ds M r, q_law_both_right ds M = some r → c_law_both_right ds M = some r := fun _ _ _ h => h
/-- _law_middle_right(minutes): slots ['minutes', 'ones', 'votes', 'minute'] -/
def b_law_middle_right : FS :=
    sSeq (sSet 1 (f2 gRepT (fTup (fCons (fC (.int 1)) (fNil))) (fB gLen (fCons (fVar 0) (fNil)))))
      (sSeq (sSet 2 (fB gTuple (fCons (fFz (fLC [3] (fiSq (fVar 0)) (tN 3) (fYes) (fTup (fCons (fVar 3) (fCons (fC (.int 0)) (fCons (fC (.int 1)) (fNil))))))) (fNil))))
      (sSeq (sIf (fOr (fNot (fTru (fCall q_law_same (fCons (fCall qmiddle_pick (fCons (fVar 0) (fNil))) (fCons (fCall qbest_pick (fCons (fVar 0) (fCons (fVar 1) (fNil)))) (fNil)))))) (fNot (fTru (fCall q_law_same (fCons (fCall qbest_vote (fCons (fVar 2) (fNil))) (fCons (fTup (fCons (fCall qmiddle_pick (fCons (fVar 0) (fNil))) (fCons (fC (.int 0)) (fNil)))) (fNil)))))))
      (sRet (fC (.bl false)))
      (sNext))
      (sRet (fOrV (f2 (gB (gCmp fun i j => decide (i < j))) (fB gLen (fCons (fVar 0) (fNil))) (fC (.int 3))) (f2 (gB (gCmp fun i j => decide (i ≤ j))) (fCall qgreatest_move (fCons (fVar 2) (fNil))) (fCall qmoved_by_one (fCons (fVar 0) (fNil))))))))
def c_law_middle_right : FnC := runFn false 4 b_law_middle_right
abbrev q_law_middle_right : FnC := c_law_middle_right
theorem hq_law_middle_right : ∀ ds M r, q_law_middle_right ds M = some r → c_law_middle_right ds M = some r := fun _ _ _ h => h
/-- _law_b_minutes(draws, script, many): slots ['draws', 'script', 'many', 'far', 'wide', 'found', 'k', 'minute'] -/
def b_law_b_minutes : FS :=
    sSeq (sSet 3 (f2 gIx (fFz (fLstD (fCons (fC (.int 0)) (fCons (f2 gFdiv (fCall q_law_cell (fCons (fVar 1) (fCons (fCallS 0 q_law_take (fCons (fVar 0) (fCons (fC (.int 64)) (fNil)))) (fNil)))) (f2 gPow (fC (.int 10)) (fC (.int 32)))) (fNil))))) (fCallS 0 q_law_take (fCons (fVar 0) (fCons (fC (.int 2)) (fNil))))))
      (sSeq (sSet 4 (f2 gIx (fFz (fLstD (fCons (fC (.int 5)) (fCons (fC (.int 20)) (fCons (fC (.int 99)) (fNil)))))) (fCallS 0 q_law_take (fCons (fVar 0) (fCons (fC (.int 3)) (fNil))))))
      (sSeq (sSet 5 (fMut (fLstD (fNil))))
      (sSeq (sFor (fiRg1 (fCons (fVar 2) (fNil))) (tN 6)
      (sSeq (sSet 7 (f2 gAdd (fVar 3) (fCallS 0 q_law_take (fCons (fVar 0) (fCons (fVar 4) (fNil))))))
      (sSeq (sIf (f2T (gEq) (fCallS 0 q_law_take (fCons (fVar 0) (fCons (fC (.int 9)) (fNil)))) (fC (.int 0)))
      (sSet 7 (f2 gSub (f2 gAdd (fVar 7) (fC (.int 1000))) (f2 gMul (fC (.int 2000)) (fCallS 0 q_law_take (fCons (fVar 0) (fCons (fC (.int 2)) (fNil)))))))
      (sNext))
      (sDrop (fM "list" gAppend (fVar 5) (fCons (fVar 7) (fNil)))))))
      (sRet (fB gTuple (fCons (fVar 5) (fNil)))))))
def c_law_b_minutes : FnC := runFn false 8 b_law_b_minutes
abbrev q_law_b_minutes : FnC := c_law_b_minutes
theorem hq_law_b_minutes : ∀ ds M r, q_law_b_minutes ds M = some r → c_law_b_minutes ds M = some r := fun _ _ _ h => h
/-- _law_middle(minutes): slots ['minutes', 'best', 'minute', 'below', 'other'] -/
def b_law_middle : FS :=
    sSeq (sSet 1 (fC .non))
      (sSeq (sFor (fiSq (fVar 0)) (tN 2)
      (sSeq (sSet 3 (fB gLen (fCons (fFz (fLC [4] (fiSq (fVar 0)) (tN 4) (f2T (gCmp fun i j => decide (i ≤ j)) (fVar 4) (fVar 2)) (fC (.int 1)))) (fNil))))
      (sIf (fAnd (f2T (gCmp fun i j => decide (j ≤ i)) (f2 gMul (fC (.int 2)) (fVar 3)) (fB gLen (fCons (fVar 0) (fNil)))) (fOr (f2T (gIs) (fVar 1) (fC .non)) (f2T (gCmpD PySem.W.dataLt) (fVar 2) (fVar 1))))
      (sSet 1 (fVar 2))
      (sNext))))
      (sRet (fVar 1)))
def c_law_middle : FnC := runFn false 5 b_law_middle
abbrev q_law_middle : FnC := c_law_middle
theorem hq_law_middle : ∀ ds M r, q_law_middle ds M = some r → c_law_middle ds M = some r := fun _ _ _ h => h
/-- _law_divisor(one, other): slots ['one', 'other'] -/
def b_law_divisor : FS :=
    sSeq (sSet 0 (fB gMax2 (fCons (fVar 0) (fCons (f1 gNeg (fVar 0)) (fNil)))))
      (sSeq (sWhile (f2T (gCmp fun i j => decide (j < i)) (fVar 1) (fC (.int 0)))
      (sPar 0 1 (fCons (fVar 1) (fCons (f2 gMod (fB gInt (fCons (fVar 0) (fNil))) (fVar 1)) (fNil)))))
      (sRet (fVar 0)))
def c_law_divisor : FnC := runFn false 2 b_law_divisor
abbrev q_law_divisor : FnC := c_law_divisor
theorem hq_law_divisor : ∀ ds M r, q_law_divisor ds M = some r → c_law_divisor ds M = some r := fun _ _ _ h => h
/-- _law_right(draws, minutes): slots ['draws', 'minutes', 'many', 'middle', 'far', 'minute', 'spread', 'times', 'due', 'k', 'total', 'common', 'weights', 'sums'] -/
def b_law_right : FS :=
    sSeq (sSet 2 (fB gLen (fCons (fVar 1) (fNil))))
      (sSeq (sSet 3 (fCall q_law_middle (fCons (fVar 1) (fNil))))
      (sSeq (sSet 4 (fFz (fLC [5] (fiSq (fVar 1)) (tN 5) (fYes) (fCall q_law_apart (fCons (fVar 5) (fCons (fVar 3) (fNil)))))))
      (sSeq (sSet 6 (fCall q_law_middle (fCons (fVar 4) (fNil))))
      (sSeq (sIf (fOr (fNot (fTru (fCall q_law_same (fCons (fCall qmiddle_pick (fCons (fVar 1) (fNil))) (fCons (fVar 3) (fNil)))))) (fNot (fTru (fCall q_law_same (fCons (fCall qspread_of_picks (fCons (fVar 1) (fNil))) (fCons (fVar 6) (fNil)))))))
      (sRet (fC (.bl false)))
      (sNext))
      (sSeq (sIf (fNot (fTru (fCall q_law_same (fCons (fCall qmiddle_pick (fCons (fRevA (fVar 1)) (fNil))) (fCons (fVar 3) (fNil))))))
      (sRet (fC (.bl false)))
      (sNext))
      (sSeq (sFor (fiRg1 (fCons (fC (.int 6)) (fNil))) (tN 7)
      (sSeq (sSet 8 (fB gTuple (fCons (fFz (fLC [9] (fiRg1 (fCons (fVar 2) (fNil))) (tN 9) (f2T (gCmp fun i j => decide (i ≤ j)) (f2 gIx (fVar 4) (fVar 9)) (f2 gMul (fVar 7) (fVar 6))) (f2 gIx (fVar 1) (fVar 9)))) (fNil))))
      (sIf (fNot (fTru (fCall q_law_same (fCons (fCall qwithout_far (fCons (fVar 1) (fCons (fVar 7) (fNil)))) (fCons (fVar 8) (fNil))))))
      (sRet (fC (.bl false)))
      (sNext))))
      (sSeq (sSet 10 (fB gSumA (fCons (fVar 1) (fNil))))
      (sSeq (sSet 11 (fCall q_law_divisor (fCons (fVar 10) (fCons (fVar 2) (fNil)))))
      (sSeq (sIf (fNot (fTru (fCall q_law_same (fCons (fCall qmean_of_picks (fCons (fVar 1) (fNil))) (fCons (fTup (fCons (f2 gFdiv (fVar 10) (fVar 11)) (fCons (f2 gFdiv (fVar 2) (fVar 11)) (fNil)))) (fNil))))))
      (sRet (fC (.bl false)))
      (sNext))
      (sSeq (sSet 12 (fB gTuple (fCons (fFz (fLC [5] (fiSq (fVar 1)) (tN 5) (fYes) (f2 gAdd (fC (.int 1)) (fCallS 0 q_law_take (fCons (fVar 0) (fCons (fC (.int 9)) (fNil))))))) (fNil))))
      (sSeq (sSet 13 (fMut (fLstD (fNil))))
      (sSeq (sFor (fiSq (fVar 1)) (tN 5)
      (sDrop (fM "list" gAppend (fVar 13) (fCons (fTup (fCons (fB gSumA (fCons (fFz (fLC [9] (fiRg1 (fCons (fVar 2) (fNil))) (tN 9) (fYes) (f2 gMul (f2 gIx (fVar 12) (fVar 9)) (fCall q_law_apart (fCons (f2 gIx (fVar 1) (fVar 9)) (fCons (fVar 5) (fNil))))))) (fNil))) (fCons (fVar 5) (fNil)))) (fNil)))))
      (sSeq (sIf (fNot (fTru (fCall q_law_same (fCons (fCall qbest_pick (fCons (fVar 1) (fCons (fVar 12) (fNil)))) (fCons (f2 gIx (fB gMin1 (fCons (fVar 13) (fNil))) (fC (.int 1))) (fNil))))))
      (sRet (fC (.bl false)))
      (sNext))
      (sRet (fCall q_law_same (fCons (fCall qbest_pick (fCons (fVar 1) (fCons (f2 gRepT (fTup (fCons (fC (.int 1)) (fNil))) (fVar 2)) (fNil)))) (fCons (fVar 3) (fNil))))))))))))))))))
def c_law_right : FnC := runFn false 14 b_law_right
abbrev q_law_right : FnC := c_law_right
theorem hq_law_right : ∀ ds M r, q_law_right ds M = some r → c_law_right ds M = some r := fun _ _ _ h => h
/-- _law_moved_right(minutes): slots ['minutes', 'middle', 'there', 'minute', 'best', 'k', 'moved'] -/
def b_law_moved_right : FS :=
    sSeq (sSet 1 (fCall q_law_middle (fCons (fVar 0) (fNil))))
      (sSeq (sSet 2 (fFz (fBN gSortU (fCons (f2 gAdd (f2 gAdd (fVar 0) (fB gTuple (fCons (fFz (fLC [3] (fiSq (fVar 0)) (tN 3) (fYes) (f2 gAdd (fVar 3) (fC (.int 1))))) (fNil)))) (fTup (fCons (f2 gSub (fB gMin1 (fCons (fVar 0) (fNil))) (fC (.int 99))) (fCons (f2 gAdd (fB gMax1 (fCons (fVar 0) (fNil))) (fC (.int 99))) (fNil))))) (fNil)))))
      (sSeq (sSet 4 (fC (.int 0)))
      (sSeq (sFor (fiRg1 (fCons (fB gLen (fCons (fVar 0) (fNil))) (fNil))) (tN 5)
      (sFor (fiSq (fVar 2)) (tN 3)
      (sSeq (sSet 6 (fCall q_law_middle (fCons (f2 gAdd (f2 gAdd (fSlice (fVar 0) (fNoPart) (fPart (fVar 5))) (fTup (fCons (fVar 3) (fNil)))) (fSlice (fVar 0) (fPart (f2 gAdd (fVar 5) (fC (.int 1)))) (fNoPart))) (fNil))))
      (sSet 4 (fB gMax2 (fCons (fVar 4) (fCons (fCall q_law_apart (fCons (fVar 6) (fCons (fVar 1) (fNil)))) (fNil))))))))
      (sRet (fCall q_law_same (fCons (fCall qmoved_by_one (fCons (fVar 0) (fNil))) (fCons (fVar 4) (fNil))))))))
def c_law_moved_right : FnC := runFn false 7 b_law_moved_right
abbrev q_law_moved_right : FnC := c_law_moved_right
theorem hq_law_moved_right : ∀ ds M r, q_law_moved_right ds M = some r → c_law_moved_right ds M = some r := fun _ _ _ h => h
/-- _law_part_one(script): slots ['script', 'draws', 'k', 'many', 'xs', 'ys', 'weights', 'minute'] -/
def b_law_part_one : FS :=
    sSeq (sSet 1 (fCall q_law_draws (fCons (fVar 0) (fCons (fC (.int 260)) (fNil)))))
      (sSeq (sFor (fiRg1 (fCons (fC (.int 3)) (fNil))) (tN 2)
      (sSeq (sSet 3 (f2 gAdd (fC (.int 1)) (fCallS 0 q_law_take (fCons (fVar 1) (fCons (f2 gIx (fFz (fLstD (fCons (fC (.int 4)) (fCons (fC (.int 10)) (fCons (fC (.int 6)) (fNil)))))) (fVar 2)) (fNil))))))
      (sSeq (sSet 4 (fCallS 0 q_law_minutes (fCons (fVar 1) (fCons (fVar 0) (fCons (fVar 3) (fNil))))))
      (sSeq (sSet 5 (fCallS 0 q_law_minutes (fCons (fVar 1) (fCons (fVar 0) (fCons (fVar 3) (fNil))))))
      (sSeq (sSet 6 (fB gTuple (fCons (fFz (fLC [7] (fiSq (fVar 4)) (tN 7) (fYes) (f2 gAdd (fC (.int 1)) (fCallS 0 q_law_take (fCons (fVar 1) (fCons (f2 gIx (fFz (fLstD (fCons (fC (.int 9)) (fCons (fC (.int 2)) (fNil))))) (fCallS 0 q_law_take (fCons (fVar 1) (fCons (fC (.int 2)) (fNil))))) (fNil))))))) (fNil))))
      (sSeq (sIf (fOr (fNot (fTru (fCall q_law_line_right (fCons (fVar 4) (fCons (fVar 6) (fCons (fC (.bl false)) (fNil))))))) (fNot (fTru (fCall q_law_line_right (fCons (fVar 5) (fCons (fVar 6) (fCons (fC (.bl true)) (fNil))))))))
      (sRet (fC (.bl false)))
      (sNext))
      (sIf (fOr (fNot (fTru (fCall q_law_both_right (fCons (fVar 4) (fCons (fVar 5) (fCons (fVar 6) (fNil))))))) (fNot (fTru (fCall q_law_middle_right (fCons (fVar 4) (fNil))))))
      (sRet (fC (.bl false)))
      (sNext))))))))
      (sRet (fAndV (fCall q_law_same (fCons (fCall qbest_pick (fCons (fTup (fCons (fC (.int 1)) (fCons (fC (.int 5)) (fNil)))) (fCons (fTup (fCons (fC (.int 2)) (fCons (fC (.int 2)) (fNil)))) (fNil)))) (fCons (fC (.int 1)) (fNil)))) (fAndV (fCall q_law_same (fCons (fCall qbest_span (fCons (fTup (fCons (fTup (fCons (fC (.int 1)) (fCons (fC (.int 0)) (fCons (fC (.int 2)) (fNil))))) (fCons (fTup (fCons (fC (.int 5)) (fCons (fC (.int 0)) (fCons (fC (.int 2)) (fNil))))) (fNil)))) (fNil))) (fCons (fTup (fCons (fTup (fCons (fC (.int 1)) (fCons (fC (.int 0)) (fNil)))) (fCons (fTup (fCons (fC (.int 5)) (fCons (fC (.int 0)) (fNil)))) (fNil)))) (fNil)))) (fCall q_law_same (fCons (fCall qbest_pick (fCons (fTup (fCons (fC (.int 5)) (fCons (fC (.int 1)) (fCons (fC (.int 3)) (fNil))))) (fCons (fTup (fCons (fC (.int 1)) (fCons (fC (.int 1)) (fCons (fC (.int 1)) (fNil))))) (fNil)))) (fCons (fC (.int 3)) (fNil))))))))
def c_law_part_one : FnC := runFn false 8 b_law_part_one
abbrev q_law_part_one : FnC := c_law_part_one
theorem hq_law_part_one : ∀ ds M r, q_law_part_one ds M = some r → c_law_part_one ds M = some r := fun _ _ _ h => h
/-- _law_part_two(script): slots ['script', 'draws', 'k', 'minutes'] -/
def b_law_part_two : FS :=
    sSeq (sSet 1 (fCall q_law_draws (fCons (fVar 0) (fCons (fC (.int 320)) (fNil)))))
      (sSeq (sFor (fiRg1 (fCons (fC (.int 3)) (fNil))) (tN 2)
      (sSeq (sSet 3 (fCallS 0 q_law_b_minutes (fCons (fVar 1) (fCons (fVar 0) (fCons (f2 gAdd (fC (.int 1)) (fCallS 0 q_law_take (fCons (fVar 1) (fCons (f2 gIx (fFz (fLstD (fCons (fC (.int 5)) (fCons (fC (.int 12)) (fCons (fC (.int 8)) (fNil)))))) (fVar 2)) (fNil))))) (fNil))))))
      (sIf (fOr (fNot (fTru (fCallS 0 q_law_right (fCons (fVar 1) (fCons (fVar 3) (fNil)))))) (fAnd (f2T (gCmp fun i j => decide (j < i)) (fB gLen (fCons (fVar 3) (fNil))) (fC (.int 2))) (fNot (fTru (fCall q_law_moved_right (fCons (fVar 3) (fNil)))))))
      (sRet (fC (.bl false)))
      (sNext))))
      (sSeq (sIf (fAnd (f2T (gEq) (fCallS 0 q_law_take (fCons (fVar 1) (fCons (fC (.int 12)) (fNil)))) (fC (.int 0))) (fNot (fTru (fCallS 0 q_law_right (fCons (fVar 1) (fCons (fCallS 0 q_law_b_minutes (fCons (fVar 1) (fCons (fVar 0) (fCons (f2 gSub (fC (.int 60)) (fCallS 0 q_law_take (fCons (fVar 1) (fCons (fC (.int 30)) (fNil))))) (fNil))))) (fNil)))))))
      (sRet (fC (.bl false)))
      (sNext))
      (sSeq (sSet 3 (fTup (fCons (fC (.int 9)) (fCons (fC (.int 4)) (fCons (fC (.int 5)) (fCons (fC (.int 20)) (fNil)))))))
      (sSeq (sIf (fOr (fNot (fTru (fCall q_law_same (fCons (fCall qmiddle_pick (fCons (fVar 3) (fNil))) (fCons (fC (.int 5)) (fNil)))))) (fOr (fNot (fTru (fCall q_law_same (fCons (fCall qspread_of_picks (fCons (fVar 3) (fNil))) (fCons (fC (.int 1)) (fNil)))))) (fNot (fTru (fCall q_law_same (fCons (fCall qwithout_far (fCons (fVar 3) (fCons (fC (.int 4)) (fNil)))) (fCons (fTup (fCons (fC (.int 9)) (fCons (fC (.int 4)) (fCons (fC (.int 5)) (fNil))))) (fNil))))))))
      (sRet (fC (.bl false)))
      (sNext))
      (sSeq (sIf (fOr (fNot (fTru (fCall q_law_same (fCons (fCall qmean_of_picks (fCons (fVar 3) (fNil))) (fCons (fTup (fCons (fC (.int 19)) (fCons (fC (.int 2)) (fNil)))) (fNil)))))) (fOr (fNot (fTru (fCall q_law_same (fCons (fCall qmoved_by_one (fCons (fVar 3) (fNil))) (fCons (fC (.int 4)) (fNil)))))) (fNot (fTru (fCall q_law_same (fCons (fCall qbest_pick (fCons (fVar 3) (fCons (fTup (fCons (fC (.int 1)) (fCons (fC (.int 1)) (fCons (fC (.int 1)) (fCons (fC (.int 9)) (fNil)))))) (fNil)))) (fCons (fC (.int 20)) (fNil))))))))
      (sRet (fC (.bl false)))
      (sNext))
      (sRet (fAndV (fCall q_law_same (fCons (fCall qmean_of_picks (fCons (fTup (fCons (f1 gNeg (fC (.int 3))) (fCons (f1 gNeg (fC (.int 4))) (fNil)))) (fNil))) (fCons (fTup (fCons (f1 gNeg (fC (.int 7))) (fCons (fC (.int 2)) (fNil)))) (fNil)))) (fAndV (fCall q_law_same (fCons (fCall qmiddle_pick (fCons (fTup (fCons (fC (.int 7)) (fNil))) (fNil))) (fCons (fC (.int 7)) (fNil)))) (fCall q_law_same (fCons (fCall qwithout_far (fCons (fTup (fCons (fC (.int 1)) (fCons (fC (.int 1)) (fCons (fC (.int 5)) (fNil))))) (fCons (fC (.int 3)) (fNil)))) (fCons (fTup (fCons (fC (.int 1)) (fCons (fC (.int 1)) (fNil)))) (fNil))))))))))))
def c_law_part_two : FnC := runFn false 4 b_law_part_two
abbrev q_law_part_two : FnC := c_law_part_two
theorem hq_law_part_two : ∀ ds M r, q_law_part_two ds M = some r → c_law_part_two ds M = some r := fun _ _ _ h => h
/-- law(script): slots ['script'] -/
def blaw : FS :=
    sRet (fAndV (fCall q_law_part_one (fCons (fVar 0) (fNil))) (fCall q_law_part_two (fCons (fVar 0) (fNil))))
def claw : FnC := runFn false 1 blaw
end LP
namespace LP
open PySem PySem.Spec PyProof.Rows L2 PF TL
theorem fin_bl (b : Bool) : fin false 0 (.bl b) [] = some (.bl b, []) := fin_nr rfl rfl
theorem gLen_t (xs : List D) (M : Mem) : gLen [.tup xs] M = some (.int xs.length) := rfl
theorem same_loop {n : Nat} {zs : List (D × D)} {f : D × D → Bool} (h : ∀ z ∈ zs, c_law_same n [z.1, z.2] [] = some (.bl (f z), [])) (h1 : D.nrs (zs.map Prod.fst) = true) (h2 : D.nrs (zs.map Prod.snd) = true) {xs ys : List D} (hx : xs = zs.map Prod.fst) (hy : ys = zs.map Prod.snd) : ∀ (m k : Nat) (x : Option D), k + m = zs.length → ∃ o, sLoop (chk none (rgD 0 zs.length)) (sStep (tN 2) (sIf (fNot (fTru (fCall (c_law_same n) (fCons (f2 gIx (fVar 0) (fVar 2)) (fCons (f2 gIx (fVar 1) (fVar 2)) (fNil))))))
      (sRet (fC (.bl false))) (sNext))) ((List.range m).map fun i => D.int ((k + i : Nat) : Int)) [some (.tup xs), some (.tup ys), x] [] = some (o, []) ∧ ((zs.drop k).all f = false → o = .ret (.bl false)) ∧ ((zs.drop k).all f = true → ∃ y, o = .nx [some (.tup xs), some (.tup ys), y])
  | 0, k, x, hk => by
    refine ⟨.nx _, by rw [List.range_zero, List.map_nil, sLoop, if_pos (show chk none (rgD 0 zs.length) [] = true from rfl)], fun hh => ?_, fun _ => ⟨_, rfl⟩⟩
    rw [List.drop_eq_nil_of_le (by omega)] at hh; cases hh
  | m + 1, k, x, hk => by
    have hlt : k < zs.length := by omega
    obtain ⟨z, hz⟩ : ∃ z, zs[k]? = some z := ⟨_, List.getElem?_eq_getElem hlt⟩
    have hm : z ∈ zs := List.mem_of_getElem? hz
    have e := h z hm
    have a1 : L2.atI xs (k : Int) = some z.1 := at_nat (by rw [hx, List.getElem?_map, hz]; rfl)
    have a2 : L2.atI ys (k : Int) = some z.2 := at_nat (by rw [hy, List.getElem?_map, hz]; rfl)
    have n1 : z.1.nr = true := by
      have : ∀ {l : List D} {d : D}, D.nrs l = true → d ∈ l → d.nr = true := by
        intro l
        induction l with
        | nil => intro d _ h; cases h
        | cons y l ih =>
          intro d hn hd
          rw [D.nrs, Bool.and_eq_true] at hn
          rcases List.mem_cons.mp hd with rfl | hd
          · exact hn.1
          · exact ih hn.2 hd
      exact this h1 (List.mem_map_of_mem hm)
    have n2 : z.2.nr = true := by
      have : ∀ {l : List D} {d : D}, D.nrs l = true → d ∈ l → d.nr = true := by
        intro l
        induction l with
        | nil => intro d _ h; cases h
        | cons y l ih =>
          intro d hn hd
          rw [D.nrs, Bool.and_eq_true] at hn
          rcases List.mem_cons.mp hd with rfl | hd
          · exact hn.1
          · exact ih hn.2 hd
      exact this h2 (List.mem_map_of_mem hm)
    have hc : callP (c_law_same n) [z.1, z.2] [] = some (.bl (f z), []) := p_v (cR := eB) (av_d n1 (av_d n2 av_nil)) e
    have hd : zs.drop k = z :: zs.drop (k + 1) := by
      obtain ⟨hl, he⟩ := List.getElem?_eq_some_iff.mp hz
      rw [List.drop_eq_getElem_cons hl, he]
    obtain ⟨o, i1, i2, i3⟩ := same_loop h h1 h2 hx hy m (k + 1) (some (.int k)) (by omega)
    have er : (List.range (m + 1)).map (fun i => D.int ((k + i : Nat) : Int)) = .int k :: (List.range m).map fun i => D.int ((k + 1 + i : Nat) : Int) := by
      rw [List.range_succ_eq_map, List.map_cons, List.map_map]
      congr 1
      exact List.map_congr_left fun i _ => by show D.int ((k + (i + 1) : Nat) : Int) = _; rw [show k + (i + 1) = k + 1 + i by omega]
    rw [er, sLoop, if_pos (show chk none (rgD 0 zs.length) [] = true from rfl)]
    have st : sStep (tN 2) (sIf (fNot (fTru (fCall (c_law_same n) (fCons (f2 gIx (fVar 0) (fVar 2)) (fCons (f2 gIx (fVar 1) (fVar 2)) (fNil))))))
      (sRet (fC (.bl false))) (sNext)) (.int k) [some (.tup xs), some (.tup ys), x] [] = if f z = true then some (.nx [some (.tup xs), some (.tup ys), some (.int k)], []) else some (.ret (.bl false), []) := by
      simp [a1, a2, hc]
      cases f z <;> rfl
    rw [st]
    cases hf : f z with
    | true =>
      refine ⟨o, i1, fun hh => i2 ?_, fun hh => i3 ?_⟩
      · rw [hd, List.all_cons, hf, Bool.true_and] at hh; exact hh
      · rw [hd, List.all_cons, hf, Bool.true_and] at hh; exact hh
    | false =>
      refine ⟨_, rfl, fun _ => rfl, fun hh => ?_⟩
      rw [hd, List.all_cons, hf] at hh; cases hh
theorem same_fn : SameFn c_law_same where
  bl := fun n a b => by cases a <;> cases b <;> simp [c_law_same, b_law_same, runFn, startR, isi, tyOf, isNn, fin, Mem.nr, D.nr, gEq, D.val, D.dp, D.py, PyData.eqv]
  int := fun n a b => by simp [c_law_same, b_law_same, runFn, startR, isi, tyOf, isNn, fin, Mem.nr, D.nr]
  str := fun n a b h1 h2 => by
    have e : gEq (.str a) (.str b) [] = some (decide (a = b)) := by
      unfold gEq
      simp [D.val, D.dp, D.py, h1, h2, PyData.eqv]
      by_cases h : a = b <;> simp [h]
    simp [c_law_same, b_law_same, runFn, startR, isi, tyOf, isNn, fin, Mem.nr, D.nr, e]
  nn := fun n d h => by simp [c_law_same, b_law_same, runFn, startR, isi, tyOf, isNn, fin, Mem.nr, D.nr]
  nx := fun n d h hl hn => by
    have e0 : (D.non).nr = true := rfl
    cases d with
    | non => cases hn
    | ref _ => cases h
    | lst _ => rw [D.nl] at hl; cases hl
    | kst _ => rw [D.nl] at hl; cases hl
    | bl b => simp [c_law_same, b_law_same, runFn, startR, isi, tyOf, isNn, fin, Mem.nr, D.nr]
    | int b => simp [c_law_same, b_law_same, runFn, startR, isi, tyOf, isNn, fin, Mem.nr, D.nr]
    | str b => simp [c_law_same, b_law_same, runFn, startR, isi, tyOf, isNn, fin, Mem.nr, D.nr]
    | tup b => simp [c_law_same, b_law_same, runFn, startR, isi, tyOf, isNn, fin, Mem.nr, D.nr]
  tn := fun n xs ys h1 h2 hl => by
    have hl2 : ¬ ((xs.length : Int) = ys.length) := by omega
    simp [c_law_same, b_law_same, runFn, startR, isi, tyOf, isNn, fin, Mem.nr, D.nr, hl2, hl]
  tt := fun n zs f hlen h1 h2 hz => by
    have ok : okR 0 (zs.length : Int) = true := okR_of (by omega) (by omega) (by omega) (by omega)
    obtain ⟨o, e, e2, e3⟩ := same_loop hz h1 h2 rfl rfl zs.length 0 none (by omega)
    have er : (List.range zs.length).map (fun i => D.int ((0 + i : Nat) : Int)) = rgD 0 zs.length := by
      unfold rgD
      exact List.map_congr_left fun i _ => by rw [Nat.zero_add, Int.zero_add]
    rw [er] at e
    rw [List.drop_zero] at e2 e3
    cases hf : zs.all f with
    | false =>
      rw [e2 hf] at e
      simp [c_law_same, b_law_same, runFn, startR, isi, tyOf, isNn, gIs, ev_rgh1 _ ok, e, fin, Mem.nr, D.nr]
    | true =>
      obtain ⟨y, rfl⟩ := e3 hf
      simp [c_law_same, b_law_same, runFn, startR, isi, tyOf, isNn, gIs, ev_rgh1 _ ok, e, fin, Mem.nr, D.nr]
theorem p_same {A : Type} {n : Nat} {c : Ec A} {ok : A → Bool} [DecidableEq A] [t : Sm n c ok] [o : OkAll ok] {M : Mem} (a b : A) (hn : Nat.ble n 12 = true := by decide) : callP q_law_same [c.e a, c.e b] M = some (eB.e (decide (a = b)), M) := p_sameG rfl same_fn (o.t a) (o.t b) hn
theorem p_sameT {A : Type} {n : Nat} {c : Ec A} {ok : A → Bool} [DecidableEq A] [t : Sm n c ok] {M : Mem} {a b : A} {r : Bool} (h : tsame ok a b = some r) (hn : Nat.ble n 12 = true := by decide) : callP q_law_same [c.e a, c.e b] M = some (eB.e r, M) := p_sameG2 rfl same_fn h hn
end LP
namespace LP
open PySem PySem.Spec PyProof.Rows L2 PF TL
/-- _law_draws(v_script: script[int], v_many: int) -> list[int] -/
def t_law_draws (v_script : (List Int)) (v_many : Int) : Option (List Int) :=
  tlet ((List.map (fun (cell_1 : Int) => cell_1) v_script)) fun cells_2 =>
  Option.bind (α := (List Int)) (if (decide ((List.length cells_2 : Int) = (0 : Int))) = true then (Option.bind (tapp cells_2 ((0 : Int))) fun cells_4 => some cells_4) else (some cells_2)) fun s_3 =>
  Option.bind (trg ((0 : Int)) v_many) fun r_5 =>
  Option.bind (α := ((List Int) × (List Int))) (tfold (fun (k_10 : Int) (s_6 : ((List Int) × (List Int))) => Option.bind (tmod k_10 ((List.length s_3 : Int))) fun m_11 => Option.bind (tat s_3 m_11) fun x_12 => Option.bind (if (decide (x_12 ≥ ((10 : Int) ^ 18))) = true then Option.bind (tat s_6.1 m_11) fun x_13 => some ((decide (x_13 > (0 : Int)))) else some false) fun w_14 => Option.bind (α := ((List Int) × (List Int))) (if w_14 = true then (Option.bind (tat s_6.1 m_11) fun x_17 => Option.bind (tapp s_6.2 ((Int.fmod x_17 ((1000 : Int))))) fun draws_18 => Option.bind (tat s_6.1 m_11) fun x_19 => Option.bind (tset s_6.1 m_11 ((Int.fdiv x_19 ((1000 : Int))))) fun a_20 => some ((a_20, draws_18))) else (Option.bind (tat s_3 m_11) fun x_21 => tlet ((Int.fmod ((((x_21 * (48271 : Int)) + (k_10 * (69621 : Int))) + (11 : Int))) ((2147483647 : Int)))) fun once_22 => Option.bind (tmul once_22 once_22) fun m_23 => Option.bind (tapp s_6.2 ((Int.fmod (((m_23 + ((3 : Int) * once_22)) + k_10)) ((1000003 : Int))))) fun draws_24 => some ((s_6.1, draws_24)))) fun s_15 => some ((s_15.1, s_15.2))) r_5 ((s_3, ([] : (List Int))))) fun s_25 =>
  some ((List.reverse s_25.2))
/-- _law_take(v_draws: list[int], v_many: int) -> int -/
def t_law_take (v_draws : (List Int)) (v_many : Int) : Option (Int × List Int) :=
  if (decide ((List.length v_draws : Int) = (0 : Int))) = true then (some (((0 : Int), v_draws))) else
  Option.bind (tpop v_draws) fun p_1 =>
  Option.bind (tmod p_1.1 v_many) fun m_2 =>
  some ((m_2, p_1.2))
/-- _law_cell(v_script: script[int], v_at: int) -> int -/
def t_law_cell (v_script : (List Int)) (v_at : Int) : Option Int :=
  if (decide ((List.length v_script : Int) = (0 : Int))) = true then (some ((0 : Int))) else
  Option.bind (tmod v_at ((List.length v_script : Int))) fun m_1 =>
  Option.bind (tat v_script m_1) fun x_2 =>
  Option.bind (tat ([(1 : Int), (-1 : Int)]) ((if (decide (x_2 < (0 : Int))) = true then (1 : Int) else 0))) fun x_3 =>
  Option.bind (tmul ((Int.fmod ((Int.natAbs x_2 : Int)) (((10 : Int) ^ 60)))) x_3) fun m_4 =>
  some m_4
/-- _law_minutes(v_draws: list[int], v_script: script[int], v_many: int) -> tuple[int] -/
def t_law_minutes (v_draws : (List Int)) (v_script : (List Int)) (v_many : Int) : Option ((List Int) × List Int) :=
  Option.bind (t_law_take v_draws ((64 : Int))) fun y_1 =>
  Option.bind (t_law_cell v_script y_1.1) fun y_2 =>
  Option.bind (tdiv y_2 (((10 : Int) ^ 32))) fun m_3 =>
  Option.bind (t_law_take y_1.2 ((2 : Int))) fun y_4 =>
  Option.bind (tat ([(0 : Int), m_3]) y_4.1) fun x_5 =>
  Option.bind (t_law_take y_4.2 ((3 : Int))) fun y_6 =>
  Option.bind (tat ([(5 : Int), (20 : Int), (99 : Int)]) y_6.1) fun x_7 =>
  Option.bind (trg ((0 : Int)) v_many) fun r_8 =>
  Option.bind (tmapS (fun (k_9 : Int) (s_11 : (List Int)) => Option.bind (t_law_take s_11 x_7) fun y_12 => some ((x_5 + y_12.1), y_12.2)) r_8 y_6.2) fun l_13 =>
  some ((l_13.1, l_13.2))
/-- _law_apart(v_one: int, v_other: int) -> int -/
def t_law_apart (v_one : Int) (v_other : Int) : Option Int :=
  some (((max v_one v_other) - (min v_one v_other)))
def p_law_apart (v_one : Int) (v_other : Int) : Int :=
  (((max v_one v_other) - (min v_one v_other)))
theorem tp_law_apart (v_one : Int) (v_other : Int) : t_law_apart v_one v_other = some (p_law_apart v_one v_other) := by
  unfold t_law_apart p_law_apart
  first | rfl | (simp only [tlet_eq]; done) | (simp only [tlet_eq]; repeat' split) <;> rfl
/-- _law_sum(v_minutes: tuple[int], v_weights: tuple[int], v_minute: int) -> int -/
def t_law_sum (v_minutes : (List Int)) (v_weights : (List Int)) (v_minute : Int) : Option Int :=
  Option.bind (trg ((0 : Int)) ((List.length v_minutes : Int))) fun r_1 =>
  Option.bind (tmap (fun (k_2 : Int) => Option.bind (tat v_weights k_2) fun x_3 => Option.bind (tat v_minutes k_2) fun x_4 => Option.bind (tmul x_3 ((p_law_apart x_4 v_minute))) fun m_5 => some (m_5)) r_1) fun l_6 =>
  some ((List.sum l_6))
/-- _law_ends(v_minutes: tuple[int], v_weights: tuple[int]) -> (int, int) -/
def t_law_ends (v_minutes : (List Int)) (v_weights : (List Int)) : Option (Int × Int) :=
  Option.bind (tmap (fun (minute_1 : Int) => Option.bind (t_law_sum v_minutes v_weights minute_1) fun y_2 => some (y_2)) v_minutes) fun l_3 =>
  Option.bind (trg ((0 : Int)) ((List.length v_minutes : Int))) fun r_4 =>
  Option.bind (tfilt (fun (k_5 : Int) => Option.bind (tat l_3 k_5) fun x_6 => Option.bind (tmin (fun a b : Int => decide (a < b)) l_3) fun min_7 => some ((decide (x_6 = min_7)))) r_4) fun z_9 =>
  Option.bind (tmap (fun (k_5 : Int) => Option.bind (tat v_minutes k_5) fun x_8 => some (x_8)) z_9) fun l_10 =>
  Option.bind (tmin (fun a b : Int => decide (a < b)) l_10) fun min_11 =>
  Option.bind (tmax (fun a b : Int => decide (a < b)) l_10) fun max_12 =>
  some ((min_11, max_12))
/-- best_pick(v_minutes: tuple[int], v_weights: tuple[int]) -> int -/
def t_best_pick (v_minutes : (List Int)) (v_weights : (List Int)) : Option Int :=
  Option.bind (α := (List (Int × Int))) (tfold (fun (minute_3 : Int) (s_1 : (List (Int × Int))) => Option.bind (trg ((0 : Int)) ((List.length v_minutes : Int))) fun r_4 => Option.bind (tmap (fun (at_5 : Int) => Option.bind (tat v_weights at_5) fun x_6 => Option.bind (tat v_minutes at_5) fun x_7 => Option.bind (tmul x_6 ((Int.natAbs ((x_7 - minute_3)) : Int))) fun m_8 => some (m_8)) r_4) fun l_9 => Option.bind (tapp s_1 (((List.sum l_9), minute_3))) fun told_10 => some told_10) v_minutes (([] : (List (Int × Int))))) fun s_11 =>
  Option.bind (tmin (lx (fun a b : Int => decide (a < b)) (fun a b : Int => decide (a < b))) s_11) fun min_13 =>
  some min_13.2
/-- weighed_middles(v_pairs: list[(int, int)]) -> (int, int) -/
def t_weighed_middles (v_pairs : (List (Int × Int))) : Option (Int × Int) :=
  tlet ((List.sum ((List.map (fun (e_1 : (Int × Int)) => e_1.2) v_pairs)))) fun whole_2 =>
  Option.bind (α := (Int × (List Int))) (tfold (fun (e_6 : (Int × Int)) (s_3 : (Int × (List Int))) => tlet (s_3.1 + e_6.2) fun below_7 => Option.bind (α := (List Int)) (if ((decide ((List.length s_3.2 : Int) = (0 : Int))) && (decide (((2 : Int) * below_7) ≥ whole_2))) = true then (Option.bind (tapp s_3.2 e_6.1) fun found_9 => some found_9) else (some s_3.2)) fun s_8 => Option.bind (α := (List Int)) (if ((decide ((List.length s_8 : Int) = (1 : Int))) && (decide (((2 : Int) * below_7) > whole_2))) = true then (Option.bind (tapp s_8 e_6.1) fun found_11 => some found_11) else (some s_8)) fun s_10 => some ((below_7, s_10))) ((tsort (lx (fun a b : Int => decide (a < b)) (fun a b : Int => decide (a < b))) v_pairs)) (((0 : Int), ([] : (List Int))))) fun s_12 =>
  Option.bind (tat s_12.2 ((0 : Int))) fun x_15 =>
  Option.bind (tat s_12.2 ((1 : Int))) fun x_16 =>
  some ((x_15, x_16))
/-- best_span(v_votes: tuple[(int, int, int)]) -> ((int, int), (int, int)) -/
def t_best_span (v_votes : (List (Int × Int × Int))) : Option ((Int × Int) × (Int × Int)) :=
  Option.bind (t_weighed_middles ((List.map (fun (e_1 : (Int × Int × Int)) => (e_1.1, e_1.2.2)) v_votes))) fun y_2 =>
  Option.bind (t_weighed_middles ((List.map (fun (e_3 : (Int × Int × Int)) => (e_3.2.1, e_3.2.2)) v_votes))) fun y_4 =>
  some (((y_2.1, y_4.1), (y_2.2, y_4.2)))
/-- best_vote(v_votes: tuple[(int, int, int)]) -> (int, int) -/
def t_best_vote (v_votes : (List (Int × Int × Int))) : Option (Int × Int) :=
  Option.bind (t_best_span v_votes) fun y_1 =>
  some y_1.1
/-- sum_far(v_votes: tuple[(int, int, int)], v_place: (int, int)) -> int -/
def t_sum_far (v_votes : (List (Int × Int × Int))) (v_place : (Int × Int)) : Option Int :=
  Option.bind (tmap (fun (e_1 : (Int × Int × Int)) => Option.bind (tmul e_1.2.2 (((Int.natAbs ((e_1.1 - v_place.1)) : Int) + (Int.natAbs ((e_1.2.1 - v_place.2)) : Int)))) fun m_2 => some (m_2)) v_votes) fun l_3 =>
  some ((List.sum l_3))
/-- worst_far(v_votes: tuple[(int, int, int)], v_place: (int, int)) -> int -/
def t_worst_far (v_votes : (List (Int × Int × Int))) (v_place : (Int × Int)) : Option Int :=
  Option.bind (tmax (fun a b : Int => decide (a < b)) ((List.map (fun (e_1 : (Int × Int × Int)) => ((Int.natAbs ((e_1.1 - v_place.1)) : Int) + (Int.natAbs ((e_1.2.1 - v_place.2)) : Int))) v_votes))) fun max_2 =>
  some max_2
/-- without_one(v_votes: tuple[(int, int, int)], v_at: int) -> (int, int) -/
def t_without_one (v_votes : (List (Int × Int × Int))) (v_at : Int) : Option (Int × Int) :=
  Option.bind (tcat ((cut v_votes none (some v_at))) ((cut v_votes (some ((v_at + (1 : Int)))) none))) fun w_1 =>
  Option.bind (t_best_vote w_1) fun y_2 =>
  some y_2
/-- greatest_move(v_votes: tuple[(int, int, int)]) -> int -/
def t_greatest_move (v_votes : (List (Int × Int × Int))) : Option Int :=
  Option.bind (t_best_vote v_votes) fun y_1 =>
  Option.bind (trg ((0 : Int)) ((List.length v_votes : Int))) fun r_2 =>
  Option.bind (tmap (fun (at_3 : Int) => Option.bind (t_without_one v_votes at_3) fun y_4 => some (y_4)) r_2) fun l_5 =>
  Option.bind (tmax (fun a b : Int => decide (a < b)) ((List.map (fun (e_6 : (Int × Int)) => ((Int.natAbs ((e_6.1 - y_1.1)) : Int) + (Int.natAbs ((e_6.2 - y_1.2)) : Int))) l_5))) fun max_7 =>
  some max_7
/-- _law_line_right(v_minutes: tuple[int], v_weights: tuple[int], v_is_up: bool) -> bool -/
def t_law_line_right (v_minutes : (List Int)) (v_weights : (List Int)) (v_is_up : Bool) : Option Bool :=
  Option.bind (t_law_ends v_minutes v_weights) fun y_1 =>
  Option.bind (trg ((0 : Int)) ((List.length v_minutes : Int))) fun r_2 =>
  Option.bind (α := (List (Int × Int × Int))) (tfold (fun (k_5 : Int) (s_3 : (List (Int × Int × Int))) => Option.bind (tat v_minutes k_5) fun x_6 => Option.bind (tat v_weights k_5) fun x_7 => Option.bind (tat v_minutes k_5) fun x_8 => Option.bind (tat v_weights k_5) fun x_9 => Option.bind (tat ([(x_6, (0 : Int), x_7), ((0 : Int), x_8, x_9)]) ((if v_is_up = true then (1 : Int) else 0))) fun x_10 => Option.bind (tapp s_3 x_10) fun votes_11 => some votes_11) r_2 (([] : (List (Int × Int × Int))))) fun s_12 =>
  Option.bind (tat ([(y_1.1, (0 : Int)), ((0 : Int), y_1.1)]) ((if v_is_up = true then (1 : Int) else 0))) fun x_14 =>
  Option.bind (tat ([(y_1.2, (0 : Int)), ((0 : Int), y_1.2)]) ((if v_is_up = true then (1 : Int) else 0))) fun x_15 =>
  Option.bind (t_best_pick v_minutes v_weights) fun y_16 =>
  Option.bind (if (!((decide (y_16 = y_1.1)))) = true then some true else Option.bind (t_best_vote s_12) fun y_17 => Option.bind (if (!((decide (y_17 = x_14)))) = true then some true else Option.bind (t_best_span s_12) fun y_18 => some ((!((decide (y_18 = (x_14, x_15))))))) fun w_19 => some (w_19)) fun w_20 =>
  if w_20 = true then (some false) else
  Option.bind (tcat v_minutes ([(((y_1.1 - (1 : Int)), (y_1.2 + (1 : Int)))).1, (((y_1.1 - (1 : Int)), (y_1.2 + (1 : Int)))).2])) fun w_21 =>
  Option.bind (α := Ex Bool Unit) (tforr (E := Bool) (fun (minute_25 : Int) (s_22 : Unit) => Option.bind (tat ([(minute_25, (0 : Int)), ((0 : Int), minute_25)]) ((if v_is_up = true then (1 : Int) else 0))) fun x_26 => Option.bind (t_sum_far s_12 x_26) fun y_27 => Option.bind (t_law_sum v_minutes v_weights minute_25) fun y_28 => if (!((decide (y_27 = y_28)))) = true then (some ((Ex.ex false))) else Option.bind (t_worst_far s_12 x_26) fun y_29 => Option.bind (tmax (fun a b : Int => decide (a < b)) ((List.map (fun (one_30 : Int) => (p_law_apart minute_25 one_30)) v_minutes))) fun max_31 => if (!((decide (y_29 = max_31)))) = true then (some ((Ex.ex false))) else Option.bind (t_law_sum v_minutes v_weights minute_25) fun y_32 => Option.bind (t_law_sum v_minutes v_weights y_1.1) fun y_33 => if (decide (y_32 < y_33)) = true then (some ((Ex.ex false))) else some (Ex.go (()))) w_21 (())) fun r_56 => Ex.cas r_56 (fun e => some e) fun s_34 =>
  if (decide ((List.length v_minutes : Int) < (2 : Int))) = true then (some true) else
  Option.bind (trg ((0 : Int)) ((List.length v_minutes : Int))) fun r_37 =>
  Option.bind (α := Ex Bool Int) (tforr (E := Bool) (fun (at_41 : Int) (s_38 : Int) => Option.bind (tcat ((cut v_minutes none (some at_41))) ((cut v_minutes (some ((at_41 + (1 : Int)))) none))) fun w_42 => Option.bind (tcat ((cut v_weights none (some at_41))) ((cut v_weights (some ((at_41 + (1 : Int)))) none))) fun w_43 => Option.bind (t_best_pick w_42 w_43) fun y_44 => Option.bind (tcat ((cut v_minutes none (some at_41))) ((cut v_minutes (some ((at_41 + (1 : Int)))) none))) fun w_45 => Option.bind (tcat ((cut v_weights none (some at_41))) ((cut v_weights (some ((at_41 + (1 : Int)))) none))) fun w_46 => Option.bind (t_law_ends w_45 w_46) fun y_47 => if (!((decide (y_44 = y_47.1)))) = true then (some ((Ex.ex false))) else Option.bind (t_without_one s_12 at_41) fun y_48 => Option.bind (tat ([(y_44, (0 : Int)), ((0 : Int), y_44)]) ((if v_is_up = true then (1 : Int) else 0))) fun x_49 => if (!((decide (y_48 = x_49)))) = true then (some ((Ex.ex false))) else tlet ((max s_38 ((p_law_apart y_44 y_1.1)))) fun move_50 => some (Ex.go move_50)) r_37 ((0 : Int))) fun r_55 => Ex.cas r_55 (fun e => some e) fun s_51 =>
  Option.bind (t_greatest_move s_12) fun y_54 =>
  some ((decide (y_54 = s_51)))
/-- _law_both_right(v_xs: tuple[int], v_ys: tuple[int], v_weights: tuple[int]) -> bool -/
def t_law_both_right (v_xs : (List Int)) (v_ys : (List Int)) (v_weights : (List Int)) : Option Bool :=
  Option.bind (trg ((0 : Int)) ((List.length v_xs : Int))) fun r_1 =>
  Option.bind (tmap (fun (k_2 : Int) => Option.bind (tat v_xs k_2) fun x_3 => Option.bind (tat v_ys k_2) fun x_4 => Option.bind (tat v_weights k_2) fun x_5 => some ((x_3, x_4, x_5))) r_1) fun l_6 =>
  Option.bind (t_best_vote l_6) fun y_7 =>
  Option.bind (t_best_pick v_xs v_weights) fun y_8 =>
  Option.bind (t_best_pick v_ys v_weights) fun y_9 =>
  if (!((decide (y_7 = (y_8, y_9))))) = true then (some false) else
  Option.bind (t_best_span l_6) fun y_10 =>
  Option.bind (t_law_ends v_xs v_weights) fun y_11 =>
  Option.bind (t_law_ends v_ys v_weights) fun y_12 =>
  if (!((decide (y_10 = (y_7, (y_11.2, y_12.2)))))) = true then (some false) else
  Option.bind (t_law_sum v_xs v_weights y_7.1) fun y_13 =>
  Option.bind (t_law_sum v_ys v_weights y_7.2) fun y_14 =>
  tlet ((y_13 + y_14)) fun least_15 =>
  Option.bind (t_sum_far l_6 y_7) fun y_16 =>
  if (!((decide (y_16 = least_15)))) = true then (some false) else
  Option.bind (α := Ex Bool Unit) (tforr (E := Bool) (fun (x_20 : Int) (s_17 : Unit) => Option.bind (α := Ex Bool Unit) (tforr (E := Bool) (fun (y_23 : Int) (s_21 : Unit) => Option.bind (t_sum_far l_6 ((x_20, y_23))) fun y_24 => if (decide (y_24 < least_15)) = true then (some ((Ex.ex false))) else some (Ex.go (()))) v_ys (())) fun r_27 => Ex.cas r_27 (fun e => some ((Ex.ex e))) fun s_25 => some (Ex.go (()))) v_xs (())) fun r_31 => Ex.cas r_31 (fun e => some e) fun s_28 =>
  some true
/-- middle_pick(v_minutes: tuple[int]) -> int -/
def t_middle_pick (v_minutes : (List Int)) : Option Int :=
  Option.bind (tat ((tsort (fun a b : Int => decide (a < b)) v_minutes)) ((Int.fdiv (((List.length v_minutes : Int) - (1 : Int))) ((2 : Int))))) fun x_1 =>
  some x_1
/-- moved_by_one(v_minutes: tuple[int]) -> int -/
def t_moved_by_one (v_minutes : (List Int)) : Option Int :=
  tlet ((tsort (fun a b : Int => decide (a < b)) v_minutes)) fun told_1 =>
  tlet ((Int.fdiv (((List.length told_1 : Int) - (1 : Int))) ((2 : Int)))) fun at_2 =>
  Option.bind (tat told_1 at_2) fun x_3 =>
  Option.bind (tat told_1 ((at_2 - (1 : Int)))) fun x_4 =>
  Option.bind (tat told_1 ((at_2 + (1 : Int)))) fun x_5 =>
  Option.bind (tat told_1 at_2) fun x_6 =>
  some ((max ((x_3 - x_4)) ((x_5 - x_6))))
/-- _law_middle_right(v_minutes: tuple[int]) -> bool -/
def t_law_middle_right (v_minutes : (List Int)) : Option Bool :=
  Option.bind (trepV ([((1 : Int))]) ((List.length v_minutes : Int))) fun w_1 =>
  tlet ((List.map (fun (minute_2 : Int) => (minute_2, (0 : Int), (1 : Int))) v_minutes)) fun votes_3 =>
  Option.bind (t_middle_pick v_minutes) fun y_4 =>
  Option.bind (t_best_pick v_minutes w_1) fun y_5 =>
  Option.bind (if (!((decide (y_4 = y_5)))) = true then some true else Option.bind (t_best_vote votes_3) fun y_6 => Option.bind (t_middle_pick v_minutes) fun y_7 => some ((!((decide (y_6 = (y_7, (0 : Int)))))))) fun w_8 =>
  if w_8 = true then (some false) else
  Option.bind (if (decide ((List.length v_minutes : Int) < (3 : Int))) = true then some true else Option.bind (t_greatest_move votes_3) fun y_9 => Option.bind (t_moved_by_one v_minutes) fun y_10 => some ((decide (y_9 ≤ y_10)))) fun w_11 =>
  some w_11
/-- _law_part_one(v_script: script[int]) -> bool -/
def t_law_part_one (v_script : (List Int)) : Option Bool :=
  Option.bind (t_law_draws v_script ((260 : Int))) fun y_1 =>
  Option.bind (α := Ex Bool (List Int)) (tforr (E := Bool) (fun (k_8 : Int) (s_2 : (List Int)) => Option.bind (tat ([(4 : Int), (10 : Int), (6 : Int)]) k_8) fun x_9 => Option.bind (t_law_take s_2 x_9) fun y_10 => tlet (((1 : Int) + y_10.1)) fun many_11 => Option.bind (t_law_minutes y_10.2 v_script many_11) fun y_12 => Option.bind (t_law_minutes y_12.2 v_script many_11) fun y_13 => Option.bind (tmapS (fun (minute_14 : Int) (s_18 : (List Int)) => Option.bind (t_law_take s_18 ((2 : Int))) fun y_19 => Option.bind (tat ([(9 : Int), (2 : Int)]) y_19.1) fun x_20 => Option.bind (t_law_take y_19.2 x_20) fun y_21 => some (((1 : Int) + y_21.1), y_21.2)) y_12.1 y_13.2) fun l_22 => Option.bind (t_law_line_right y_12.1 l_22.1 false) fun y_25 => Option.bind (if (!y_25) = true then some true else Option.bind (t_law_line_right y_13.1 l_22.1 true) fun y_26 => some ((!y_26))) fun w_27 => if w_27 = true then (some ((Ex.ex false))) else Option.bind (t_law_both_right y_12.1 y_13.1 l_22.1) fun y_28 => Option.bind (if (!y_28) = true then some true else Option.bind (t_law_middle_right y_12.1) fun y_29 => some ((!y_29))) fun w_30 => if w_30 = true then (some ((Ex.ex false))) else some (Ex.go l_22.2)) ((upto (0 : Int) 3)) y_1) fun r_42 => Ex.cas r_42 (fun e => some e) fun s_31 =>
  Option.bind (t_best_pick ([(((1 : Int), (5 : Int))).1, (((1 : Int), (5 : Int))).2]) ([(((2 : Int), (2 : Int))).1, (((2 : Int), (2 : Int))).2])) fun y_37 =>
  Option.bind (if (decide (y_37 = (1 : Int))) = true then Option.bind (t_best_span ([((((1 : Int), (0 : Int), (2 : Int)), ((5 : Int), (0 : Int), (2 : Int)))).1, ((((1 : Int), (0 : Int), (2 : Int)), ((5 : Int), (0 : Int), (2 : Int)))).2])) fun y_38 => Option.bind (if (decide (y_38 = (((1 : Int), (0 : Int)), ((5 : Int), (0 : Int))))) = true then Option.bind (t_best_pick ([(((5 : Int), (1 : Int), (3 : Int))).1, (((5 : Int), (1 : Int), (3 : Int))).2.1, (((5 : Int), (1 : Int), (3 : Int))).2.2]) ([(((1 : Int), (1 : Int), (1 : Int))).1, (((1 : Int), (1 : Int), (1 : Int))).2.1, (((1 : Int), (1 : Int), (1 : Int))).2.2])) fun y_39 => some ((decide (y_39 = (3 : Int)))) else some false) fun w_40 => some (w_40) else some false) fun w_41 =>
  some w_41
/-- _law_b_minutes(v_draws: list[int], v_script: script[int], v_many: int) -> tuple[int] -/
def t_law_b_minutes (v_draws : (List Int)) (v_script : (List Int)) (v_many : Int) : Option ((List Int) × List Int) :=
  Option.bind (t_law_take v_draws ((64 : Int))) fun y_1 =>
  Option.bind (t_law_cell v_script y_1.1) fun y_2 =>
  Option.bind (tdiv y_2 (((10 : Int) ^ 32))) fun m_3 =>
  Option.bind (t_law_take y_1.2 ((2 : Int))) fun y_4 =>
  Option.bind (tat ([(0 : Int), m_3]) y_4.1) fun x_5 =>
  Option.bind (t_law_take y_4.2 ((3 : Int))) fun y_6 =>
  Option.bind (tat ([(5 : Int), (20 : Int), (99 : Int)]) y_6.1) fun x_7 =>
  Option.bind (trg ((0 : Int)) v_many) fun r_8 =>
  Option.bind (α := ((List Int) × (List Int))) (tfold (fun (k_12 : Int) (s_9 : ((List Int) × (List Int))) => Option.bind (t_law_take s_9.1 x_7) fun y_13 => tlet ((x_5 + y_13.1)) fun minute_14 => Option.bind (t_law_take y_13.2 ((9 : Int))) fun y_15 => Option.bind (α := (Int × (List Int))) (if (decide (y_15.1 = (0 : Int))) = true then (Option.bind (t_law_take y_15.2 ((2 : Int))) fun y_17 => tlet (((minute_14 + (1000 : Int)) - ((2000 : Int) * y_17.1))) fun minute_18 => some ((minute_18, y_17.2))) else (some ((minute_14, y_15.2)))) fun s_16 => Option.bind (tapp s_9.2 s_16.1) fun found_19 => some ((s_16.2, found_19))) r_8 ((y_6.2, ([] : (List Int))))) fun s_20 =>
  some ((s_20.2, s_20.1))
/-- _law_middle(v_minutes: tuple[int]) -> int? -/
def t_law_middle (v_minutes : (List Int)) : Option (Option Int) :=
  Option.bind (α := (Option Int)) (tfold (fun (minute_4 : Int) (s_1 : (Option Int)) => tlet ((List.length ((List.map (fun (other_5 : Int) => (1 : Int)) ((List.filter (fun (other_5 : Int) => (decide (other_5 ≤ minute_4))) v_minutes)))) : Int)) fun below_6 => Option.bind (if (decide (((2 : Int) * below_6) ≥ (List.length v_minutes : Int))) = true then Option.bind (if (Option.isNone s_1) = true then some true else Option.bind (s_1) fun w_7 => some ((decide (minute_4 < w_7)))) fun w_8 => some (w_8) else some false) fun w_9 => Option.bind (α := (Option Int)) (if w_9 = true then (some ((some minute_4))) else (some s_1)) fun s_10 => some s_10) v_minutes none) fun s_11 =>
  some s_11
/-- _law_apart(v_one: int, v_other: int?) -> int -/
def t_law_apart_1 (v_one : Int) (v_other : (Option Int)) : Option Int :=
  Option.bind (v_other) fun w_1 =>
  Option.bind (v_other) fun w_2 =>
  some (((max v_one w_1) - (min v_one w_2)))
/-- _law_middle(v_minutes: list[int]) -> int? -/
def t_law_middle_1 (v_minutes : (List Int)) : Option (Option Int) :=
  Option.bind (α := (Option Int)) (tfold (fun (minute_4 : Int) (s_1 : (Option Int)) => tlet ((List.length ((List.map (fun (other_5 : Int) => (1 : Int)) ((List.filter (fun (other_5 : Int) => (decide (other_5 ≤ minute_4))) v_minutes)))) : Int)) fun below_6 => Option.bind (if (decide (((2 : Int) * below_6) ≥ (List.length v_minutes : Int))) = true then Option.bind (if (Option.isNone s_1) = true then some true else Option.bind (s_1) fun w_7 => some ((decide (minute_4 < w_7)))) fun w_8 => some (w_8) else some false) fun w_9 => Option.bind (α := (Option Int)) (if w_9 = true then (some ((some minute_4))) else (some s_1)) fun s_10 => some s_10) v_minutes none) fun s_11 =>
  some s_11
/-- far_from_middle(v_minutes: tuple[int]) -> list[int] -/
def t_far_from_middle (v_minutes : (List Int)) : Option (List Int) :=
  Option.bind (t_middle_pick v_minutes) fun y_1 =>
  some ((List.map (fun (minute_2 : Int) => (Int.natAbs ((minute_2 - y_1)) : Int)) v_minutes))
/-- middle_pick(v_minutes: list[int]) -> int -/
def t_middle_pick_1 (v_minutes : (List Int)) : Option Int :=
  Option.bind (tat ((tsort (fun a b : Int => decide (a < b)) v_minutes)) ((Int.fdiv (((List.length v_minutes : Int) - (1 : Int))) ((2 : Int))))) fun x_1 =>
  some x_1
/-- spread_of_picks(v_minutes: tuple[int]) -> int -/
def t_spread_of_picks (v_minutes : (List Int)) : Option Int :=
  Option.bind (t_far_from_middle v_minutes) fun y_1 =>
  Option.bind (t_middle_pick_1 y_1) fun y_2 =>
  some y_2
/-- without_far(v_minutes: tuple[int], v_times: int) -> tuple[int] -/
def t_without_far (v_minutes : (List Int)) (v_times : Int) : Option (List Int) :=
  Option.bind (t_spread_of_picks v_minutes) fun y_1 =>
  Option.bind (tmul v_times y_1) fun m_2 =>
  Option.bind (t_far_from_middle v_minutes) fun y_3 =>
  Option.bind (trg ((0 : Int)) ((List.length v_minutes : Int))) fun r_4 =>
  Option.bind (tfilt (fun (at_5 : Int) => Option.bind (tat y_3 at_5) fun x_6 => some ((decide (x_6 ≤ m_2)))) r_4) fun z_8 =>
  Option.bind (tmap (fun (at_5 : Int) => Option.bind (tat v_minutes at_5) fun x_7 => some (x_7)) z_8) fun l_9 =>
  some l_9
/-- _law_divisor(v_one: int, v_other: int) -> int -/
def t_law_divisor (v_one : Int) (v_other : Int) : Option Int :=
  tlet ((max v_one ((-v_one)))) fun one_1 =>
  Option.bind (α := (Int × Int)) (twh (fun (s_2 : (Int × Int)) => some ((decide (s_2.2 > (0 : Int))))) (fun (s_2 : (Int × Int)) => Option.bind (tmod s_2.1 s_2.2) fun m_3 => some ((s_2.2, m_3))) FUEL ((one_1, v_other))) fun s_4 =>
  some s_4.1
/-- fraction(v_n: int, v_d: int) -> (int, int) -/
def t_fraction (v_n : Int) (v_d : Int) : Option (Int × Int) :=
  tlet (((Nat.gcd (Int.natAbs v_n) (Int.natAbs v_d) : Nat) : Int)) fun divisor_1 =>
  Option.bind (α := Int) (if (decide (v_d < (0 : Int))) = true then (tlet ((-divisor_1)) fun divisor_3 => some divisor_3) else (some divisor_1)) fun s_2 =>
  Option.bind (tdiv v_n s_2) fun m_4 =>
  Option.bind (tdiv v_d s_2) fun m_5 =>
  some ((m_4, m_5))
/-- mean_of_picks(v_minutes: tuple[int]) -> (int, int) -/
def t_mean_of_picks (v_minutes : (List Int)) : Option (Int × Int) :=
  Option.bind (t_fraction ((List.sum v_minutes)) ((List.length v_minutes : Int))) fun y_1 =>
  some y_1
/-- _law_right(v_draws: list[int], v_minutes: tuple[int]) -> bool -/
def t_law_right (v_draws : (List Int)) (v_minutes : (List Int)) : Option (Bool × List Int) :=
  tlet ((List.length v_minutes : Int)) fun many_1 =>
  Option.bind (t_law_middle v_minutes) fun y_2 =>
  Option.bind (tmap (fun (minute_3 : Int) => Option.bind (t_law_apart_1 minute_3 y_2) fun y_4 => some (y_4)) v_minutes) fun l_5 =>
  Option.bind (t_law_middle_1 l_5) fun y_6 =>
  Option.bind (t_middle_pick v_minutes) fun y_7 =>
  Option.bind (if (!((decide ((some y_7) = y_2)))) = true then some true else Option.bind (t_spread_of_picks v_minutes) fun y_8 => some ((!((decide ((some y_8) = y_6)))))) fun w_9 =>
  if w_9 = true then (some ((false, v_draws))) else
  Option.bind (t_middle_pick ((List.reverse v_minutes))) fun y_10 =>
  if (!((decide ((some y_10) = y_2)))) = true then (some ((false, v_draws))) else
  Option.bind (α := Ex (Bool × (List Int)) Unit) (tforr (E := (Bool × (List Int))) (fun (times_14 : Int) (s_11 : Unit) => Option.bind (trg ((0 : Int)) many_1) fun r_15 => Option.bind (tfilt (fun (k_16 : Int) => Option.bind (tat l_5 k_16) fun x_17 => Option.bind (y_6) fun w_18 => Option.bind (tmul times_14 w_18) fun m_19 => some ((decide (x_17 ≤ m_19)))) r_15) fun z_21 => Option.bind (tmap (fun (k_16 : Int) => Option.bind (tat v_minutes k_16) fun x_20 => some (x_20)) z_21) fun l_22 => Option.bind (t_without_far v_minutes times_14) fun y_23 => Option.bind (tsame (okV okA) y_23 l_22) fun q_24 => if (!q_24) = true then (some ((Ex.ex ((false, v_draws))))) else some (Ex.go (()))) ((upto (0 : Int) 6)) (())) fun r_56 => Ex.cas r_56 (fun e => some e) fun s_25 =>
  tlet ((List.sum v_minutes)) fun total_28 =>
  Option.bind (t_law_divisor total_28 many_1) fun y_29 =>
  Option.bind (t_mean_of_picks v_minutes) fun y_30 =>
  Option.bind (tdiv total_28 y_29) fun m_31 =>
  Option.bind (tdiv many_1 y_29) fun m_32 =>
  if (!((decide (y_30 = (m_31, m_32))))) = true then (some ((false, v_draws))) else
  Option.bind (tmapS (fun (minute_33 : Int) (s_35 : (List Int)) => Option.bind (t_law_take s_35 ((9 : Int))) fun y_36 => some (((1 : Int) + y_36.1), y_36.2)) v_minutes v_draws) fun l_37 =>
  Option.bind (α := (List (Int × Int))) (tfold (fun (minute_42 : Int) (s_40 : (List (Int × Int))) => Option.bind (trg ((0 : Int)) many_1) fun r_43 => Option.bind (tmap (fun (k_44 : Int) => Option.bind (tat l_37.1 k_44) fun x_45 => Option.bind (tat v_minutes k_44) fun x_46 => Option.bind (tmul x_45 ((p_law_apart x_46 minute_42))) fun m_47 => some (m_47)) r_43) fun l_48 => Option.bind (tapp s_40 (((List.sum l_48), minute_42))) fun sums_49 => some sums_49) v_minutes (([] : (List (Int × Int))))) fun s_50 =>
  Option.bind (t_best_pick v_minutes l_37.1) fun y_52 =>
  Option.bind (tmin (lx (fun a b : Int => decide (a < b)) (fun a b : Int => decide (a < b))) s_50) fun min_53 =>
  if (!((decide (y_52 = min_53.2)))) = true then (some ((false, l_37.2))) else
  Option.bind (trepV ([((1 : Int))]) many_1) fun w_54 =>
  Option.bind (t_best_pick v_minutes w_54) fun y_55 =>
  some (((decide ((some y_55) = y_2)), l_37.2))
/-- _law_apart(v_one: int?, v_other: int?) -> int -/
def t_law_apart_2 (v_one : (Option Int)) (v_other : (Option Int)) : Option Int :=
  Option.bind (v_one) fun w_1 =>
  Option.bind (v_other) fun w_2 =>
  Option.bind (v_one) fun w_3 =>
  Option.bind (v_other) fun w_4 =>
  some (((max w_1 w_2) - (min w_3 w_4)))
/-- _law_moved_right(v_minutes: tuple[int]) -> bool -/
def t_law_moved_right (v_minutes : (List Int)) : Option Bool :=
  Option.bind (t_law_middle v_minutes) fun y_1 =>
  Option.bind (tcat v_minutes ((List.map (fun (minute_2 : Int) => (minute_2 + (1 : Int))) v_minutes))) fun w_3 =>
  Option.bind (tmin (fun a b : Int => decide (a < b)) v_minutes) fun min_4 =>
  Option.bind (tmax (fun a b : Int => decide (a < b)) v_minutes) fun max_5 =>
  Option.bind (tcat w_3 ([(((min_4 - (99 : Int)), (max_5 + (99 : Int)))).1, (((min_4 - (99 : Int)), (max_5 + (99 : Int)))).2])) fun w_6 =>
  Option.bind (tsortU w_6) fun u_7 =>
  Option.bind (trg ((0 : Int)) ((List.length v_minutes : Int))) fun r_8 =>
  Option.bind (α := Int) (tfold (fun (k_13 : Int) (s_9 : Int) => Option.bind (α := Int) (tfold (fun (minute_17 : Int) (s_14 : Int) => Option.bind (tcat ((cut v_minutes none (some k_13))) ([minute_17])) fun w_18 => Option.bind (tcat w_18 ((cut v_minutes (some ((k_13 + (1 : Int)))) none))) fun w_19 => Option.bind (t_law_middle w_19) fun y_20 => Option.bind (t_law_apart_2 y_20 y_1) fun y_21 => tlet ((max s_14 y_21)) fun best_22 => some best_22) u_7 s_9) fun s_23 => some s_23) r_8 ((0 : Int))) fun s_26 =>
  Option.bind (t_moved_by_one v_minutes) fun y_30 =>
  some ((decide (y_30 = s_26)))
/-- _law_part_two(v_script: script[int]) -> bool -/
def t_law_part_two (v_script : (List Int)) : Option Bool :=
  Option.bind (t_law_draws v_script ((320 : Int))) fun y_1 =>
  Option.bind (α := Ex Bool (List Int)) (tforr (E := Bool) (fun (k_5 : Int) (s_2 : (List Int)) => Option.bind (tat ([(5 : Int), (12 : Int), (8 : Int)]) k_5) fun x_6 => Option.bind (t_law_take s_2 x_6) fun y_7 => Option.bind (t_law_b_minutes y_7.2 v_script (((1 : Int) + y_7.1))) fun y_8 => Option.bind (t_law_right y_8.2 y_8.1) fun y_9 => Option.bind (if (!y_9.1) = true then some true else Option.bind (if (decide ((List.length y_8.1 : Int) > (2 : Int))) = true then Option.bind (t_law_moved_right y_8.1) fun y_10 => some ((!y_10)) else some false) fun w_11 => some (w_11)) fun w_12 => if w_12 = true then (some ((Ex.ex false))) else some (Ex.go y_9.2)) ((upto (0 : Int) 3)) y_1) fun r_40 => Ex.cas r_40 (fun e => some e) fun s_13 =>
  Option.bind (t_law_take s_13 ((12 : Int))) fun y_16 =>
  Option.bind (if (decide (y_16.1 = (0 : Int))) = true then Option.bind (t_law_take y_16.2 ((30 : Int))) fun y_17 => Option.bind (t_law_b_minutes y_17.2 v_script (((60 : Int) - y_17.1))) fun y_18 => Option.bind (t_law_right y_18.2 y_18.1) fun y_19 => some ((!y_19.1), y_19.2) else some (false, y_16.2)) fun w_21 =>
  if w_21.1 = true then (some false) else
  tlet (((9 : Int), (4 : Int), (5 : Int), (20 : Int))) fun minutes_22 =>
  Option.bind (t_middle_pick ([minutes_22.1, minutes_22.2.1, minutes_22.2.2.1, minutes_22.2.2.2])) fun y_23 =>
  Option.bind (if (!((decide (y_23 = (5 : Int))))) = true then some true else Option.bind (t_spread_of_picks ([minutes_22.1, minutes_22.2.1, minutes_22.2.2.1, minutes_22.2.2.2])) fun y_24 => Option.bind (if (!((decide (y_24 = (1 : Int))))) = true then some true else Option.bind (t_without_far ([minutes_22.1, minutes_22.2.1, minutes_22.2.2.1, minutes_22.2.2.2]) ((4 : Int))) fun y_25 => Option.bind (tsame (okV okA) y_25 ([(((9 : Int), (4 : Int), (5 : Int))).1, (((9 : Int), (4 : Int), (5 : Int))).2.1, (((9 : Int), (4 : Int), (5 : Int))).2.2])) fun q_26 => some ((!q_26))) fun w_27 => some (w_27)) fun w_28 =>
  if w_28 = true then (some false) else
  Option.bind (t_mean_of_picks ([minutes_22.1, minutes_22.2.1, minutes_22.2.2.1, minutes_22.2.2.2])) fun y_29 =>
  Option.bind (if (!((decide (y_29 = ((19 : Int), (2 : Int)))))) = true then some true else Option.bind (t_moved_by_one ([minutes_22.1, minutes_22.2.1, minutes_22.2.2.1, minutes_22.2.2.2])) fun y_30 => Option.bind (if (!((decide (y_30 = (4 : Int))))) = true then some true else Option.bind (t_best_pick ([minutes_22.1, minutes_22.2.1, minutes_22.2.2.1, minutes_22.2.2.2]) ([(((1 : Int), (1 : Int), (1 : Int), (9 : Int))).1, (((1 : Int), (1 : Int), (1 : Int), (9 : Int))).2.1, (((1 : Int), (1 : Int), (1 : Int), (9 : Int))).2.2.1, (((1 : Int), (1 : Int), (1 : Int), (9 : Int))).2.2.2])) fun y_31 => some ((!((decide (y_31 = (20 : Int))))))) fun w_32 => some (w_32)) fun w_33 =>
  if w_33 = true then (some false) else
  Option.bind (t_mean_of_picks ([(((-3 : Int), (-4 : Int))).1, (((-3 : Int), (-4 : Int))).2])) fun y_34 =>
  Option.bind (if (decide (y_34 = ((-7 : Int), (2 : Int)))) = true then Option.bind (t_middle_pick ([((7 : Int))])) fun y_35 => Option.bind (if (decide (y_35 = (7 : Int))) = true then Option.bind (t_without_far ([(((1 : Int), (1 : Int), (5 : Int))).1, (((1 : Int), (1 : Int), (5 : Int))).2.1, (((1 : Int), (1 : Int), (5 : Int))).2.2]) ((3 : Int))) fun y_36 => Option.bind (tsame (okV okA) y_36 ([(((1 : Int), (1 : Int))).1, (((1 : Int), (1 : Int))).2])) fun q_37 => some (q_37) else some false) fun w_38 => some (w_38) else some false) fun w_39 =>
  some w_39
/-- law(v_script: script[int]) -> bool -/
def t_law (v_script : (List Int)) : Option Bool :=
  Option.bind (t_law_part_one v_script) fun y_1 =>
  Option.bind (if y_1 = true then Option.bind (t_law_part_two v_script) fun y_2 => some (y_2) else some false) fun w_3 =>
  some w_3
end LP
namespace LP
open PySem PySem.Spec PyProof.Rows L2 PF TL
theorem r_law_draws {v_script : (List Int)} {v_many : Int} {r : (List Int)} (h : t_law_draws v_script v_many = some r) : c_law_draws [(eK eI).e v_script, eI.e v_many] [] = some (.ref 0, [cl eI r]) := by
  unfold t_law_draws at h
  refine run_wp (f := b_law_draws) (n := 9) ?_
  refine w_add ?_
  refine w_assoc ?_
  obtain ⟨cells_2, h1, h⟩ := lbnd h
  refine w_setR (x_mutE (c := eI) (x_lc0 (cB := eI) (g := fun (cell_1 : Int) => cell_1) (i_sq (c := eI) (x_var rfl) s_K rfl) chk_0 (fun cell_1 => ⟨_, rfl, x_b (x_cons (x_var rfl) (x_nil)) (b_int _)⟩)) h1) ?_
  refine w_assoc ?_
  obtain ⟨s_3, hs, h⟩ := bnd h
  refine w_cut (fun ρ M => ρ = [some ((eK eI).e v_script), some (eI.e v_many), some (.ref 0), none, none, none, none, none, none] ∧ M = [cl eI s_3]) (w_ifT (x_f2T (x_b (x_cons (x_var rfl) (x_nil)) (b_len (c := eI) (s_R rfl))) (x_int _) (c_eq (c := eI) (v_ec _ _) (v_ec _ _))) hs (fun h => ?_) (fun h => ?_)) ?_
  · obtain ⟨cells_4, h3, h⟩ := bnd h
    refine w_drop (x_m (c := eI) (xs := cells_2) (x_var rfl) rfl (x_cons (x_int _) (x_nil)) (m_app rfl h3 rfl)) ?_
    obtain rfl := Option.some.inj h
    exact w_endC ⟨rfl, rfl⟩
  · refine w_next ?_
    obtain rfl := Option.some.inj h
    exact w_endC ⟨rfl, rfl⟩
  · rintro _ _ ⟨rfl, rfl⟩
    refine w_assoc ?_
    refine w_setR (x_mut (c := eI) (x_bN (x_cons (x_var rfl) (x_nil)) (n_list (c := eI) (s_R rfl)))) ?_
    refine w_assoc ?_
    refine w_setR (x_mut (c := eN) (x_lst (c := eN) ([] : List Unit) (x_nil) rfl rfl)) ?_
    refine w_assoc ?_
    obtain ⟨r_5, h4, h⟩ := bnd h
    obtain ⟨s_25, hs, h⟩ := bnd h
    refine w_fold (fun (s_6 : ((List Int) × (List Int))) ρ M => ∃ j_7 : Option D, ∃ j_8 : Option D, ∃ j_9 : Option D, ρ = [some ((eK eI).e v_script), some (eI.e v_many), some (.ref 0), none, some (.ref 1), some (.ref 2), j_7, j_8, j_9] ∧ M = [cl eI s_3, cl eI s_6.1, cl eI s_6.2]) (cA := eI) (s := (s_3, ([] : (List Int)))) (i_rg1 (x_cons (x_var rfl) (x_nil)) h4) hs ⟨_, _, _, rfl, rfl⟩ (fun _ _ _ _ => chk_0) ?_ ?_
    · rintro k_10 s_6 _ _ _ h ⟨j_7, j_8, j_9, rfl, rfl⟩
      refine w_stp rfl ?_
      refine w_add ?_
      refine w_assoc ?_
      obtain ⟨m_11, h6, h⟩ := bnd h
      refine w_set (c := eI) (x_f2 (x_var rfl) (x_b (x_cons (x_var rfl) (x_nil)) (b_len (c := eI) (s_R rfl))) (g_mod h6)) ?_
      obtain ⟨x_12, h7, h⟩ := bnd h
      obtain ⟨w_14, h9, h⟩ := bnd h
      obtain ⟨s_15, hs, h⟩ := bnd h
      refine w_cut (fun ρ M => ∃ j_16 : Option D, ρ = [some ((eK eI).e v_script), some (eI.e v_many), some (.ref 0), none, some (.ref 1), some (.ref 2), some (eI.e k_10), some (eI.e m_11), j_16] ∧ M = [cl eI s_3, cl eI s_15.1, cl eI s_15.2]) (w_ifT (k_andM (x_f2T (x_f2 (x_var rfl) (x_var rfl) (g_at (c := eI) (s_R rfl) h7)) (x_f2 (x_int _) (x_int _) (g_powL (by decide) rfl)) (c_int _)) h9 (fun h => by obtain ⟨x_13, h8, h⟩ := bnd h; obtain rfl := Option.some.inj h; exact x_f2T (x_f2 (x_var rfl) (x_var rfl) (g_at (c := eI) (s_R rfl) h8)) (x_int _) (c_int _))) hs (fun h => ?_) (fun h => ?_)) ?_
      · refine w_assoc ?_
        obtain ⟨x_17, h11, h⟩ := bnd h
        obtain ⟨draws_18, h12, h⟩ := bnd h
        refine w_drop (x_m (c := eI) (xs := s_6.2) (x_var rfl) rfl (x_cons (x_f2 (x_b (x_cons (x_f2 (x_var rfl) (x_var rfl) (g_at (c := eI) (s_R rfl) h11)) (x_nil)) (b_int _)) (x_int _) (g_modL (by decide))) (x_nil)) (m_app rfl h12 rfl)) ?_
        obtain ⟨x_19, h13, h⟩ := bnd h
        obtain ⟨a_20, h14, h⟩ := bnd h
        refine w_setIx (c := eI) (x_f2 (x_f2 (x_var rfl) (x_var rfl) (g_at (c := eI) (s_R rfl) h13)) (x_int _) (g_divL (by decide) (by decide))) (x_var rfl) (x_var rfl) rfl h14 ?_
        obtain rfl := Option.some.inj h
        exact w_endC ⟨_, rfl, rfl⟩
      · refine w_assoc ?_
        obtain ⟨x_21, h15, h⟩ := bnd h
        obtain ⟨once_22, h16, h⟩ := lbnd h
        refine w_setE (c := eI) (x_f2 (x_b (x_cons (x_f2 (x_f2 (x_f2 (x_f2 (x_var rfl) (x_var rfl) (g_at (c := eI) (s_R rfl) h15)) (x_int _) (g_mulR (by decide))) (x_f2 (x_var rfl) (x_int _) (g_mulR (by decide))) (g_add _ _)) (x_int _) (g_add _ _)) (x_nil)) (b_int _)) (x_int _) (g_modL (by decide))) h16 ?_
        obtain ⟨m_23, h17, h⟩ := bnd h
        obtain ⟨draws_24, h18, h⟩ := bnd h
        refine w_drop (x_m (c := eI) (xs := s_6.2) (x_var rfl) rfl (x_cons (x_f2 (x_b (x_cons (x_f2 (x_f2 (x_f2 (x_var rfl) (x_var rfl) (g_mul h17)) (x_f2 (x_int _) (x_var rfl) (g_mulL (by decide))) (g_add _ _)) (x_var rfl) (g_add _ _)) (x_nil)) (b_int _)) (x_int _) (g_modL (by decide))) (x_nil)) (m_app rfl h18 rfl)) ?_
        obtain rfl := Option.some.inj h
        exact w_endC ⟨_, rfl, rfl⟩
      · rintro _ _ ⟨j_16, rfl, rfl⟩
        obtain rfl := Option.some.inj h
        exact w_end (e_0 ⟨_, _, _, rfl, rfl⟩)
    · rintro _ _ ⟨j_26, j_27, j_28, rfl, rfl⟩
      refine w_assoc ?_
      refine w_drop (x_m (c := eI) (x_var rfl) rfl x_nil (m_rev rfl rfl)) ?_
      obtain rfl := Option.some.inj h
      refine w_ret (x_var rfl) ?_
      exact f_m0 rfl
theorem r_law_take {v_draws : (List Int)} {v_many : Int} {r : (Int × List Int)} (h : t_law_take v_draws v_many = some r) : c_law_take [.ref 0, eI.e v_many] [cl eI v_draws] = some (eI.e r.1, [cl eI r.2]) := by
  unfold t_law_take at h
  refine run_wp (f := b_law_take) (n := 2) ?_
  refine w_add ?_
  refine w_assoc ?_
  refine w_ifT (x_f2T (x_b (x_cons (x_var rfl) (x_nil)) (b_len (c := eI) (s_R rfl))) (x_int _) (c_eq (c := eI) (v_ec _ _) (v_ec _ _))) h (fun h => ?_) (fun h => ?_)
  · obtain rfl := Option.some.inj h
    refine w_ret (x_int _) ?_
    exact f_v1 eI _
  · refine w_next ?_
    obtain ⟨p_1, h1, h⟩ := bnd h
    obtain ⟨m_2, h2, h⟩ := bnd h
    obtain rfl := Option.some.inj h
    refine w_ret (x_f2 (x_b (x_cons (x_m (c := eI) (x_var rfl) rfl x_nil (m_pop rfl h1 rfl)) (x_nil)) (b_int _)) (x_var rfl) (g_mod h2)) ?_
    exact f_v1 eI _
theorem r_law_cell {v_script : (List Int)} {v_at : Int} {r : Int} (h : t_law_cell v_script v_at = some r) : c_law_cell [(eK eI).e v_script, eI.e v_at] [] = some (eI.e r, []) := by
  unfold t_law_cell at h
  refine run_wp (f := b_law_cell) (n := 3) ?_
  refine w_add ?_
  refine w_assoc ?_
  refine w_ifT (x_f2T (x_b (x_cons (x_var rfl) (x_nil)) (b_len (c := eI) s_K)) (x_int _) (c_eq (c := eI) (v_ec _ _) (v_ec _ _))) h (fun h => ?_) (fun h => ?_)
  · obtain rfl := Option.some.inj h
    refine w_ret (x_int _) ?_
    exact f_v0 eI _
  · refine w_next ?_
    refine w_assoc ?_
    obtain ⟨m_1, h1, h⟩ := bnd h
    obtain ⟨x_2, h2, h⟩ := bnd h
    refine w_set (c := eI) (x_b (x_cons (x_f2 (x_var rfl) (x_f2 (x_b (x_cons (x_var rfl) (x_nil)) (b_int _)) (x_b (x_cons (x_var rfl) (x_nil)) (b_len (c := eI) s_K)) (g_mod h1)) (g_at (c := eI) s_K h2)) (x_nil)) (b_int _)) ?_
    obtain ⟨x_3, h3, h⟩ := bnd h
    obtain ⟨m_4, h4, h⟩ := bnd h
    obtain rfl := Option.some.inj h
    refine w_ret (x_f2 (x_f2 (x_b (x_cons (x_var rfl) (x_nil)) (b_abs _)) (x_f2 (x_int _) (x_int _) (g_powL (by decide) rfl)) (g_modL (by decide))) (x_f2 (x_fz (c := eI) (x_lst (c := eI) [(1 : Int), (-1 : Int)] (x_cons (x_int _) (x_cons (x_f1 (x_int _) (g_neg _)) (x_nil))) rfl rfl)) (x_b (x_cons (x_f2 (x_var rfl) (x_int _) (g_B (c_int _))) (x_nil)) (b_intb _)) (g_at (c := eI) s_L h3)) (g_mul h4)) ?_
    exact f_v0 eI _
theorem r_law_minutes {v_draws : (List Int)} {v_script : (List Int)} {v_many : Int} {r : ((List Int) × List Int)} (h : t_law_minutes v_draws v_script v_many = some r) : c_law_minutes [.ref 0, (eK eI).e v_script, eI.e v_many] [cl eI v_draws] = some ((eV eI).e r.1, [cl eI r.2]) := by
  unfold t_law_minutes at h
  refine run_wp (f := b_law_minutes) (n := 6) ?_
  refine w_add ?_
  refine w_assoc ?_
  obtain ⟨y_1, h1, h⟩ := bnd h
  obtain ⟨y_2, h2, h⟩ := bnd h
  obtain ⟨m_3, h3, h⟩ := bnd h
  obtain ⟨y_4, h4, h⟩ := bnd h
  obtain ⟨x_5, h5, h⟩ := bnd h
  refine w_set (c := eI) (x_f2 (x_fz (c := eI) (x_lst (c := eI) [(0 : Int), m_3] (x_cons (x_int _) (x_cons (x_f2 (x_call (x_cons (x_var rfl) (x_cons (x_callS (x_cons (x_var rfl) (x_cons (x_int _) (x_nil))) (p_s (cR := eI) (c := eI) rfl rfl (av_c eN () (av_c _ _ (av_nil))) (r_law_take h1) rfl)) (x_nil))) (p_v (cR := eI) (av_c _ _ (av_c _ _ (av_nil))) (r_law_cell h2))) (x_f2 (x_int _) (x_int _) (g_powL (by decide) rfl)) (g_div h3)) (x_nil))) rfl rfl)) (x_callS (x_cons (x_var rfl) (x_cons (x_int _) (x_nil))) (p_s (cR := eI) (c := eI) rfl rfl (av_c eN () (av_c _ _ (av_nil))) (r_law_take h4) rfl)) (g_at (c := eI) s_L h5)) ?_
  refine w_assoc ?_
  obtain ⟨y_6, h6, h⟩ := bnd h
  obtain ⟨x_7, h7, h⟩ := bnd h
  refine w_set (c := eI) (x_f2 (x_fz (c := eI) (x_lst (c := eI) [(5 : Int), (20 : Int), (99 : Int)] (x_cons (x_int _) (x_cons (x_int _) (x_cons (x_int _) (x_nil)))) rfl rfl)) (x_callS (x_cons (x_var rfl) (x_cons (x_int _) (x_nil))) (p_s (cR := eI) (c := eI) rfl rfl (av_c eN () (av_c _ _ (av_nil))) (r_law_take h6) rfl)) (g_at (c := eI) s_L h7)) ?_
  obtain ⟨r_8, h8, h⟩ := bnd h
  obtain ⟨l_13, h11, h⟩ := bnd h
  obtain rfl := Option.some.inj h
  refine w_ret (x_b (x_cons (x_fz (c := eI) (x_lcS (S := (List Int)) (cB := eI) (fun (s_11 : (List Int)) => [cl eI s_11]) (s := y_6.2) (i_rg1 (x_cons (x_var rfl) (x_nil)) h8) (fun _ => chk_0) h11 (fun k_9 s_11 => ⟨_, rfl, fun y_14 s_15 h => by obtain ⟨y_12, h10, h⟩ := bnd h; obtain ⟨rfl, rfl⟩ := pinj h; exact x_f2 (x_var rfl) (x_callS (x_cons (x_var rfl) (x_cons (x_var rfl) (x_nil))) (p_s (cR := eI) (c := eI) rfl rfl (av_c eN () (av_c _ _ (av_nil))) (r_law_take h10) rfl)) (g_add _ _)⟩))) (x_nil)) (b_tuple (c := eI) s_L)) ?_
  exact f_v1 (eV eI) _
theorem r_law_apart {v_one : Int} {v_other : Int} {r : Int} (h : t_law_apart v_one v_other = some r) : c_law_apart [eI.e v_one, eI.e v_other] [] = some (eI.e r, []) := by
  unfold t_law_apart at h
  refine run_wp (f := b_law_apart) (n := 2) ?_
  refine w_add ?_
  obtain rfl := Option.some.inj h
  refine w_ret (x_f2 (x_b (x_cons (x_var rfl) (x_cons (x_var rfl) (x_nil))) (b_max2 _ _)) (x_b (x_cons (x_var rfl) (x_cons (x_var rfl) (x_nil))) (b_min2 _ _)) (g_sub _ _)) ?_
  exact f_v0 eI _
theorem r_law_sum {v_minutes : (List Int)} {v_weights : (List Int)} {v_minute : Int} {r : Int} (h : t_law_sum v_minutes v_weights v_minute = some r) : c_law_sum [(eV eI).e v_minutes, (eV eI).e v_weights, eI.e v_minute] [] = some (eI.e r, []) := by
  unfold t_law_sum at h
  refine run_wp (f := b_law_sum) (n := 4) ?_
  refine w_add ?_
  obtain ⟨r_1, h1, h⟩ := bnd h
  obtain ⟨l_6, h5, h⟩ := bnd h
  obtain rfl := Option.some.inj h
  refine w_ret (x_b (x_cons (x_fz (c := eI) (x_lcM (cB := eI) (i_rg1 (x_cons (x_b (x_cons (x_var rfl) (x_nil)) (b_len (c := eI) s_V)) (x_nil)) h1) chk_0 h5 (fun k_2 => ⟨_, rfl, fun _ h => by obtain ⟨x_3, h2, h⟩ := bnd h; obtain ⟨x_4, h3, h⟩ := bnd h; obtain ⟨m_5, h4, h⟩ := bnd h; obtain rfl := Option.some.inj h; exact x_f2 (x_f2 (x_var rfl) (x_var rfl) (g_at (c := eI) s_V h2)) (x_call (x_cons (x_f2 (x_var rfl) (x_var rfl) (g_at (c := eI) s_V h3)) (x_cons (x_var rfl) (x_nil))) (p_v (cR := eI) (av_c _ _ (av_c _ _ (av_nil))) (r_law_apart (tp_law_apart x_4 v_minute)))) (g_mul h4)⟩))) (x_nil)) (b_sum s_L)) ?_
  exact f_v0 eI _
theorem r_law_ends {v_minutes : (List Int)} {v_weights : (List Int)} {r : (Int × Int)} (h : t_law_ends v_minutes v_weights = some r) : c_law_ends [(eV eI).e v_minutes, (eV eI).e v_weights] [] = some ((e2 eI eI).e r, []) := by
  unfold t_law_ends at h
  refine run_wp (f := b_law_ends) (n := 6) ?_
  refine w_add ?_
  refine w_assoc ?_
  obtain ⟨l_3, h2, h⟩ := bnd h
  refine w_set (c := (eL eI)) (x_fz (c := eI) (x_lcM (cB := eI) (i_sq (c := eI) (x_var rfl) s_V rfl) chk_0 h2 (fun minute_1 => ⟨_, rfl, fun _ h => by obtain ⟨y_2, h1, h⟩ := bnd h; obtain rfl := Option.some.inj h; exact x_call (x_cons (x_var rfl) (x_cons (x_var rfl) (x_cons (x_var rfl) (x_nil)))) (p_v (cR := eI) (av_c _ _ (av_c _ _ (av_c _ _ (av_nil)))) (r_law_sum h1))⟩))) ?_
  refine w_assoc ?_
  obtain ⟨r_4, h3, h⟩ := bnd h
  obtain ⟨z_9, h7, h⟩ := bnd h
  obtain ⟨l_10, h8, h⟩ := bnd h
  refine w_set (c := (eL eI)) (x_fz (c := eI) (x_lcG (cB := eI) (i_rg1 (x_cons (x_b (x_cons (x_var rfl) (x_nil)) (b_len (c := eI) s_V)) (x_nil)) h3) chk_0 h7 h8 (fun k_5 => ⟨_, rfl, fun _ h => by obtain ⟨x_6, h4, h⟩ := bnd h; obtain ⟨min_7, h5, h⟩ := bnd h; obtain rfl := Option.some.inj h; exact x_f2T (x_f2 (x_var rfl) (x_var rfl) (g_at (c := eI) s_L h4)) (x_b (x_cons (x_var rfl) (x_nil)) (b_min (c := eI) s_L h5)) (c_eq (c := eI) (v_ec _ _) (v_ec _ _)), fun _ h => by obtain ⟨x_8, h6, h⟩ := bnd h; obtain rfl := Option.some.inj h; exact x_f2 (x_var rfl) (x_var rfl) (g_at (c := eI) s_V h6)⟩))) ?_
  obtain ⟨min_11, h9, h⟩ := bnd h
  obtain ⟨max_12, h10, h⟩ := bnd h
  obtain rfl := Option.some.inj h
  refine w_ret (x_tup2 (x_cons (x_b (x_cons (x_var rfl) (x_nil)) (b_min (c := eI) s_L h9)) (x_cons (x_b (x_cons (x_var rfl) (x_nil)) (b_max (c := eI) s_L h10)) (x_nil)))) ?_
  exact f_v0 (e2 eI eI) _
theorem r_best_pick {v_minutes : (List Int)} {v_weights : (List Int)} {r : Int} (h : t_best_pick v_minutes v_weights = some r) : cbest_pick [(eV eI).e v_minutes, (eV eI).e v_weights] [] = some (eI.e r, []) := by
  unfold t_best_pick at h
  refine run_wp (f := bbest_pick) (n := 5) ?_
  refine w_add ?_
  refine w_assoc ?_
  refine w_setR (x_mut (c := eN) (x_lst (c := eN) ([] : List Unit) (x_nil) rfl rfl)) ?_
  refine w_assoc ?_
  obtain ⟨s_11, hs, h⟩ := bnd h
  refine w_fold (fun (s_1 : (List (Int × Int))) ρ M => ∃ j_2 : Option D, ρ = [some ((eV eI).e v_minutes), some ((eV eI).e v_weights), some (.ref 0), j_2, none] ∧ M = [cl (e2 eI eI) s_1]) (cA := eI) (s := ([] : (List (Int × Int)))) (i_sq (c := eI) (x_var rfl) s_V rfl) hs ⟨_, rfl, rfl⟩ (fun _ _ _ _ => chk_0) ?_ ?_
  · rintro minute_3 s_1 _ _ _ h ⟨j_2, rfl, rfl⟩
    refine w_stp rfl ?_
    refine w_add ?_
    obtain ⟨r_4, h2, h⟩ := bnd h
    obtain ⟨l_9, h6, h⟩ := bnd h
    obtain ⟨told_10, h7, h⟩ := bnd h
    refine w_drop (x_m (c := (e2 eI eI)) (xs := s_1) (x_var rfl) rfl (x_cons (x_tup2 (x_cons (x_b (x_cons (x_fz (c := eI) (x_lcM (cB := eI) (i_rg1 (x_cons (x_b (x_cons (x_var rfl) (x_nil)) (b_len (c := eI) s_V)) (x_nil)) h2) chk_0 h6 (fun at_5 => ⟨_, rfl, fun _ h => by obtain ⟨x_6, h3, h⟩ := bnd h; obtain ⟨x_7, h4, h⟩ := bnd h; obtain ⟨m_8, h5, h⟩ := bnd h; obtain rfl := Option.some.inj h; exact x_f2 (x_f2 (x_var rfl) (x_var rfl) (g_at (c := eI) s_V h3)) (x_b (x_cons (x_f2 (x_f2 (x_var rfl) (x_var rfl) (g_at (c := eI) s_V h4)) (x_var rfl) (g_sub _ _)) (x_nil)) (b_abs _)) (g_mul h5)⟩))) (x_nil)) (b_sum s_L)) (x_cons (x_var rfl) (x_nil)))) (x_nil)) (m_app rfl h7 rfl)) ?_
    obtain rfl := Option.some.inj h
    exact w_end (e_0 ⟨_, rfl, rfl⟩)
  · rintro _ _ ⟨j_12, rfl, rfl⟩
    obtain ⟨min_13, h8, h⟩ := bnd h
    obtain rfl := Option.some.inj h
    refine w_ret (x_f2 (x_b (x_cons (x_var rfl) (x_nil)) (b_min (c := (e2 eI eI)) (s_R rfl) h8)) (x_int _) (g_ix at1)) ?_
    exact f_v0 eI _
theorem r_weighed_middles {v_pairs : (List (Int × Int))} {r : (Int × Int)} (h : t_weighed_middles v_pairs = some r) : cweighed_middles [(eL (e2 eI eI)).e v_pairs] [] = some ((e2 eI eI).e r, []) := by
  unfold t_weighed_middles at h
  refine run_wp (f := bweighed_middles) (n := 6) ?_
  refine w_add ?_
  refine w_assoc ?_
  obtain ⟨whole_2, h1, h⟩ := lbnd h
  refine w_setE (c := eI) (x_b (x_cons (x_fz (c := eI) (x_lc0 (cB := eI) (g := fun (e_1 : (Int × Int)) => e_1.2) (i_sq (c := (e2 eI eI)) (x_var rfl) s_L rfl) chk_0 (fun e_1 => ⟨_, rfl, x_var rfl⟩))) (x_nil)) (b_sum s_L)) h1 ?_
  refine w_assoc ?_
  refine w_setR (x_mut (c := eN) (x_lst (c := eN) ([] : List Unit) (x_nil) rfl rfl)) ?_
  refine w_assoc ?_
  refine w_set (c := eI) (x_int _) ?_
  change WP _ [some ((eL (e2 eI eI)).e v_pairs), some (eI.e whole_2), none, none, some (.ref 0), some (eI.e ((0 : Int)))] _ _
  refine w_assoc ?_
  obtain ⟨s_12, hs, h⟩ := bnd h
  refine w_fold (fun (s_3 : (Int × (List Int))) ρ M => ∃ j_4 : Option D, ∃ j_5 : Option D, ρ = [some ((eL (e2 eI eI)).e v_pairs), some (eI.e whole_2), j_4, j_5, some (.ref 0), some (eI.e s_3.1)] ∧ M = [cl eI s_3.2]) (cA := (e2 eI eI)) (s := ((0 : Int), ([] : (List Int)))) (i_sq (c := (e2 eI eI)) (x_fz (c := (e2 eI eI)) (x_bN (x_cons (x_var rfl) (x_nil)) (n_sort (c := (e2 eI eI)) s_L))) s_L rfl) hs ⟨_, _, rfl, rfl⟩ (fun _ _ _ _ => chk_0) ?_ ?_
  · rintro e_6 s_3 _ _ _ h ⟨j_4, j_5, rfl, rfl⟩
    refine w_stp rfl ?_
    refine w_add ?_
    refine w_assoc ?_
    obtain ⟨below_7, h3, h⟩ := lbnd h
    refine w_aug rfl (x_var rfl) (u_eq u_add h3) ?_
    refine w_assoc ?_
    obtain ⟨s_8, hs, h⟩ := bnd h
    refine w_cut (fun ρ M => ρ = [some ((eL (e2 eI eI)).e v_pairs), some (eI.e whole_2), some (eI.e e_6.1), some (eI.e e_6.2), some (.ref 0), some (eI.e below_7)] ∧ M = [cl eI s_8]) (w_ifT (k_and (x_f2T (x_b (x_cons (x_var rfl) (x_nil)) (b_len (c := eI) (s_R rfl))) (x_int _) (c_eq (c := eI) (v_ec _ _) (v_ec _ _))) (x_f2T (x_f2 (x_int _) (x_var rfl) (g_mulL (by decide))) (x_var rfl) (c_int _))) hs (fun h => ?_) (fun h => ?_)) ?_
    · obtain ⟨found_9, h5, h⟩ := bnd h
      refine w_drop (x_m (c := eI) (xs := s_3.2) (x_var rfl) rfl (x_cons (x_var rfl) (x_nil)) (m_app rfl h5 rfl)) ?_
      obtain rfl := Option.some.inj h
      exact w_endC ⟨rfl, rfl⟩
    · refine w_next ?_
      obtain rfl := Option.some.inj h
      exact w_endC ⟨rfl, rfl⟩
    · rintro _ _ ⟨rfl, rfl⟩
      obtain ⟨s_10, hs, h⟩ := bnd h
      refine w_cut (fun ρ M => ρ = [some ((eL (e2 eI eI)).e v_pairs), some (eI.e whole_2), some (eI.e e_6.1), some (eI.e e_6.2), some (.ref 0), some (eI.e below_7)] ∧ M = [cl eI s_10]) (w_ifT (k_and (x_f2T (x_b (x_cons (x_var rfl) (x_nil)) (b_len (c := eI) (s_R rfl))) (x_int _) (c_eq (c := eI) (v_ec _ _) (v_ec _ _))) (x_f2T (x_f2 (x_int _) (x_var rfl) (g_mulL (by decide))) (x_var rfl) (c_int _))) hs (fun h => ?_) (fun h => ?_)) ?_
      · obtain ⟨found_11, h7, h⟩ := bnd h
        refine w_drop (x_m (c := eI) (xs := s_8) (x_var rfl) rfl (x_cons (x_var rfl) (x_nil)) (m_app rfl h7 rfl)) ?_
        obtain rfl := Option.some.inj h
        exact w_endC ⟨rfl, rfl⟩
      · refine w_next ?_
        obtain rfl := Option.some.inj h
        exact w_endC ⟨rfl, rfl⟩
      · rintro _ _ ⟨rfl, rfl⟩
        obtain rfl := Option.some.inj h
        exact w_end (e_0 ⟨_, _, rfl, rfl⟩)
  · rintro _ _ ⟨j_13, j_14, rfl, rfl⟩
    obtain ⟨x_15, h8, h⟩ := bnd h
    obtain ⟨x_16, h9, h⟩ := bnd h
    obtain rfl := Option.some.inj h
    refine w_ret (x_tup2 (x_cons (x_f2 (x_var rfl) (x_int _) (g_at (c := eI) (s_R rfl) h8)) (x_cons (x_f2 (x_var rfl) (x_int _) (g_at (c := eI) (s_R rfl) h9)) (x_nil)))) ?_
    exact f_v0 (e2 eI eI) _
theorem r_best_span {v_votes : (List (Int × Int × Int))} {r : ((Int × Int) × (Int × Int))} (h : t_best_span v_votes = some r) : cbest_span [(eV (e3 eI eI eI)).e v_votes] [] = some ((e2 (e2 eI eI) (e2 eI eI)).e r, []) := by
  unfold t_best_span at h
  refine run_wp (f := bbest_span) (n := 6) ?_
  refine w_add ?_
  refine w_assoc ?_
  obtain ⟨y_2, h1, h⟩ := bnd h
  refine w_set (c := (e2 eI eI)) (x_call (x_cons (x_fz (c := (e2 eI eI)) (x_lc0 (cB := (e2 eI eI)) (g := fun (e_1 : (Int × Int × Int)) => (e_1.1, e_1.2.2)) (i_sq (c := (e3 eI eI eI)) (x_var rfl) s_V rfl) chk_0 (fun e_1 => ⟨_, rfl, x_tup2 (x_cons (x_var rfl) (x_cons (x_var rfl) (x_nil)))⟩))) (x_nil)) (p_v (cR := (e2 eI eI)) (av_c _ _ (av_nil)) (r_weighed_middles h1))) ?_
  refine w_assoc ?_
  obtain ⟨y_4, h2, h⟩ := bnd h
  refine w_set (c := (e2 eI eI)) (x_call (x_cons (x_fz (c := (e2 eI eI)) (x_lc0 (cB := (e2 eI eI)) (g := fun (e_3 : (Int × Int × Int)) => (e_3.2.1, e_3.2.2)) (i_sq (c := (e3 eI eI eI)) (x_var rfl) s_V rfl) chk_0 (fun e_3 => ⟨_, rfl, x_tup2 (x_cons (x_var rfl) (x_cons (x_var rfl) (x_nil)))⟩))) (x_nil)) (p_v (cR := (e2 eI eI)) (av_c _ _ (av_nil)) (r_weighed_middles h2))) ?_
  obtain rfl := Option.some.inj h
  refine w_ret (x_tup2 (x_cons (x_tup2 (x_cons (x_f2 (x_var rfl) (x_int _) (g_ix at0)) (x_cons (x_f2 (x_var rfl) (x_int _) (g_ix at0)) (x_nil)))) (x_cons (x_tup2 (x_cons (x_f2 (x_var rfl) (x_int _) (g_ix at1)) (x_cons (x_f2 (x_var rfl) (x_int _) (g_ix at1)) (x_nil)))) (x_nil)))) ?_
  exact f_v0 (e2 (e2 eI eI) (e2 eI eI)) _
theorem r_best_vote {v_votes : (List (Int × Int × Int))} {r : (Int × Int)} (h : t_best_vote v_votes = some r) : cbest_vote [(eV (e3 eI eI eI)).e v_votes] [] = some ((e2 eI eI).e r, []) := by
  unfold t_best_vote at h
  refine run_wp (f := bbest_vote) (n := 1) ?_
  refine w_add ?_
  obtain ⟨y_1, h1, h⟩ := bnd h
  obtain rfl := Option.some.inj h
  refine w_ret (x_f2 (x_call (x_cons (x_var rfl) (x_nil)) (p_v (cR := (e2 (e2 eI eI) (e2 eI eI))) (av_c _ _ (av_nil)) (r_best_span h1))) (x_int _) (g_ix at0)) ?_
  exact f_v0 (e2 eI eI) _
theorem r_sum_far {v_votes : (List (Int × Int × Int))} {v_place : (Int × Int)} {r : Int} (h : t_sum_far v_votes v_place = some r) : csum_far [(eV (e3 eI eI eI)).e v_votes, (e2 eI eI).e v_place] [] = some (eI.e r, []) := by
  unfold t_sum_far at h
  refine run_wp (f := bsum_far) (n := 5) ?_
  refine w_add ?_
  obtain ⟨l_3, h2, h⟩ := bnd h
  obtain rfl := Option.some.inj h
  refine w_ret (x_b (x_cons (x_fz (c := eI) (x_lcM (cB := eI) (i_sq (c := (e3 eI eI eI)) (x_var rfl) s_V rfl) chk_0 h2 (fun e_1 => ⟨_, rfl, fun _ h => by obtain ⟨m_2, h1, h⟩ := bnd h; obtain rfl := Option.some.inj h; exact x_f2 (x_var rfl) (x_f2 (x_b (x_cons (x_f2 (x_var rfl) (x_f2 (x_var rfl) (x_int _) (g_ix at0)) (g_sub _ _)) (x_nil)) (b_abs _)) (x_b (x_cons (x_f2 (x_var rfl) (x_f2 (x_var rfl) (x_int _) (g_ix at1)) (g_sub _ _)) (x_nil)) (b_abs _)) (g_add _ _)) (g_mul h1)⟩))) (x_nil)) (b_sum s_L)) ?_
  exact f_v0 eI _
theorem r_worst_far {v_votes : (List (Int × Int × Int))} {v_place : (Int × Int)} {r : Int} (h : t_worst_far v_votes v_place = some r) : cworst_far [(eV (e3 eI eI eI)).e v_votes, (e2 eI eI).e v_place] [] = some (eI.e r, []) := by
  unfold t_worst_far at h
  refine run_wp (f := bworst_far) (n := 5) ?_
  refine w_add ?_
  obtain ⟨max_2, h1, h⟩ := bnd h
  obtain rfl := Option.some.inj h
  refine w_ret (x_b (x_cons (x_fz (c := eI) (x_lc0 (cB := eI) (g := fun (e_1 : (Int × Int × Int)) => ((Int.natAbs ((e_1.1 - v_place.1)) : Int) + (Int.natAbs ((e_1.2.1 - v_place.2)) : Int))) (i_sq (c := (e3 eI eI eI)) (x_var rfl) s_V rfl) chk_0 (fun e_1 => ⟨_, rfl, x_f2 (x_b (x_cons (x_f2 (x_var rfl) (x_f2 (x_var rfl) (x_int _) (g_ix at0)) (g_sub _ _)) (x_nil)) (b_abs _)) (x_b (x_cons (x_f2 (x_var rfl) (x_f2 (x_var rfl) (x_int _) (g_ix at1)) (g_sub _ _)) (x_nil)) (b_abs _)) (g_add _ _)⟩))) (x_nil)) (b_max (c := eI) s_L h1)) ?_
  exact f_v0 eI _
theorem r_without_one {v_votes : (List (Int × Int × Int))} {v_at : Int} {r : (Int × Int)} (h : t_without_one v_votes v_at = some r) : cwithout_one [(eV (e3 eI eI eI)).e v_votes, eI.e v_at] [] = some ((e2 eI eI).e r, []) := by
  unfold t_without_one at h
  refine run_wp (f := bwithout_one) (n := 2) ?_
  refine w_add ?_
  obtain ⟨w_1, h1, h⟩ := bnd h
  obtain ⟨y_2, h2, h⟩ := bnd h
  obtain rfl := Option.some.inj h
  refine w_ret (x_call (x_cons (x_f2 (x_slice (x_var rfl) (o_none) (o_part (x_var rfl)) g_slV) (x_slice (x_var rfl) (o_part (x_f2 (x_var rfl) (x_int _) (g_add _ _))) (o_none) g_slV) (g_catV (c := (e3 eI eI eI)) h1)) (x_nil)) (p_v (cR := (e2 eI eI)) (av_c _ _ (av_nil)) (r_best_vote h2))) ?_
  exact f_v0 (e2 eI eI) _
theorem r_greatest_move {v_votes : (List (Int × Int × Int))} {r : Int} (h : t_greatest_move v_votes = some r) : cgreatest_move [(eV (e3 eI eI eI)).e v_votes] [] = some (eI.e r, []) := by
  unfold t_greatest_move at h
  refine run_wp (f := bgreatest_move) (n := 7) ?_
  refine w_add ?_
  refine w_assoc ?_
  obtain ⟨y_1, h1, h⟩ := bnd h
  refine w_asg (x_call (x_cons (x_var rfl) (x_nil)) (p_v (cR := (e2 eI eI)) (av_c _ _ (av_nil)) (r_best_vote h1))) rfl ?_
  refine w_assoc ?_
  obtain ⟨r_2, h2, h⟩ := bnd h
  obtain ⟨l_5, h4, h⟩ := bnd h
  refine w_set (c := (eL (e2 eI eI))) (x_fz (c := (e2 eI eI)) (x_lcM (cB := (e2 eI eI)) (i_rg1 (x_cons (x_b (x_cons (x_var rfl) (x_nil)) (b_len (c := (e3 eI eI eI)) s_V)) (x_nil)) h2) chk_0 h4 (fun at_3 => ⟨_, rfl, fun _ h => by obtain ⟨y_4, h3, h⟩ := bnd h; obtain rfl := Option.some.inj h; exact x_call (x_cons (x_var rfl) (x_cons (x_var rfl) (x_nil))) (p_v (cR := (e2 eI eI)) (av_c _ _ (av_c _ _ (av_nil))) (r_without_one h3))⟩))) ?_
  obtain ⟨max_7, h5, h⟩ := bnd h
  obtain rfl := Option.some.inj h
  refine w_ret (x_b (x_cons (x_fz (c := eI) (x_lc0 (cB := eI) (g := fun (e_6 : (Int × Int)) => ((Int.natAbs ((e_6.1 - y_1.1)) : Int) + (Int.natAbs ((e_6.2 - y_1.2)) : Int))) (i_sq (c := (e2 eI eI)) (x_var rfl) s_L rfl) chk_0 (fun e_6 => ⟨_, rfl, x_f2 (x_b (x_cons (x_f2 (x_var rfl) (x_var rfl) (g_sub _ _)) (x_nil)) (b_abs _)) (x_b (x_cons (x_f2 (x_var rfl) (x_var rfl) (g_sub _ _)) (x_nil)) (b_abs _)) (g_add _ _)⟩))) (x_nil)) (b_max (c := eI) s_L h5)) ?_
  exact f_v0 eI _
theorem r_law_line_right {v_minutes : (List Int)} {v_weights : (List Int)} {v_is_up : Bool} {r : Bool} (h : t_law_line_right v_minutes v_weights v_is_up = some r) : c_law_line_right [(eV eI).e v_minutes, (eV eI).e v_weights, eB.e v_is_up] [] = some (eB.e r, []) := by
  unfold t_law_line_right at h
  refine run_wp (f := b_law_line_right) (n := 15) ?_
  refine w_add ?_
  refine w_assoc ?_
  obtain ⟨y_1, h1, h⟩ := bnd h
  refine w_asg (x_call (x_cons (x_var rfl) (x_cons (x_var rfl) (x_nil))) (p_v (cR := (e2 eI eI)) (av_c _ _ (av_c _ _ (av_nil))) (r_law_ends h1))) rfl ?_
  refine w_assoc ?_
  refine w_setR (x_mut (c := eN) (x_lst (c := eN) ([] : List Unit) (x_nil) rfl rfl)) ?_
  refine w_assoc ?_
  obtain ⟨r_2, h2, h⟩ := bnd h
  obtain ⟨s_12, hs, h⟩ := bnd h
  refine w_fold (fun (s_3 : (List (Int × Int × Int))) ρ M => ∃ j_4 : Option D, ρ = [some ((eV eI).e v_minutes), some ((eV eI).e v_weights), some (eB.e v_is_up), some (eI.e y_1.1), some (eI.e y_1.2), some (.ref 0), j_4, none, none, none, none, none, none, none, none] ∧ M = [cl (e3 eI eI eI) s_3]) (cA := eI) (s := ([] : (List (Int × Int × Int)))) (i_rg1 (x_cons (x_b (x_cons (x_var rfl) (x_nil)) (b_len (c := eI) s_V)) (x_nil)) h2) hs ⟨_, rfl, rfl⟩ (fun _ _ _ _ => chk_0) ?_ ?_
  · rintro k_5 s_3 _ _ _ h ⟨j_4, rfl, rfl⟩
    refine w_stp rfl ?_
    refine w_add ?_
    obtain ⟨x_6, h4, h⟩ := bnd h
    obtain ⟨x_7, h5, h⟩ := bnd h
    obtain ⟨x_8, h6, h⟩ := bnd h
    obtain ⟨x_9, h7, h⟩ := bnd h
    obtain ⟨x_10, h8, h⟩ := bnd h
    obtain ⟨votes_11, h9, h⟩ := bnd h
    refine w_drop (x_m (c := (e3 eI eI eI)) (xs := s_3) (x_var rfl) rfl (x_cons (x_f2 (x_fz (c := (e3 eI eI eI)) (x_lst (c := (e3 eI eI eI)) [(x_6, (0 : Int), x_7), ((0 : Int), x_8, x_9)] (x_cons (x_tup3 (x_cons (x_f2 (x_var rfl) (x_var rfl) (g_at (c := eI) s_V h4)) (x_cons (x_int _) (x_cons (x_f2 (x_var rfl) (x_var rfl) (g_at (c := eI) s_V h5)) (x_nil))))) (x_cons (x_tup3 (x_cons (x_int _) (x_cons (x_f2 (x_var rfl) (x_var rfl) (g_at (c := eI) s_V h6)) (x_cons (x_f2 (x_var rfl) (x_var rfl) (g_at (c := eI) s_V h7)) (x_nil))))) (x_nil))) rfl rfl)) (x_b (x_cons (x_var rfl) (x_nil)) (b_intb _)) (g_at (c := (e3 eI eI eI)) s_L h8)) (x_nil)) (m_app rfl h9 rfl)) ?_
    obtain rfl := Option.some.inj h
    exact w_end (e_0 ⟨_, rfl, rfl⟩)
  · rintro _ _ ⟨j_13, rfl, rfl⟩
    refine w_assoc ?_
    refine w_set (c := (eV (e3 eI eI eI))) (x_b (x_cons (x_var rfl) (x_nil)) (b_tuple (c := (e3 eI eI eI)) (s_R rfl))) ?_
    refine w_assoc ?_
    obtain ⟨x_14, h10, h⟩ := bnd h
    refine w_set (c := (e2 eI eI)) (x_f2 (x_fz (c := (e2 eI eI)) (x_lst (c := (e2 eI eI)) [(y_1.1, (0 : Int)), ((0 : Int), y_1.1)] (x_cons (x_tup2 (x_cons (x_var rfl) (x_cons (x_int _) (x_nil)))) (x_cons (x_tup2 (x_cons (x_int _) (x_cons (x_var rfl) (x_nil)))) (x_nil))) rfl rfl)) (x_b (x_cons (x_var rfl) (x_nil)) (b_intb _)) (g_at (c := (e2 eI eI)) s_L h10)) ?_
    refine w_assoc ?_
    obtain ⟨x_15, h11, h⟩ := bnd h
    refine w_set (c := (e2 eI eI)) (x_f2 (x_fz (c := (e2 eI eI)) (x_lst (c := (e2 eI eI)) [(y_1.2, (0 : Int)), ((0 : Int), y_1.2)] (x_cons (x_tup2 (x_cons (x_var rfl) (x_cons (x_int _) (x_nil)))) (x_cons (x_tup2 (x_cons (x_int _) (x_cons (x_var rfl) (x_nil)))) (x_nil))) rfl rfl)) (x_b (x_cons (x_var rfl) (x_nil)) (b_intb _)) (g_at (c := (e2 eI eI)) s_L h11)) ?_
    change WP _ [some ((eV eI).e v_minutes), some ((eV eI).e v_weights), some (eB.e v_is_up), some (eI.e y_1.1), some (eI.e y_1.2), some ((eV (e3 eI eI eI)).e s_12), j_13, some ((e2 eI eI).e x_14), some ((e2 eI eI).e x_15), none, none, none, none, none, none] _ _
    refine w_assoc ?_
    obtain ⟨y_16, h12, h⟩ := bnd h
    obtain ⟨w_20, h16, h⟩ := bnd h
    refine w_ifT (k_orM (k_not (k_tru (x_call (x_cons (x_call (x_cons (x_var rfl) (x_cons (x_var rfl) (x_nil))) (p_v (cR := eI) (av_c _ _ (av_c _ _ (av_nil))) (r_best_pick h12))) (x_cons (x_var rfl) (x_nil))) (p_same (c := eI) _ _)) (tr_B _))) h16 (fun h => by obtain ⟨y_17, h13, h⟩ := bnd h; obtain ⟨w_19, h15, h⟩ := bnd h; obtain rfl := Option.some.inj h; exact k_orM (k_not (k_tru (x_call (x_cons (x_call (x_cons (x_var rfl) (x_nil)) (p_v (cR := (e2 eI eI)) (av_c _ _ (av_nil)) (r_best_vote h13))) (x_cons (x_var rfl) (x_nil))) (p_same (c := (e2 eI eI)) _ _)) (tr_B _))) h15 (fun h => by obtain ⟨y_18, h14, h⟩ := bnd h; obtain rfl := Option.some.inj h; exact k_not (k_tru (x_call (x_cons (x_call (x_cons (x_var rfl) (x_nil)) (p_v (cR := (e2 (e2 eI eI) (e2 eI eI))) (av_c _ _ (av_nil)) (r_best_span h14))) (x_cons (x_tup2 (x_cons (x_var rfl) (x_cons (x_var rfl) (x_nil)))) (x_nil))) (p_same (c := (e2 (e2 eI eI) (e2 eI eI))) _ _)) (tr_B _))))) h (fun h => ?_) (fun h => ?_)
    · obtain rfl := Option.some.inj h
      refine w_ret (x_bl _) ?_
      exact f_v0 eB _
    · refine w_next ?_
      refine w_assoc ?_
      obtain ⟨w_21, h17, h⟩ := bnd h
      obtain ⟨r_56, hs, h18⟩ := bnd h
      refine w_forr (fun (s_22 : Unit) ρ M => ∃ j_23 : Option D, ∃ j_24 : Option D, ρ = [some ((eV eI).e v_minutes), some ((eV eI).e v_weights), some (eB.e v_is_up), some (eI.e y_1.1), some (eI.e y_1.2), some ((eV (e3 eI eI eI)).e s_12), j_13, some ((e2 eI eI).e x_14), some ((e2 eI eI).e x_15), j_23, j_24, none, none, none, none] ∧ M = [cl (e3 eI eI eI) s_12]) (fun (e : Bool) d M => fin false 0 d M = some (eB.e e, [])) (cA := eI) (s := ()) (i_sq (c := eI) (x_f2 (x_var rfl) (x_co (x_tup2 (x_cons (x_f2 (x_var rfl) (x_int _) (g_sub _ _)) (x_cons (x_f2 (x_var rfl) (x_int _) (g_add _ _)) (x_nil)))) (show (eV eI).e ([(((y_1.1 - (1 : Int)), (y_1.2 + (1 : Int)))).1, (((y_1.1 - (1 : Int)), (y_1.2 + (1 : Int)))).2]) = (e2 eI eI).e (((y_1.1 - (1 : Int)), (y_1.2 + (1 : Int)))) from (fun _ => rfl) (((y_1.1 - (1 : Int)), (y_1.2 + (1 : Int)))))) (g_catV (c := eI) h17)) s_V rfl) hs ⟨_, _, rfl, rfl⟩ (fun _ _ _ _ => chk_0) ?_ ?_ ?_
      · rintro minute_25 s_22 _ _ _ h ⟨j_23, j_24, rfl, rfl⟩
        refine w_stp rfl ?_
        refine w_add ?_
        refine w_assoc ?_
        obtain ⟨x_26, h19, h⟩ := bnd h
        refine w_set (c := (e2 eI eI)) (x_f2 (x_fz (c := (e2 eI eI)) (x_lst (c := (e2 eI eI)) [(minute_25, (0 : Int)), ((0 : Int), minute_25)] (x_cons (x_tup2 (x_cons (x_var rfl) (x_cons (x_int _) (x_nil)))) (x_cons (x_tup2 (x_cons (x_int _) (x_cons (x_var rfl) (x_nil)))) (x_nil))) rfl rfl)) (x_b (x_cons (x_var rfl) (x_nil)) (b_intb _)) (g_at (c := (e2 eI eI)) s_L h19)) ?_
        refine w_assoc ?_
        obtain ⟨y_27, h20, h⟩ := bnd h
        obtain ⟨y_28, h21, h⟩ := bnd h
        refine w_ifT (k_not (k_tru (x_call (x_cons (x_call (x_cons (x_var rfl) (x_cons (x_var rfl) (x_nil))) (p_v (cR := eI) (av_c _ _ (av_c _ _ (av_nil))) (r_sum_far h20))) (x_cons (x_call (x_cons (x_var rfl) (x_cons (x_var rfl) (x_cons (x_var rfl) (x_nil)))) (p_v (cR := eI) (av_c _ _ (av_c _ _ (av_c _ _ (av_nil)))) (r_law_sum h21))) (x_nil))) (p_same (c := eI) _ _)) (tr_B _))) h (fun h => ?_) (fun h => ?_)
        · obtain rfl := Option.some.inj h
          refine w_ret (x_bl _) ?_
          exact r_r (f_v0 eB _)
        · refine w_next ?_
          refine w_assoc ?_
          obtain ⟨y_29, h22, h⟩ := bnd h
          obtain ⟨max_31, h23, h⟩ := bnd h
          refine w_ifT (k_not (k_tru (x_call (x_cons (x_call (x_cons (x_var rfl) (x_cons (x_var rfl) (x_nil))) (p_v (cR := eI) (av_c _ _ (av_c _ _ (av_nil))) (r_worst_far h22))) (x_cons (x_b (x_cons (x_fz (c := eI) (x_lc0 (cB := eI) (g := fun (one_30 : Int) => (p_law_apart minute_25 one_30)) (i_sq (c := eI) (x_var rfl) s_V rfl) chk_0 (fun one_30 => ⟨_, rfl, x_call (x_cons (x_var rfl) (x_cons (x_var rfl) (x_nil))) (p_v (cR := eI) (av_c _ _ (av_c _ _ (av_nil))) (r_law_apart (tp_law_apart minute_25 one_30)))⟩))) (x_nil)) (b_max (c := eI) s_L h23)) (x_nil))) (p_same (c := eI) _ _)) (tr_B _))) h (fun h => ?_) (fun h => ?_)
          · obtain rfl := Option.some.inj h
            refine w_ret (x_bl _) ?_
            exact r_r (f_v0 eB _)
          · refine w_next ?_
            obtain ⟨y_32, h24, h⟩ := bnd h
            obtain ⟨y_33, h25, h⟩ := bnd h
            refine w_ifT (x_f2T (x_call (x_cons (x_var rfl) (x_cons (x_var rfl) (x_cons (x_var rfl) (x_nil)))) (p_v (cR := eI) (av_c _ _ (av_c _ _ (av_c _ _ (av_nil)))) (r_law_sum h24))) (x_call (x_cons (x_var rfl) (x_cons (x_var rfl) (x_cons (x_var rfl) (x_nil)))) (p_v (cR := eI) (av_c _ _ (av_c _ _ (av_c _ _ (av_nil)))) (r_law_sum h25))) (c_int _)) h (fun h => ?_) (fun h => ?_)
            · obtain rfl := Option.some.inj h
              refine w_ret (x_bl _) ?_
              exact r_r (f_v0 eB _)
            · refine w_next ?_
              obtain rfl := Option.some.inj h
              exact w_end (e_r _ ⟨_, _, rfl, rfl⟩)
      · rintro e _ _ rfl hq
        obtain rfl := Option.some.inj h18
        exact hq
      · rintro s_34 _ _ rfl ⟨j_35, j_36, rfl, rfl⟩
        have h := h18
        rw [cas_go] at h
        refine w_assoc ?_
        refine w_ifT (x_f2T (x_b (x_cons (x_var rfl) (x_nil)) (b_len (c := eI) s_V)) (x_int _) (c_int _)) h (fun h => ?_) (fun h => ?_)
        · obtain rfl := Option.some.inj h
          refine w_ret (x_bl _) ?_
          exact f_v0 eB _
        · refine w_next ?_
          refine w_assoc ?_
          refine w_set (c := eI) (x_int _) ?_
          refine w_assoc ?_
          obtain ⟨r_37, h26, h⟩ := bnd h
          obtain ⟨r_55, hs, h27⟩ := bnd h
          refine w_forr (fun (s_38 : Int) ρ M => ∃ j_39 : Option D, ∃ j_40 : Option D, ρ = [some ((eV eI).e v_minutes), some ((eV eI).e v_weights), some (eB.e v_is_up), some (eI.e y_1.1), some (eI.e y_1.2), some ((eV (e3 eI eI eI)).e s_12), j_13, some ((e2 eI eI).e x_14), some ((e2 eI eI).e x_15), j_35, j_36, none, some (eI.e s_38), j_39, j_40] ∧ M = [cl (e3 eI eI eI) s_12]) (fun (e : Bool) d M => fin false 0 d M = some (eB.e e, [])) (cA := eI) (s := (0 : Int)) (i_rg1 (x_cons (x_b (x_cons (x_var rfl) (x_nil)) (b_len (c := eI) s_V)) (x_nil)) h26) hs ⟨_, _, rfl, rfl⟩ (fun _ _ _ _ => chk_0) ?_ ?_ ?_
          · rintro at_41 s_38 _ _ _ h ⟨j_39, j_40, rfl, rfl⟩
            refine w_stp rfl ?_
            refine w_add ?_
            refine w_assoc ?_
            obtain ⟨w_42, h28, h⟩ := bnd h
            obtain ⟨w_43, h29, h⟩ := bnd h
            obtain ⟨y_44, h30, h⟩ := bnd h
            refine w_set (c := eI) (x_call (x_cons (x_f2 (x_slice (x_var rfl) (o_none) (o_part (x_var rfl)) g_slV) (x_slice (x_var rfl) (o_part (x_f2 (x_var rfl) (x_int _) (g_add _ _))) (o_none) g_slV) (g_catV (c := eI) h28)) (x_cons (x_f2 (x_slice (x_var rfl) (o_none) (o_part (x_var rfl)) g_slV) (x_slice (x_var rfl) (o_part (x_f2 (x_var rfl) (x_int _) (g_add _ _))) (o_none) g_slV) (g_catV (c := eI) h29)) (x_nil))) (p_v (cR := eI) (av_c _ _ (av_c _ _ (av_nil))) (r_best_pick h30))) ?_
            refine w_assoc ?_
            obtain ⟨w_45, h31, h⟩ := bnd h
            obtain ⟨w_46, h32, h⟩ := bnd h
            obtain ⟨y_47, h33, h⟩ := bnd h
            refine w_ifT (k_not (k_tru (x_call (x_cons (x_var rfl) (x_cons (x_f2 (x_call (x_cons (x_f2 (x_slice (x_var rfl) (o_none) (o_part (x_var rfl)) g_slV) (x_slice (x_var rfl) (o_part (x_f2 (x_var rfl) (x_int _) (g_add _ _))) (o_none) g_slV) (g_catV (c := eI) h31)) (x_cons (x_f2 (x_slice (x_var rfl) (o_none) (o_part (x_var rfl)) g_slV) (x_slice (x_var rfl) (o_part (x_f2 (x_var rfl) (x_int _) (g_add _ _))) (o_none) g_slV) (g_catV (c := eI) h32)) (x_nil))) (p_v (cR := (e2 eI eI)) (av_c _ _ (av_c _ _ (av_nil))) (r_law_ends h33))) (x_int _) (g_ix at0)) (x_nil))) (p_same (c := eI) _ _)) (tr_B _))) h (fun h => ?_) (fun h => ?_)
            · obtain rfl := Option.some.inj h
              refine w_ret (x_bl _) ?_
              exact r_r (f_v0 eB _)
            · refine w_next ?_
              refine w_assoc ?_
              obtain ⟨y_48, h34, h⟩ := bnd h
              obtain ⟨x_49, h35, h⟩ := bnd h
              refine w_ifT (k_not (k_tru (x_call (x_cons (x_call (x_cons (x_var rfl) (x_cons (x_var rfl) (x_nil))) (p_v (cR := (e2 eI eI)) (av_c _ _ (av_c _ _ (av_nil))) (r_without_one h34))) (x_cons (x_f2 (x_fz (c := (e2 eI eI)) (x_lst (c := (e2 eI eI)) [(y_44, (0 : Int)), ((0 : Int), y_44)] (x_cons (x_tup2 (x_cons (x_var rfl) (x_cons (x_int _) (x_nil)))) (x_cons (x_tup2 (x_cons (x_int _) (x_cons (x_var rfl) (x_nil)))) (x_nil))) rfl rfl)) (x_b (x_cons (x_var rfl) (x_nil)) (b_intb _)) (g_at (c := (e2 eI eI)) s_L h35)) (x_nil))) (p_same (c := (e2 eI eI)) _ _)) (tr_B _))) h (fun h => ?_) (fun h => ?_)
              · obtain rfl := Option.some.inj h
                refine w_ret (x_bl _) ?_
                exact r_r (f_v0 eB _)
              · refine w_next ?_
                obtain ⟨move_50, h36, h⟩ := lbnd h
                refine w_setE (c := eI) (x_b (x_cons (x_var rfl) (x_cons (x_call (x_cons (x_var rfl) (x_cons (x_var rfl) (x_nil))) (p_v (cR := eI) (av_c _ _ (av_c _ _ (av_nil))) (r_law_apart (tp_law_apart y_44 y_1.1)))) (x_nil))) (b_max2 _ _)) h36 ?_
                obtain rfl := Option.some.inj h
                exact w_end (e_r _ ⟨_, _, rfl, rfl⟩)
          · rintro e _ _ rfl hq
            obtain rfl := Option.some.inj h27
            exact hq
          · rintro s_51 _ _ rfl ⟨j_52, j_53, rfl, rfl⟩
            have h := h27
            rw [cas_go] at h
            obtain ⟨y_54, h37, h⟩ := bnd h
            obtain rfl := Option.some.inj h
            refine w_ret (x_call (x_cons (x_call (x_cons (x_var rfl) (x_nil)) (p_v (cR := eI) (av_c _ _ (av_nil)) (r_greatest_move h37))) (x_cons (x_var rfl) (x_nil))) (p_same (c := eI) _ _)) ?_
            exact f_v0 eB _
theorem r_law_both_right {v_xs : (List Int)} {v_ys : (List Int)} {v_weights : (List Int)} {r : Bool} (h : t_law_both_right v_xs v_ys v_weights = some r) : c_law_both_right [(eV eI).e v_xs, (eV eI).e v_ys, (eV eI).e v_weights] [] = some (eB.e r, []) := by
  unfold t_law_both_right at h
  refine run_wp (f := b_law_both_right) (n := 9) ?_
  refine w_add ?_
  refine w_assoc ?_
  obtain ⟨r_1, h1, h⟩ := bnd h
  obtain ⟨l_6, h5, h⟩ := bnd h
  refine w_set (c := (eV (e3 eI eI eI))) (x_b (x_cons (x_fz (c := (e3 eI eI eI)) (x_lcM (cB := (e3 eI eI eI)) (i_rg1 (x_cons (x_b (x_cons (x_var rfl) (x_nil)) (b_len (c := eI) s_V)) (x_nil)) h1) chk_0 h5 (fun k_2 => ⟨_, rfl, fun _ h => by obtain ⟨x_3, h2, h⟩ := bnd h; obtain ⟨x_4, h3, h⟩ := bnd h; obtain ⟨x_5, h4, h⟩ := bnd h; obtain rfl := Option.some.inj h; exact x_tup3 (x_cons (x_f2 (x_var rfl) (x_var rfl) (g_at (c := eI) s_V h2)) (x_cons (x_f2 (x_var rfl) (x_var rfl) (g_at (c := eI) s_V h3)) (x_cons (x_f2 (x_var rfl) (x_var rfl) (g_at (c := eI) s_V h4)) (x_nil))))⟩))) (x_nil)) (b_tuple (c := (e3 eI eI eI)) s_L)) ?_
  refine w_assoc ?_
  obtain ⟨y_7, h6, h⟩ := bnd h
  refine w_set (c := (e2 eI eI)) (x_call (x_cons (x_var rfl) (x_nil)) (p_v (cR := (e2 eI eI)) (av_c _ _ (av_nil)) (r_best_vote h6))) ?_
  refine w_assoc ?_
  obtain ⟨y_8, h7, h⟩ := bnd h
  obtain ⟨y_9, h8, h⟩ := bnd h
  refine w_ifT (k_not (k_tru (x_call (x_cons (x_var rfl) (x_cons (x_tup2 (x_cons (x_call (x_cons (x_var rfl) (x_cons (x_var rfl) (x_nil))) (p_v (cR := eI) (av_c _ _ (av_c _ _ (av_nil))) (r_best_pick h7))) (x_cons (x_call (x_cons (x_var rfl) (x_cons (x_var rfl) (x_nil))) (p_v (cR := eI) (av_c _ _ (av_c _ _ (av_nil))) (r_best_pick h8))) (x_nil)))) (x_nil))) (p_same (c := (e2 eI eI)) _ _)) (tr_B _))) h (fun h => ?_) (fun h => ?_)
  · obtain rfl := Option.some.inj h
    refine w_ret (x_bl _) ?_
    exact f_v0 eB _
  · refine w_next ?_
    refine w_assoc ?_
    obtain ⟨y_10, h9, h⟩ := bnd h
    obtain ⟨y_11, h10, h⟩ := bnd h
    obtain ⟨y_12, h11, h⟩ := bnd h
    refine w_ifT (k_not (k_tru (x_call (x_cons (x_call (x_cons (x_var rfl) (x_nil)) (p_v (cR := (e2 (e2 eI eI) (e2 eI eI))) (av_c _ _ (av_nil)) (r_best_span h9))) (x_cons (x_tup2 (x_cons (x_var rfl) (x_cons (x_tup2 (x_cons (x_f2 (x_call (x_cons (x_var rfl) (x_cons (x_var rfl) (x_nil))) (p_v (cR := (e2 eI eI)) (av_c _ _ (av_c _ _ (av_nil))) (r_law_ends h10))) (x_int _) (g_ix at1)) (x_cons (x_f2 (x_call (x_cons (x_var rfl) (x_cons (x_var rfl) (x_nil))) (p_v (cR := (e2 eI eI)) (av_c _ _ (av_c _ _ (av_nil))) (r_law_ends h11))) (x_int _) (g_ix at1)) (x_nil)))) (x_nil)))) (x_nil))) (p_same (c := (e2 (e2 eI eI) (e2 eI eI))) _ _)) (tr_B _))) h (fun h => ?_) (fun h => ?_)
    · obtain rfl := Option.some.inj h
      refine w_ret (x_bl _) ?_
      exact f_v0 eB _
    · refine w_next ?_
      refine w_assoc ?_
      obtain ⟨y_13, h12, h⟩ := bnd h
      obtain ⟨y_14, h13, h⟩ := bnd h
      obtain ⟨least_15, h14, h⟩ := lbnd h
      refine w_setE (c := eI) (x_f2 (x_call (x_cons (x_var rfl) (x_cons (x_var rfl) (x_cons (x_f2 (x_var rfl) (x_int _) (g_ix at0)) (x_nil)))) (p_v (cR := eI) (av_c _ _ (av_c _ _ (av_c _ _ (av_nil)))) (r_law_sum h12))) (x_call (x_cons (x_var rfl) (x_cons (x_var rfl) (x_cons (x_f2 (x_var rfl) (x_int _) (g_ix at1)) (x_nil)))) (p_v (cR := eI) (av_c _ _ (av_c _ _ (av_c _ _ (av_nil)))) (r_law_sum h13))) (g_add _ _)) h14 ?_
      change WP _ [some ((eV eI).e v_xs), some ((eV eI).e v_ys), some ((eV eI).e v_weights), some ((eV (e3 eI eI eI)).e l_6), none, some ((e2 eI eI).e y_7), some (eI.e least_15), none, none] _ _
      refine w_assoc ?_
      obtain ⟨y_16, h15, h⟩ := bnd h
      refine w_ifT (k_not (k_tru (x_call (x_cons (x_call (x_cons (x_var rfl) (x_cons (x_var rfl) (x_nil))) (p_v (cR := eI) (av_c _ _ (av_c _ _ (av_nil))) (r_sum_far h15))) (x_cons (x_var rfl) (x_nil))) (p_same (c := eI) _ _)) (tr_B _))) h (fun h => ?_) (fun h => ?_)
      · obtain rfl := Option.some.inj h
        refine w_ret (x_bl _) ?_
        exact f_v0 eB _
      · refine w_next ?_
        refine w_assoc ?_
        obtain ⟨r_31, hs, h16⟩ := bnd h
        refine w_forr (fun (s_17 : Unit) ρ M => ∃ j_18 : Option D, ∃ j_19 : Option D, ρ = [some ((eV eI).e v_xs), some ((eV eI).e v_ys), some ((eV eI).e v_weights), some ((eV (e3 eI eI eI)).e l_6), none, some ((e2 eI eI).e y_7), some (eI.e least_15), j_18, j_19] ∧ M = []) (fun (e : Bool) d M => fin false 0 d M = some (eB.e e, [])) (cA := eI) (s := ()) (i_sq (c := eI) (x_var rfl) s_V rfl) hs ⟨_, _, rfl, rfl⟩ (fun _ _ _ _ => chk_0) ?_ ?_ ?_
        · rintro x_20 s_17 _ _ _ h ⟨j_18, j_19, rfl, rfl⟩
          refine w_stp rfl ?_
          refine w_add ?_
          obtain ⟨r_27, hs, h17⟩ := bnd h
          refine w_forr (fun (s_21 : Unit) ρ M => ∃ j_22 : Option D, ρ = [some ((eV eI).e v_xs), some ((eV eI).e v_ys), some ((eV eI).e v_weights), some ((eV (e3 eI eI eI)).e l_6), none, some ((e2 eI eI).e y_7), some (eI.e least_15), some (eI.e x_20), j_22] ∧ M = []) (fun (e : Bool) d M => fin false 0 d M = some (eB.e e, [])) (cA := eI) (s := ()) (i_sq (c := eI) (x_var rfl) s_V rfl) hs ⟨_, rfl, rfl⟩ (fun _ _ _ _ => chk_0) ?_ ?_ ?_
          · rintro y_23 s_21 _ _ _ h ⟨j_22, rfl, rfl⟩
            refine w_stp rfl ?_
            refine w_add ?_
            obtain ⟨y_24, h18, h⟩ := bnd h
            refine w_ifT (x_f2T (x_call (x_cons (x_var rfl) (x_cons (x_tup2 (x_cons (x_var rfl) (x_cons (x_var rfl) (x_nil)))) (x_nil))) (p_v (cR := eI) (av_c _ _ (av_c _ _ (av_nil))) (r_sum_far h18))) (x_var rfl) (c_int _)) h (fun h => ?_) (fun h => ?_)
            · obtain rfl := Option.some.inj h
              refine w_ret (x_bl _) ?_
              exact r_r (f_v0 eB _)
            · refine w_next ?_
              obtain rfl := Option.some.inj h
              exact w_end (e_r _ ⟨_, rfl, rfl⟩)
          · rintro e _ _ rfl hq
            obtain rfl := Option.some.inj h17
            exact r_r (hq)
          · rintro s_25 _ _ rfl ⟨j_26, rfl, rfl⟩
            have h := h17
            rw [cas_go] at h
            obtain rfl := Option.some.inj h
            exact w_end (e_r _ ⟨_, _, rfl, rfl⟩)
        · rintro e _ _ rfl hq
          obtain rfl := Option.some.inj h16
          exact hq
        · rintro s_28 _ _ rfl ⟨j_29, j_30, rfl, rfl⟩
          have h := h16
          rw [cas_go] at h
          obtain rfl := Option.some.inj h
          refine w_ret (x_bl _) ?_
          exact f_v0 eB _
theorem r_middle_pick {v_minutes : (List Int)} {r : Int} (h : t_middle_pick v_minutes = some r) : cmiddle_pick [(eV eI).e v_minutes] [] = some (eI.e r, []) := by
  unfold t_middle_pick at h
  refine run_wp (f := bmiddle_pick) (n := 1) ?_
  refine w_add ?_
  obtain ⟨x_1, h1, h⟩ := bnd h
  obtain rfl := Option.some.inj h
  refine w_ret (x_f2 (x_fz (c := eI) (x_bN (x_cons (x_var rfl) (x_nil)) (n_sort (c := eI) s_V))) (x_f2 (x_f2 (x_b (x_cons (x_var rfl) (x_nil)) (b_len (c := eI) s_V)) (x_int _) (g_sub _ _)) (x_int _) (g_divL (by decide) (by decide))) (g_at (c := eI) s_L h1)) ?_
  exact f_v0 eI _
theorem r_moved_by_one {v_minutes : (List Int)} {r : Int} (h : t_moved_by_one v_minutes = some r) : cmoved_by_one [(eV eI).e v_minutes] [] = some (eI.e r, []) := by
  unfold t_moved_by_one at h
  refine run_wp (f := bmoved_by_one) (n := 3) ?_
  refine w_add ?_
  refine w_assoc ?_
  obtain ⟨told_1, h1, h⟩ := lbnd h
  refine w_setE (c := (eL eI)) (x_fz (c := eI) (x_bN (x_cons (x_var rfl) (x_nil)) (n_sort (c := eI) s_V))) h1 ?_
  refine w_assoc ?_
  obtain ⟨at_2, h2, h⟩ := lbnd h
  refine w_setE (c := eI) (x_f2 (x_f2 (x_b (x_cons (x_var rfl) (x_nil)) (b_len (c := eI) s_L)) (x_int _) (g_sub _ _)) (x_int _) (g_divL (by decide) (by decide))) h2 ?_
  obtain ⟨x_3, h3, h⟩ := bnd h
  obtain ⟨x_4, h4, h⟩ := bnd h
  obtain ⟨x_5, h5, h⟩ := bnd h
  obtain ⟨x_6, h6, h⟩ := bnd h
  obtain rfl := Option.some.inj h
  refine w_ret (x_b (x_cons (x_f2 (x_f2 (x_var rfl) (x_var rfl) (g_at (c := eI) s_L h3)) (x_f2 (x_var rfl) (x_f2 (x_var rfl) (x_int _) (g_sub _ _)) (g_at (c := eI) s_L h4)) (g_sub _ _)) (x_cons (x_f2 (x_f2 (x_var rfl) (x_f2 (x_var rfl) (x_int _) (g_add _ _)) (g_at (c := eI) s_L h5)) (x_f2 (x_var rfl) (x_var rfl) (g_at (c := eI) s_L h6)) (g_sub _ _)) (x_nil))) (b_max2 _ _)) ?_
  exact f_v0 eI _
theorem r_law_middle_right {v_minutes : (List Int)} {r : Bool} (h : t_law_middle_right v_minutes = some r) : c_law_middle_right [(eV eI).e v_minutes] [] = some (eB.e r, []) := by
  unfold t_law_middle_right at h
  refine run_wp (f := b_law_middle_right) (n := 4) ?_
  refine w_add ?_
  refine w_assoc ?_
  obtain ⟨w_1, h1, h⟩ := bnd h
  refine w_set (c := (eV eI)) (x_f2 (x_co (x_tup1 (x_cons (x_int _) (x_nil))) (show (eV eI).e ([((1 : Int))]) = (e1 eI).e ((1 : Int)) from (fun _ => rfl) ((1 : Int)))) (x_b (x_cons (x_var rfl) (x_nil)) (b_len (c := eI) s_V)) (g_repV h1)) ?_
  refine w_assoc ?_
  obtain ⟨votes_3, h2, h⟩ := lbnd h
  refine w_setE (c := (eV (e3 eI eI eI))) (x_b (x_cons (x_fz (c := (e3 eI eI eI)) (x_lc0 (cB := (e3 eI eI eI)) (g := fun (minute_2 : Int) => (minute_2, (0 : Int), (1 : Int))) (i_sq (c := eI) (x_var rfl) s_V rfl) chk_0 (fun minute_2 => ⟨_, rfl, x_tup3 (x_cons (x_var rfl) (x_cons (x_int _) (x_cons (x_int _) (x_nil))))⟩))) (x_nil)) (b_tuple (c := (e3 eI eI eI)) s_L)) h2 ?_
  refine w_assoc ?_
  obtain ⟨y_4, h3, h⟩ := bnd h
  obtain ⟨y_5, h4, h⟩ := bnd h
  obtain ⟨w_8, h7, h⟩ := bnd h
  refine w_ifT (k_orM (k_not (k_tru (x_call (x_cons (x_call (x_cons (x_var rfl) (x_nil)) (p_v (cR := eI) (av_c _ _ (av_nil)) (r_middle_pick h3))) (x_cons (x_call (x_cons (x_var rfl) (x_cons (x_var rfl) (x_nil))) (p_v (cR := eI) (av_c _ _ (av_c _ _ (av_nil))) (r_best_pick h4))) (x_nil))) (p_same (c := eI) _ _)) (tr_B _))) h7 (fun h => by obtain ⟨y_6, h5, h⟩ := bnd h; obtain ⟨y_7, h6, h⟩ := bnd h; obtain rfl := Option.some.inj h; exact k_not (k_tru (x_call (x_cons (x_call (x_cons (x_var rfl) (x_nil)) (p_v (cR := (e2 eI eI)) (av_c _ _ (av_nil)) (r_best_vote h5))) (x_cons (x_tup2 (x_cons (x_call (x_cons (x_var rfl) (x_nil)) (p_v (cR := eI) (av_c _ _ (av_nil)) (r_middle_pick h6))) (x_cons (x_int _) (x_nil)))) (x_nil))) (p_same (c := (e2 eI eI)) _ _)) (tr_B _)))) h (fun h => ?_) (fun h => ?_)
  · obtain rfl := Option.some.inj h
    refine w_ret (x_bl _) ?_
    exact f_v0 eB _
  · refine w_next ?_
    obtain ⟨w_11, h10, h⟩ := bnd h
    obtain rfl := Option.some.inj h
    refine w_ret (x_orM (x_f2 (x_b (x_cons (x_var rfl) (x_nil)) (b_len (c := eI) s_V)) (x_int _) (g_B (c_int _))) h10 (fun h => by obtain ⟨y_9, h8, h⟩ := bnd h; obtain ⟨y_10, h9, h⟩ := bnd h; obtain rfl := Option.some.inj h; exact x_f2 (x_call (x_cons (x_var rfl) (x_nil)) (p_v (cR := eI) (av_c _ _ (av_nil)) (r_greatest_move h8))) (x_call (x_cons (x_var rfl) (x_nil)) (p_v (cR := eI) (av_c _ _ (av_nil)) (r_moved_by_one h9))) (g_B (c_int _)))) ?_
    exact f_v0 eB _
theorem r_law_part_one {v_script : (List Int)} {r : Bool} (h : t_law_part_one v_script = some r) : c_law_part_one [(eK eI).e v_script] [] = some (eB.e r, []) := by
  unfold t_law_part_one at h
  refine run_wp (f := b_law_part_one) (n := 8) ?_
  refine w_add ?_
  refine w_assoc ?_
  obtain ⟨y_1, h1, h⟩ := bnd h
  refine w_setR (x_call (x_cons (x_var rfl) (x_cons (x_int _) (x_nil))) (p_m (av_c _ _ (av_c _ _ (av_nil))) (r_law_draws h1))) ?_
  refine w_assoc ?_
  obtain ⟨r_42, hs, h2⟩ := bnd h
  refine w_forr (fun (s_2 : (List Int)) ρ M => ∃ j_3 : Option D, ∃ j_4 : Option D, ∃ j_5 : Option D, ∃ j_6 : Option D, ∃ j_7 : Option D, ρ = [some ((eK eI).e v_script), some (.ref 0), j_3, j_4, j_5, j_6, j_7, none] ∧ M = [cl eI s_2]) (fun (e : Bool) d M => fin false 0 d M = some (eB.e e, [])) (cA := eI) (s := y_1) (i_rg1 (x_cons (x_int _) (x_nil)) (by rfl)) hs ⟨_, _, _, _, _, rfl, rfl⟩ (fun _ _ _ _ => chk_0) ?_ ?_ ?_
  · rintro k_8 s_2 _ _ _ h ⟨j_3, j_4, j_5, j_6, j_7, rfl, rfl⟩
    refine w_stp rfl ?_
    refine w_add ?_
    refine w_assoc ?_
    obtain ⟨x_9, h3, h⟩ := bnd h
    obtain ⟨y_10, h4, h⟩ := bnd h
    obtain ⟨many_11, h5, h⟩ := lbnd h
    refine w_setE (c := eI) (x_f2 (x_int _) (x_callS (x_cons (x_var rfl) (x_cons (x_f2 (x_fz (c := eI) (x_lst (c := eI) [(4 : Int), (10 : Int), (6 : Int)] (x_cons (x_int _) (x_cons (x_int _) (x_cons (x_int _) (x_nil)))) rfl rfl)) (x_var rfl) (g_at (c := eI) s_L h3)) (x_nil))) (p_s (cR := eI) (c := eI) rfl rfl (av_c eN () (av_c _ _ (av_nil))) (r_law_take h4) rfl)) (g_add _ _)) h5 ?_
    refine w_assoc ?_
    obtain ⟨y_12, h6, h⟩ := bnd h
    refine w_set (c := (eV eI)) (x_callS (x_cons (x_var rfl) (x_cons (x_var rfl) (x_cons (x_var rfl) (x_nil)))) (p_s (cR := (eV eI)) (c := eI) rfl rfl (av_c eN () (av_c _ _ (av_c _ _ (av_nil)))) (r_law_minutes h6) rfl)) ?_
    refine w_assoc ?_
    obtain ⟨y_13, h7, h⟩ := bnd h
    refine w_set (c := (eV eI)) (x_callS (x_cons (x_var rfl) (x_cons (x_var rfl) (x_cons (x_var rfl) (x_nil)))) (p_s (cR := (eV eI)) (c := eI) rfl rfl (av_c eN () (av_c _ _ (av_c _ _ (av_nil)))) (r_law_minutes h7) rfl)) ?_
    change WP _ [some ((eK eI).e v_script), some (.ref 0), some (eI.e k_8), some (eI.e many_11), some ((eV eI).e y_12.1), some ((eV eI).e y_13.1), j_7, none] _ _
    refine w_assoc ?_
    obtain ⟨l_22, h14, h⟩ := bnd h
    refine w_set (c := (eV eI)) (x_b (x_cons (x_fz (c := eI) (x_lcS (S := (List Int)) (cB := eI) (fun (s_18 : (List Int)) => [cl eI s_18]) (s := y_13.2) (i_sq (c := eI) (x_var rfl) s_V rfl) (fun _ => chk_0) h14 (fun minute_14 s_18 => ⟨_, rfl, fun y_23 s_24 h => by obtain ⟨y_19, h11, h⟩ := bnd h; obtain ⟨x_20, h12, h⟩ := bnd h; obtain ⟨y_21, h13, h⟩ := bnd h; obtain ⟨rfl, rfl⟩ := pinj h; exact x_f2 (x_int _) (x_callS (x_cons (x_var rfl) (x_cons (x_f2 (x_fz (c := eI) (x_lst (c := eI) [(9 : Int), (2 : Int)] (x_cons (x_int _) (x_cons (x_int _) (x_nil))) rfl rfl)) (x_callS (x_cons (x_var rfl) (x_cons (x_int _) (x_nil))) (p_s (cR := eI) (c := eI) rfl rfl (av_c eN () (av_c _ _ (av_nil))) (r_law_take h11) rfl)) (g_at (c := eI) s_L h12)) (x_nil))) (p_s (cR := eI) (c := eI) rfl rfl (av_c eN () (av_c _ _ (av_nil))) (r_law_take h13) rfl)) (g_add _ _)⟩))) (x_nil)) (b_tuple (c := eI) s_L)) ?_
    refine w_assoc ?_
    obtain ⟨y_25, h15, h⟩ := bnd h
    obtain ⟨w_27, h17, h⟩ := bnd h
    refine w_ifT (k_orM (k_not (k_tru (x_call (x_cons (x_var rfl) (x_cons (x_var rfl) (x_cons (x_bl _) (x_nil)))) (p_v (cR := eB) (av_c _ _ (av_c _ _ (av_c _ _ (av_nil)))) (r_law_line_right h15))) (tr_B _))) h17 (fun h => by obtain ⟨y_26, h16, h⟩ := bnd h; obtain rfl := Option.some.inj h; exact k_not (k_tru (x_call (x_cons (x_var rfl) (x_cons (x_var rfl) (x_cons (x_bl _) (x_nil)))) (p_v (cR := eB) (av_c _ _ (av_c _ _ (av_c _ _ (av_nil)))) (r_law_line_right h16))) (tr_B _)))) h (fun h => ?_) (fun h => ?_)
    · obtain rfl := Option.some.inj h
      refine w_ret (x_bl _) ?_
      exact r_r (f_v0 eB _)
    · refine w_next ?_
      obtain ⟨y_28, h18, h⟩ := bnd h
      obtain ⟨w_30, h20, h⟩ := bnd h
      refine w_ifT (k_orM (k_not (k_tru (x_call (x_cons (x_var rfl) (x_cons (x_var rfl) (x_cons (x_var rfl) (x_nil)))) (p_v (cR := eB) (av_c _ _ (av_c _ _ (av_c _ _ (av_nil)))) (r_law_both_right h18))) (tr_B _))) h20 (fun h => by obtain ⟨y_29, h19, h⟩ := bnd h; obtain rfl := Option.some.inj h; exact k_not (k_tru (x_call (x_cons (x_var rfl) (x_nil)) (p_v (cR := eB) (av_c _ _ (av_nil)) (r_law_middle_right h19))) (tr_B _)))) h (fun h => ?_) (fun h => ?_)
      · obtain rfl := Option.some.inj h
        refine w_ret (x_bl _) ?_
        exact r_r (f_v0 eB _)
      · refine w_next ?_
        obtain rfl := Option.some.inj h
        exact w_end (e_r _ ⟨_, _, _, _, _, rfl, rfl⟩)
  · rintro e _ _ rfl hq
    obtain rfl := Option.some.inj h2
    exact hq
  · rintro s_31 _ _ rfl ⟨j_32, j_33, j_34, j_35, j_36, rfl, rfl⟩
    have h := h2
    rw [cas_go] at h
    obtain ⟨y_37, h21, h⟩ := bnd h
    obtain ⟨w_41, h25, h⟩ := bnd h
    obtain rfl := Option.some.inj h
    refine w_ret (x_andM (x_call (x_cons (x_call (x_cons (x_co (x_tup2 (x_cons (x_int _) (x_cons (x_int _) (x_nil)))) (show (eV eI).e ([(((1 : Int), (5 : Int))).1, (((1 : Int), (5 : Int))).2]) = (e2 eI eI).e (((1 : Int), (5 : Int))) from (fun _ => rfl) (((1 : Int), (5 : Int))))) (x_cons (x_co (x_tup2 (x_cons (x_int _) (x_cons (x_int _) (x_nil)))) (show (eV eI).e ([(((2 : Int), (2 : Int))).1, (((2 : Int), (2 : Int))).2]) = (e2 eI eI).e (((2 : Int), (2 : Int))) from (fun _ => rfl) (((2 : Int), (2 : Int))))) (x_nil))) (p_v (cR := eI) (av_c _ _ (av_c _ _ (av_nil))) (r_best_pick h21))) (x_cons (x_int _) (x_nil))) (p_same (c := eI) _ _)) h25 (fun h => by obtain ⟨y_38, h22, h⟩ := bnd h; obtain ⟨w_40, h24, h⟩ := bnd h; obtain rfl := Option.some.inj h; exact x_andM (x_call (x_cons (x_call (x_cons (x_co (x_tup2 (x_cons (x_tup3 (x_cons (x_int _) (x_cons (x_int _) (x_cons (x_int _) (x_nil))))) (x_cons (x_tup3 (x_cons (x_int _) (x_cons (x_int _) (x_cons (x_int _) (x_nil))))) (x_nil)))) (show (eV (e3 eI eI eI)).e ([((((1 : Int), (0 : Int), (2 : Int)), ((5 : Int), (0 : Int), (2 : Int)))).1, ((((1 : Int), (0 : Int), (2 : Int)), ((5 : Int), (0 : Int), (2 : Int)))).2]) = (e2 (e3 eI eI eI) (e3 eI eI eI)).e ((((1 : Int), (0 : Int), (2 : Int)), ((5 : Int), (0 : Int), (2 : Int)))) from (fun _ => rfl) ((((1 : Int), (0 : Int), (2 : Int)), ((5 : Int), (0 : Int), (2 : Int)))))) (x_nil)) (p_v (cR := (e2 (e2 eI eI) (e2 eI eI))) (av_c _ _ (av_nil)) (r_best_span h22))) (x_cons (x_tup2 (x_cons (x_tup2 (x_cons (x_int _) (x_cons (x_int _) (x_nil)))) (x_cons (x_tup2 (x_cons (x_int _) (x_cons (x_int _) (x_nil)))) (x_nil)))) (x_nil))) (p_same (c := (e2 (e2 eI eI) (e2 eI eI))) _ _)) h24 (fun h => by obtain ⟨y_39, h23, h⟩ := bnd h; obtain rfl := Option.some.inj h; exact x_call (x_cons (x_call (x_cons (x_co (x_tup3 (x_cons (x_int _) (x_cons (x_int _) (x_cons (x_int _) (x_nil))))) (show (eV eI).e ([(((5 : Int), (1 : Int), (3 : Int))).1, (((5 : Int), (1 : Int), (3 : Int))).2.1, (((5 : Int), (1 : Int), (3 : Int))).2.2]) = (e3 eI eI eI).e (((5 : Int), (1 : Int), (3 : Int))) from (fun _ => rfl) (((5 : Int), (1 : Int), (3 : Int))))) (x_cons (x_co (x_tup3 (x_cons (x_int _) (x_cons (x_int _) (x_cons (x_int _) (x_nil))))) (show (eV eI).e ([(((1 : Int), (1 : Int), (1 : Int))).1, (((1 : Int), (1 : Int), (1 : Int))).2.1, (((1 : Int), (1 : Int), (1 : Int))).2.2]) = (e3 eI eI eI).e (((1 : Int), (1 : Int), (1 : Int))) from (fun _ => rfl) (((1 : Int), (1 : Int), (1 : Int))))) (x_nil))) (p_v (cR := eI) (av_c _ _ (av_c _ _ (av_nil))) (r_best_pick h23))) (x_cons (x_int _) (x_nil))) (p_same (c := eI) _ _)))) ?_
    exact f_v0 eB _
theorem r_law_b_minutes {v_draws : (List Int)} {v_script : (List Int)} {v_many : Int} {r : ((List Int) × List Int)} (h : t_law_b_minutes v_draws v_script v_many = some r) : c_law_b_minutes [.ref 0, (eK eI).e v_script, eI.e v_many] [cl eI v_draws] = some ((eV eI).e r.1, [cl eI r.2]) := by
  unfold t_law_b_minutes at h
  refine run_wp (f := b_law_b_minutes) (n := 8) ?_
  refine w_add ?_
  refine w_assoc ?_
  obtain ⟨y_1, h1, h⟩ := bnd h
  obtain ⟨y_2, h2, h⟩ := bnd h
  obtain ⟨m_3, h3, h⟩ := bnd h
  obtain ⟨y_4, h4, h⟩ := bnd h
  obtain ⟨x_5, h5, h⟩ := bnd h
  refine w_set (c := eI) (x_f2 (x_fz (c := eI) (x_lst (c := eI) [(0 : Int), m_3] (x_cons (x_int _) (x_cons (x_f2 (x_call (x_cons (x_var rfl) (x_cons (x_callS (x_cons (x_var rfl) (x_cons (x_int _) (x_nil))) (p_s (cR := eI) (c := eI) rfl rfl (av_c eN () (av_c _ _ (av_nil))) (r_law_take h1) rfl)) (x_nil))) (p_v (cR := eI) (av_c _ _ (av_c _ _ (av_nil))) (r_law_cell h2))) (x_f2 (x_int _) (x_int _) (g_powL (by decide) rfl)) (g_div h3)) (x_nil))) rfl rfl)) (x_callS (x_cons (x_var rfl) (x_cons (x_int _) (x_nil))) (p_s (cR := eI) (c := eI) rfl rfl (av_c eN () (av_c _ _ (av_nil))) (r_law_take h4) rfl)) (g_at (c := eI) s_L h5)) ?_
  refine w_assoc ?_
  obtain ⟨y_6, h6, h⟩ := bnd h
  obtain ⟨x_7, h7, h⟩ := bnd h
  refine w_set (c := eI) (x_f2 (x_fz (c := eI) (x_lst (c := eI) [(5 : Int), (20 : Int), (99 : Int)] (x_cons (x_int _) (x_cons (x_int _) (x_cons (x_int _) (x_nil)))) rfl rfl)) (x_callS (x_cons (x_var rfl) (x_cons (x_int _) (x_nil))) (p_s (cR := eI) (c := eI) rfl rfl (av_c eN () (av_c _ _ (av_nil))) (r_law_take h6) rfl)) (g_at (c := eI) s_L h7)) ?_
  refine w_assoc ?_
  refine w_setR (x_mut (c := eN) (x_lst (c := eN) ([] : List Unit) (x_nil) rfl rfl)) ?_
  change WP _ [some (.ref 0), some ((eK eI).e v_script), some (eI.e v_many), some (eI.e x_5), some (eI.e x_7), some (.ref 1), none, none] _ _
  refine w_assoc ?_
  obtain ⟨r_8, h8, h⟩ := bnd h
  obtain ⟨s_20, hs, h⟩ := bnd h
  refine w_fold (fun (s_9 : ((List Int) × (List Int))) ρ M => ∃ j_10 : Option D, ∃ j_11 : Option D, ρ = [some (.ref 0), some ((eK eI).e v_script), some (eI.e v_many), some (eI.e x_5), some (eI.e x_7), some (.ref 1), j_10, j_11] ∧ M = [cl eI s_9.1, cl eI s_9.2]) (cA := eI) (s := (y_6.2, ([] : (List Int)))) (i_rg1 (x_cons (x_var rfl) (x_nil)) h8) hs ⟨_, _, rfl, rfl⟩ (fun _ _ _ _ => chk_0) ?_ ?_
  · rintro k_12 s_9 _ _ _ h ⟨j_10, j_11, rfl, rfl⟩
    refine w_stp rfl ?_
    refine w_add ?_
    refine w_assoc ?_
    obtain ⟨y_13, h10, h⟩ := bnd h
    obtain ⟨minute_14, h11, h⟩ := lbnd h
    refine w_setE (c := eI) (x_f2 (x_var rfl) (x_callS (x_cons (x_var rfl) (x_cons (x_var rfl) (x_nil))) (p_s (cR := eI) (c := eI) rfl rfl (av_c eN () (av_c _ _ (av_nil))) (r_law_take h10) rfl)) (g_add _ _)) h11 ?_
    refine w_assoc ?_
    obtain ⟨y_15, h12, h⟩ := bnd h
    obtain ⟨s_16, hs, h⟩ := bnd h
    refine w_cut (fun ρ M => ρ = [some (.ref 0), some ((eK eI).e v_script), some (eI.e v_many), some (eI.e x_5), some (eI.e x_7), some (.ref 1), some (eI.e k_12), some (eI.e s_16.1)] ∧ M = [cl eI s_16.2, cl eI s_9.2]) (w_ifT (x_f2T (x_callS (x_cons (x_var rfl) (x_cons (x_int _) (x_nil))) (p_s (cR := eI) (c := eI) rfl rfl (av_c eN () (av_c _ _ (av_nil))) (r_law_take h12) rfl)) (x_int _) (c_eq (c := eI) (v_ec _ _) (v_ec _ _))) hs (fun h => ?_) (fun h => ?_)) ?_
    · obtain ⟨y_17, h14, h⟩ := bnd h
      obtain ⟨minute_18, h15, h⟩ := lbnd h
      refine w_setE (c := eI) (x_f2 (x_f2 (x_var rfl) (x_int _) (g_add _ _)) (x_f2 (x_int _) (x_callS (x_cons (x_var rfl) (x_cons (x_int _) (x_nil))) (p_s (cR := eI) (c := eI) rfl rfl (av_c eN () (av_c _ _ (av_nil))) (r_law_take h14) rfl)) (g_mulL (by decide))) (g_sub _ _)) h15 ?_
      obtain rfl := Option.some.inj h
      exact w_endC ⟨rfl, rfl⟩
    · refine w_next ?_
      obtain rfl := Option.some.inj h
      exact w_endC ⟨rfl, rfl⟩
    · rintro _ _ ⟨rfl, rfl⟩
      obtain ⟨found_19, h16, h⟩ := bnd h
      refine w_drop (x_m (c := eI) (xs := s_9.2) (x_var rfl) rfl (x_cons (x_var rfl) (x_nil)) (m_app rfl h16 rfl)) ?_
      obtain rfl := Option.some.inj h
      exact w_end (e_0 ⟨_, _, rfl, rfl⟩)
  · rintro _ _ ⟨j_21, j_22, rfl, rfl⟩
    obtain rfl := Option.some.inj h
    refine w_ret (x_b (x_cons (x_var rfl) (x_nil)) (b_tuple (c := eI) (s_R rfl))) ?_
    exact f_v1 (eV eI) _
theorem r_law_middle {v_minutes : (List Int)} {r : (Option Int)} (h : t_law_middle v_minutes = some r) : c_law_middle [(eV eI).e v_minutes] [] = some ((eO eI).e r, []) := by
  unfold t_law_middle at h
  refine run_wp (f := b_law_middle) (n := 5) ?_
  refine w_add ?_
  refine w_assoc ?_
  refine w_set (c := eN) (x_non) ?_
  refine w_assoc ?_
  obtain ⟨s_11, hs, h⟩ := bnd h
  refine w_fold (fun (s_1 : (Option Int)) ρ M => ∃ j_2 : Option D, ∃ j_3 : Option D, ρ = [some ((eV eI).e v_minutes), some ((eO eI).e s_1), j_2, j_3, none] ∧ M = []) (cA := eI) (s := none) (i_sq (c := eI) (x_var rfl) s_V rfl) hs ⟨_, _, rfl, rfl⟩ (fun _ _ _ _ => chk_0) ?_ ?_
  · rintro minute_4 s_1 _ _ _ h ⟨j_2, j_3, rfl, rfl⟩
    refine w_stp rfl ?_
    refine w_add ?_
    refine w_assoc ?_
    obtain ⟨below_6, h2, h⟩ := lbnd h
    refine w_setE (c := eI) (x_b (x_cons (x_fz (c := eI) (x_lc0f (cB := eI) (p := fun (other_5 : Int) => (decide (other_5 ≤ minute_4))) (g := fun (other_5 : Int) => (1 : Int)) (i_sq (c := eI) (x_var rfl) s_V rfl) chk_0 (fun other_5 => ⟨_, rfl, x_f2T (x_var rfl) (x_var rfl) (c_int _), x_int _⟩))) (x_nil)) (b_len (c := eI) s_L)) h2 ?_
    obtain ⟨w_9, h5, h⟩ := bnd h
    obtain ⟨s_10, hs, h⟩ := bnd h
    refine w_cut (fun ρ M => ρ = [some ((eV eI).e v_minutes), some ((eO eI).e s_10), some (eI.e minute_4), some (eI.e below_6), none] ∧ M = []) (w_ifT (k_andM (x_f2T (x_f2 (x_int _) (x_var rfl) (g_mulL (by decide))) (x_b (x_cons (x_var rfl) (x_nil)) (b_len (c := eI) s_V)) (c_int _)) h5 (fun h => by obtain ⟨w_8, h4, h⟩ := bnd h; obtain rfl := Option.some.inj h; exact k_orM (x_f2T (x_var rfl) (x_non) (is_O _)) h4 (fun h => by obtain ⟨w_7, h3, h⟩ := bnd h; obtain rfl := Option.some.inj h; exact x_f2T (x_var rfl) (x_cast (c := eI) (x_var rfl) h3) (c_lt (c := eI) _ _)))) hs (fun h => ?_) (fun h => ?_)) ?_
    · refine w_set (c := eI) (x_var rfl) ?_
      obtain rfl := Option.some.inj h
      exact w_endC ⟨rfl, rfl⟩
    · refine w_next ?_
      obtain rfl := Option.some.inj h
      exact w_endC ⟨rfl, rfl⟩
    · rintro _ _ ⟨rfl, rfl⟩
      obtain rfl := Option.some.inj h
      exact w_end (e_0 ⟨_, _, rfl, rfl⟩)
  · rintro _ _ ⟨j_12, j_13, rfl, rfl⟩
    obtain rfl := Option.some.inj h
    refine w_ret (x_var rfl) ?_
    exact f_v0 (eO eI) _
theorem r_law_apart_1 {v_one : Int} {v_other : (Option Int)} {r : Int} (h : t_law_apart_1 v_one v_other = some r) : c_law_apart [eI.e v_one, (eO eI).e v_other] [] = some (eI.e r, []) := by
  unfold t_law_apart_1 at h
  refine run_wp (f := b_law_apart) (n := 2) ?_
  refine w_add ?_
  obtain ⟨w_1, h1, h⟩ := bnd h
  obtain ⟨w_2, h2, h⟩ := bnd h
  obtain rfl := Option.some.inj h
  refine w_ret (x_f2 (x_b (x_cons (x_var rfl) (x_cons (x_cast (c := eI) (x_var rfl) h1) (x_nil))) (b_max2 _ _)) (x_b (x_cons (x_var rfl) (x_cons (x_cast (c := eI) (x_var rfl) h2) (x_nil))) (b_min2 _ _)) (g_sub _ _)) ?_
  exact f_v0 eI _
theorem r_law_middle_1 {v_minutes : (List Int)} {r : (Option Int)} (h : t_law_middle_1 v_minutes = some r) : c_law_middle [(eL eI).e v_minutes] [] = some ((eO eI).e r, []) := by
  unfold t_law_middle_1 at h
  refine run_wp (f := b_law_middle) (n := 5) ?_
  refine w_add ?_
  refine w_assoc ?_
  refine w_set (c := eN) (x_non) ?_
  refine w_assoc ?_
  obtain ⟨s_11, hs, h⟩ := bnd h
  refine w_fold (fun (s_1 : (Option Int)) ρ M => ∃ j_2 : Option D, ∃ j_3 : Option D, ρ = [some ((eL eI).e v_minutes), some ((eO eI).e s_1), j_2, j_3, none] ∧ M = []) (cA := eI) (s := none) (i_sq (c := eI) (x_var rfl) s_L rfl) hs ⟨_, _, rfl, rfl⟩ (fun _ _ _ _ => chk_0) ?_ ?_
  · rintro minute_4 s_1 _ _ _ h ⟨j_2, j_3, rfl, rfl⟩
    refine w_stp rfl ?_
    refine w_add ?_
    refine w_assoc ?_
    obtain ⟨below_6, h2, h⟩ := lbnd h
    refine w_setE (c := eI) (x_b (x_cons (x_fz (c := eI) (x_lc0f (cB := eI) (p := fun (other_5 : Int) => (decide (other_5 ≤ minute_4))) (g := fun (other_5 : Int) => (1 : Int)) (i_sq (c := eI) (x_var rfl) s_L rfl) chk_0 (fun other_5 => ⟨_, rfl, x_f2T (x_var rfl) (x_var rfl) (c_int _), x_int _⟩))) (x_nil)) (b_len (c := eI) s_L)) h2 ?_
    obtain ⟨w_9, h5, h⟩ := bnd h
    obtain ⟨s_10, hs, h⟩ := bnd h
    refine w_cut (fun ρ M => ρ = [some ((eL eI).e v_minutes), some ((eO eI).e s_10), some (eI.e minute_4), some (eI.e below_6), none] ∧ M = []) (w_ifT (k_andM (x_f2T (x_f2 (x_int _) (x_var rfl) (g_mulL (by decide))) (x_b (x_cons (x_var rfl) (x_nil)) (b_len (c := eI) s_L)) (c_int _)) h5 (fun h => by obtain ⟨w_8, h4, h⟩ := bnd h; obtain rfl := Option.some.inj h; exact k_orM (x_f2T (x_var rfl) (x_non) (is_O _)) h4 (fun h => by obtain ⟨w_7, h3, h⟩ := bnd h; obtain rfl := Option.some.inj h; exact x_f2T (x_var rfl) (x_cast (c := eI) (x_var rfl) h3) (c_lt (c := eI) _ _)))) hs (fun h => ?_) (fun h => ?_)) ?_
    · refine w_set (c := eI) (x_var rfl) ?_
      obtain rfl := Option.some.inj h
      exact w_endC ⟨rfl, rfl⟩
    · refine w_next ?_
      obtain rfl := Option.some.inj h
      exact w_endC ⟨rfl, rfl⟩
    · rintro _ _ ⟨rfl, rfl⟩
      obtain rfl := Option.some.inj h
      exact w_end (e_0 ⟨_, _, rfl, rfl⟩)
  · rintro _ _ ⟨j_12, j_13, rfl, rfl⟩
    obtain rfl := Option.some.inj h
    refine w_ret (x_var rfl) ?_
    exact f_v0 (eO eI) _
theorem r_far_from_middle {v_minutes : (List Int)} {r : (List Int)} (h : t_far_from_middle v_minutes = some r) : cfar_from_middle [(eV eI).e v_minutes] [] = some ((eL eI).e r, []) := by
  unfold t_far_from_middle at h
  refine run_wp (f := bfar_from_middle) (n := 3) ?_
  refine w_add ?_
  refine w_assoc ?_
  obtain ⟨y_1, h1, h⟩ := bnd h
  refine w_set (c := eI) (x_call (x_cons (x_var rfl) (x_nil)) (p_v (cR := eI) (av_c _ _ (av_nil)) (r_middle_pick h1))) ?_
  obtain rfl := Option.some.inj h
  refine w_ret (x_fz (c := eI) (x_lc0 (cB := eI) (g := fun (minute_2 : Int) => (Int.natAbs ((minute_2 - y_1)) : Int)) (i_sq (c := eI) (x_var rfl) s_V rfl) chk_0 (fun minute_2 => ⟨_, rfl, x_b (x_cons (x_f2 (x_var rfl) (x_var rfl) (g_sub _ _)) (x_nil)) (b_abs _)⟩))) ?_
  exact f_v0 (eL eI) _
theorem r_middle_pick_1 {v_minutes : (List Int)} {r : Int} (h : t_middle_pick_1 v_minutes = some r) : cmiddle_pick [(eL eI).e v_minutes] [] = some (eI.e r, []) := by
  unfold t_middle_pick_1 at h
  refine run_wp (f := bmiddle_pick) (n := 1) ?_
  refine w_add ?_
  obtain ⟨x_1, h1, h⟩ := bnd h
  obtain rfl := Option.some.inj h
  refine w_ret (x_f2 (x_fz (c := eI) (x_bN (x_cons (x_var rfl) (x_nil)) (n_sort (c := eI) s_L))) (x_f2 (x_f2 (x_b (x_cons (x_var rfl) (x_nil)) (b_len (c := eI) s_L)) (x_int _) (g_sub _ _)) (x_int _) (g_divL (by decide) (by decide))) (g_at (c := eI) s_L h1)) ?_
  exact f_v0 eI _
theorem r_spread_of_picks {v_minutes : (List Int)} {r : Int} (h : t_spread_of_picks v_minutes = some r) : cspread_of_picks [(eV eI).e v_minutes] [] = some (eI.e r, []) := by
  unfold t_spread_of_picks at h
  refine run_wp (f := bspread_of_picks) (n := 1) ?_
  refine w_add ?_
  obtain ⟨y_1, h1, h⟩ := bnd h
  obtain ⟨y_2, h2, h⟩ := bnd h
  obtain rfl := Option.some.inj h
  refine w_ret (x_call (x_cons (x_call (x_cons (x_var rfl) (x_nil)) (p_v (cR := (eL eI)) (av_c _ _ (av_nil)) (r_far_from_middle h1))) (x_nil)) (p_v (cR := eI) (av_c _ _ (av_nil)) (r_middle_pick_1 h2))) ?_
  exact f_v0 eI _
theorem r_without_far {v_minutes : (List Int)} {v_times : Int} {r : (List Int)} (h : t_without_far v_minutes v_times = some r) : cwithout_far [(eV eI).e v_minutes, eI.e v_times] [] = some ((eV eI).e r, []) := by
  unfold t_without_far at h
  refine run_wp (f := bwithout_far) (n := 5) ?_
  refine w_add ?_
  refine w_assoc ?_
  obtain ⟨y_1, h1, h⟩ := bnd h
  obtain ⟨m_2, h2, h⟩ := bnd h
  refine w_set (c := eI) (x_f2 (x_var rfl) (x_call (x_cons (x_var rfl) (x_nil)) (p_v (cR := eI) (av_c _ _ (av_nil)) (r_spread_of_picks h1))) (g_mul h2)) ?_
  refine w_assoc ?_
  obtain ⟨y_3, h3, h⟩ := bnd h
  refine w_set (c := (eL eI)) (x_call (x_cons (x_var rfl) (x_nil)) (p_v (cR := (eL eI)) (av_c _ _ (av_nil)) (r_far_from_middle h3))) ?_
  obtain ⟨r_4, h4, h⟩ := bnd h
  obtain ⟨z_8, h7, h⟩ := bnd h
  obtain ⟨l_9, h8, h⟩ := bnd h
  obtain rfl := Option.some.inj h
  refine w_ret (x_b (x_cons (x_fz (c := eI) (x_lcG (cB := eI) (i_rg1 (x_cons (x_b (x_cons (x_var rfl) (x_nil)) (b_len (c := eI) s_V)) (x_nil)) h4) chk_0 h7 h8 (fun at_5 => ⟨_, rfl, fun _ h => by obtain ⟨x_6, h5, h⟩ := bnd h; obtain rfl := Option.some.inj h; exact x_f2T (x_f2 (x_var rfl) (x_var rfl) (g_at (c := eI) s_L h5)) (x_var rfl) (c_int _), fun _ h => by obtain ⟨x_7, h6, h⟩ := bnd h; obtain rfl := Option.some.inj h; exact x_f2 (x_var rfl) (x_var rfl) (g_at (c := eI) s_V h6)⟩))) (x_nil)) (b_tuple (c := eI) s_L)) ?_
  exact f_v0 (eV eI) _
theorem r_law_divisor {v_one : Int} {v_other : Int} {r : Int} (h : t_law_divisor v_one v_other = some r) : c_law_divisor [eI.e v_one, eI.e v_other] [] = some (eI.e r, []) := by
  unfold t_law_divisor at h
  refine run_wp (f := b_law_divisor) (n := 2) ?_
  refine w_add ?_
  refine w_assoc ?_
  obtain ⟨one_1, h1, h⟩ := lbnd h
  refine w_setE (c := eI) (x_b (x_cons (x_var rfl) (x_cons (x_f1 (x_var rfl) (g_neg _)) (x_nil))) (b_max2 _ _)) h1 ?_
  refine w_assoc ?_
  obtain ⟨s_4, hs, h⟩ := bnd h
  refine w_wh (fun (s_2 : (Int × Int)) ρ M => ρ = [some (eI.e s_2.1), some (eI.e s_2.2)] ∧ M = []) (s := (one_1, v_other)) hs ⟨rfl, rfl⟩ (by rintro s_2 _ _ _ h ⟨rfl, rfl⟩; obtain rfl := Option.some.inj h; exact x_f2T (x_var rfl) (x_int _) (c_int _)) ?_ ?_
  · rintro s_2 _ _ _ h ⟨rfl, rfl⟩
    refine w_add ?_
    obtain ⟨m_3, h3, h⟩ := bnd h
    refine w_par (x_cons (x_var rfl) (x_cons (x_f2 (x_b (x_cons (x_var rfl) (x_nil)) (b_int _)) (x_var rfl) (g_mod h3)) (x_nil))) ?_
    obtain rfl := Option.some.inj h
    exact w_end (e_0 ⟨rfl, rfl⟩)
  · rintro _ _ ⟨rfl, rfl⟩
    obtain rfl := Option.some.inj h
    refine w_ret (x_var rfl) ?_
    exact f_v0 eI _
theorem r_fraction {v_n : Int} {v_d : Int} {r : (Int × Int)} (h : t_fraction v_n v_d = some r) : cfraction [eI.e v_n, eI.e v_d] [] = some ((e2 eI eI).e r, []) := by
  unfold t_fraction at h
  refine run_wp (f := bfraction) (n := 3) ?_
  refine w_add ?_
  refine w_assoc ?_
  obtain ⟨divisor_1, h1, h⟩ := lbnd h
  refine w_setE (c := eI) (x_b (x_cons (x_var rfl) (x_cons (x_var rfl) (x_nil))) (b_gcd _ _)) h1 ?_
  refine w_assoc ?_
  obtain ⟨s_2, hs, h⟩ := bnd h
  refine w_cut (fun ρ M => ρ = [some (eI.e v_n), some (eI.e v_d), some (eI.e s_2)] ∧ M = []) (w_ifT (x_f2T (x_var rfl) (x_int _) (c_int _)) hs (fun h => ?_) (fun h => ?_)) ?_
  · obtain ⟨divisor_3, h3, h⟩ := lbnd h
    refine w_setE (c := eI) (x_f1 (x_var rfl) (g_neg _)) h3 ?_
    obtain rfl := Option.some.inj h
    exact w_endC ⟨rfl, rfl⟩
  · refine w_next ?_
    obtain rfl := Option.some.inj h
    exact w_endC ⟨rfl, rfl⟩
  · rintro _ _ ⟨rfl, rfl⟩
    obtain ⟨m_4, h4, h⟩ := bnd h
    obtain ⟨m_5, h5, h⟩ := bnd h
    obtain rfl := Option.some.inj h
    refine w_ret (x_tup2 (x_cons (x_f2 (x_var rfl) (x_var rfl) (g_div h4)) (x_cons (x_f2 (x_var rfl) (x_var rfl) (g_div h5)) (x_nil)))) ?_
    exact f_v0 (e2 eI eI) _
theorem r_mean_of_picks {v_minutes : (List Int)} {r : (Int × Int)} (h : t_mean_of_picks v_minutes = some r) : cmean_of_picks [(eV eI).e v_minutes] [] = some ((e2 eI eI).e r, []) := by
  unfold t_mean_of_picks at h
  refine run_wp (f := bmean_of_picks) (n := 1) ?_
  refine w_add ?_
  obtain ⟨y_1, h1, h⟩ := bnd h
  obtain rfl := Option.some.inj h
  refine w_ret (x_call (x_cons (x_b (x_cons (x_var rfl) (x_nil)) (b_sum s_V)) (x_cons (x_b (x_cons (x_var rfl) (x_nil)) (b_len (c := eI) s_V)) (x_nil))) (p_v (cR := (e2 eI eI)) (av_c _ _ (av_c _ _ (av_nil))) (r_fraction h1))) ?_
  exact f_v0 (e2 eI eI) _
theorem r_law_right {v_draws : (List Int)} {v_minutes : (List Int)} {r : (Bool × List Int)} (h : t_law_right v_draws v_minutes = some r) : c_law_right [.ref 0, (eV eI).e v_minutes] [cl eI v_draws] = some (eB.e r.1, [cl eI r.2]) := by
  unfold t_law_right at h
  refine run_wp (f := b_law_right) (n := 14) ?_
  refine w_add ?_
  refine w_assoc ?_
  obtain ⟨many_1, h1, h⟩ := lbnd h
  refine w_setE (c := eI) (x_b (x_cons (x_var rfl) (x_nil)) (b_len (c := eI) s_V)) h1 ?_
  refine w_assoc ?_
  obtain ⟨y_2, h2, h⟩ := bnd h
  refine w_set (c := (eO eI)) (x_call (x_cons (x_var rfl) (x_nil)) (p_v (cR := (eO eI)) (av_c _ _ (av_nil)) (r_law_middle h2))) ?_
  refine w_assoc ?_
  obtain ⟨l_5, h4, h⟩ := bnd h
  refine w_set (c := (eL eI)) (x_fz (c := eI) (x_lcM (cB := eI) (i_sq (c := eI) (x_var rfl) s_V rfl) chk_0 h4 (fun minute_3 => ⟨_, rfl, fun _ h => by obtain ⟨y_4, h3, h⟩ := bnd h; obtain rfl := Option.some.inj h; exact x_call (x_cons (x_var rfl) (x_cons (x_var rfl) (x_nil))) (p_v (cR := eI) (av_c _ _ (av_c _ _ (av_nil))) (r_law_apart_1 h3))⟩))) ?_
  change WP _ [some (.ref 0), some ((eV eI).e v_minutes), some (eI.e many_1), some ((eO eI).e y_2), some ((eL eI).e l_5), none, none, none, none, none, none, none, none, none] _ _
  refine w_assoc ?_
  obtain ⟨y_6, h5, h⟩ := bnd h
  refine w_set (c := (eO eI)) (x_call (x_cons (x_var rfl) (x_nil)) (p_v (cR := (eO eI)) (av_c _ _ (av_nil)) (r_law_middle_1 h5))) ?_
  refine w_assoc ?_
  obtain ⟨y_7, h6, h⟩ := bnd h
  obtain ⟨w_9, h8, h⟩ := bnd h
  refine w_ifT (k_orM (k_not (k_tru (x_call (x_cons (x_co (x_call (x_cons (x_var rfl) (x_nil)) (p_v (cR := eI) (av_c _ _ (av_nil)) (r_middle_pick h6))) (show (eO eI).e ((some y_7)) = eI.e y_7 from (fun _ => rfl) y_7)) (x_cons (x_var rfl) (x_nil))) (p_same (c := (eO eI)) _ _)) (tr_B _))) h8 (fun h => by obtain ⟨y_8, h7, h⟩ := bnd h; obtain rfl := Option.some.inj h; exact k_not (k_tru (x_call (x_cons (x_co (x_call (x_cons (x_var rfl) (x_nil)) (p_v (cR := eI) (av_c _ _ (av_nil)) (r_spread_of_picks h7))) (show (eO eI).e ((some y_8)) = eI.e y_8 from (fun _ => rfl) y_8)) (x_cons (x_var rfl) (x_nil))) (p_same (c := (eO eI)) _ _)) (tr_B _)))) h (fun h => ?_) (fun h => ?_)
  · obtain rfl := Option.some.inj h
    refine w_ret (x_bl _) ?_
    exact f_v1 eB _
  · refine w_next ?_
    refine w_assoc ?_
    obtain ⟨y_10, h9, h⟩ := bnd h
    refine w_ifT (k_not (k_tru (x_call (x_cons (x_co (x_call (x_cons (x_revV (c := eI) (x_var rfl)) (x_nil)) (p_v (cR := eI) (av_c _ _ (av_nil)) (r_middle_pick h9))) (show (eO eI).e ((some y_10)) = eI.e y_10 from (fun _ => rfl) y_10)) (x_cons (x_var rfl) (x_nil))) (p_same (c := (eO eI)) _ _)) (tr_B _))) h (fun h => ?_) (fun h => ?_)
    · obtain rfl := Option.some.inj h
      refine w_ret (x_bl _) ?_
      exact f_v1 eB _
    · refine w_next ?_
      refine w_assoc ?_
      obtain ⟨r_56, hs, h10⟩ := bnd h
      refine w_forr (fun (s_11 : Unit) ρ M => ∃ j_12 : Option D, ∃ j_13 : Option D, ρ = [some (.ref 0), some ((eV eI).e v_minutes), some (eI.e many_1), some ((eO eI).e y_2), some ((eL eI).e l_5), none, some ((eO eI).e y_6), j_12, j_13, none, none, none, none, none] ∧ M = [cl eI v_draws]) (fun (e : (Bool × (List Int))) d M => fin false 1 d M = some (eB.e e.1, [cl eI e.2])) (cA := eI) (s := ()) (i_rg1 (x_cons (x_int _) (x_nil)) (by rfl)) hs ⟨_, _, rfl, rfl⟩ (fun _ _ _ _ => chk_0) ?_ ?_ ?_
      · rintro times_14 s_11 _ _ _ h ⟨j_12, j_13, rfl, rfl⟩
        refine w_stp rfl ?_
        refine w_add ?_
        refine w_assoc ?_
        obtain ⟨r_15, h11, h⟩ := bnd h
        obtain ⟨z_21, h16, h⟩ := bnd h
        obtain ⟨l_22, h17, h⟩ := bnd h
        refine w_set (c := (eV eI)) (x_b (x_cons (x_fz (c := eI) (x_lcG (cB := eI) (i_rg1 (x_cons (x_var rfl) (x_nil)) h11) chk_0 h16 h17 (fun k_16 => ⟨_, rfl, fun _ h => by obtain ⟨x_17, h12, h⟩ := bnd h; obtain ⟨w_18, h13, h⟩ := bnd h; obtain ⟨m_19, h14, h⟩ := bnd h; obtain rfl := Option.some.inj h; exact x_f2T (x_f2 (x_var rfl) (x_var rfl) (g_at (c := eI) s_L h12)) (x_f2 (x_var rfl) (x_cast (c := eI) (x_var rfl) h13) (g_mul h14)) (c_int _), fun _ h => by obtain ⟨x_20, h15, h⟩ := bnd h; obtain rfl := Option.some.inj h; exact x_f2 (x_var rfl) (x_var rfl) (g_at (c := eI) s_V h15)⟩))) (x_nil)) (b_tuple (c := eI) s_L)) ?_
        obtain ⟨y_23, h18, h⟩ := bnd h
        obtain ⟨q_24, h19, h⟩ := bnd h
        refine w_ifT (k_not (k_tru (x_call (x_cons (x_call (x_cons (x_var rfl) (x_cons (x_var rfl) (x_nil))) (p_v (cR := (eV eI)) (av_c _ _ (av_c _ _ (av_nil))) (r_without_far h18))) (x_cons (x_var rfl) (x_nil))) (p_sameT (c := (eV eI)) h19)) (tr_B _))) h (fun h => ?_) (fun h => ?_)
        · obtain rfl := Option.some.inj h
          refine w_ret (x_bl _) ?_
          exact r_r (f_v1 eB _)
        · refine w_next ?_
          obtain rfl := Option.some.inj h
          exact w_end (e_r _ ⟨_, _, rfl, rfl⟩)
      · rintro e _ _ rfl hq
        obtain rfl := Option.some.inj h10
        exact hq
      · rintro s_25 _ _ rfl ⟨j_26, j_27, rfl, rfl⟩
        have h := h10
        rw [cas_go] at h
        refine w_assoc ?_
        obtain ⟨total_28, h20, h⟩ := lbnd h
        refine w_setE (c := eI) (x_b (x_cons (x_var rfl) (x_nil)) (b_sum s_V)) h20 ?_
        refine w_assoc ?_
        obtain ⟨y_29, h21, h⟩ := bnd h
        refine w_set (c := eI) (x_call (x_cons (x_var rfl) (x_cons (x_var rfl) (x_nil))) (p_v (cR := eI) (av_c _ _ (av_c _ _ (av_nil))) (r_law_divisor h21))) ?_
        refine w_assoc ?_
        obtain ⟨y_30, h22, h⟩ := bnd h
        obtain ⟨m_31, h23, h⟩ := bnd h
        obtain ⟨m_32, h24, h⟩ := bnd h
        refine w_ifT (k_not (k_tru (x_call (x_cons (x_call (x_cons (x_var rfl) (x_nil)) (p_v (cR := (e2 eI eI)) (av_c _ _ (av_nil)) (r_mean_of_picks h22))) (x_cons (x_tup2 (x_cons (x_f2 (x_var rfl) (x_var rfl) (g_div h23)) (x_cons (x_f2 (x_var rfl) (x_var rfl) (g_div h24)) (x_nil)))) (x_nil))) (p_same (c := (e2 eI eI)) _ _)) (tr_B _))) h (fun h => ?_) (fun h => ?_)
        · obtain rfl := Option.some.inj h
          refine w_ret (x_bl _) ?_
          exact f_v1 eB _
        · refine w_next ?_
          refine w_assoc ?_
          obtain ⟨l_37, h27, h⟩ := bnd h
          refine w_set (c := (eV eI)) (x_b (x_cons (x_fz (c := eI) (x_lcS (S := (List Int)) (cB := eI) (fun (s_35 : (List Int)) => [cl eI s_35]) (s := v_draws) (i_sq (c := eI) (x_var rfl) s_V rfl) (fun _ => chk_0) h27 (fun minute_33 s_35 => ⟨_, rfl, fun y_38 s_39 h => by obtain ⟨y_36, h26, h⟩ := bnd h; obtain ⟨rfl, rfl⟩ := pinj h; exact x_f2 (x_int _) (x_callS (x_cons (x_var rfl) (x_cons (x_int _) (x_nil))) (p_s (cR := eI) (c := eI) rfl rfl (av_c eN () (av_c _ _ (av_nil))) (r_law_take h26) rfl)) (g_add _ _)⟩))) (x_nil)) (b_tuple (c := eI) s_L)) ?_
          change WP _ [some (.ref 0), some ((eV eI).e v_minutes), some (eI.e many_1), some ((eO eI).e y_2), some ((eL eI).e l_5), none, some ((eO eI).e y_6), j_26, j_27, none, some (eI.e total_28), some (eI.e y_29), some ((eV eI).e l_37.1), none] _ _
          refine w_assoc ?_
          refine w_setR (x_mut (c := eN) (x_lst (c := eN) ([] : List Unit) (x_nil) rfl rfl)) ?_
          refine w_assoc ?_
          obtain ⟨s_50, hs, h⟩ := bnd h
          refine w_fold (fun (s_40 : (List (Int × Int))) ρ M => ∃ j_41 : Option D, ρ = [some (.ref 0), some ((eV eI).e v_minutes), some (eI.e many_1), some ((eO eI).e y_2), some ((eL eI).e l_5), j_41, some ((eO eI).e y_6), j_26, j_27, none, some (eI.e total_28), some (eI.e y_29), some ((eV eI).e l_37.1), some (.ref 1)] ∧ M = [cl eI l_37.2, cl (e2 eI eI) s_40]) (cA := eI) (s := ([] : (List (Int × Int)))) (i_sq (c := eI) (x_var rfl) s_V rfl) hs ⟨_, rfl, rfl⟩ (fun _ _ _ _ => chk_0) ?_ ?_
          · rintro minute_42 s_40 _ _ _ h ⟨j_41, rfl, rfl⟩
            refine w_stp rfl ?_
            refine w_add ?_
            obtain ⟨r_43, h29, h⟩ := bnd h
            obtain ⟨l_48, h33, h⟩ := bnd h
            obtain ⟨sums_49, h34, h⟩ := bnd h
            refine w_drop (x_m (c := (e2 eI eI)) (xs := s_40) (x_var rfl) rfl (x_cons (x_tup2 (x_cons (x_b (x_cons (x_fz (c := eI) (x_lcM (cB := eI) (i_rg1 (x_cons (x_var rfl) (x_nil)) h29) chk_0 h33 (fun k_44 => ⟨_, rfl, fun _ h => by obtain ⟨x_45, h30, h⟩ := bnd h; obtain ⟨x_46, h31, h⟩ := bnd h; obtain ⟨m_47, h32, h⟩ := bnd h; obtain rfl := Option.some.inj h; exact x_f2 (x_f2 (x_var rfl) (x_var rfl) (g_at (c := eI) s_V h30)) (x_call (x_cons (x_f2 (x_var rfl) (x_var rfl) (g_at (c := eI) s_V h31)) (x_cons (x_var rfl) (x_nil))) (p_v (cR := eI) (av_c _ _ (av_c _ _ (av_nil))) (r_law_apart (tp_law_apart x_46 minute_42)))) (g_mul h32)⟩))) (x_nil)) (b_sum s_L)) (x_cons (x_var rfl) (x_nil)))) (x_nil)) (m_app rfl h34 rfl)) ?_
            obtain rfl := Option.some.inj h
            exact w_end (e_0 ⟨_, rfl, rfl⟩)
          · rintro _ _ ⟨j_51, rfl, rfl⟩
            refine w_assoc ?_
            obtain ⟨y_52, h35, h⟩ := bnd h
            obtain ⟨min_53, h36, h⟩ := bnd h
            refine w_ifT (k_not (k_tru (x_call (x_cons (x_call (x_cons (x_var rfl) (x_cons (x_var rfl) (x_nil))) (p_v (cR := eI) (av_c _ _ (av_c _ _ (av_nil))) (r_best_pick h35))) (x_cons (x_f2 (x_b (x_cons (x_var rfl) (x_nil)) (b_min (c := (e2 eI eI)) (s_R rfl) h36)) (x_int _) (g_ix at1)) (x_nil))) (p_same (c := eI) _ _)) (tr_B _))) h (fun h => ?_) (fun h => ?_)
            · obtain rfl := Option.some.inj h
              refine w_ret (x_bl _) ?_
              exact f_v1 eB _
            · refine w_next ?_
              obtain ⟨w_54, h37, h⟩ := bnd h
              obtain ⟨y_55, h38, h⟩ := bnd h
              obtain rfl := Option.some.inj h
              refine w_ret (x_call (x_cons (x_co (x_call (x_cons (x_var rfl) (x_cons (x_f2 (x_co (x_tup1 (x_cons (x_int _) (x_nil))) (show (eV eI).e ([((1 : Int))]) = (e1 eI).e ((1 : Int)) from (fun _ => rfl) ((1 : Int)))) (x_var rfl) (g_repV h37)) (x_nil))) (p_v (cR := eI) (av_c _ _ (av_c _ _ (av_nil))) (r_best_pick h38))) (show (eO eI).e ((some y_55)) = eI.e y_55 from (fun _ => rfl) y_55)) (x_cons (x_var rfl) (x_nil))) (p_same (c := (eO eI)) _ _)) ?_
              exact f_v1 eB _
theorem r_law_apart_2 {v_one : (Option Int)} {v_other : (Option Int)} {r : Int} (h : t_law_apart_2 v_one v_other = some r) : c_law_apart [(eO eI).e v_one, (eO eI).e v_other] [] = some (eI.e r, []) := by
  unfold t_law_apart_2 at h
  refine run_wp (f := b_law_apart) (n := 2) ?_
  refine w_add ?_
  obtain ⟨w_1, h1, h⟩ := bnd h
  obtain ⟨w_2, h2, h⟩ := bnd h
  obtain ⟨w_3, h3, h⟩ := bnd h
  obtain ⟨w_4, h4, h⟩ := bnd h
  obtain rfl := Option.some.inj h
  refine w_ret (x_f2 (x_b (x_cons (x_cast (c := eI) (x_var rfl) h1) (x_cons (x_cast (c := eI) (x_var rfl) h2) (x_nil))) (b_max2 _ _)) (x_b (x_cons (x_cast (c := eI) (x_var rfl) h3) (x_cons (x_cast (c := eI) (x_var rfl) h4) (x_nil))) (b_min2 _ _)) (g_sub _ _)) ?_
  exact f_v0 eI _
theorem r_law_moved_right {v_minutes : (List Int)} {r : Bool} (h : t_law_moved_right v_minutes = some r) : c_law_moved_right [(eV eI).e v_minutes] [] = some (eB.e r, []) := by
  unfold t_law_moved_right at h
  refine run_wp (f := b_law_moved_right) (n := 7) ?_
  refine w_add ?_
  refine w_assoc ?_
  obtain ⟨y_1, h1, h⟩ := bnd h
  refine w_set (c := (eO eI)) (x_call (x_cons (x_var rfl) (x_nil)) (p_v (cR := (eO eI)) (av_c _ _ (av_nil)) (r_law_middle h1))) ?_
  refine w_assoc ?_
  obtain ⟨w_3, h2, h⟩ := bnd h
  obtain ⟨min_4, h3, h⟩ := bnd h
  obtain ⟨max_5, h4, h⟩ := bnd h
  obtain ⟨w_6, h5, h⟩ := bnd h
  obtain ⟨u_7, h6, h⟩ := bnd h
  refine w_set (c := (eL eI)) (x_fz (c := eI) (x_bN (x_cons (x_f2 (x_f2 (x_var rfl) (x_b (x_cons (x_fz (c := eI) (x_lc0 (cB := eI) (g := fun (minute_2 : Int) => (minute_2 + (1 : Int))) (i_sq (c := eI) (x_var rfl) s_V rfl) chk_0 (fun minute_2 => ⟨_, rfl, x_f2 (x_var rfl) (x_int _) (g_add _ _)⟩))) (x_nil)) (b_tuple (c := eI) s_L)) (g_catV (c := eI) h2)) (x_co (x_tup2 (x_cons (x_f2 (x_b (x_cons (x_var rfl) (x_nil)) (b_min (c := eI) s_V h3)) (x_int _) (g_sub _ _)) (x_cons (x_f2 (x_b (x_cons (x_var rfl) (x_nil)) (b_max (c := eI) s_V h4)) (x_int _) (g_add _ _)) (x_nil)))) (show (eV eI).e ([(((min_4 - (99 : Int)), (max_5 + (99 : Int)))).1, (((min_4 - (99 : Int)), (max_5 + (99 : Int)))).2]) = (e2 eI eI).e (((min_4 - (99 : Int)), (max_5 + (99 : Int)))) from (fun _ => rfl) (((min_4 - (99 : Int)), (max_5 + (99 : Int)))))) (g_catV (c := eI) h5)) (x_nil)) (n_sortU s_V h6))) ?_
  refine w_assoc ?_
  refine w_set (c := eI) (x_int _) ?_
  change WP _ [some ((eV eI).e v_minutes), some ((eO eI).e y_1), some ((eL eI).e u_7), none, some (eI.e ((0 : Int))), none, none] _ _
  refine w_assoc ?_
  obtain ⟨r_8, h7, h⟩ := bnd h
  obtain ⟨s_26, hs, h⟩ := bnd h
  refine w_fold (fun (s_9 : Int) ρ M => ∃ j_10 : Option D, ∃ j_11 : Option D, ∃ j_12 : Option D, ρ = [some ((eV eI).e v_minutes), some ((eO eI).e y_1), some ((eL eI).e u_7), j_10, some (eI.e s_9), j_11, j_12] ∧ M = []) (cA := eI) (s := (0 : Int)) (i_rg1 (x_cons (x_b (x_cons (x_var rfl) (x_nil)) (b_len (c := eI) s_V)) (x_nil)) h7) hs ⟨_, _, _, rfl, rfl⟩ (fun _ _ _ _ => chk_0) ?_ ?_
  · rintro k_13 s_9 _ _ _ h ⟨j_10, j_11, j_12, rfl, rfl⟩
    refine w_stp rfl ?_
    refine w_add ?_
    obtain ⟨s_23, hs, h⟩ := bnd h
    refine w_fold (fun (s_14 : Int) ρ M => ∃ j_15 : Option D, ∃ j_16 : Option D, ρ = [some ((eV eI).e v_minutes), some ((eO eI).e y_1), some ((eL eI).e u_7), j_15, some (eI.e s_14), some (eI.e k_13), j_16] ∧ M = []) (cA := eI) (s := s_9) (i_sq (c := eI) (x_var rfl) s_L rfl) hs ⟨_, _, rfl, rfl⟩ (fun _ _ _ _ => chk_0) ?_ ?_
    · rintro minute_17 s_14 _ _ _ h ⟨j_15, j_16, rfl, rfl⟩
      refine w_stp rfl ?_
      refine w_add ?_
      refine w_assoc ?_
      obtain ⟨w_18, h10, h⟩ := bnd h
      obtain ⟨w_19, h11, h⟩ := bnd h
      obtain ⟨y_20, h12, h⟩ := bnd h
      refine w_set (c := (eO eI)) (x_call (x_cons (x_f2 (x_f2 (x_slice (x_var rfl) (o_none) (o_part (x_var rfl)) g_slV) (x_co (x_tup1 (x_cons (x_var rfl) (x_nil))) (show (eV eI).e ([minute_17]) = (e1 eI).e minute_17 from (fun _ => rfl) minute_17)) (g_catV (c := eI) h10)) (x_slice (x_var rfl) (o_part (x_f2 (x_var rfl) (x_int _) (g_add _ _))) (o_none) g_slV) (g_catV (c := eI) h11)) (x_nil)) (p_v (cR := (eO eI)) (av_c _ _ (av_nil)) (r_law_middle h12))) ?_
      obtain ⟨y_21, h13, h⟩ := bnd h
      obtain ⟨best_22, h14, h⟩ := lbnd h
      refine w_setE (c := eI) (x_b (x_cons (x_var rfl) (x_cons (x_call (x_cons (x_var rfl) (x_cons (x_var rfl) (x_nil))) (p_v (cR := eI) (av_c _ _ (av_c _ _ (av_nil))) (r_law_apart_2 h13))) (x_nil))) (b_max2 _ _)) h14 ?_
      obtain rfl := Option.some.inj h
      exact w_end (e_0 ⟨_, _, rfl, rfl⟩)
    · rintro _ _ ⟨j_24, j_25, rfl, rfl⟩
      obtain rfl := Option.some.inj h
      exact w_end (e_0 ⟨_, _, _, rfl, rfl⟩)
  · rintro _ _ ⟨j_27, j_28, j_29, rfl, rfl⟩
    obtain ⟨y_30, h15, h⟩ := bnd h
    obtain rfl := Option.some.inj h
    refine w_ret (x_call (x_cons (x_call (x_cons (x_var rfl) (x_nil)) (p_v (cR := eI) (av_c _ _ (av_nil)) (r_moved_by_one h15))) (x_cons (x_var rfl) (x_nil))) (p_same (c := eI) _ _)) ?_
    exact f_v0 eB _
theorem r_law_part_two {v_script : (List Int)} {r : Bool} (h : t_law_part_two v_script = some r) : c_law_part_two [(eK eI).e v_script] [] = some (eB.e r, []) := by
  unfold t_law_part_two at h
  refine run_wp (f := b_law_part_two) (n := 4) ?_
  refine w_add ?_
  refine w_assoc ?_
  obtain ⟨y_1, h1, h⟩ := bnd h
  refine w_setR (x_call (x_cons (x_var rfl) (x_cons (x_int _) (x_nil))) (p_m (av_c _ _ (av_c _ _ (av_nil))) (r_law_draws h1))) ?_
  refine w_assoc ?_
  obtain ⟨r_40, hs, h2⟩ := bnd h
  refine w_forr (fun (s_2 : (List Int)) ρ M => ∃ j_3 : Option D, ∃ j_4 : Option D, ρ = [some ((eK eI).e v_script), some (.ref 0), j_3, j_4] ∧ M = [cl eI s_2]) (fun (e : Bool) d M => fin false 0 d M = some (eB.e e, [])) (cA := eI) (s := y_1) (i_rg1 (x_cons (x_int _) (x_nil)) (by rfl)) hs ⟨_, _, rfl, rfl⟩ (fun _ _ _ _ => chk_0) ?_ ?_ ?_
  · rintro k_5 s_2 _ _ _ h ⟨j_3, j_4, rfl, rfl⟩
    refine w_stp rfl ?_
    refine w_add ?_
    refine w_assoc ?_
    obtain ⟨x_6, h3, h⟩ := bnd h
    obtain ⟨y_7, h4, h⟩ := bnd h
    obtain ⟨y_8, h5, h⟩ := bnd h
    refine w_set (c := (eV eI)) (x_callS (x_cons (x_var rfl) (x_cons (x_var rfl) (x_cons (x_f2 (x_int _) (x_callS (x_cons (x_var rfl) (x_cons (x_f2 (x_fz (c := eI) (x_lst (c := eI) [(5 : Int), (12 : Int), (8 : Int)] (x_cons (x_int _) (x_cons (x_int _) (x_cons (x_int _) (x_nil)))) rfl rfl)) (x_var rfl) (g_at (c := eI) s_L h3)) (x_nil))) (p_s (cR := eI) (c := eI) rfl rfl (av_c eN () (av_c _ _ (av_nil))) (r_law_take h4) rfl)) (g_add _ _)) (x_nil)))) (p_s (cR := (eV eI)) (c := eI) rfl rfl (av_c eN () (av_c _ _ (av_c _ _ (av_nil)))) (r_law_b_minutes h5) rfl)) ?_
    obtain ⟨y_9, h6, h⟩ := bnd h
    obtain ⟨w_12, h9, h⟩ := bnd h
    refine w_ifT (k_orM (k_not (k_tru (x_callS (x_cons (x_var rfl) (x_cons (x_var rfl) (x_nil))) (p_s (cR := eB) (c := eI) rfl rfl (av_c eN () (av_c _ _ (av_nil))) (r_law_right h6) rfl)) (tr_B _))) h9 (fun h => by obtain ⟨w_11, h8, h⟩ := bnd h; obtain rfl := Option.some.inj h; exact k_andM (x_f2T (x_b (x_cons (x_var rfl) (x_nil)) (b_len (c := eI) s_V)) (x_int _) (c_int _)) h8 (fun h => by obtain ⟨y_10, h7, h⟩ := bnd h; obtain rfl := Option.some.inj h; exact k_not (k_tru (x_call (x_cons (x_var rfl) (x_nil)) (p_v (cR := eB) (av_c _ _ (av_nil)) (r_law_moved_right h7))) (tr_B _))))) h (fun h => ?_) (fun h => ?_)
    · obtain rfl := Option.some.inj h
      refine w_ret (x_bl _) ?_
      exact r_r (f_v0 eB _)
    · refine w_next ?_
      obtain rfl := Option.some.inj h
      exact w_end (e_r _ ⟨_, _, rfl, rfl⟩)
  · rintro e _ _ rfl hq
    obtain rfl := Option.some.inj h2
    exact hq
  · rintro s_13 _ _ rfl ⟨j_14, j_15, rfl, rfl⟩
    have h := h2
    rw [cas_go] at h
    refine w_assoc ?_
    obtain ⟨y_16, h10, h⟩ := bnd h
    obtain ⟨w_21, h14, h⟩ := bnd h
    refine w_ifT (k_andS (S := (List Int)) (s0 := y_16.2) (r := w_21) (fun (s_20 : (List Int)) => [cl eI s_20]) (x_f2T (x_callS (x_cons (x_var rfl) (x_cons (x_int _) (x_nil))) (p_s (cR := eI) (c := eI) rfl rfl (av_c eN () (av_c _ _ (av_nil))) (r_law_take h10) rfl)) (x_int _) (c_eq (c := eI) (v_ec _ _) (v_ec _ _))) h14 (fun h => by obtain ⟨y_17, h11, h⟩ := bnd h; obtain ⟨y_18, h12, h⟩ := bnd h; obtain ⟨y_19, h13, h⟩ := bnd h; obtain rfl := Option.some.inj h; exact k_not (k_tru (x_callS (x_cons (x_var rfl) (x_cons (x_callS (x_cons (x_var rfl) (x_cons (x_var rfl) (x_cons (x_f2 (x_int _) (x_callS (x_cons (x_var rfl) (x_cons (x_int _) (x_nil))) (p_s (cR := eI) (c := eI) rfl rfl (av_c eN () (av_c _ _ (av_nil))) (r_law_take h11) rfl)) (g_sub _ _)) (x_nil)))) (p_s (cR := (eV eI)) (c := eI) rfl rfl (av_c eN () (av_c _ _ (av_c _ _ (av_nil)))) (r_law_b_minutes h12) rfl)) (x_nil))) (p_s (cR := eB) (c := eI) rfl rfl (av_c eN () (av_c _ _ (av_nil))) (r_law_right h13) rfl)) (tr_B _)))) h (fun h => ?_) (fun h => ?_)
    · obtain rfl := Option.some.inj h
      refine w_ret (x_bl _) ?_
      exact f_v0 eB _
    · refine w_next ?_
      refine w_assoc ?_
      obtain ⟨minutes_22, h15, h⟩ := lbnd h
      refine w_setE (c := (e4 eI eI eI eI)) (x_tup4 (x_cons (x_int _) (x_cons (x_int _) (x_cons (x_int _) (x_cons (x_int _) (x_nil)))))) h15 ?_
      refine w_assoc ?_
      obtain ⟨y_23, h16, h⟩ := bnd h
      obtain ⟨w_28, h21, h⟩ := bnd h
      refine w_ifT (k_orM (k_not (k_tru (x_call (x_cons (x_call (x_cons (x_co (x_var rfl) (show (eV eI).e ([minutes_22.1, minutes_22.2.1, minutes_22.2.2.1, minutes_22.2.2.2]) = (e4 eI eI eI eI).e minutes_22 from (fun _ => rfl) minutes_22)) (x_nil)) (p_v (cR := eI) (av_c _ _ (av_nil)) (r_middle_pick h16))) (x_cons (x_int _) (x_nil))) (p_same (c := eI) _ _)) (tr_B _))) h21 (fun h => by obtain ⟨y_24, h17, h⟩ := bnd h; obtain ⟨w_27, h20, h⟩ := bnd h; obtain rfl := Option.some.inj h; exact k_orM (k_not (k_tru (x_call (x_cons (x_call (x_cons (x_co (x_var rfl) (show (eV eI).e ([minutes_22.1, minutes_22.2.1, minutes_22.2.2.1, minutes_22.2.2.2]) = (e4 eI eI eI eI).e minutes_22 from (fun _ => rfl) minutes_22)) (x_nil)) (p_v (cR := eI) (av_c _ _ (av_nil)) (r_spread_of_picks h17))) (x_cons (x_int _) (x_nil))) (p_same (c := eI) _ _)) (tr_B _))) h20 (fun h => by obtain ⟨y_25, h18, h⟩ := bnd h; obtain ⟨q_26, h19, h⟩ := bnd h; obtain rfl := Option.some.inj h; exact k_not (k_tru (x_call (x_cons (x_call (x_cons (x_co (x_var rfl) (show (eV eI).e ([minutes_22.1, minutes_22.2.1, minutes_22.2.2.1, minutes_22.2.2.2]) = (e4 eI eI eI eI).e minutes_22 from (fun _ => rfl) minutes_22)) (x_cons (x_int _) (x_nil))) (p_v (cR := (eV eI)) (av_c _ _ (av_c _ _ (av_nil))) (r_without_far h18))) (x_cons (x_co (x_tup3 (x_cons (x_int _) (x_cons (x_int _) (x_cons (x_int _) (x_nil))))) (show (eV eI).e ([(((9 : Int), (4 : Int), (5 : Int))).1, (((9 : Int), (4 : Int), (5 : Int))).2.1, (((9 : Int), (4 : Int), (5 : Int))).2.2]) = (e3 eI eI eI).e (((9 : Int), (4 : Int), (5 : Int))) from (fun _ => rfl) (((9 : Int), (4 : Int), (5 : Int))))) (x_nil))) (p_sameT (c := (eV eI)) h19)) (tr_B _))))) h (fun h => ?_) (fun h => ?_)
      · obtain rfl := Option.some.inj h
        refine w_ret (x_bl _) ?_
        exact f_v0 eB _
      · refine w_next ?_
        refine w_assoc ?_
        obtain ⟨y_29, h22, h⟩ := bnd h
        obtain ⟨w_33, h26, h⟩ := bnd h
        refine w_ifT (k_orM (k_not (k_tru (x_call (x_cons (x_call (x_cons (x_co (x_var rfl) (show (eV eI).e ([minutes_22.1, minutes_22.2.1, minutes_22.2.2.1, minutes_22.2.2.2]) = (e4 eI eI eI eI).e minutes_22 from (fun _ => rfl) minutes_22)) (x_nil)) (p_v (cR := (e2 eI eI)) (av_c _ _ (av_nil)) (r_mean_of_picks h22))) (x_cons (x_tup2 (x_cons (x_int _) (x_cons (x_int _) (x_nil)))) (x_nil))) (p_same (c := (e2 eI eI)) _ _)) (tr_B _))) h26 (fun h => by obtain ⟨y_30, h23, h⟩ := bnd h; obtain ⟨w_32, h25, h⟩ := bnd h; obtain rfl := Option.some.inj h; exact k_orM (k_not (k_tru (x_call (x_cons (x_call (x_cons (x_co (x_var rfl) (show (eV eI).e ([minutes_22.1, minutes_22.2.1, minutes_22.2.2.1, minutes_22.2.2.2]) = (e4 eI eI eI eI).e minutes_22 from (fun _ => rfl) minutes_22)) (x_nil)) (p_v (cR := eI) (av_c _ _ (av_nil)) (r_moved_by_one h23))) (x_cons (x_int _) (x_nil))) (p_same (c := eI) _ _)) (tr_B _))) h25 (fun h => by obtain ⟨y_31, h24, h⟩ := bnd h; obtain rfl := Option.some.inj h; exact k_not (k_tru (x_call (x_cons (x_call (x_cons (x_co (x_var rfl) (show (eV eI).e ([minutes_22.1, minutes_22.2.1, minutes_22.2.2.1, minutes_22.2.2.2]) = (e4 eI eI eI eI).e minutes_22 from (fun _ => rfl) minutes_22)) (x_cons (x_co (x_tup4 (x_cons (x_int _) (x_cons (x_int _) (x_cons (x_int _) (x_cons (x_int _) (x_nil)))))) (show (eV eI).e ([(((1 : Int), (1 : Int), (1 : Int), (9 : Int))).1, (((1 : Int), (1 : Int), (1 : Int), (9 : Int))).2.1, (((1 : Int), (1 : Int), (1 : Int), (9 : Int))).2.2.1, (((1 : Int), (1 : Int), (1 : Int), (9 : Int))).2.2.2]) = (e4 eI eI eI eI).e (((1 : Int), (1 : Int), (1 : Int), (9 : Int))) from (fun _ => rfl) (((1 : Int), (1 : Int), (1 : Int), (9 : Int))))) (x_nil))) (p_v (cR := eI) (av_c _ _ (av_c _ _ (av_nil))) (r_best_pick h24))) (x_cons (x_int _) (x_nil))) (p_same (c := eI) _ _)) (tr_B _))))) h (fun h => ?_) (fun h => ?_)
        · obtain rfl := Option.some.inj h
          refine w_ret (x_bl _) ?_
          exact f_v0 eB _
        · refine w_next ?_
          obtain ⟨y_34, h27, h⟩ := bnd h
          obtain ⟨w_39, h32, h⟩ := bnd h
          obtain rfl := Option.some.inj h
          refine w_ret (x_andM (x_call (x_cons (x_call (x_cons (x_co (x_tup2 (x_cons (x_f1 (x_int _) (g_neg _)) (x_cons (x_f1 (x_int _) (g_neg _)) (x_nil)))) (show (eV eI).e ([(((-3 : Int), (-4 : Int))).1, (((-3 : Int), (-4 : Int))).2]) = (e2 eI eI).e (((-3 : Int), (-4 : Int))) from (fun _ => rfl) (((-3 : Int), (-4 : Int))))) (x_nil)) (p_v (cR := (e2 eI eI)) (av_c _ _ (av_nil)) (r_mean_of_picks h27))) (x_cons (x_tup2 (x_cons (x_f1 (x_int _) (g_neg _)) (x_cons (x_int _) (x_nil)))) (x_nil))) (p_same (c := (e2 eI eI)) _ _)) h32 (fun h => by obtain ⟨y_35, h28, h⟩ := bnd h; obtain ⟨w_38, h31, h⟩ := bnd h; obtain rfl := Option.some.inj h; exact x_andM (x_call (x_cons (x_call (x_cons (x_co (x_tup1 (x_cons (x_int _) (x_nil))) (show (eV eI).e ([((7 : Int))]) = (e1 eI).e ((7 : Int)) from (fun _ => rfl) ((7 : Int)))) (x_nil)) (p_v (cR := eI) (av_c _ _ (av_nil)) (r_middle_pick h28))) (x_cons (x_int _) (x_nil))) (p_same (c := eI) _ _)) h31 (fun h => by obtain ⟨y_36, h29, h⟩ := bnd h; obtain ⟨q_37, h30, h⟩ := bnd h; obtain rfl := Option.some.inj h; exact x_call (x_cons (x_call (x_cons (x_co (x_tup3 (x_cons (x_int _) (x_cons (x_int _) (x_cons (x_int _) (x_nil))))) (show (eV eI).e ([(((1 : Int), (1 : Int), (5 : Int))).1, (((1 : Int), (1 : Int), (5 : Int))).2.1, (((1 : Int), (1 : Int), (5 : Int))).2.2]) = (e3 eI eI eI).e (((1 : Int), (1 : Int), (5 : Int))) from (fun _ => rfl) (((1 : Int), (1 : Int), (5 : Int))))) (x_cons (x_int _) (x_nil))) (p_v (cR := (eV eI)) (av_c _ _ (av_c _ _ (av_nil))) (r_without_far h29))) (x_cons (x_co (x_tup2 (x_cons (x_int _) (x_cons (x_int _) (x_nil)))) (show (eV eI).e ([(((1 : Int), (1 : Int))).1, (((1 : Int), (1 : Int))).2]) = (e2 eI eI).e (((1 : Int), (1 : Int))) from (fun _ => rfl) (((1 : Int), (1 : Int))))) (x_nil))) (p_sameT (c := (eV eI)) h30)))) ?_
          exact f_v0 eB _
theorem r_law {v_script : (List Int)} {r : Bool} (h : t_law v_script = some r) : claw [(eK eI).e v_script] [] = some (eB.e r, []) := by
  unfold t_law at h
  refine run_wp (f := blaw) (n := 1) ?_
  refine w_add ?_
  obtain ⟨y_1, h1, h⟩ := bnd h
  obtain ⟨w_3, h3, h⟩ := bnd h
  obtain rfl := Option.some.inj h
  refine w_ret (x_andM (x_call (x_cons (x_var rfl) (x_nil)) (p_v (cR := eB) (av_c _ _ (av_nil)) (r_law_part_one h1))) h3 (fun h => by obtain ⟨y_2, h2, h⟩ := bnd h; obtain rfl := Option.some.inj h; exact x_call (x_cons (x_var rfl) (x_nil)) (p_v (cR := eB) (av_c _ _ (av_nil)) (r_law_part_two h2)))) ?_
  exact f_v0 eB _
end LP
namespace LP
open PySem PySem.Spec PyProof.Rows L2 PF TL
theorem take_sp {ds : List Int} {m : Int} (hm : 0 < m) : Post (t_law_take ds m) fun r => 0 ≤ r.1 ∧ r.1 < m := by
  unfold t_law_take
  refine Post.ite (fun _ => Post.pure ⟨Int.le_refl _, hm⟩) fun h => ?_
  have hl : ds.length - 1 < ds.length := by
    have : ds.length ≠ 0 := fun z => h (by simp [z])
    omega
  refine Post.bind (P := fun _ => True) ⟨_, by unfold tpop; rw [List.getElem?_eq_getElem hl]; rfl, trivial⟩ fun p _ => ?_
  refine Post.eqb (tmod_ok (by omega)) (Post.pure ?_)
  exact fmod_pos hm
theorem draws_sp (ns : List Int) {many : Int} (h0 : 0 ≤ many) (h1 : many ≤ 100000) (hn : ns.length ≤ 1000) : Post (t_law_draws ns many) fun _ => True := by
  unfold t_law_draws
  refine Post.let ?_
  refine Post.bind (P := fun s : List Int => 0 < s.length) ?_ fun s3 hs => ?_
  · refine Post.ite (fun h => ?_) fun h => Post.pure ?_
    · refine Post.eqb (tapp_ok (by rw [List.length_map]; omega)) (Post.pure ?_)
      simp
    · have : ns ≠ [] := fun z => h (by simp [z])
      have := List.length_pos_iff.mpr this
      simpa using this
  refine Post.eqb (trg_of (by omega) (by omega) (by omega) (by omega)) ?_
  refine Post.bind (P := fun _ => True) ?_ fun s _ => Post.pure trivial
  refine Post.imp (tfold_post (fun pre (s : List Int × List Int) => s.1.length = s3.length ∧ s.2.length ≤ pre.length) ⟨rfl, Nat.le_refl _⟩ ?_) fun _ _ => trivial
  rintro pre k suf ⟨rest, draws⟩ hxs ⟨i1, i2⟩
  have hp : pre.length < 100000 := by
    have := congrArg List.length hxs
    simp only [len_upto, List.length_append, List.length_cons] at this
    omega
  have hk : 0 ≤ k := by
    have : k ∈ upto 0 (many - 0).toNat := by rw [hxs]; simp
    exact (mem_upto.mp this).1
  dsimp only at i1 i2 ⊢
  have hm := fmod_pos (a := k) (b := s3.length) (by omega)
  refine Post.eqb (tmod_ok (by omega)) ?_
  obtain ⟨x, hx, _, _⟩ := tat_in (xs := s3) hm.1 hm.2
  obtain ⟨y, hy, _, _⟩ := tat_in (xs := rest) (i := k.fmod s3.length) hm.1 (by omega)
  rw [hx, Option.bind_some]
  refine Post.bind (P := fun _ => True) ?_ fun b _ => ?_
  · refine Post.ite (fun _ => ?_) fun _ => Post.pure trivial
    rw [hy]; exact Post.pure trivial
  refine Post.bind (P := fun s : List Int × List Int => s.1.length = s3.length ∧ s.2.length ≤ pre.length + 1) ?_ fun s h => Post.pure (by simpa using h)
  refine Post.ite (fun _ => ?_) fun _ => ?_
  · rw [hy, Option.bind_some, tapp_ok (by omega), Option.bind_some, Option.bind_some]
    have e : tset rest (k.fmod s3.length) (y.fdiv 1000) = some (rest.set (k.fmod s3.length).toNat (y.fdiv 1000)) := by
      unfold tset L2.ixN
      rw [if_pos hm.1, if_pos (by omega)]; rfl
    rw [e]
    exact Post.pure ⟨by simp [i1], by simp; omega⟩
  · rw [Option.bind_some]
    refine Post.let ?_
    have hv := fmod_pos (a := x * 48271 + k * 69621 + 11) (b := 2147483647) (by decide)
    refine Post.eqb (tmul_r (by omega)) (Post.eqb (tapp_ok (by omega)) (Post.pure ⟨i1, by simp; omega⟩))
theorem cellp_sp (ns : List Int) (at_ : Int) : Post (t_law_cell ns at_) fun r => r.natAbs < 10 ^ 60 := by
  unfold t_law_cell
  refine Post.ite (fun _ => Post.pure (show (0 : Int).natAbs < 10 ^ 60 from by decide)) fun h => ?_
  have hl : 0 < (ns.length : Int) := by
    have : (ns.length : Int) ≠ 0 := fun z => h (by simpa using z)
    omega
  have hy := fmod_pos (a := at_) hl
  rw [tmod_ok (by omega), Option.bind_some]
  obtain ⟨x, hx, _, _⟩ := tat_in (xs := ns) hy.1 hy.2
  rw [hx, Option.bind_some]
  have hv := fmod_pos (a := (x.natAbs : Int)) (b := (10 : Int) ^ 60) (by decide)
  by_cases hc : x < 0
  · refine Post.eqb (a := -1) (by rw [if_pos (decide_eq_true hc)]; rfl) (Post.eqb (tmul_r (by decide)) (Post.pure ?_))
    show (Int.fmod (x.natAbs : Int) (10 ^ 60) * -1).natAbs < 10 ^ 60
    omega
  · refine Post.eqb (a := 1) (by rw [if_neg (by simpa using hc)]; rfl) (Post.eqb (tmul_r (by decide)) (Post.pure ?_))
    show (Int.fmod (x.natAbs : Int) (10 ^ 60) * 1).natAbs < 10 ^ 60
    omega
theorem okV_of {A : Type} {f : A → Bool} {xs : List A} (h : xs.length ≤ 1000000) (h2 : ∀ x ∈ xs, f x = true) : okV f xs = true := by
  unfold okV
  rw [Bool.and_eq_true, List.all_eq_true]
  exact ⟨Nat.ble_eq.mpr h, h2⟩
theorem tsame_ok {A : Type} [DecidableEq A] {ok : A → Bool} {a : A} (h : ok a = true) : tsame ok a a = some true := by
  unfold tsame
  rw [h]; simp
/-- a loop that appends g x where q x says so -/
theorem fold_sel {A B : Type} {f : A → List B → Option (List B)} {q : A → Bool} {g : A → B} : ∀ (xs : List A) (acc : List B), (∀ x ∈ xs, ∀ s : List B, s.length < 10000000 → f x s = some (if q x = true then s ++ [g x] else s)) → acc.length + xs.length ≤ 10000000 → tfold f xs acc = some (acc ++ (xs.filter q).map g)
  | [], acc, _, _ => by simp [tfold]
  | x :: xs, acc, h, hl => by
    rw [List.length_cons] at hl
    rw [tfold, h x (by simp) acc (by omega), Option.bind_some]
    by_cases hq : q x = true
    · rw [if_pos hq, fold_sel xs _ (fun y hy => h y (List.mem_cons_of_mem _ hy)) (by simp; omega), List.filter_cons_of_pos hq, List.map_cons, List.append_assoc]; rfl
    · rw [if_neg hq, fold_sel xs _ (fun y hy => h y (List.mem_cons_of_mem _ hy)) (by omega), List.filter_cons_of_neg hq]
/-- the same, nothing before it and x itself appended -/
theorem fold_self {A : Type} {f : A → List A → Option (List A)} {q : A → Bool} {xs : List A} (h : ∀ x ∈ xs, ∀ s : List A, s.length < 10000000 → f x s = some (if q x = true then s ++ [x] else s)) (hl : xs.length ≤ 10000000) : tfold f xs [] = some (xs.filter q) := by
  have := fold_sel (g := id) xs [] h (by simpa using hl)
  rw [this, List.map_id]; rfl
theorem idx_map {A : Type} {xs : List A} {G : Int → A} (h : ∀ (k : Nat) x, xs[k]? = some x → G k = x) : (upto 0 xs.length).map G = xs := by
  apply List.ext_getElem?
  intro k
  rw [List.getElem?_map]
  by_cases hk : k < xs.length
  · rw [get_upto hk, List.getElem?_eq_getElem hk, Option.map_some]
    rw [Int.zero_add, h k _ (List.getElem?_eq_getElem hk)]
  · rw [List.getElem?_eq_none (by simpa using Nat.le_of_not_lt hk), List.getElem?_eq_none (by simpa [len_upto] using Nat.le_of_not_lt hk)]; rfl
theorem idx_filter {A : Type} {xs : List A} {G : Int → A} {q : A → Bool} {q' : Int → Bool} (h : ∀ (k : Nat) x, xs[k]? = some x → G k = x) (h2 : ∀ (k : Nat) x, xs[k]? = some x → q' k = q x) : ((upto 0 xs.length).filter q').map G = xs.filter q := by
  have e : (upto 0 xs.length).filter q' = (upto 0 xs.length).filter (q ∘ G) := by
    refine List.filter_congr fun x hx => ?_
    obtain ⟨a, b⟩ := mem_upto.mp hx
    obtain ⟨k, rfl⟩ := Int.eq_ofNat_of_zero_le a
    have hk : k < xs.length := by omega
    have := List.getElem?_eq_getElem hk
    rw [Function.comp_apply, h k _ this, h2 k _ this]
  rw [e]
  rw [← List.filter_map, idx_map h]
theorem upto_nodup (lo : Int) (n : Nat) : (upto lo n).Nodup := by
  unfold upto
  exact List.Pairwise.map _ (fun a b (h : a ≠ b) => by omega) List.nodup_range
theorem small_div {b : Int} (h : b.natAbs < 2 ^ 400) : b.natAbs < 2 ^ 9000 := Nat.lt_of_lt_of_le h (Nat.pow_le_pow_right (by decide) (by decide))
theorem sIx_n {n d k : Nat} : HT.sIx n d (some (k : Int)) = min k n := by
  unfold HT.sIx
  simp only []
  try split <;> omega
theorem cut_to {A : Type} (xs : List A) (k : Nat) : cut xs none (some (k : Int)) = xs.take k := by
  unfold cut
  rw [sIx_n]
  show (xs.drop 0).take (min k xs.length - 0) = _
  rw [List.drop_zero, Nat.sub_zero]
  rcases Nat.le_total k xs.length with h | h
  · rw [Nat.min_eq_left h]
  · rw [Nat.min_eq_right h, List.take_of_length_le (Nat.le_refl _), List.take_of_length_le h]
theorem cut_from {A : Type} (xs : List A) (k : Nat) : cut xs (some (k : Int)) none = xs.drop k := by
  unfold cut
  rw [sIx_n]
  show (xs.drop (min k xs.length)).take (xs.length - min k xs.length) = _
  rw [List.take_of_length_le (by simp)]
  rcases Nat.le_total k xs.length with h | h
  · rw [Nat.min_eq_left h]
  · rw [Nat.min_eq_right h, List.drop_of_length_le (Nat.le_refl _), List.drop_of_length_le h]
theorem cut_mid {A : Type} (xs : List A) (j k : Nat) : cut xs (some (j : Int)) (some (k : Int)) = (xs.drop j).take (k - j) := by
  unfold cut
  rw [sIx_n, sIx_n]
  rcases Nat.le_total j xs.length with h | h
  · rw [Nat.min_eq_left h]
    rcases Nat.le_total k xs.length with g | g
    · rw [Nat.min_eq_left g]
    · rw [Nat.min_eq_right g, List.take_of_length_le (by simp), List.take_of_length_le (by simp; omega)]
  · rw [Nat.min_eq_right h, List.drop_of_length_le (Nat.le_refl _), List.drop_of_length_le h, List.take_nil, List.take_nil]
/-- a list without its k-th -/
theorem cut_out {A : Type} {xs : List A} {k : Nat} {x : A} (h : xs[k]? = some x) : xs = xs.take k ++ x :: xs.drop (k + 1) := by
  obtain ⟨hk, rfl⟩ := List.getElem?_eq_some_iff.mp h
  rw [List.getElem_cons_drop, List.take_append_drop]
/-- the i-th of a row -/
def ax (xs : List Int) (i : Nat) : Int := xs.getD i 0
theorem ax_at {xs : List Int} {i : Nat} (h : i < xs.length) : tat xs (i : Int) = some (ax xs i) := tat_n (by simp [ax, List.getD, List.getElem?_eq_getElem h])
theorem ax_get {xs : List Int} {i : Nat} (h : i < xs.length) : xs[i]? = some (ax xs i) := by simp [ax, List.getD, List.getElem?_eq_getElem h]
theorem ax_mem {xs : List Int} {i : Nat} (h : i < xs.length) : ax xs i ∈ xs := List.mem_of_getElem? (ax_get h)
theorem mem_ax {xs : List Int} {x : Int} (h : x ∈ xs) : ∃ i, i < xs.length ∧ x = ax xs i := by
  obtain ⟨i, hi, e⟩ := List.mem_iff_getElem.mp h
  exact ⟨i, hi, by simp [ax, List.getD, List.getElem?_eq_getElem hi, e]⟩
theorem ax_le {xs : List Int} (hs : xs.Pairwise (· ≤ ·)) {i j : Nat} (hij : i ≤ j) (hj : j < xs.length) : ax xs i ≤ ax xs j := by
  rcases Nat.lt_or_eq_of_le hij with h | rfl
  · have := List.pairwise_iff_getElem.mp hs i j (by omega) hj h
    simpa [ax, List.getD, List.getElem?_eq_getElem hj, List.getElem?_eq_getElem (show i < xs.length by omega)] using this
  · exact Int.le_refl _
/-! the k-th least -/
theorem kth_iff : ∀ {L : List Int}, L.Pairwise (· ≤ ·) → ∀ {j : Nat} {x v : Int}, L[j]? = some x → (x ≤ v ↔ j < L.countP fun y => decide (y ≤ v))
  | [], _, j, x, v, h => by simp at h
  | a :: L, hs, j, x, v, h => by
    have h1 := List.pairwise_cons.mp hs
    rw [List.countP_cons]
    by_cases ha : a ≤ v
    · rw [if_pos (decide_eq_true ha)]
      cases j with
      | zero => simp at h; subst h; simp [ha]
      | succ j =>
        rw [kth_iff h1.2 (by simpa using h : L[j]? = some x)]
        omega
    · rw [if_neg (by simpa using ha)]
      have hz : L.countP (fun y => decide (y ≤ v)) = 0 := List.countP_eq_zero.mpr fun y hy => by
        have := h1.1 y hy
        simp; omega
      have hx : a ≤ x := by
        cases j with
        | zero => simp at h; omega
        | succ j => exact h1.1 x (List.mem_of_getElem? (by simpa using h : L[j]? = some x))
      omega
theorem srt_iff {xs : List Int} {j : Nat} {x v : Int} (h : (tsort (fun a b : Int => decide (a < b)) xs)[j]? = some x) : x ≤ v ↔ j < xs.countP fun y => decide (y ≤ v) := by
  rw [kth_iff (srt_le xs) h, (srt_perm xs).countP_eq]
theorem srt_some {xs : List Int} {j : Nat} (h : j < xs.length) : ∃ x, (tsort (fun a b : Int => decide (a < b)) xs)[j]? = some x ∧ x ∈ xs := by
  have hl : j < (tsort (fun a b : Int => decide (a < b)) xs).length := by rw [srt_len]; exact h
  exact ⟨(tsort (fun a b : Int => decide (a < b)) xs)[j], List.getElem?_eq_getElem hl, srt_mem.mp (List.getElem_mem hl)⟩
theorem srt_none {xs : List Int} {j : Nat} (h : xs.length ≤ j) : (tsort (fun a b : Int => decide (a < b)) xs)[j]? = none := List.getElem?_eq_none (by rw [srt_len]; exact h)
theorem countP_mono : ∀ {xs ys : List Int} {v : Int}, xs.length = ys.length → (∀ (i : Nat) (x y : Int), xs[i]? = some x → ys[i]? = some y → x ≤ y) → ys.countP (fun y => decide (y ≤ v)) ≤ xs.countP fun y => decide (y ≤ v)
  | [], [], v, _, _ => Nat.le_refl _
  | [], _ :: _, _, h, _ => by simp at h
  | _ :: _, [], _, h, _ => by simp at h
  | x :: xs, y :: ys, v, h, hp => by
    have ih := countP_mono (xs := xs) (ys := ys) (v := v) (by simpa using h) fun i a b ha hb => hp (i + 1) a b (by simpa using ha) (by simpa using hb)
    have h0 := hp 0 x y rfl rfl
    rw [List.countP_cons, List.countP_cons]
    by_cases hy : y ≤ v
    · rw [if_pos (decide_eq_true hy), if_pos (decide_eq_true (by omega))]; omega
    · rw [if_neg (by simpa using hy)]; split <;> omega
theorem srt_mono {xs ys : List Int} (hl : xs.length = ys.length) (hp : ∀ (i : Nat) (x y : Int), xs[i]? = some x → ys[i]? = some y → x ≤ y) {j : Nat} {x y : Int} (hx : (tsort (fun a b : Int => decide (a < b)) xs)[j]? = some x) (hy : (tsort (fun a b : Int => decide (a < b)) ys)[j]? = some y) : x ≤ y := by
  rw [srt_iff hx]
  exact Nat.lt_of_lt_of_le ((srt_iff hy).mp (Int.le_refl _)) (countP_mono hl hp)
theorem srt_more {xs : List Int} {z : Int} {j : Nat} {x y : Int} (hx : (tsort (fun a b : Int => decide (a < b)) (xs ++ [z]))[j]? = some x) (hy : (tsort (fun a b : Int => decide (a < b)) xs)[j]? = some y) : x ≤ y := by
  rw [srt_iff hx, List.countP_append]
  have := (srt_iff hy).mp (Int.le_refl _)
  omega
theorem srt_add (xs : List Int) (t : Int) : tsort (fun a b : Int => decide (a < b)) (xs.map (t + ·)) = (tsort (fun a b : Int => decide (a < b)) xs).map (t + ·) := by
  refine sort_uniq ((srt_perm _).trans ((srt_perm xs).map _).symm) (srt_le _) ?_
  exact List.Pairwise.map _ (fun a b (h : a ≤ b) => by show t + a ≤ t + b; omega) (srt_le xs)
theorem upto_split {lo : Int} {n : Nat} {pre suf : List Int} {x : Int} (h : upto lo n = pre ++ x :: suf) : pre.length < n ∧ x = lo + pre.length := by
  have hl := congrArg List.length h
  rw [len_upto] at hl
  simp only [List.length_append, List.length_cons] at hl
  have hx : (upto lo n)[pre.length]? = some x := by rw [h]; simp
  rw [get_upto (by omega)] at hx
  exact ⟨by omega, by simpa using hx.symm⟩
/-- a fraction as a pair -/
def qp (q : Rat) : Int × Int := (q.num, (q.den : Int))
theorem qp_inj {p q : Rat} (h : qp p = qp q) : p = q := Rat.ext (Prod.mk.inj h).1 (by have := (Prod.mk.inj h).2; omega)
theorem qp_eq {p q : Rat} : qp p = qp q ↔ p = q := ⟨qp_inj, fun h => by rw [h]⟩
theorem tmul_sz {a b : Int} {k l : Nat} (ha : a.natAbs < 2 ^ k) (hb : b.natAbs < 2 ^ l) (hk : k ≤ 400000) (hl : l ≤ 400000) : tmul a b = some (a * b) := tmul_big (lt_pow_of ha hk) (lt_pow_of hb hl)
theorem sz_den {k : Nat} {q : Rat} (h : Sz k q) : (q.den : Int).natAbs < 2 ^ k := by rw [Int.natAbs_natCast]; exact h.2
theorem divInt_frac {n d : Int} (hd : d ≠ 0) (hb : d.natAbs < 2 ^ 9000) : (Option.bind (α := Int) (if (decide (d < (0 : Int))) = true then (tlet ((-((Nat.gcd (Int.natAbs n) (Int.natAbs d) : Nat) : Int))) fun divisor_3 => some divisor_3) else (some ((Nat.gcd (Int.natAbs n) (Int.natAbs d) : Nat) : Int))) fun s_2 => Option.bind (tdiv n s_2) fun m_4 => Option.bind (tdiv d s_2) fun m_5 => some ((m_4, m_5))) = some (qp (Rat.divInt n d)) := by
  obtain ⟨g1, g2⟩ := gcd_le_d n d hd
  have key : ∀ e : Int, e = (if d < 0 then -((Nat.gcd n.natAbs d.natAbs : Nat) : Int) else ((Nat.gcd n.natAbs d.natAbs : Nat) : Int)) → (Option.bind (tdiv n e) fun m_4 => Option.bind (tdiv d e) fun m_5 => some ((m_4, m_5))) = some (qp (Rat.divInt n d)) := by
    intro e he
    obtain ⟨p1, p2⟩ := frac_parts n d hd he
    have e0 : e ≠ 0 ∧ e.natAbs < 2 ^ 9000 := by
      have : e.natAbs = Nat.gcd n.natAbs d.natAbs := by
        rw [he]
        split
        · rw [Int.natAbs_neg, Int.natAbs_natCast]
        · rw [Int.natAbs_natCast]
      refine ⟨fun z => ?_, by rw [this]; exact Nat.lt_of_le_of_lt g1 hb⟩
      rw [z] at this
      exact g2 this.symm
    rw [tdiv_ok e0.1 e0.2, Option.bind_some, tdiv_ok e0.1 e0.2, Option.bind_some, p1, p2]; rfl
  by_cases hn : d < 0
  · rw [if_pos (decide_eq_true hn), tlet_eq, Option.bind_some]
    exact key _ (by rw [if_pos hn])
  · rw [if_neg (by simpa using hn), Option.bind_some]
    exact key _ (by rw [if_neg hn])
theorem fmod_nat (a b : Nat) : Int.fmod (a : Int) (b : Int) = ((a % b : Nat) : Int) := by
  rw [Int.fmod_eq_emod_of_nonneg _ (by omega)]; rfl
/-- the loop of a divisor -/
theorem euclid {c : Int × Int → Option Bool} {f : Int × Int → Option (Int × Int)} (hc : ∀ s, c s = some (decide (s.2 > 0))) (hf : ∀ s : Int × Int, s.2 > 0 → f s = some (s.2, s.1.fmod s.2)) : ∀ (j n a b : Nat), b < 2 ^ j → 2 * j + 1 ≤ n → twh c f n ((a : Int), (b : Int)) = some (((Nat.gcd a b : Nat) : Int), (0 : Int)) := by
  have stop : ∀ (n a : Nat), 1 ≤ n → twh c f n ((a : Int), ((0 : Nat) : Int)) = some (((Nat.gcd a 0 : Nat) : Int), (0 : Int)) := by
    intro n a hn
    obtain ⟨m, rfl⟩ : ∃ m, n = m + 1 := ⟨n - 1, by omega⟩
    rw [twh, hc, Option.bind_some, if_neg (by simp), Nat.gcd_zero_right]; rfl
  have step : ∀ (n a b : Nat), 0 < b → twh c f (n + 1) ((a : Int), (b : Int)) = twh c f n ((b : Int), ((a % b : Nat) : Int)) := by
    intro n a b hb
    rw [twh, hc, Option.bind_some, if_pos (by simpa using hb), hf _ (by dsimp only; omega), Option.bind_some]
    dsimp only
    rw [fmod_nat]
  intro j
  induction j with
  | zero =>
    intro n a b hb hn
    have : b = 0 := by simpa using hb
    subst this
    exact stop n a (by omega)
  | succ j ih =>
    intro n a b hb hn
    rcases Nat.eq_zero_or_pos b with rfl | hb0
    · exact stop n a (by omega)
    obtain ⟨m, rfl⟩ : ∃ m, n = m + 2 := ⟨n - 2, by omega⟩
    rw [step (m + 1) a b hb0]
    have hg : Nat.gcd a b = Nat.gcd b (a % b) := by rw [Nat.gcd_comm a b, Nat.gcd_rec, Nat.gcd_comm]
    rcases Nat.eq_zero_or_pos (a % b) with hr | hr
    · rw [hg, hr]
      exact stop (m + 1) b (by omega)
    · rw [step m b (a % b) hr, hg]
      have hg2 : Nat.gcd b (a % b) = Nat.gcd (a % b) (b % (a % b)) := by rw [Nat.gcd_comm b, Nat.gcd_rec, Nat.gcd_comm]
      rw [hg2]
      refine ih m _ _ ?_ (by omega)
      have h1 : a % b < b := Nat.mod_lt _ hb0
      have h2 : b % (a % b) < a % b := Nat.mod_lt _ hr
      have h3 := Nat.div_add_mod b (a % b)
      have h4 : 1 ≤ b / (a % b) := Nat.div_pos (Nat.le_of_lt h1) hr
      have h5 : (a % b) * 1 ≤ (a % b) * (b / (a % b)) := Nat.mul_le_mul_left _ h4
      have h6 : 2 ^ (j + 1) = 2 * 2 ^ j := by rw [Nat.pow_succ, Nat.mul_comm]
      omega
theorem gcd_frac {n d : Int} (hd : 0 < d) (hb : d.natAbs < 2 ^ 9000) : (Option.bind (tdiv n ((Nat.gcd n.natAbs d.natAbs : Nat) : Int)) fun m_2 => Option.bind (tdiv d ((Nat.gcd n.natAbs d.natAbs : Nat) : Int)) fun m_3 => some ((m_2, m_3))) = some (qp (Rat.divInt n d)) := by
  have h := divInt_frac (n := n) (show d ≠ 0 by omega) hb
  rw [if_neg (by simp; omega), Option.bind_some] at h
  exact h
theorem qp_pos (q : Rat) : 0 < (qp q).2 := by have := q.den_pos; unfold qp; dsimp only; omega
theorem qp_red (q : Rat) : Nat.gcd (qp q).1.natAbs (qp q).2.natAbs = 1 := by unfold qp; dsimp only; rw [Int.natAbs_natCast]; exact q.reduced
theorem divInt_one (x : Int) : qp (Rat.divInt x 1) = (x, 1) := by
  unfold qp
  rw [Rat.num_divInt, Rat.den_divInt]
  simp
theorem fraction_sp {n d : Int} (hd : d ≠ 0) (hb : d.natAbs < 2 ^ 9000) : t_fraction n d = some (qp (Rat.divInt n d)) := by
  unfold t_fraction
  rw [tlet_eq]
  exact divInt_frac hd hb
end LP
namespace LP
open PySem PySem.Spec PyProof.Rows L2 PF TL
theorem foldl_pick {A : Type} {lt : A → A → Bool} : ∀ (xs : List A) (x : A), xs.foldl (fun a y => if lt y a = true then y else a) x ∈ x :: xs
  | [], x => by simp
  | y :: ys, x => by
    rw [List.foldl_cons]
    have := foldl_pick (lt := lt) ys (if lt y x = true then y else x)
    rcases List.mem_cons.mp this with e | e
    · rw [e]; split <;> simp
    · exact List.mem_cons_of_mem _ (List.mem_cons_of_mem _ e)
theorem tmin_mem {A : Type} {lt : A → A → Bool} {xs : List A} (h : xs ≠ []) : Post (tmin lt xs) (· ∈ xs) := by
  cases xs with
  | nil => exact absurd rfl h
  | cons x xs => exact ⟨_, rfl, foldl_pick xs x⟩
theorem foldl_least {A : Type} {lt : A → A → Bool} (h : Lin lt) : ∀ (xs : List A) (x : A), ∀ y ∈ x :: xs, lt y (xs.foldl (fun a y => if lt y a = true then y else a) x) = false
  | [], x, y, hy => by
    rw [List.mem_singleton] at hy
    rw [hy]
    rcases h.to x x with e | e <;> exact e
  | z :: zs, x, y, hy => by
    rw [List.foldl_cons]
    have ih := foldl_least h zs (if lt z x = true then z else x)
    by_cases e : lt z x = true
    · rw [if_pos e] at ih ⊢
      rcases List.mem_cons.mp hy with rfl | hy
      · refine h.tr _ z _ (ih z (by simp)) ?_
        rcases h.to z y with q | q
        · rw [e] at q; cases q
        · exact q
      · exact ih y hy
    · rw [if_neg e] at ih ⊢
      rcases List.mem_cons.mp hy with rfl | hy
      · exact ih y (by simp)
      · rcases List.mem_cons.mp hy with rfl | hy
        · exact h.tr _ x _ (ih x (by simp)) (Bool.eq_false_iff.mpr e)
        · exact ih y (List.mem_cons_of_mem _ hy)
theorem tmin_least {A : Type} {lt : A → A → Bool} (h : Lin lt) {xs : List A} (hne : xs ≠ []) : Post (tmin lt xs) fun m => m ∈ xs ∧ ∀ y ∈ xs, lt y m = false := by
  cases xs with
  | nil => exact absurd rfl hne
  | cons x xs => exact ⟨_, rfl, foldl_pick xs x, foldl_least h xs x⟩
theorem tminG_is {A : Type} {lt : A → A → Bool} (h : Lin lt) {xs : List A} {m : A} (hm : m ∈ xs) (hl : ∀ y ∈ xs, lt y m = false) : tmin lt xs = some m := by
  have hne : xs ≠ [] := fun e => by rw [e] at hm; cases hm
  obtain ⟨k, e, h1, h2⟩ := tmin_least h hne
  rw [e, h.an k m (hl k h1) (h2 m hm)]
theorem lin_ltV {A : Type} [DecidableEq A] {l : A → A → Bool} (h : Lin l) : Lin (ltV l) := by
  have irr : ∀ x, l x x = false := fun x => by rcases h.to x x with e | e <;> exact e
  refine ⟨?_, ?_, ?_⟩
  · intro a
    induction a with
    | nil =>
      intro b c p q
      cases c <;> cases b <;> simp_all [ltV]
    | cons x xs ih =>
      intro b c p q
      cases b with
      | nil => simp [ltV] at p
      | cons y ys =>
        cases c with
        | nil => simp [ltV] at q
        | cons z zs =>
          rw [ltV] at p q ⊢
          by_cases e1 : y = x
          · rw [if_pos e1] at p
            by_cases e2 : z = y
            · rw [if_pos e2] at q
              rw [if_pos (e2.trans e1)]
              exact ih _ _ p q
            · rw [if_neg e2] at q
              rw [if_neg fun w => e2 (w.trans e1.symm), ← e1]
              exact q
          · rw [if_neg e1] at p
            by_cases e2 : z = y
            · rw [if_neg fun w => e1 (e2.symm.trans w), e2]
              exact p
            · rw [if_neg e2] at q
              by_cases e3 : z = x
              · exfalso
                rw [e3] at q
                exact e1 (h.an _ _ p q)
              · rw [if_neg e3]
                exact h.tr _ _ _ p q
  · intro a
    induction a with
    | nil => intro b; cases b <;> simp [ltV]
    | cons x xs ih =>
      intro b
      cases b with
      | nil => simp [ltV]
      | cons y ys =>
        rw [ltV, ltV]
        by_cases e : x = y
        · rw [if_pos e, if_pos e.symm]; exact ih ys
        · rw [if_neg e, if_neg fun w => e w.symm]; exact h.to _ _
  · intro a
    induction a with
    | nil => intro b p q; cases b with
      | nil => rfl
      | cons y ys => simp [ltV] at p
    | cons x xs ih =>
      intro b p q
      cases b with
      | nil => simp [ltV] at q
      | cons y ys =>
        rw [ltV] at p q
        by_cases e : x = y
        · rw [if_pos e] at p
          rw [if_pos e.symm] at q
          rw [e, ih ys p q]
        · rw [if_neg e] at p
          rw [if_neg fun w => e w.symm] at q
          exact absurd (h.an _ _ p q) e
abbrev PR := Int × Int
def Fs (ps : List PR) (y : Int) : Int := (ps.map fun p => p.2 * ((p.1 - y).natAbs : Int)).sum
def tot (ps : List PR) : Int := (ps.map fun p => p.2).sum
def wl (ps : List PR) (y : Int) : Int := (ps.map fun p => if p.1 ≤ y then p.2 else 0).sum
def wlt (ps : List PR) (y : Int) : Int := (ps.map fun p => if p.1 < y then p.2 else 0).sum
def WOk (ps : List PR) : Prop := ps ≠ [] ∧ ∀ p ∈ ps, 1 ≤ p.2 ∧ p.2 ≤ 9
theorem sum_le {A : Type} {f g : A → Int} : ∀ {xs : List A}, (∀ x ∈ xs, f x ≤ g x) → (xs.map f).sum ≤ (xs.map g).sum
  | [], _ => Int.le_refl _
  | x :: xs, h => by
    have := sum_le (xs := xs) fun y hy => h y (List.mem_cons_of_mem _ hy)
    have := h x (by simp)
    rw [List.map_cons, List.map_cons, List.sum_cons, List.sum_cons]
    omega
theorem sum_mulc {A : Type} (c : Int) (f : A → Int) : ∀ xs : List A, (xs.map fun x => c * f x).sum = c * (xs.map f).sum
  | [] => by simp
  | x :: xs => by rw [List.map_cons, List.map_cons, List.sum_cons, List.sum_cons, sum_mulc c f xs, Int.mul_add]
theorem sum_subf {A : Type} (f g : A → Int) : ∀ xs : List A, (xs.map fun x => f x - g x).sum = (xs.map f).sum - (xs.map g).sum
  | [] => rfl
  | x :: xs => by
    rw [List.map_cons, List.map_cons, List.map_cons, List.sum_cons, List.sum_cons, List.sum_cons, sum_subf f g xs]; omega
theorem perm_sum {xs ys : List Int} (h : xs.Perm ys) : xs.sum = ys.sum := by
  induction h with
  | nil => rfl
  | cons x _ ih => rw [List.sum_cons, List.sum_cons, ih]
  | swap x y l => rw [List.sum_cons, List.sum_cons, List.sum_cons, List.sum_cons]; omega
  | trans _ _ a b => rw [a, b]
theorem Fs_perm {ps qs : List PR} (h : ps.Perm qs) (y : Int) : Fs ps y = Fs qs y := perm_sum (h.map _)
theorem tot_perm {ps qs : List PR} (h : ps.Perm qs) : tot ps = tot qs := perm_sum (h.map _)
theorem wl_perm {ps qs : List PR} (h : ps.Perm qs) (y : Int) : wl ps y = wl qs y := perm_sum (h.map _)
theorem wlt_perm {ps qs : List PR} (h : ps.Perm qs) (y : Int) : wlt ps y = wlt qs y := perm_sum (h.map _)
theorem tot_pos {ps : List PR} (h : WOk ps) : 0 < tot ps := by
  obtain ⟨hne, hw⟩ := h
  cases ps with
  | nil => exact absurd rfl hne
  | cons p ps =>
    have h0 : 0 ≤ (ps.map fun p : PR => p.2).sum := by
      have := sum_le (f := fun _ : PR => (0 : Int)) (g := fun p => p.2) (xs := ps) fun x hx => by have := (hw x (List.mem_cons_of_mem _ hx)).1; omega
      have e : ∀ l : List PR, (l.map fun _ => (0 : Int)).sum = 0 := fun l => by induction l <;> simp_all
      rw [e] at this; exact this
    have := (hw p (by simp)).1
    unfold tot
    rw [List.map_cons, List.sum_cons]
    omega
/-- the sum grows at least by this to the right -/
theorem slope_lo {ps : List PR} (h : WOk ps) {x y : Int} (hxy : x ≤ y) : (y - x) * (2 * wl ps x - tot ps) ≤ Fs ps y - Fs ps x := by
  unfold Fs wl tot
  rw [← sum_mulc, ← sum_subf, ← sum_mulc, ← sum_subf]
  refine sum_le fun p hp => ?_
  have hw := (h.2 p hp).1
  have e : p.2 * ((p.1 - y).natAbs : Int) - p.2 * ((p.1 - x).natAbs : Int) = p.2 * (((p.1 - y).natAbs : Int) - ((p.1 - x).natAbs : Int)) := (Int.mul_sub _ _ _).symm
  rw [e]
  by_cases c : p.1 ≤ x
  · rw [if_pos c, show (y - x) * (2 * p.2 - p.2) = p.2 * (y - x) by rw [show 2 * p.2 - p.2 = p.2 by omega, Int.mul_comm]]
    exact Int.mul_le_mul_of_nonneg_left (by omega) (by omega)
  · rw [if_neg c, show (y - x) * (2 * 0 - p.2) = p.2 * (x - y) by rw [show 2 * 0 - p.2 = -p.2 by omega, Int.mul_neg, ← Int.neg_mul, Int.neg_sub, Int.mul_comm]]
    exact Int.mul_le_mul_of_nonneg_left (by omega) (by omega)
theorem slope_hi {ps : List PR} (h : WOk ps) {x y : Int} (hxy : x ≤ y) : Fs ps y - Fs ps x ≤ (y - x) * (2 * wlt ps y - tot ps) := by
  unfold Fs wlt tot
  rw [← sum_subf, ← sum_mulc, ← sum_subf, ← sum_mulc]
  refine sum_le fun p hp => ?_
  have hw := (h.2 p hp).1
  have e : p.2 * ((p.1 - y).natAbs : Int) - p.2 * ((p.1 - x).natAbs : Int) = p.2 * (((p.1 - y).natAbs : Int) - ((p.1 - x).natAbs : Int)) := (Int.mul_sub _ _ _).symm
  rw [e]
  by_cases c : p.1 < y
  · rw [if_pos c, show (y - x) * (2 * p.2 - p.2) = p.2 * (y - x) by rw [show 2 * p.2 - p.2 = p.2 by omega, Int.mul_comm]]
    exact Int.mul_le_mul_of_nonneg_left (by omega) (by omega)
  · rw [if_neg c, show (y - x) * (2 * 0 - p.2) = p.2 * (x - y) by rw [show 2 * 0 - p.2 = -p.2 by omega, Int.mul_neg, ← Int.neg_mul, Int.neg_sub, Int.mul_comm]]
    exact Int.mul_le_mul_of_nonneg_left (by omega) (by omega)
structure Low (ps : List PR) (a : Int) : Prop where
  i : ∃ p ∈ ps, p.1 = a
  lo : 2 * wlt ps a < tot ps
  hi : tot ps ≤ 2 * wl ps a
structure High (ps : List PR) (a : Int) : Prop where
  i : ∃ p ∈ ps, p.1 = a
  lo : 2 * wlt ps a ≤ tot ps
  hi : tot ps < 2 * wl ps a
theorem Low.min {ps : List PR} (h : WOk ps) {a : Int} (ha : Low ps a) (y : Int) : Fs ps a ≤ Fs ps y ∧ (y < a → Fs ps a < Fs ps y) := by
  have hl := ha.lo
  have hh := ha.hi
  rcases Int.lt_or_le y a with q | q
  · have s := slope_hi h (Int.le_of_lt q)
    have m : (a - y) * (2 * wlt ps a - tot ps) ≤ (a - y) * (-1) := Int.mul_le_mul_of_nonneg_left (by omega) (by omega)
    constructor
    · omega
    · intro _; omega
  · have s := slope_lo h q
    have m : 0 ≤ (y - a) * (2 * wl ps a - tot ps) := Int.mul_nonneg (by omega) (by omega)
    exact ⟨by omega, fun z => by omega⟩
theorem High.min {ps : List PR} (h : WOk ps) {a : Int} (ha : High ps a) (y : Int) : Fs ps a ≤ Fs ps y ∧ (a < y → Fs ps a < Fs ps y) := by
  have hl := ha.lo
  have hh := ha.hi
  rcases Int.lt_or_le a y with q | q
  · have s := slope_lo h (Int.le_of_lt q)
    have m : (y - a) * 1 ≤ (y - a) * (2 * wl ps a - tot ps) := Int.mul_le_mul_of_nonneg_left (by omega) (by omega)
    constructor
    · omega
    · intro _; omega
  · have s := slope_hi h q
    have m : (a - y) * (2 * wlt ps a - tot ps) ≤ (a - y) * 0 := Int.mul_le_mul_of_nonneg_left (by omega) (by omega)
    exact ⟨by omega, fun z => by omega⟩
theorem Low.uniq {ps : List PR} (h : WOk ps) {a b : Int} (ha : Low ps a) (hb : Low ps b) : a = b := by
  have h1 := ha.min h b
  have h2 := hb.min h a
  omega
theorem Low.perm {ps qs : List PR} (p : ps.Perm qs) {a : Int} (h : Low ps a) : Low qs a := by
  obtain ⟨⟨q, q1, q2⟩, b, c⟩ := h
  exact ⟨⟨q, p.mem_iff.mp q1, q2⟩, by rw [← wlt_perm p, ← tot_perm p]; exact b, by rw [← wl_perm p, ← tot_perm p]; exact c⟩
theorem High.perm {ps qs : List PR} (p : ps.Perm qs) {a : Int} (h : High ps a) : High qs a := by
  obtain ⟨⟨q, q1, q2⟩, b, c⟩ := h
  exact ⟨⟨q, p.mem_iff.mp q1, q2⟩, by rw [← wlt_perm p, ← tot_perm p]; exact b, by rw [← wl_perm p, ← tot_perm p]; exact c⟩
abbrev lx2 := lx (fun a b : Int => decide (a < b)) (fun a b : Int => decide (a < b))
theorem lx2_no {p q : PR} : lx2 p q = false ↔ ¬ (p.1 < q.1 ∨ (p.1 = q.1 ∧ p.2 < q.2)) := by
  have : lx2 p q = true ↔ p.1 < q.1 ∨ (p.1 = q.1 ∧ p.2 < q.2) := by
    show (if p.1 = q.1 then decide (p.2 < q.2) else decide (p.1 < q.1)) = true ↔ _
    by_cases h : p.1 = q.1
    · rw [if_pos h, decide_eq_true_eq]
      constructor
      · intro z; exact .inr ⟨h, z⟩
      · rintro (z | z); · omega
        exact z.2
    · rw [if_neg h, decide_eq_true_eq]
      constructor
      · exact .inl
      · rintro (z | z)
        · exact z
        · exact absurd z.1 h
  rw [← this, Bool.not_eq_true]
theorem wlt_split {p1 r : List PR} {pa : PR} (hw : ∀ p ∈ p1 ++ pa :: r, 1 ≤ p.2) (hs : (p1 ++ pa :: r).Pairwise fun a b => a.1 ≤ b.1) : wlt (p1 ++ pa :: r) pa.1 ≤ tot p1 ∧ tot p1 + pa.2 ≤ wl (p1 ++ pa :: r) pa.1 := by
  obtain ⟨s1, s2, s3⟩ := List.pairwise_append.mp hs
  obtain ⟨s4, s5⟩ := List.pairwise_cons.mp s2
  have e0 : ∀ (l : List PR), (l.map fun _ => (0 : Int)).sum = 0 := fun l => by induction l <;> simp_all
  constructor
  · unfold wlt tot
    rw [List.map_append, List.sum_append, List.map_cons, List.sum_cons, if_neg (by omega)]
    have a := sum_le (f := fun p : PR => if p.1 < pa.1 then p.2 else 0) (g := fun p => p.2) (xs := p1) fun x hx => by
      have := hw x (by simp [hx])
      split <;> omega
    have c := sum_le (f := fun p : PR => if p.1 < pa.1 then p.2 else 0) (g := fun _ => (0 : Int)) (xs := r) fun x hx => by
      rw [if_neg (by have := s4 x hx; omega)]; exact Int.le_refl _
    rw [e0] at c
    omega
  · unfold wl tot
    rw [List.map_append, List.sum_append, List.map_cons, List.sum_cons, if_pos (Int.le_refl _)]
    have a := sum_le (f := fun p : PR => p.2) (g := fun p => if p.1 ≤ pa.1 then p.2 else 0) (xs := p1) fun x hx => by
      rw [if_pos (s3 x hx pa (by simp))]; exact Int.le_refl _
    have c := sum_le (f := fun _ : PR => (0 : Int)) (g := fun p => if p.1 ≤ pa.1 then p.2 else 0) (xs := r) fun x hx => by
      have := hw x (by simp [hx])
      split <;> omega
    rw [e0] at c
    omega
theorem tot_app (xs ys : List PR) : tot (xs ++ ys) = tot xs + tot ys := by unfold tot; rw [List.map_append, List.sum_append]
theorem middles_sp {ps : List PR} (h : WOk ps) (hl : ps.length ≤ 1000) : ∃ a b, t_weighed_middles ps = some (a, b) ∧ Low ps a ∧ High ps b := by
  have hpm := tsort_perm lx2 ps
  have hso := tsort_le lin2 ps
  suffices hh : Post (t_weighed_middles ps) (fun r => Low ps r.1 ∧ High ps r.2) by
    obtain ⟨⟨a, b⟩, e, q⟩ := hh
    exact ⟨a, b, e, q⟩
  unfold t_weighed_middles
  refine Post.let ?_
  show Post (Option.bind (tfold _ (tsort lx2 ps) _) _) _
  have htp := tot_pos h
  change Post _ _
  generalize hL : tsort lx2 ps = L at hpm hso
  have hLs : L.Pairwise fun a b => a.1 ≤ b.1 := hso.imp fun {a b} z => by
    have := lx2_no.mp z
    omega
  have hLw : ∀ p ∈ L, 1 ≤ p.2 := fun p hp => (h.2 p (hpm.mem_iff.mp hp)).1
  have htt : tot L = tot ps := tot_perm hpm
  have hll : L.length ≤ 1000 := by rw [hpm.length_eq]; exact hl
  have mkLow : ∀ {p1 r : List PR} {pa : PR}, L = p1 ++ pa :: r → 2 * tot p1 < tot ps → tot ps ≤ 2 * (tot p1 + pa.2) → Low ps pa.1 := by
    intro p1 r pa e a c
    have := wlt_split (by rw [← e]; exact hLw) (by rw [← e]; exact hLs)
    rw [← e] at this
    exact Low.perm hpm ⟨⟨pa, by rw [e]; simp, rfl⟩, by omega, by omega⟩
  have mkHigh : ∀ {p1 r : List PR} {pa : PR}, L = p1 ++ pa :: r → 2 * tot p1 ≤ tot ps → tot ps < 2 * (tot p1 + pa.2) → High ps pa.1 := by
    intro p1 r pa e a c
    have := wlt_split (by rw [← e]; exact hLw) (by rw [← e]; exact hLs)
    rw [← e] at this
    exact High.perm hpm ⟨⟨pa, by rw [e]; simp, rfl⟩, by omega, by omega⟩
  refine Post.bind (P := fun s : Int × List Int => ∃ a b, s.2 = [a, b] ∧ Low ps a ∧ High ps b) ?_ ?_
  · refine Post.imp (tfold_post (fun pre (s : Int × List Int) => s.1 = tot pre ∧ ((s.2 = [] ∧ 2 * tot pre < tot ps) ∨ (∃ a, s.2 = [a] ∧ Low ps a ∧ 2 * tot pre ≤ tot ps) ∨ ∃ a b, s.2 = [a, b] ∧ Low ps a ∧ High ps b)) (s := ((0 : Int), ([] : List Int))) ⟨rfl, .inl ⟨rfl, by show 2 * 0 < _; omega⟩⟩ ?_) ?_
    · rintro pre x suf ⟨below, fs⟩ hxs ⟨i1, i2⟩
      dsimp only at i1 i2 ⊢
      subst i1
      have htx : tot (pre ++ [x]) = tot pre + x.2 := by rw [tot_app]; show _ + (x.2 + 0) = _; omega
      refine Post.let ?_
      change Post (Option.bind (α := List Int) (if (decide ((fs.length : Int) = 0) && decide (2 * (tot pre + x.2) ≥ tot ps)) = true then _ else _) _) _
      rcases i2 with ⟨rfl, i2⟩ | ⟨a, rfl, ia, i2⟩ | ⟨a, b, rfl, ia, ib⟩
      · by_cases c : 2 * (tot pre + x.2) ≥ tot ps
        · rw [if_pos (by simp; exact c), tapp_ok (by simp), Option.bind_some, Option.bind_some]
          have hlow := mkLow hxs i2 (by omega)
          change Post (Option.bind (α := List Int) (if (decide ((([] ++ [x.1] : List Int).length : Int) = 1) && decide (2 * (tot pre + x.2) > tot ps)) = true then _ else _) _) _
          by_cases c2 : 2 * (tot pre + x.2) > tot ps
          · rw [if_pos (by simp; exact c2), tapp_ok (by simp), Option.bind_some, Option.bind_some]
            exact Post.pure ⟨htx.symm, .inr (.inr ⟨x.1, x.1, rfl, hlow, mkHigh hxs (by omega) (by omega)⟩)⟩
          · rw [if_neg (by simp; omega), Option.bind_some]
            exact Post.pure ⟨htx.symm, .inr (.inl ⟨x.1, rfl, hlow, by omega⟩)⟩
        · rw [if_neg (by simp; omega), Option.bind_some]
          rw [if_neg (by simp), Option.bind_some]
          exact Post.pure ⟨htx.symm, .inl ⟨rfl, by omega⟩⟩
      · rw [if_neg (by simp), Option.bind_some]
        change Post (Option.bind (α := List Int) (if (decide ((([a] : List Int).length : Int) = 1) && decide (2 * (tot pre + x.2) > tot ps)) = true then _ else _) _) _
        by_cases c2 : 2 * (tot pre + x.2) > tot ps
        · rw [if_pos (by simp; exact c2), tapp_ok (by simp), Option.bind_some, Option.bind_some]
          exact Post.pure ⟨htx.symm, .inr (.inr ⟨a, x.1, rfl, ia, mkHigh hxs (by omega) (by omega)⟩)⟩
        · rw [if_neg (by simp; omega), Option.bind_some]
          exact Post.pure ⟨htx.symm, .inr (.inl ⟨a, rfl, ia, by omega⟩)⟩
      · rw [if_neg (by simp), Option.bind_some, if_neg (by simp), Option.bind_some]
        exact Post.pure ⟨htx.symm, .inr (.inr ⟨a, b, rfl, ia, ib⟩)⟩
    · rintro ⟨below, fs⟩ ⟨_, i2⟩
      rcases i2 with ⟨_, i2⟩ | ⟨a, _, _, i2⟩ | q
      · omega
      · omega
      · exact q
  · rintro ⟨below, fs⟩ ⟨a, b, rfl, ha, hb⟩
    exact Post.pure ⟨ha, hb⟩
end LP
namespace LP
open PySem PySem.Spec PyProof.Rows L2 PF TL
/-- without the k-th -/
def out {A : Type} (xs : List A) (k : Nat) : List A := xs.take k ++ xs.drop (k + 1)
theorem out_sp {A : Type} {xs : List A} {k : Nat} (hl : xs.length ≤ 1000) : tcat (cut xs none (some (k : Int))) (cut xs (some ((k : Int) + 1)) none) = some (out xs k) := by
  rw [cut_to, show (k : Int) + 1 = ((k + 1 : Nat) : Int) from rfl, cut_from, tcat_of (by simp; omega)]; rfl
theorem out_sub {A : Type} {xs : List A} {k : Nat} {x : A} (h : x ∈ out xs k) : x ∈ xs := by
  unfold out at h
  rcases List.mem_append.mp h with q | q
  · exact List.mem_of_mem_take q
  · exact List.mem_of_mem_drop q
theorem out_len {A : Type} {xs : List A} {k : Nat} (hk : k < xs.length) : (out xs k).length = xs.length - 1 := by
  unfold out
  rw [List.length_append, List.length_take, List.length_drop]
  omega
theorem out_ne {A : Type} {xs : List A} {k : Nat} (h : 2 ≤ xs.length) (hk : k < xs.length) : out xs k ≠ [] := by
  intro z
  have := out_len hk
  rw [z] at this
  simp at this
  omega
theorem out_map {A B : Type} (f : A → B) (xs : List A) (k : Nat) : (out xs k).map f = out (xs.map f) k := by
  unfold out
  rw [List.map_append, List.map_take, List.map_drop]
def prs (xs ws : List Int) : List PR := List.zipWith Prod.mk xs ws
theorem prs_len {xs ws : List Int} (h : ws.length = xs.length) : (prs xs ws).length = xs.length := by unfold prs; rw [List.length_zipWith]; omega
theorem prs_get {xs ws : List Int} (h : ws.length = xs.length) {k : Nat} (hk : k < xs.length) : (prs xs ws)[k]? = some (ax xs k, ax ws k) := by
  unfold prs
  rw [List.getElem?_zipWith, ax_get hk, ax_get (by omega)]
theorem prs_idx {xs ws : List Int} (h : ws.length = xs.length) : (upto 0 xs.length).map (fun k => (ax xs k.toNat, ax ws k.toNat)) = prs xs ws := by
  have := idx_map (xs := prs xs ws) (G := fun k => (ax xs k.toNat, ax ws k.toNat)) fun k x hx => by
    have hk : k < xs.length := by
      obtain ⟨q, _⟩ := List.getElem?_eq_some_iff.mp hx
      rwa [prs_len h] at q
    rw [prs_get h hk] at hx
    rw [Int.toNat_natCast]
    exact Option.some.inj hx
  rwa [prs_len h] at this
theorem prs_fst {xs ws : List Int} (h : ws.length = xs.length) : (prs xs ws).map (fun p => p.1) = xs := by
  rw [← prs_idx h, List.map_map]
  exact idx_map fun k x hx => by
    have hk : k < xs.length := (List.getElem?_eq_some_iff.mp hx).1
    rw [ax_get hk] at hx
    show ax xs (k : Int).toNat = x
    rw [Int.toNat_natCast]
    exact Option.some.inj hx
theorem prs_snd {xs ws : List Int} (h : ws.length = xs.length) {p : PR} (hp : p ∈ prs xs ws) : p.2 ∈ ws := by
  rw [← prs_idx h] at hp
  obtain ⟨k, hk, rfl⟩ := List.mem_map.mp hp
  obtain ⟨a, b⟩ := mem_upto.mp hk
  exact ax_mem (by omega)
theorem prs_out {xs ws : List Int} (h : ws.length = xs.length) (k : Nat) : prs (out xs k) (out ws k) = out (prs xs ws) k := by
  unfold prs out
  rw [List.zipWith_append (by rw [List.length_take, List.length_take, h]), List.take_zipWith, List.drop_zipWith]
theorem apart_eq (a b : Int) : p_law_apart a b = ((a - b).natAbs : Int) := by unfold p_law_apart; omega
structure XW (xs ws : List Int) : Prop where
  len : ws.length = xs.length
  ne : xs ≠ []
  w : ∀ w ∈ ws, 1 ≤ w ∧ w ≤ 9
  n : xs.length ≤ 900
section
variable {xs ws : List Int}
theorem XW.wok (h : XW xs ws) : WOk (prs xs ws) := by
  refine ⟨fun z => h.ne ?_, fun p hp => h.w _ (prs_snd h.len hp)⟩
  have := prs_len h.len
  rw [z] at this
  exact List.length_eq_zero_iff.mp this.symm
theorem XW.out (h : XW xs ws) (h2 : 2 ≤ xs.length) {k : Nat} (hk : k < xs.length) : XW (out xs k) (out ws k) := by
  have hn := h.n
  have hl := h.len
  refine ⟨by rw [out_len hk, out_len (by omega), hl], out_ne h2 hk, fun w hw => h.w w (out_sub hw), by rw [out_len hk]; omega⟩
theorem sum_terms (h : XW xs ws) (y : Int) : tmap (fun (k_2 : Int) => Option.bind (tat ws k_2) fun x_3 => Option.bind (tat xs k_2) fun x_4 => Option.bind (tmul x_3 ((x_4 - y).natAbs : Int)) fun m_5 => some (m_5)) (upto 0 xs.length) = some ((prs xs ws).map fun p => p.2 * ((p.1 - y).natAbs : Int)) := by
  rw [tmap_eq (g := fun k => ax ws k.toNat * ((ax xs k.toNat - y).natAbs : Int)) fun k hk => by
    obtain ⟨a, b⟩ := mem_upto.mp hk
    obtain ⟨j, rfl⟩ := Int.eq_ofNat_of_zero_le a
    have hl := h.len
    have hw := h.w _ (ax_mem (xs := ws) (i := j) (by omega))
    rw [ax_at (by omega), Option.bind_some, ax_at (by omega), Option.bind_some, tmul_l (by omega), Option.bind_some, Int.toNat_natCast]]
  rw [← prs_idx h.len, List.map_map]; rfl
theorem lsum_sp (h : XW xs ws) (y : Int) : t_law_sum xs ws y = some (Fs (prs xs ws) y) := by
  unfold t_law_sum
  have hn := h.n
  rw [trg_0 (by omega), Option.bind_some]
  simp only [apart_eq]
  rw [sum_terms h y, Option.bind_some]; rfl
theorem low_in (h : XW xs ws) {a : Int} (ha : Low (prs xs ws) a) : a ∈ xs := by
  obtain ⟨p, hp, rfl⟩ := ha.i
  rw [← prs_fst h.len]
  exact List.mem_map.mpr ⟨p, hp, rfl⟩
theorem high_in (h : XW xs ws) {a : Int} (ha : High (prs xs ws) a) : a ∈ xs := by
  obtain ⟨p, hp, rfl⟩ := ha.i
  rw [← prs_fst h.len]
  exact List.mem_map.mpr ⟨p, hp, rfl⟩
theorem low_ex (h : XW xs ws) : ∃ a b, Low (prs xs ws) a ∧ High (prs xs ws) b := by
  obtain ⟨a, b, _, ha, hb⟩ := middles_sp h.wok (by rw [prs_len h.len]; have := h.n; omega)
  exact ⟨a, b, ha, hb⟩
theorem pick_min (h : XW xs ws) {a : Int} (ha : Low (prs xs ws) a) : tmin lx2 (xs.map fun m => (Fs (prs xs ws) m, m)) = some (Fs (prs xs ws) a, a) := by
  refine tminG_is lin2 (List.mem_map.mpr ⟨a, low_in h ha, rfl⟩) fun y hy => ?_
  obtain ⟨m, hm, rfl⟩ := List.mem_map.mp hy
  rw [lx2_no]
  dsimp only
  have := ha.min h.wok m
  omega
theorem best_sp (h : XW xs ws) {a : Int} (ha : Low (prs xs ws) a) : t_best_pick xs ws = some a := by
  unfold t_best_pick
  have hn := h.n
  have e := fold_sel (f := fun (minute_3 : Int) (s_1 : (List (Int × Int))) => Option.bind (trg ((0 : Int)) ((List.length xs : Int))) fun r_4 => Option.bind (tmap (fun (at_5 : Int) => Option.bind (tat ws at_5) fun x_6 => Option.bind (tat xs at_5) fun x_7 => Option.bind (tmul x_6 ((Int.natAbs ((x_7 - minute_3)) : Int))) fun m_8 => some (m_8)) r_4) fun l_9 => Option.bind (tapp s_1 (((List.sum l_9), minute_3))) fun told_10 => some told_10) (q := fun _ => true) (g := fun m => (Fs (prs xs ws) m, m)) xs [] (fun m _ s hs => by
    rw [trg_0 (by omega), Option.bind_some, sum_terms h m, Option.bind_some, tapp_ok hs]; rfl) (by simp; omega)
  rw [List.filter_eq_self.mpr fun _ _ => rfl, List.nil_append] at e
  rw [e, Option.bind_some]
  show Option.bind (tmin lx2 _) _ = _
  rw [pick_min h ha]; rfl
theorem ends_sp (h : XW xs ws) {a b : Int} (ha : Low (prs xs ws) a) (hb : High (prs xs ws) b) : t_law_ends xs ws = some (a, b) := by
  unfold t_law_ends
  have hn := h.n
  have hwk := h.wok
  rw [tmap_eq (g := Fs (prs xs ws)) fun m _ => by rw [lsum_sp h]; rfl, Option.bind_some, trg_0 (by omega), Option.bind_some]
  obtain ⟨mv, hmv, m1, m2⟩ := tmin_post (xs := xs.map (Fs (prs xs ws))) (by simpa using h.ne)
  rw [hmv]
  rw [tfilt_eq (q := fun k => decide (Fs (prs xs ws) (ax xs k.toNat) = mv)) fun k hk => by
    obtain ⟨c, d⟩ := mem_upto.mp hk
    obtain ⟨j, rfl⟩ := Int.eq_ofNat_of_zero_le c
    rw [tat_n (n := j) (a := Fs (prs xs ws) (ax xs j)) (by rw [List.getElem?_map, ax_get (by omega)]; rfl), Option.bind_some, Option.bind_some, Int.toNat_natCast]]
  rw [Option.bind_some, tmap_eq (g := fun k => ax xs k.toNat) fun k hk => by
    obtain ⟨c, d⟩ := mem_upto.mp (List.mem_filter.mp hk).1
    obtain ⟨j, rfl⟩ := Int.eq_ofNat_of_zero_le c
    rw [ax_at (by omega), Option.bind_some, Int.toNat_natCast]]
  have hax : ∀ (k : Nat) x, xs[k]? = some x → ax xs k = x := fun k x hx => by
    have hk : k < xs.length := (List.getElem?_eq_some_iff.mp hx).1
    rw [ax_get hk] at hx
    exact Option.some.inj hx
  rw [Option.bind_some, idx_filter (q := fun x => decide (Fs (prs xs ws) x = mv)) (fun k x hx => by rw [Int.toNat_natCast]; exact hax k x hx) fun k x hx => by rw [Int.toNat_natCast, hax k x hx]]
  have hma : Fs (prs xs ws) a = mv := by
    obtain ⟨z, hz, e⟩ := List.mem_map.mp m1
    have c := m2 _ (List.mem_map.mpr ⟨a, low_in h ha, rfl⟩)
    have d := (ha.min hwk z).1
    omega
  have hmb : Fs (prs xs ws) b = mv := by
    have c := (ha.min hwk b).1
    have d := (hb.min hwk a).1
    omega
  rw [tmin_is (m := a) (List.mem_filter.mpr ⟨low_in h ha, decide_eq_true hma⟩) fun y hy => ?_, Option.bind_some, tmax_is (m := b) (List.mem_filter.mpr ⟨high_in h hb, decide_eq_true hmb⟩) fun y hy => ?_]
  · rfl
  · have := of_decide_eq_true (List.mem_filter.mp hy).2
    have := (hb.min hwk y).2
    omega
  · have := of_decide_eq_true (List.mem_filter.mp hy).2
    have := (ha.min hwk y).2
    omega
end
abbrev Vt := Int × Int × Int
def vt (up : Bool) (p : PR) : Vt := if up = true then (0, p.1, p.2) else (p.1, 0, p.2)
def pl (up : Bool) (a : Int) : Int × Int := if up = true then (0, a) else (a, 0)
theorem pl_at (up : Bool) (a : Int) : tat [(a, (0 : Int)), ((0 : Int), a)] (if up = true then (1 : Int) else 0) = some (pl up a) := by cases up <;> rfl
theorem pl_far (up : Bool) (a b : Int) : ((((pl up a).1 - (pl up b).1).natAbs : Int) + (((pl up a).2 - (pl up b).2).natAbs : Int)) = ((a - b).natAbs : Int) := by cases up <;> simp [pl]
theorem zero_wok {ps : List PR} (h : WOk ps) : WOk (ps.map fun p => ((0 : Int), p.2)) := ⟨by simpa using h.1, fun p hp => by
  obtain ⟨q, hq, rfl⟩ := List.mem_map.mp hp
  exact h.2 q hq⟩
theorem zero_low {ps : List PR} {a : Int} (h : Low (ps.map fun p => ((0 : Int), p.2)) a) : a = 0 := by
  obtain ⟨p, hp, rfl⟩ := h.i
  obtain ⟨q, hq, rfl⟩ := List.mem_map.mp hp
  rfl
theorem zero_high {ps : List PR} {a : Int} (h : High (ps.map fun p => ((0 : Int), p.2)) a) : a = 0 := by
  obtain ⟨p, hp, rfl⟩ := h.i
  obtain ⟨q, hq, rfl⟩ := List.mem_map.mp hp
  rfl
theorem High.uniq {ps : List PR} (h : WOk ps) {a b : Int} (ha : High ps a) (hb : High ps b) : a = b := by
  have h1 := ha.min h b
  have h2 := hb.min h a
  omega
def xsP (V : List Vt) : List PR := V.map fun e => (e.1, e.2.2)
def ysP (V : List Vt) : List PR := V.map fun e => (e.2.1, e.2.2)
theorem span_sp {V : List Vt} (hx : WOk (xsP V)) (hy : WOk (ysP V)) (hl : V.length ≤ 1000) {a b c d : Int} (ha : Low (xsP V) a) (hb : High (xsP V) b) (hc : Low (ysP V) c) (hd : High (ysP V) d) : t_best_span V = some ((a, c), (b, d)) := by
  unfold t_best_span
  obtain ⟨a', b', e1, ha', hb'⟩ := middles_sp hx (by unfold xsP; simpa using hl)
  obtain ⟨c', d', e2, hc', hd'⟩ := middles_sp hy (by unfold ysP; simpa using hl)
  show Option.bind (t_weighed_middles (xsP V)) (fun y_2 => Option.bind (t_weighed_middles (ysP V)) _) = _
  rw [e1, Option.bind_some, e2, Option.bind_some, ha.uniq hx ha', hb.uniq hx hb', hc.uniq hy hc', hd.uniq hy hd']
theorem vt_x (up : Bool) (ps : List PR) : xsP (ps.map (vt up)) = if up = true then ps.map (fun p => ((0 : Int), p.2)) else ps := by
  unfold xsP
  rw [List.map_map]
  cases up
  · exact List.map_id' ps
  · rfl
theorem vt_y (up : Bool) (ps : List PR) : ysP (ps.map (vt up)) = if up = true then ps else ps.map (fun p => ((0 : Int), p.2)) := by
  unfold ysP
  rw [List.map_map]
  cases up
  · rfl
  · exact List.map_id' ps
theorem vspan_sp (up : Bool) {ps : List PR} (h : WOk ps) (hl : ps.length ≤ 1000) {a b : Int} (ha : Low ps a) (hb : High ps b) : t_best_span (ps.map (vt up)) = some (pl up a, pl up b) := by
  obtain ⟨c, d, _, hc, hd⟩ := middles_sp (zero_wok h) (by simpa using hl)
  have c0 := zero_low hc
  have d0 := zero_high hd
  subst c0; subst d0
  cases up
  · exact span_sp (by rw [vt_x]; exact h) (by rw [vt_y]; exact zero_wok h) (by simpa using hl) (by rw [vt_x]; exact ha) (by rw [vt_x]; exact hb) (by rw [vt_y]; exact hc) (by rw [vt_y]; exact hd)
  · exact span_sp (by rw [vt_x]; exact zero_wok h) (by rw [vt_y]; exact h) (by simpa using hl) (by rw [vt_x]; exact hc) (by rw [vt_x]; exact hd) (by rw [vt_y]; exact ha) (by rw [vt_y]; exact hb)
theorem vvote_sp (up : Bool) {ps : List PR} (h : WOk ps) (hl : ps.length ≤ 1000) {a : Int} (ha : Low ps a) : t_best_vote (ps.map (vt up)) = some (pl up a) := by
  obtain ⟨_, b, _, _, hb⟩ := middles_sp h hl
  unfold t_best_vote
  rw [vspan_sp up h hl ha hb]; rfl
theorem sum_addf {A : Type} (f g : A → Int) : ∀ xs : List A, (xs.map fun x => f x + g x).sum = (xs.map f).sum + (xs.map g).sum
  | [] => rfl
  | x :: xs => by
    rw [List.map_cons, List.map_cons, List.map_cons, List.sum_cons, List.sum_cons, List.sum_cons, sum_addf f g xs]; omega
theorem far_sp {V : List Vt} (hw : ∀ e ∈ V, 1 ≤ e.2.2 ∧ e.2.2 ≤ 9) (p : Int × Int) : t_sum_far V p = some (Fs (xsP V) p.1 + Fs (ysP V) p.2) := by
  unfold t_sum_far
  rw [tmap_eq (g := fun e : Vt => e.2.2 * ((e.1 - p.1).natAbs : Int) + e.2.2 * ((e.2.1 - p.2).natAbs : Int)) fun e he => by
    have := hw e he
    rw [tmul_l (by omega), Option.bind_some, Int.mul_add]]
  rw [Option.bind_some, sum_addf]
  unfold Fs xsP ysP
  rw [List.map_map, List.map_map]; rfl
theorem vfar_sp (up : Bool) {ps : List PR} (h : WOk ps) (y : Int) : t_sum_far (ps.map (vt up)) (pl up y) = some (Fs ps y) := by
  have z0 : Fs (ps.map fun p => ((0 : Int), p.2)) 0 = 0 := by
    unfold Fs
    rw [List.map_map]
    have : ∀ l : List PR, (l.map ((fun p : PR => p.2 * ((p.1 - 0).natAbs : Int)) ∘ fun p => ((0 : Int), p.2))).sum = 0 := fun l => by
      induction l with
      | nil => rfl
      | cons x l ih => rw [List.map_cons, List.sum_cons, ih]; simp
    exact this ps
  rw [far_sp fun e he => by
    obtain ⟨p, hp, rfl⟩ := List.mem_map.mp he
    have := h.2 p hp
    cases up <;> exact this]
  rw [vt_x, vt_y]
  cases up
  · show some (Fs ps y + Fs (ps.map fun p => ((0 : Int), p.2)) 0) = _
    rw [z0, Int.add_zero]
  · show some (Fs (ps.map fun p => ((0 : Int), p.2)) 0 + Fs ps y) = _
    rw [z0, Int.zero_add]
theorem vworst_sp (up : Bool) (ps : List PR) (y : Int) : t_worst_far (ps.map (vt up)) (pl up y) = tmax (fun a b : Int => decide (a < b)) (ps.map fun p => ((p.1 - y).natAbs : Int)) := by
  unfold t_worst_far
  rw [bind_some', List.map_map]
  congr 1
  refine List.map_congr_left fun p _ => ?_
  cases up <;> simp [vt, pl]
theorem vout_sp (up : Bool) {ps : List PR} (h : WOk ps) (h2 : 2 ≤ ps.length) (hl : ps.length ≤ 1000) {k : Nat} (hk : k < ps.length) {a : Int} (ha : Low (out ps k) a) : t_without_one (ps.map (vt up)) (k : Int) = some (pl up a) := by
  unfold t_without_one
  rw [out_sp (by simpa using hl), Option.bind_some, ← out_map, vvote_sp up ⟨out_ne h2 hk, fun p hp => h.2 p (out_sub hp)⟩ (by rw [out_len hk]; omega) ha]; rfl
/-- the low middle without the k-th -/
theorem outlow_ex {ps : List PR} (h : WOk ps) (h2 : 2 ≤ ps.length) (hl : ps.length ≤ 1000) {k : Nat} (hk : k < ps.length) : ∃ a, Low (out ps k) a := by
  obtain ⟨a, _, _, ha, _⟩ := middles_sp (ps := out ps k) ⟨out_ne h2 hk, fun p hp => h.2 p (out_sub hp)⟩ (by rw [out_len hk]; omega)
  exact ⟨a, ha⟩
open Classical in
noncomputable def lowO (ps : List PR) (k : Nat) : Int := if h : ∃ a, Low (out ps k) a then h.choose else 0
theorem lowO_sp {ps : List PR} (h : WOk ps) (h2 : 2 ≤ ps.length) (hl : ps.length ≤ 1000) {k : Nat} (hk : k < ps.length) : Low (out ps k) (lowO ps k) := by
  have := outlow_ex h h2 hl hk
  unfold lowO
  rw [dif_pos this]
  exact this.choose_spec
theorem move_sp (up : Bool) {ps : List PR} (h : WOk ps) (h2 : 2 ≤ ps.length) (hl : ps.length ≤ 1000) {a : Int} (ha : Low ps a) : t_greatest_move (ps.map (vt up)) = tmax (fun a b : Int => decide (a < b)) ((upto 0 ps.length).map fun k => ((lowO ps k.toNat - a).natAbs : Int)) := by
  unfold t_greatest_move
  rw [vvote_sp up h hl ha, Option.bind_some, List.length_map, trg_0 (by omega), Option.bind_some, tmap_eq (g := fun k => pl up (lowO ps k.toNat)) fun k hk => by
    obtain ⟨c, d⟩ := mem_upto.mp hk
    obtain ⟨j, rfl⟩ := Int.eq_ofNat_of_zero_le c
    rw [vout_sp up h h2 hl (by omega) (lowO_sp h h2 hl (by omega)), Int.toNat_natCast]; rfl]
  rw [Option.bind_some, bind_some', List.map_map]
  congr 1
  exact List.map_congr_left fun k _ => pl_far up _ _
end LP
namespace LP
open PySem PySem.Spec PyProof.Rows L2 PF TL
section
variable {xs ws : List Int}
theorem prs_mapx {f : Int → Int} (h : ws.length = xs.length) : (prs xs ws).map (fun p => f p.1) = xs.map f := by
  conv => rhs; rw [← prs_fst h]
  rw [List.map_map]; rfl
theorem line_right_sp (h : XW xs ws) (up : Bool) : t_law_line_right xs ws up = some true := by
  suffices hh : Post (t_law_line_right xs ws up) (fun r => r = true) by
    obtain ⟨r, e, rfl⟩ := hh
    exact e
  have hn := h.n
  have hl := h.len
  have hwk := h.wok
  have hpl := prs_len h.len
  obtain ⟨a, b, ha, hb⟩ := low_ex h
  unfold t_law_line_right
  rw [ends_sp h ha hb, Option.bind_some, trg_0 (by omega), Option.bind_some]
  have e := fold_sel (f := fun (k_5 : Int) (s_3 : (List (Int × Int × Int))) => Option.bind (tat xs k_5) fun x_6 => Option.bind (tat ws k_5) fun x_7 => Option.bind (tat xs k_5) fun x_8 => Option.bind (tat ws k_5) fun x_9 => Option.bind (tat ([(x_6, (0 : Int), x_7), ((0 : Int), x_8, x_9)]) ((if up = true then (1 : Int) else 0))) fun x_10 => Option.bind (tapp s_3 x_10) fun votes_11 => some votes_11) (q := fun _ => true) (g := fun k => vt up (ax xs k.toNat, ax ws k.toNat)) (upto 0 xs.length) [] (fun k hk s hs => by
    obtain ⟨c, d⟩ := mem_upto.mp hk
    obtain ⟨j, rfl⟩ := Int.eq_ofNat_of_zero_le c
    rw [ax_at (by omega), Option.bind_some, ax_at (by omega), Option.bind_some, Option.bind_some, Option.bind_some, Int.toNat_natCast]
    cases up
    · show Option.bind (some (ax xs j, 0, ax ws j)) _ = _
      rw [Option.bind_some, tapp_ok hs]; rfl
    · show Option.bind (some (0, ax xs j, ax ws j)) _ = _
      rw [Option.bind_some, tapp_ok hs]; rfl) (by rw [len_upto]; simp; omega)
  have e2 : (upto 0 xs.length).map (fun k => vt up (ax xs k.toNat, ax ws k.toNat)) = (prs xs ws).map (vt up) := by
    rw [← prs_idx hl, List.map_map]; rfl
  rw [List.filter_eq_self.mpr fun _ _ => rfl, List.nil_append, e2] at e
  rw [e, Option.bind_some]
  dsimp only
  rw [pl_at, Option.bind_some, pl_at, Option.bind_some, best_sp h ha, Option.bind_some]
  refine Post.eqb (a := false) ?_ (Post.iff (by simp) ?_)
  · rw [if_neg (by simp), vvote_sp up hwk (by omega) ha, Option.bind_some, if_neg (by simp), vspan_sp up hwk (by omega) ha hb, Option.bind_some]
    simp
  rw [tcat_of (by simp; omega), Option.bind_some]
  refine Post.go (P := fun _ => True) (tforr_go (fun _ => True) trivial fun y hy s _ => ?_) fun _ _ => ?_
  · rw [pl_at, Option.bind_some, vfar_sp up hwk, Option.bind_some, lsum_sp h, Option.bind_some]
    refine Post.iff (by simp) ?_
    obtain ⟨mx, hmx, _⟩ := tmax_post (xs := xs.map fun x => ((x - y).natAbs : Int)) (by simpa using h.ne)
    have e3 : (xs.map fun one_30 => p_law_apart y one_30) = xs.map fun x => ((x - y).natAbs : Int) := List.map_congr_left fun x _ => by rw [apart_eq]; omega
    rw [vworst_sp, prs_mapx (f := fun x => ((x - y).natAbs : Int)) hl, hmx, Option.bind_some, e3, hmx, Option.bind_some]
    refine Post.iff (by simp) ?_
    rw [Option.bind_some, lsum_sp h, Option.bind_some]
    refine Post.iff ?_ (Post.pure ⟨_, rfl, trivial⟩)
    have := (ha.min hwk y).1
    rw [decide_eq_true_eq]; omega
  by_cases c2 : xs.length < 2
  · exact Post.ift (by rw [decide_eq_true_eq]; omega) (Post.pure rfl)
  refine Post.iff (by rw [decide_eq_true_eq]; omega) ?_
  rw [Option.bind_some]
  obtain ⟨mx, hmx, x1, x2⟩ := tmax_post (xs := (upto 0 (prs xs ws).length).map fun k => ((lowO (prs xs ws) k.toNat - a).natAbs : Int)) (by
    have : (upto 0 (prs xs ws).length) ≠ [] := List.length_pos_iff.mp (by rw [len_upto]; omega)
    simpa using this)
  rw [move_sp up hwk (by omega) (by omega) ha, hmx]
  refine Post.go (P := fun s : Int => s = mx) ?_ fun s hs => Post.pure (by rw [hs]; simp)
  refine Post.imp (tforr_post (fun pre (s : Int) => (s = 0 ∨ ∃ k : Nat, k < pre.length ∧ s = ((lowO (prs xs ws) k - a).natAbs : Int)) ∧ 0 ≤ s ∧ ∀ k : Nat, k < pre.length → ((lowO (prs xs ws) k - a).natAbs : Int) ≤ s) (s := (0 : Int)) ⟨.inl rfl, Int.le_refl _, by simp⟩ ?_) ?_
  · rintro pre x suf s hxs ⟨i1, i2, i3⟩
    obtain ⟨hk, rfl⟩ := upto_split hxs
    rw [Int.zero_add, List.length_append, List.length_singleton]
    generalize pre.length = k at hk i1 i3 ⊢
    have hx := h.out (by omega) hk
    have hlo := lowO_sp hwk (by omega) (by omega) (show k < (prs xs ws).length by omega)
    have hlo2 : Low (prs (out xs k) (out ws k)) (lowO (prs xs ws) k) := by rw [prs_out hl]; exact hlo
    obtain ⟨_, b', _, hb'⟩ := low_ex hx
    rw [out_sp (by omega), Option.bind_some, out_sp (by omega), Option.bind_some, best_sp hx hlo2, Option.bind_some, Option.bind_some, Option.bind_some, ends_sp hx hlo2 hb', Option.bind_some]
    refine Post.iff (by simp) ?_
    rw [vout_sp up hwk (by omega) (by omega) (by omega) hlo, Option.bind_some, pl_at, Option.bind_some]
    refine Post.iff (by simp) (Post.let (Post.pure ⟨_, rfl, ?_⟩))
    rw [apart_eq]
    refine ⟨?_, by omega, fun i hi => ?_⟩
    · rcases Int.le_total s ((lowO (prs xs ws) k - a).natAbs : Int) with q | q
      · exact .inr ⟨k, by omega, by omega⟩
      · rcases i1 with z | ⟨i, z1, z2⟩
        · exact .inl (by omega)
        · exact .inr ⟨i, by omega, by omega⟩
    · rcases Nat.lt_or_eq_of_le (Nat.lt_succ_iff.mp hi) with q | rfl
      · have := i3 i q; omega
      · omega
  · rintro r ⟨s, rfl, i1, i2, i3⟩
    refine ⟨s, rfl, ?_⟩
    rw [len_upto] at i1 i3
    obtain ⟨k, hk, rfl⟩ := List.mem_map.mp x1
    obtain ⟨c, d⟩ := mem_upto.mp hk
    have h1 := i3 k.toNat (by omega)
    rcases i1 with z | ⟨i, z1, z2⟩
    · omega
    · have := x2 _ (List.mem_map.mpr ⟨(i : Int), mem_upto.mpr (by omega), rfl⟩)
      rw [Int.toNat_natCast] at this
      omega
theorem both_right_sp {ys : List Int} (h : XW xs ws) (h' : XW ys ws) : t_law_both_right xs ys ws = some true := by
  suffices hh : Post (t_law_both_right xs ys ws) (fun r => r = true) by
    obtain ⟨r, e, rfl⟩ := hh
    exact e
  have hn := h.n
  have hl := h.len
  have hl' := h'.len
  obtain ⟨a, b, ha, hb⟩ := low_ex h
  obtain ⟨c, d, hc, hd⟩ := low_ex h'
  unfold t_law_both_right
  rw [trg_0 (by omega), Option.bind_some, tmap_eq (g := fun k => (ax xs k.toNat, ax ys k.toNat, ax ws k.toNat)) fun k hk => by
    obtain ⟨a, b⟩ := mem_upto.mp hk
    obtain ⟨j, rfl⟩ := Int.eq_ofNat_of_zero_le a
    rw [ax_at (by omega), Option.bind_some, ax_at (by omega), Option.bind_some, ax_at (by omega), Option.bind_some, Int.toNat_natCast]]
  rw [Option.bind_some]
  generalize hV : List.map (fun k : Int => (ax xs k.toNat, ax ys k.toNat, ax ws k.toNat)) (upto 0 xs.length) = V
  have hX : xsP V = prs xs ws := by rw [← hV, ← prs_idx hl]; unfold xsP; rw [List.map_map]; rfl
  have hY : ysP V = prs ys ws := by rw [← hV, ← prs_idx hl', ← hl', hl]; unfold ysP; rw [List.map_map]; rfl
  have hVl : V.length ≤ 1000 := by rw [← hV, List.length_map, len_upto]; omega
  have hVw : ∀ e ∈ V, 1 ≤ e.2.2 ∧ e.2.2 ≤ 9 := fun e he => by
    have : (e.1, e.2.2) ∈ xsP V := List.mem_map.mpr ⟨e, he, rfl⟩
    rw [hX] at this
    exact h.wok.2 (e.1, e.2.2) this
  have hsp : t_best_span V = some ((a, c), (b, d)) := span_sp (by rw [hX]; exact h.wok) (by rw [hY]; exact h'.wok) hVl (by rw [hX]; exact ha) (by rw [hX]; exact hb) (by rw [hY]; exact hc) (by rw [hY]; exact hd)
  have hbv : t_best_vote V = some (a, c) := by unfold t_best_vote; rw [hsp]; rfl
  rw [hbv, Option.bind_some, best_sp h ha, Option.bind_some, best_sp h' hc, Option.bind_some]
  refine Post.iff (by simp) ?_
  rw [hsp, Option.bind_some, ends_sp h ha hb, Option.bind_some, ends_sp h' hc hd, Option.bind_some]
  refine Post.iff (by simp) ?_
  rw [lsum_sp h, Option.bind_some, lsum_sp h', Option.bind_some]
  refine Post.let ?_
  rw [far_sp hVw, Option.bind_some, hX, hY]
  refine Post.iff (by simp) ?_
  refine Post.go (P := fun _ => True) (tforr_go (fun _ => True) trivial fun x hx s _ => ?_) fun _ _ => Post.pure rfl
  refine Post.go (P := fun _ => True) (tforr_go (fun _ => True) trivial fun y hy s _ => ?_) fun _ _ => Post.pure ⟨_, rfl, trivial⟩
  rw [far_sp hVw, Option.bind_some, hX, hY]
  refine Post.iff ?_ (Post.pure ⟨_, rfl, trivial⟩)
  have q1 := (ha.min h.wok x).1
  have q2 := (hc.min h'.wok y).1
  rw [decide_eq_true_eq]
  dsimp only
  omega
end
end LP
namespace LP
open PySem PySem.Spec PyProof.Rows L2 PF TL
def lm (xs : List Int) : Int := ax (tsort (fun a b : Int => decide (a < b)) xs) ((xs.length - 1) / 2)
def cle (xs : List Int) (y : Int) : Nat := xs.countP fun x => decide (x ≤ y)
theorem half1 {n : Nat} (h : 1 ≤ n) : Int.fdiv ((n : Int) - 1) 2 = (((n - 1) / 2 : Nat) : Int) := by
  rw [Int.fdiv_eq_ediv_of_nonneg _ (by decide)]; omega
theorem mid_sp {xs : List Int} (h : xs ≠ []) : t_middle_pick xs = some (lm xs) := by
  have hpos := List.length_pos_iff.mpr h
  have hl := srt_len xs
  unfold t_middle_pick lm
  rw [half1 hpos, ax_at (by omega)]; rfl
theorem ax_cle {xs : List Int} {i : Nat} (h : i < xs.length) (v : Int) : ax (tsort (fun a b : Int => decide (a < b)) xs) i ≤ v ↔ i < cle xs v := srt_iff (ax_get (by rw [srt_len]; exact h))
theorem lm_le {xs : List Int} (h : xs ≠ []) (v : Int) : lm xs ≤ v ↔ (xs.length - 1) / 2 < cle xs v := ax_cle (by have := List.length_pos_iff.mpr h; omega) v
theorem lm_in {xs : List Int} (h : xs ≠ []) : lm xs ∈ xs := srt_mem.mp (ax_mem (by rw [srt_len]; have := List.length_pos_iff.mpr h; omega))
theorem lm_perm {xs ys : List Int} (h : xs.Perm ys) : lm xs = lm ys := by unfold lm; rw [srt_eq h, h.length_eq]
def ones (n : Nat) : List Int := List.replicate n 1
theorem xw_ones {xs : List Int} (h : xs ≠ []) (hn : xs.length ≤ 900) : XW xs (ones xs.length) := ⟨by unfold ones; simp, h, fun w hw => by unfold ones at hw; have := List.eq_of_mem_replicate hw; omega, hn⟩
theorem prs_ones (xs : List Int) : prs xs (ones xs.length) = xs.map fun x => (x, 1) := by
  have h : (ones xs.length).length = xs.length := by unfold ones; simp
  apply List.ext_getElem?
  intro k
  by_cases hk : k < xs.length
  · rw [prs_get h hk, List.getElem?_map, ax_get hk]
    have : ax (ones xs.length) k = 1 := by unfold ax ones; simp [List.getD, hk]
    rw [this]; rfl
  · rw [List.getElem?_eq_none (by rw [prs_len h]; omega), List.getElem?_eq_none (by simp; omega)]
theorem sum_count (p : Int → Bool) : ∀ xs : List Int, (xs.map fun x => if p x = true then (1 : Int) else 0).sum = (xs.countP p : Int)
  | [] => rfl
  | x :: xs => by
    rw [List.map_cons, List.sum_cons, sum_count p xs, List.countP_cons]
    split <;> omega
theorem low_ones {xs : List Int} (h : xs ≠ []) : Low (xs.map fun x => (x, (1 : Int))) (lm xs) := by
  have hpos := List.length_pos_iff.mpr h
  have e1 : tot (xs.map fun x => (x, (1 : Int))) = xs.length := by
    unfold tot
    rw [List.map_map]
    have := sum_count (fun _ => true) xs
    simp only [if_true, List.countP_true] at this
    exact this
  have e2 : ∀ y, wl (xs.map fun x => (x, (1 : Int))) y = cle xs y := fun y => by
    unfold wl cle
    rw [List.map_map, ← sum_count]
    congr 1
    exact List.map_congr_left fun x _ => by simp
  have e3 : ∀ y, wlt (xs.map fun x => (x, (1 : Int))) y = cle xs (y - 1) := fun y => by
    unfold wlt cle
    rw [List.map_map, ← sum_count]
    congr 1
    refine List.map_congr_left fun x _ => ?_
    show (if x < y then (1 : Int) else 0) = _
    by_cases c : x < y
    · rw [if_pos c, if_pos (by rw [decide_eq_true_eq]; omega)]
    · rw [if_neg c, if_neg (by rw [decide_eq_true_eq]; omega)]
  have a := (lm_le h (lm xs)).mp (Int.le_refl _)
  have c : ¬ (xs.length - 1) / 2 < cle xs (lm xs - 1) := fun z => by have := (lm_le h (lm xs - 1)).mpr z; omega
  refine ⟨⟨(lm xs, 1), List.mem_map.mpr ⟨_, lm_in h, rfl⟩, rfl⟩, ?_, ?_⟩
  · rw [e1, e3]; omega
  · rw [e1, e2]; omega
theorem cle_out {xs : List Int} {k : Nat} (hk : k < xs.length) (v : Int) : cle xs v = cle (out xs k) v + if ax xs k ≤ v then 1 else 0 := by
  have e := cut_out (ax_get hk)
  unfold cle
  conv => lhs; rw [e]
  unfold out
  rw [List.countP_append, List.countP_append, List.countP_cons]
  simp only [decide_eq_true_eq]
  omega
/-- the k-th in another's place -/
def rep (xs : List Int) (k : Nat) (z : Int) : List Int := xs.take k ++ [z] ++ xs.drop (k + 1)
theorem rep_len {xs : List Int} {k : Nat} (hk : k < xs.length) (z : Int) : (rep xs k z).length = xs.length := by
  unfold rep
  rw [List.length_append, List.length_append, List.length_take, List.length_drop, List.length_singleton]; omega
theorem cle_rep {xs : List Int} {k : Nat} (z v : Int) : cle (rep xs k z) v = cle (out xs k) v + if z ≤ v then 1 else 0 := by
  unfold cle rep out
  rw [List.countP_append, List.countP_append, List.countP_append, List.countP_cons, List.countP_nil]
  simp only [decide_eq_true_eq]
  omega
def at1 (xs : List Int) : Nat := (xs.length - 1) / 2
def mv1 (xs : List Int) : Int := max (lm xs - ax (tsort (fun a b : Int => decide (a < b)) xs) (at1 xs - 1)) (ax (tsort (fun a b : Int => decide (a < b)) xs) (at1 xs + 1) - lm xs)
theorem moved_sp {xs : List Int} (h : 3 ≤ xs.length) : t_moved_by_one xs = some (mv1 xs) := by
  have hl := srt_len xs
  unfold t_moved_by_one
  rw [tlet_eq, tlet_eq, hl, half1 (by omega), ax_at (by omega), Option.bind_some, show ((((xs.length - 1) / 2 : Nat) : Int) - 1) = (((xs.length - 1) / 2 - 1 : Nat) : Int) by omega, ax_at (by omega), Option.bind_some, show ((((xs.length - 1) / 2 : Nat) : Int) + 1) = (((xs.length - 1) / 2 + 1 : Nat) : Int) from rfl, ax_at (by omega), Option.bind_some]
  rfl
theorem between {xs ys : List Int} (h : 3 ≤ xs.length) (hy : ys ≠ []) (hi : at1 xs - 1 ≤ (ys.length - 1) / 2 ∧ (ys.length - 1) / 2 ≤ at1 xs) (hc : ∀ v, cle xs v ≤ cle ys v + 1) (hc2 : ∀ v, cle ys v + (at1 xs - (ys.length - 1) / 2) ≤ cle xs v + 1) : ((lm ys - lm xs).natAbs : Int) ≤ mv1 xs := by
  have hat : at1 xs = (xs.length - 1) / 2 := rfl
  have u : lm ys ≤ ax (tsort (fun a b : Int => decide (a < b)) xs) (at1 xs + 1) := by
    refine (lm_le hy _).mpr ?_
    have a := (ax_cle (xs := xs) (i := at1 xs + 1) (by omega) _).mp (Int.le_refl _)
    have c := hc (ax (tsort (fun a b : Int => decide (a < b)) xs) (at1 xs + 1))
    omega
  have l : ax (tsort (fun a b : Int => decide (a < b)) xs) (at1 xs - 1) ≤ lm ys := by
    rcases Int.lt_or_le (lm ys) (ax (tsort (fun a b : Int => decide (a < b)) xs) (at1 xs - 1)) with q | q
    · exfalso
      have a := (lm_le hy (ax (tsort (fun a b : Int => decide (a < b)) xs) (at1 xs - 1) - 1)).mp (by omega)
      have c := hc2 (ax (tsort (fun a b : Int => decide (a < b)) xs) (at1 xs - 1) - 1)
      have d : at1 xs - 1 < cle xs (ax (tsort (fun a b : Int => decide (a < b)) xs) (at1 xs - 1) - 1) := by omega
      have := (ax_cle (xs := xs) (i := at1 xs - 1) (by omega) _).mpr d
      omega
    · exact q
  have e : lm xs = ax (tsort (fun a b : Int => decide (a < b)) xs) (at1 xs) := rfl
  have s1 := ax_le (srt_le xs) (show at1 xs - 1 ≤ at1 xs by omega) (by rw [srt_len]; omega)
  have s2 := ax_le (srt_le xs) (show at1 xs ≤ at1 xs + 1 by omega) (by rw [srt_len]; omega)
  unfold mv1
  omega
theorem out_move {xs : List Int} (h : 3 ≤ xs.length) {k : Nat} (hk : k < xs.length) : ((lm (out xs k) - lm xs).natAbs : Int) ≤ mv1 xs := by
  have hat : at1 xs = (xs.length - 1) / 2 := rfl
  have hl := out_len hk
  refine between h (out_ne (by omega) hk) (by omega) (fun v => ?_) fun v => ?_
  · rw [cle_out hk v]; split <;> omega
  · rw [cle_out hk v]; split <;> omega
theorem rep_move {xs : List Int} (h : 3 ≤ xs.length) {k : Nat} (hk : k < xs.length) (z : Int) : ((lm (rep xs k z) - lm xs).natAbs : Int) ≤ mv1 xs := by
  have hat : at1 xs = (xs.length - 1) / 2 := rfl
  have hl := rep_len hk z
  refine between h (List.length_pos_iff.mp (by omega)) (by omega) (fun v => ?_) fun v => ?_
  · rw [cle_out hk v, cle_rep]; split <;> split <;> omega
  · rw [cle_out hk v, cle_rep]; split <;> split <;> omega
theorem rep_most {xs : List Int} (h : 3 ≤ xs.length) {lo hi : Int} (hlo : ∀ x ∈ xs, lo < x) (hhi : ∀ x ∈ xs, x < hi) : ∃ k, k < xs.length ∧ (((lm (rep xs k lo) - lm xs).natAbs : Int) = mv1 xs ∨ ((lm (rep xs k hi) - lm xs).natAbs : Int) = mv1 xs) := by
  have hat : at1 xs = (xs.length - 1) / 2 := rfl
  have hne : xs ≠ [] := List.length_pos_iff.mp (by omega)
  have e : lm xs = ax (tsort (fun a b : Int => decide (a < b)) xs) (at1 xs) := rfl
  obtain ⟨k, hk, hkx⟩ := mem_ax (lm_in hne)
  have s1 := ax_le (srt_le xs) (show at1 xs - 1 ≤ at1 xs by omega) (by rw [srt_len]; omega)
  have s2 := ax_le (srt_le xs) (show at1 xs ≤ at1 xs + 1 by omega) (by rw [srt_len]; omega)
  have i1 : ax (tsort (fun a b : Int => decide (a < b)) xs) (at1 xs - 1) ∈ xs := srt_mem.mp (ax_mem (by rw [srt_len]; omega))
  have i2 : ax (tsort (fun a b : Int => decide (a < b)) xs) (at1 xs + 1) ∈ xs := srt_mem.mp (ax_mem (by rw [srt_len]; omega))
  refine ⟨k, hk, ?_⟩
  rcases Int.le_total (ax (tsort (fun a b : Int => decide (a < b)) xs) (at1 xs + 1) - lm xs) (lm xs - ax (tsort (fun a b : Int => decide (a < b)) xs) (at1 xs - 1)) with q | q
  · left
    have hl := rep_len hk lo
    have hr : rep xs k lo ≠ [] := List.length_pos_iff.mp (by omega)
    have a : lm (rep xs k lo) ≤ ax (tsort (fun a b : Int => decide (a < b)) xs) (at1 xs - 1) := by
      refine (lm_le hr _).mpr ?_
      rw [hl, cle_rep, if_pos (Int.le_of_lt (hlo _ i1))]
      have c := cle_out hk (ax (tsort (fun a b : Int => decide (a < b)) xs) (at1 xs - 1))
      have d := (ax_cle (xs := xs) (i := at1 xs - 1) (by omega) _).mp (Int.le_refl _)
      by_cases g : ax xs k ≤ ax (tsort (fun a b : Int => decide (a < b)) xs) (at1 xs - 1)
      · rw [if_pos g] at c
        have := (ax_cle (xs := xs) (i := at1 xs) (by omega) (ax (tsort (fun a b : Int => decide (a < b)) xs) (at1 xs - 1))).mp (by omega)
        omega
      · rw [if_neg g] at c; omega
    have m := rep_move h hk lo
    unfold mv1 at m ⊢
    omega
  · right
    have hl := rep_len hk hi
    have hr : rep xs k hi ≠ [] := List.length_pos_iff.mp (by omega)
    have a : ax (tsort (fun a b : Int => decide (a < b)) xs) (at1 xs + 1) ≤ lm (rep xs k hi) := by
      rcases Int.lt_or_le (lm (rep xs k hi)) (ax (tsort (fun a b : Int => decide (a < b)) xs) (at1 xs + 1)) with g | g
      · exfalso
        have c := (lm_le hr (ax (tsort (fun a b : Int => decide (a < b)) xs) (at1 xs + 1) - 1)).mp (by omega)
        rw [hl, cle_rep, if_neg (by have := hhi _ i2; omega)] at c
        have d := cle_out hk (ax (tsort (fun a b : Int => decide (a < b)) xs) (at1 xs + 1) - 1)
        have f : ¬ at1 xs + 1 < cle xs (ax (tsort (fun a b : Int => decide (a < b)) xs) (at1 xs + 1) - 1) := fun z => by
          have := (ax_cle (xs := xs) (i := at1 xs + 1) (by omega) _).mpr z
          omega
        by_cases g2 : ax xs k ≤ ax (tsort (fun a b : Int => decide (a < b)) xs) (at1 xs + 1) - 1
        · rw [if_pos g2] at d; omega
        · rw [if_neg g2] at d
          have : ¬ at1 xs < cle xs (ax (tsort (fun a b : Int => decide (a < b)) xs) (at1 xs + 1) - 1) := fun z => by
            have := (ax_cle (xs := xs) (i := at1 xs) (by omega) _).mpr z
            omega
          omega
      · exact g
    have m := rep_move h hk hi
    unfold mv1 at m ⊢
    omega
theorem trep_ones {n : Nat} (h1 : 1 ≤ n) (h2 : n ≤ 1000) : trepV [(1 : Int)] (n : Int) = some (ones n) := by
  unfold trepV ones
  by_cases c : n = 1
  · subst c; rfl
  · rw [if_neg (by omega), if_pos (by simp; omega)]
    congr 1
    rw [Int.toNat_natCast]
    have : ∀ m : Nat, (List.replicate m [(1 : Int)]).flatten = List.replicate m 1 := fun m => by
      induction m with
      | zero => rfl
      | succ m ih => rw [List.replicate_succ, List.flatten_cons, ih, List.replicate_succ]; rfl
    exact this n
theorem best_ones {xs : List Int} (h : xs ≠ []) (hn : xs.length ≤ 900) : t_best_pick xs (ones xs.length) = some (lm xs) := best_sp (xw_ones h hn) (by rw [prs_ones]; exact low_ones h)
theorem middle_right_sp {xs : List Int} (h : xs ≠ []) (hn : xs.length ≤ 900) : t_law_middle_right xs = some true := by
  suffices hh : Post (t_law_middle_right xs) (fun r => r = true) by
    obtain ⟨r, e, rfl⟩ := hh
    exact e
  have hpos := List.length_pos_iff.mpr h
  unfold t_law_middle_right
  rw [trep_ones (by omega) (by omega), Option.bind_some]
  refine Post.let ?_
  have ev : (xs.map fun minute_2 => (minute_2, (0 : Int), (1 : Int))) = (xs.map fun x => (x, (1 : Int))).map (vt false) := by rw [List.map_map]; rfl
  have hwk : WOk (xs.map fun x => (x, (1 : Int))) := by rw [← prs_ones]; exact (xw_ones h hn).wok
  have hlo := low_ones h
  rw [mid_sp h, Option.bind_some, best_ones h hn, Option.bind_some, ev]
  refine Post.eqb (a := false) ?_ (Post.iff (by simp) ?_)
  · rw [if_neg (by simp), vvote_sp false hwk (by simp; omega) hlo, Option.bind_some, Option.bind_some]
    simp [pl]
  by_cases c : xs.length < 3
  · rw [if_pos (by rw [decide_eq_true_eq]; omega)]
    exact Post.pure rfl
  · rw [if_neg (by rw [decide_eq_true_eq]; omega), moved_sp (by omega)]
    obtain ⟨mx, hmx, x1, _⟩ := tmax_post (xs := (upto 0 (xs.map fun x => (x, (1 : Int))).length).map fun k => ((lowO (xs.map fun x => (x, (1 : Int))) k.toNat - lm xs).natAbs : Int)) (by
      have : (upto 0 (xs.map fun x => (x, (1 : Int))).length) ≠ [] := List.length_pos_iff.mp (by rw [len_upto]; simp; omega)
      simpa using this)
    rw [move_sp false hwk (by simp; omega) (by simp; omega) hlo, hmx, Option.bind_some, Option.bind_some, Option.bind_some]
    refine Post.pure ?_
    rw [decide_eq_true_eq]
    obtain ⟨k, hk, rfl⟩ := List.mem_map.mp x1
    obtain ⟨a, b⟩ := mem_upto.mp hk
    rw [List.length_map] at b
    have hkl : k.toNat < xs.length := by omega
    have h1 := lowO_sp hwk (by simp; omega) (by simp; omega) (k := k.toNat) (by simpa using hkl)
    rw [← out_map] at h1 
    have h2 := low_ones (out_ne (show 2 ≤ xs.length by omega) hkl)
    have hwk2 : WOk ((out xs k.toNat).map fun x => (x, (1 : Int))) := ⟨by simpa using out_ne (show 2 ≤ xs.length by omega) hkl, fun p hp => by
      obtain ⟨x, _, rfl⟩ := List.mem_map.mp hp
      exact ⟨Int.le_refl _, by show (1 : Int) ≤ 9; decide⟩⟩
    rw [h1.uniq hwk2 h2]
    exact out_move (by omega) hkl
end LP
namespace LP
open PySem PySem.Spec PyProof.Rows L2 PF TL
theorem lmiddle_sp {xs : List Int} (h : xs ≠ []) : t_law_middle xs = some (some (lm xs)) := by
  suffices hh : Post (t_law_middle xs) (fun r => r = some (lm xs)) by
    obtain ⟨r, e, rfl⟩ := hh
    exact e
  have hpos := List.length_pos_iff.mpr h
  unfold t_law_middle
  refine Post.bind (P := fun r => r = some (lm xs)) ?_ fun r hr => Post.pure hr
  refine Post.imp (tfold_post (fun pre (s : Option Int) => (∀ m, s = some m → m ∈ pre ∧ (xs.length : Int) ≤ 2 * (cle xs m : Int)) ∧ ∀ y ∈ pre, (xs.length : Int) ≤ 2 * (cle xs y : Int) → ∃ m, s = some m ∧ m ≤ y) (s := none) ⟨fun m e => (by cases e), by simp⟩ ?_) ?_
  · rintro pre x suf s hxs ⟨i1, i2⟩
    refine Post.let ?_
    have e : ((List.length (List.map (fun (other_5 : Int) => (1 : Int)) (List.filter (fun (other_5 : Int) => decide (other_5 ≤ x)) xs)) : Nat) : Int) = (cle xs x : Int) := by
      unfold cle
      rw [List.length_map, List.countP_eq_length_filter]
    rw [e]
    have key : ∀ w : Bool, (w = true ↔ ((xs.length : Int) ≤ 2 * (cle xs x : Int) ∧ ∀ m, s = some m → x < m)) → Post (Option.bind (α := Option Int) (if w = true then some (some x) else some s) fun s_10 => some s_10) (fun s' => (∀ m, s' = some m → m ∈ pre ++ [x] ∧ (xs.length : Int) ≤ 2 * (cle xs m : Int)) ∧ ∀ y ∈ pre ++ [x], (xs.length : Int) ≤ 2 * (cle xs y : Int) → ∃ m, s' = some m ∧ m ≤ y) := by
      intro w hw
      by_cases c : w = true
      · obtain ⟨c1, c2⟩ := hw.mp c
        rw [if_pos c, Option.bind_some]
        refine Post.pure ⟨fun m e => ?_, fun y hy hc => ⟨x, rfl, ?_⟩⟩
        · have : x = m := Option.some.inj e
          subst this
          exact ⟨by simp, c1⟩
        · rcases List.mem_append.mp hy with q | q
          · obtain ⟨m, m1, m2⟩ := i2 y q hc
            have := c2 m m1
            omega
          · have : y = x := by simpa using q
            omega
      · rw [if_neg c, Option.bind_some]
        refine Post.pure ⟨fun m e => ⟨List.mem_append_left _ (i1 m e).1, (i1 m e).2⟩, fun y hy hc => ?_⟩
        rcases List.mem_append.mp hy with q | q
        · exact i2 y q hc
        · have hyx : y = x := by simpa using q
          subst hyx
          cases hs : s with
          | none => exact absurd (hw.mpr ⟨hc, fun m e => by rw [hs] at e; cases e⟩) c
          | some m =>
            refine ⟨m, rfl, ?_⟩
            rcases Int.lt_or_le y m with g | g
            · exact absurd (hw.mpr ⟨hc, fun m' e => by rw [hs] at e; have := Option.some.inj e; omega⟩) c
            · exact g
    by_cases c1 : 2 * (cle xs x : Int) ≥ (xs.length : Int)
    · rw [if_pos (decide_eq_true c1)]
      cases s with
      | none =>
        rw [Option.isNone_none, if_pos rfl, Option.bind_some, Option.bind_some]
        exact key true ⟨fun _ => ⟨by omega, fun m e => (by cases e)⟩, fun _ => rfl⟩
      | some m0 =>
        rw [Option.isNone_some, if_neg (by simp), Option.bind_some, Option.bind_some, Option.bind_some]
        refine key _ ⟨fun z => ⟨by omega, fun m e => ?_⟩, fun z => ?_⟩
        · have := of_decide_eq_true z
          have := Option.some.inj e
          omega
        · exact decide_eq_true (z.2 m0 rfl)
    · rw [if_neg (by simpa using c1), Option.bind_some]
      exact key false ⟨fun z => (by cases z), fun z => by omega⟩
  · rintro s ⟨i1, i2⟩
    have a := (lm_le h (lm xs)).mp (Int.le_refl _)
    obtain ⟨m, rfl, m2⟩ := i2 (lm xs) (lm_in h) (by omega)
    have c := (lm_le h m).mpr (by have := (i1 m rfl).2; omega)
    congr 1
    omega
def farL (xs : List Int) : List Int := xs.map fun x => ((x - lm xs).natAbs : Int)
theorem farL_len (xs : List Int) : (farL xs).length = xs.length := by unfold farL; rw [List.length_map]
theorem farL_ne {xs : List Int} (h : xs ≠ []) : farL xs ≠ [] := by unfold farL; simpa using h
theorem fars_sp {xs : List Int} (h : xs ≠ []) : t_far_from_middle xs = some (farL xs) := by
  unfold t_far_from_middle
  rw [mid_sp h]; rfl
theorem spread_sp {xs : List Int} (h : xs ≠ []) : t_spread_of_picks xs = some (lm (farL xs)) := by
  unfold t_spread_of_picks
  rw [fars_sp h, Option.bind_some]
  have : t_middle_pick_1 (farL xs) = some (lm (farL xs)) := mid_sp (farL_ne h)
  rw [this]; rfl
def wfar (xs : List Int) (times : Int) : List Int := ((upto 0 xs.length).filter fun k => decide (ax (farL xs) k.toNat ≤ times * lm (farL xs))).map fun k => ax xs k.toNat
theorem wfar_sp {xs : List Int} (h : xs ≠ []) (hn : xs.length ≤ 900) {times : Int} (ht : times.natAbs < 18446744073709551616) : t_without_far xs times = some (wfar xs times) := by
  unfold t_without_far
  rw [spread_sp h, Option.bind_some, tmul_l ht, Option.bind_some, fars_sp h, Option.bind_some, trg_0 (by omega), Option.bind_some]
  have hl := farL_len xs
  rw [tfilt_eq (q := fun k => decide (ax (farL xs) k.toNat ≤ times * lm (farL xs))) fun k hk => by
    obtain ⟨a, b⟩ := mem_upto.mp hk
    obtain ⟨j, rfl⟩ := Int.eq_ofNat_of_zero_le a
    rw [ax_at (by omega), Option.bind_some, Int.toNat_natCast]]
  rw [Option.bind_some, tmap_eq (g := fun k => ax xs k.toNat) fun k hk => by
    obtain ⟨a, b⟩ := mem_upto.mp (List.mem_filter.mp hk).1
    obtain ⟨j, rfl⟩ := Int.eq_ofNat_of_zero_le a
    rw [ax_at (by omega), Option.bind_some, Int.toNat_natCast]]
  rfl
theorem gcd_frac2 {n d : Int} (hd : 0 < d) (hb : d.natAbs < 2 ^ 9000) : tdiv n ((Nat.gcd n.natAbs d.natAbs : Nat) : Int) = some (qp (Rat.divInt n d)).1 ∧ tdiv d ((Nat.gcd n.natAbs d.natAbs : Nat) : Int) = some (qp (Rat.divInt n d)).2 := by
  have h := gcd_frac (n := n) hd hb
  obtain ⟨a, ha, h2⟩ := Option.bind_eq_some_iff.mp h
  obtain ⟨b, hb2, h3⟩ := Option.bind_eq_some_iff.mp h2
  have e := Option.some.inj h3
  rw [ha, hb2, ← e]
  exact ⟨rfl, rfl⟩
theorem small9 {d : Int} (h : d.natAbs < 2 ^ 400) : d.natAbs < 2 ^ 9000 := small_div h
theorem right_sp {xs : List Int} (h : xs ≠ []) (hn : xs.length ≤ 900) (ds : List Int) : Post (t_law_right ds xs) fun r => r.1 = true := by
  have hpos := List.length_pos_iff.mpr h
  have hfl := farL_len xs
  unfold t_law_right
  refine Post.let ?_
  rw [lmiddle_sp h, Option.bind_some, tmap_eq (g := fun x => ((x - lm xs).natAbs : Int)) fun x _ => by
    show Option.bind (some (max x (lm xs) - min x (lm xs))) _ = _
    rw [Option.bind_some]
    congr 1
    omega]
  rw [Option.bind_some]
  have e1 : t_law_middle_1 (xs.map fun x => ((x - lm xs).natAbs : Int)) = some (some (lm (farL xs))) := lmiddle_sp (farL_ne h)
  rw [e1, Option.bind_some, mid_sp h, Option.bind_some]
  refine Post.eqb (a := false) ?_ (Post.iff (by simp) ?_)
  · rw [if_neg (by simp), spread_sp h, Option.bind_some]; simp
  have hrev : xs.reverse ≠ [] := by simpa using h
  rw [mid_sp hrev, Option.bind_some, lm_perm (List.reverse_perm xs)]
  refine Post.iff (by simp) ?_
  refine Post.go (P := fun _ => True) (tforr_go (fun _ => True) trivial fun times ht s _ => ?_) fun _ _ => ?_
  · obtain ⟨t0, t1⟩ := mem_upto.mp ht
    rw [trg_0 (by omega), Option.bind_some]
    rw [tfilt_eq (q := fun k => decide (ax (farL xs) k.toNat ≤ times * lm (farL xs))) fun k hk => by
      obtain ⟨a, b⟩ := mem_upto.mp hk
      obtain ⟨j, rfl⟩ := Int.eq_ofNat_of_zero_le a
      show Option.bind (tat (farL xs) (j : Int)) _ = _
      rw [ax_at (by omega), Option.bind_some, Option.bind_some, tmul_l (by omega), Option.bind_some, Int.toNat_natCast]]
    rw [Option.bind_some, tmap_eq (g := fun k => ax xs k.toNat) fun k hk => by
      obtain ⟨a, b⟩ := mem_upto.mp (List.mem_filter.mp hk).1
      obtain ⟨j, rfl⟩ := Int.eq_ofNat_of_zero_le a
      rw [ax_at (by omega), Option.bind_some, Int.toNat_natCast]]
    rw [Option.bind_some, wfar_sp h hn (by omega), Option.bind_some]
    show Post (Option.bind (tsame (okV okA) (wfar xs times) (wfar xs times)) _) _
    rw [tsame_ok (ok := okV okA) (okV_of ?_ fun _ _ => rfl), Option.bind_some]
    · exact Post.iff (by simp) (Post.pure ⟨_, rfl, trivial⟩)
    · unfold wfar
      rw [List.length_map]
      refine Nat.le_trans (List.length_filter_le _ _) ?_
      rw [len_upto]; omega
  refine Post.let ?_
  have hb9 : ((xs.length : Nat) : Int).natAbs < 2 ^ 9000 := small_div (by omega)
  have hdv : t_law_divisor xs.sum (xs.length : Int) = some ((Nat.gcd xs.sum.natAbs ((xs.length : Nat) : Int).natAbs : Nat) : Int) := by
    unfold t_law_divisor
    rw [tlet_eq, show max xs.sum (-xs.sum) = ((xs.sum.natAbs : Nat) : Int) by omega, euclid (fun _ => rfl) (fun s hs => by rw [tmod_ok (by omega)]; rfl) 9000 FUEL xs.sum.natAbs xs.length (by simpa using hb9) (by decide)]; rfl
  obtain ⟨g1, g2⟩ := gcd_frac2 (n := xs.sum) (d := (xs.length : Int)) (by omega) hb9
  rw [hdv, Option.bind_some]
  have hme : t_mean_of_picks xs = some (qp (Rat.divInt xs.sum (xs.length : Int))) := by
    unfold t_mean_of_picks
    rw [fraction_sp (by omega) hb9]; rfl
  rw [hme, Option.bind_some, g1, Option.bind_some, g2, Option.bind_some]
  refine Post.iff (by simp) ?_
  refine Post.bind (tmapS_post (I := fun _ => True) (P := fun w : Int => 1 ≤ w ∧ w ≤ 9) (fun x s _ => Post.bind (take_sp (by decide)) fun y hy => Post.pure ⟨by dsimp only; omega, trivial⟩) xs ds trivial) fun l37 h37 => ?_
  have hxw : XW xs l37.1 := ⟨h37.1, h, h37.2.1, hn⟩
  generalize l37.1 = ws at hxw ⊢
  obtain ⟨a, b, ha, hb⟩ := low_ex hxw
  have hl := hxw.len
  simp only [apart_eq]
  have e := fold_sel (f := fun (minute_42 : Int) (s_40 : (List (Int × Int))) => Option.bind (trg ((0 : Int)) ((xs.length : Nat) : Int)) fun r_43 => Option.bind (tmap (fun (k_44 : Int) => Option.bind (tat ws k_44) fun x_45 => Option.bind (tat xs k_44) fun x_46 => Option.bind (tmul x_45 (((x_46 - minute_42).natAbs : Nat) : Int)) fun m_47 => some (m_47)) r_43) fun l_48 => Option.bind (tapp s_40 (((List.sum l_48), minute_42))) fun sums_49 => some sums_49) (q := fun _ => true) (g := fun m => (Fs (prs xs ws) m, m)) xs [] (fun m _ s hs => by
    rw [trg_0 (by omega), Option.bind_some, sum_terms hxw m, Option.bind_some, tapp_ok hs]; rfl) (by simp; omega)
  rw [List.filter_eq_self.mpr fun _ _ => rfl, List.nil_append] at e
  rw [e, Option.bind_some, best_sp hxw ha, Option.bind_some]
  show Post (Option.bind (tmin lx2 _) _) _
  rw [pick_min hxw ha, Option.bind_some]
  refine Post.iff (by simp) ?_
  rw [trep_ones (by omega) (by omega), Option.bind_some, best_ones h hn, Option.bind_some]
  exact Post.pure (by simp)
theorem moved_right_sp {xs : List Int} (h : 3 ≤ xs.length) (hn : xs.length ≤ 20) : t_law_moved_right xs = some true := by
  suffices hh : Post (t_law_moved_right xs) (fun r => r = true) by
    obtain ⟨r, e, rfl⟩ := hh
    exact e
  have hne : xs ≠ [] := List.length_pos_iff.mp (by omega)
  unfold t_law_moved_right
  obtain ⟨mn, hmn, n1, n2⟩ := tmin_post hne
  obtain ⟨mx, hmx, x1, x2⟩ := tmax_post hne
  rw [lmiddle_sp hne, Option.bind_some, tcat_of (by simp; omega), Option.bind_some, hmn, Option.bind_some, hmx, Option.bind_some, tcat_of (by simp; omega), Option.bind_some]
  unfold tsortU
  rw [if_pos (by simp; omega), Option.bind_some, trg_0 (by omega), Option.bind_some, moved_sp h]
  generalize hU : sortU (xs ++ List.map (fun minute_2 => minute_2 + 1) xs ++ [(mn - 99, mx + 99).fst, (mn - 99, mx + 99).snd]) = U
  have hlo : mn - 99 ∈ U := by rw [← hU, sortU_mem]; simp
  have hhi : mx + 99 ∈ U := by rw [← hU, sortU_mem]; simp
  refine Post.bind (P := fun s : Int => s = mv1 xs) ?_ fun s hs => Post.pure (by rw [hs]; simp)
  have hmv0 : 0 ≤ mv1 xs := by
    have := rep_move h (show 0 < xs.length by omega) 0
    omega
  refine Post.imp (tfold_post (fun pre (s : Int) => 0 ≤ s ∧ s ≤ mv1 xs ∧ ∀ k : Nat, k < pre.length → ∀ z ∈ U, ((lm (rep xs k z) - lm xs).natAbs : Int) ≤ s) (s := (0 : Int)) ⟨Int.le_refl _, hmv0, by simp⟩ ?_) ?_
  · rintro pre x suf s hxs ⟨i1, i2, i3⟩
    obtain ⟨hk, rfl⟩ := upto_split hxs
    rw [Int.zero_add, List.length_append, List.length_singleton]
    generalize pre.length = k at hk i3 ⊢
    refine Post.bind (P := fun s' : Int => s ≤ s' ∧ s' ≤ mv1 xs ∧ ∀ z ∈ U, ((lm (rep xs k z) - lm xs).natAbs : Int) ≤ s') ?_ fun s' hs' => Post.pure ⟨by omega, hs'.2.1, fun i hi z hz => ?_⟩
    · refine tfold_post (fun pre2 (s' : Int) => s ≤ s' ∧ s' ≤ mv1 xs ∧ ∀ z ∈ pre2, ((lm (rep xs k z) - lm xs).natAbs : Int) ≤ s') ⟨Int.le_refl _, i2, by simp⟩ ?_
      rintro pre2 z suf2 s' _ ⟨j1, j2, j3⟩
      have hr : rep xs k z ≠ [] := List.length_pos_iff.mp (by rw [rep_len hk]; omega)
      rw [cut_to, tcat_of (by simp; omega), Option.bind_some, show (k : Int) + 1 = ((k + 1 : Nat) : Int) from rfl, cut_from, tcat_of (by simp; omega), Option.bind_some]
      show Post (Option.bind (t_law_middle (rep xs k z)) _) _
      rw [lmiddle_sp hr, Option.bind_some]
      have e : t_law_apart_2 (some (lm (rep xs k z))) (some (lm xs)) = some ((lm (rep xs k z) - lm xs).natAbs : Int) := by
        show some (max _ _ - min _ _) = _
        congr 1
        omega
      rw [e, Option.bind_some]
      have hm := rep_move h hk z
      refine Post.let (Post.pure ⟨by omega, by omega, fun w hw => ?_⟩)
      rcases List.mem_append.mp hw with q | q
      · have := j3 w q; omega
      · have : w = z := by simpa using q
        subst this
        omega
    · rcases Nat.lt_or_eq_of_le (Nat.lt_succ_iff.mp hi) with q | rfl
      · have := i3 i q z hz; omega
      · exact hs'.2.2 z hz
  · rintro s ⟨i1, i2, i3⟩
    rw [len_upto] at i3
    obtain ⟨k, hk, q⟩ := rep_most h (lo := mn - 99) (hi := mx + 99) (fun x hx => by have := n2 x hx; omega) (fun x hx => by have := x2 x hx; omega)
    have a := i3 k hk _ hlo
    have c := i3 k hk _ hhi
    omega
end LP
namespace LP
open PySem PySem.Spec PyProof.Rows L2 PF TL
theorem minutes_sp (ds ns : List Int) {many : Int} (h0 : 1 ≤ many) (h1 : many ≤ 100) : Post (t_law_minutes ds ns many) fun r => (r.1.length : Int) = many := by
  unfold t_law_minutes
  refine Post.bind (take_sp (by decide)) fun y1 hy1 => Post.bind (cellp_sp ns y1.1) fun y2 h2 => ?_
  rw [tdiv_ok (by decide) (small_div (by decide)), Option.bind_some]
  refine Post.bind (take_sp (by decide)) fun y4 h4 => ?_
  obtain ⟨x, hx, _, _⟩ := tat_in (xs := [(0 : Int), y2.fdiv (10 ^ 32)]) h4.1 (by simpa using h4.2)
  rw [hx, Option.bind_some]
  refine Post.bind (take_sp (by decide)) fun y6 h6 => ?_
  obtain ⟨w, hw, _, hwm⟩ := tat_in (xs := [(5 : Int), 20, 99]) h6.1 (by simpa using h6.2)
  have hwb : 1 ≤ w := by
    simp only [List.mem_cons, List.not_mem_nil, or_false] at hwm
    omega
  rw [hw, Option.bind_some, trg_of (by decide) (by omega) (by decide) (by omega), Option.bind_some]
  refine Post.bind (tmapS_post (I := fun _ => True) (P := fun _ => True) (fun k s _ => Post.bind (take_sp (by omega)) fun y hy => Post.pure ⟨trivial, trivial⟩) _ y6.2 trivial) fun l13 h13 => Post.pure ?_
  have := h13.1
  rw [len_upto] at this
  dsimp only
  omega
theorem bminutes_sp (ds ns : List Int) {many : Int} (h0 : 1 ≤ many) (h1 : many ≤ 100) : Post (t_law_b_minutes ds ns many) fun r => (r.1.length : Int) = many := by
  unfold t_law_b_minutes
  refine Post.bind (take_sp (by decide)) fun y1 hy1 => Post.bind (cellp_sp ns y1.1) fun y2 h2 => ?_
  rw [tdiv_ok (by decide) (small_div (by decide)), Option.bind_some]
  refine Post.bind (take_sp (by decide)) fun y4 h4 => ?_
  obtain ⟨x, hx, _, _⟩ := tat_in (xs := [(0 : Int), y2.fdiv (10 ^ 32)]) h4.1 (by simpa using h4.2)
  rw [hx, Option.bind_some]
  refine Post.bind (take_sp (by decide)) fun y6 h6 => ?_
  obtain ⟨w, hw, _, hwm⟩ := tat_in (xs := [(5 : Int), 20, 99]) h6.1 (by simpa using h6.2)
  have hwb : 1 ≤ w := by
    simp only [List.mem_cons, List.not_mem_nil, or_false] at hwm
    omega
  rw [hw, Option.bind_some, trg_of (by decide) (by omega) (by decide) (by omega), Option.bind_some]
  refine Post.bind (P := fun s : List Int × List Int => (s.2.length : Int) = many) ?_ fun s hs => Post.pure hs
  refine Post.imp (tfold_post (fun pre (s : List Int × List Int) => s.2.length = pre.length) (s := (y6.2, ([] : List Int))) rfl ?_) fun s hs => by rw [hs, len_upto]; omega
  rintro pre k suf ⟨d, fs⟩ hxs i1
  dsimp only at i1 ⊢
  have hpl : pre.length < 100 := by
    have := congrArg List.length hxs
    simp only [len_upto, List.length_append, List.length_cons] at this
    omega
  refine Post.bind (take_sp (by omega)) fun y13 h13 => Post.let ?_
  refine Post.bind (take_sp (by decide)) fun y15 h15 => ?_
  refine Post.bind (P := fun _ => True) ?_ fun s16 _ => ?_
  · refine Post.ite (fun _ => ?_) fun _ => Post.pure trivial
    exact Post.bind (take_sp (by decide)) fun y17 _ => Post.let (Post.pure trivial)
  rw [tapp_ok (by omega), Option.bind_some]
  exact Post.pure (by simp [i1])
theorem fixP : t_best_pick [1, 5] [2, 2] = some 1 ∧ t_best_pick [5, 1, 3] [1, 1, 1] = some 3 ∧ t_best_pick [9, 4, 5, 20] [1, 1, 1, 9] = some 20 := by decide +kernel
theorem fixS : t_best_span [(1, 0, 2), (5, 0, 2)] = some ((1, 0), (5, 0)) := by
  unfold t_best_span t_weighed_middles
  rw [tsort_isrt lin2]
  decide +kernel
theorem lm1 : lm [9, 4, 5, 20] = 5 ∧ lm (farL [9, 4, 5, 20]) = 1 ∧ lm [7] = 7 := by
  unfold farL lm
  rw [srt_isrt]
  decide +kernel
theorem wf1 : wfar [9, 4, 5, 20] 4 = [9, 4, 5] ∧ wfar [1, 1, 5] 3 = [1, 1] := by
  unfold wfar farL lm
  rw [srt_isrt]
  decide +kernel
theorem mv0 : t_moved_by_one [9, 4, 5, 20] = some 4 := by
  unfold t_moved_by_one
  rw [srt_isrt]
  decide +kernel
theorem me1 : t_mean_of_picks [9, 4, 5, 20] = some (19, 2) ∧ t_mean_of_picks [-3, -4] = some (-7, 2) := by
  unfold t_mean_of_picks
  constructor
  · rw [fraction_sp (by decide) (small_div (by decide))]; decide +kernel
  · rw [fraction_sp (by decide) (small_div (by decide))]; decide +kernel
theorem one_sp (ns : List Int) (hn : ns.length ≤ 63) : t_law_part_one ns = some true := by
  suffices h : Post (t_law_part_one ns) (fun r => r = true) by
    obtain ⟨r, e, rfl⟩ := h
    exact e
  unfold t_law_part_one
  refine Post.bind (draws_sp ns (by decide) (by decide) (by omega)) fun y1 _ => ?_
  refine Post.go (P := fun _ => True) (tforr_go (fun _ => True) trivial fun k hk s _ => ?_) fun s31 _ => ?_
  · obtain ⟨k0, k1⟩ := mem_upto.mp hk
    obtain ⟨x, hx, _, hxm⟩ := tat_in (xs := [(4 : Int), 10, 6]) k0 (by simpa using k1)
    have hxb : 1 ≤ x ∧ x ≤ 10 := by
      simp only [List.mem_cons, List.not_mem_nil, or_false] at hxm
      omega
    rw [hx, Option.bind_some]
    refine Post.bind (take_sp (by omega)) fun y10 h10 => Post.let ?_
    refine Post.bind (minutes_sp _ ns (by omega) (by omega)) fun y12 h12 => Post.bind (minutes_sp _ ns (by omega) (by omega)) fun y13 h13 => ?_
    refine Post.bind (tmapS_post (I := fun _ => True) (P := fun w : Int => 1 ≤ w ∧ w ≤ 9) (fun z s _ => Post.bind (take_sp (by decide)) fun y19 h19 => ?_) y12.1 y13.2 trivial) fun l22 h22 => ?_
    · obtain ⟨w, hw, _, hwm⟩ := tat_in (xs := [(9 : Int), 2]) h19.1 (by simpa using h19.2)
      have hwb : 1 ≤ w ∧ w ≤ 9 := by
        simp only [List.mem_cons, List.not_mem_nil, or_false] at hwm
        omega
      rw [hw, Option.bind_some]
      exact Post.bind (take_sp (by omega)) fun y hy => Post.pure ⟨by dsimp only; omega, trivial⟩
    have hx1 : XW y12.1 l22.1 := ⟨h22.1, List.length_pos_iff.mp (by omega), h22.2.1, by omega⟩
    have hx2 : XW y13.1 l22.1 := ⟨by rw [h22.1]; omega, List.length_pos_iff.mp (by omega), h22.2.1, by omega⟩
    refine Post.eqb (line_right_sp hx1 false) (Post.eqb (a := false) ?_ (Post.iff (by simp) ?_))
    · rw [if_neg (by simp), line_right_sp hx2 true]; rfl
    refine Post.eqb (both_right_sp hx1 hx2) (Post.eqb (a := false) ?_ (Post.iff (by simp) (Post.pure ⟨_, rfl, trivial⟩)))
    rw [if_neg (by simp), middle_right_sp hx1.ne (by omega)]; rfl
  obtain ⟨f1, f2, _⟩ := fixP
  refine Post.eqb f1 (Post.eqb (a := true) ?_ (Post.pure rfl))
  rw [if_pos (by decide)]
  show Option.bind (t_best_span [(1, 0, 2), (5, 0, 2)]) _ = _
  rw [fixS, Option.bind_some, if_pos (by decide)]
  show Option.bind (Option.bind (t_best_pick [5, 1, 3] [1, 1, 1]) _) _ = _
  rw [f2]; rfl
theorem two_sp (ns : List Int) (hn : ns.length ≤ 63) : t_law_part_two ns = some true := by
  suffices h : Post (t_law_part_two ns) (fun r => r = true) by
    obtain ⟨r, e, rfl⟩ := h
    exact e
  unfold t_law_part_two
  refine Post.bind (draws_sp ns (by decide) (by decide) (by omega)) fun y1 _ => ?_
  refine Post.go (P := fun _ => True) (tforr_go (fun _ => True) trivial fun k hk s _ => ?_) fun s13 _ => ?_
  · obtain ⟨k0, k1⟩ := mem_upto.mp hk
    obtain ⟨x, hx, _, hxm⟩ := tat_in (xs := [(5 : Int), 12, 8]) k0 (by simpa using k1)
    have hxb : 1 ≤ x ∧ x ≤ 12 := by
      simp only [List.mem_cons, List.not_mem_nil, or_false] at hxm
      omega
    rw [hx, Option.bind_some]
    refine Post.bind (take_sp (by omega)) fun y7 h7 => Post.bind (bminutes_sp _ ns (by omega) (by omega)) fun y8 h8 => ?_
    have hne : y8.1 ≠ [] := List.length_pos_iff.mp (by omega)
    refine Post.bind (right_sp hne (by omega) y8.2) fun y9 h9 => Post.eqb (a := false) ?_ (Post.iff (by simp) (Post.pure ⟨_, rfl, trivial⟩))
    rw [if_neg (by rw [h9]; simp)]
    by_cases c : y8.1.length > 2
    · rw [if_pos (by rw [decide_eq_true_eq]; omega), moved_right_sp (by omega) (by omega)]; rfl
    · rw [if_neg (by rw [decide_eq_true_eq]; omega)]; rfl
  refine Post.bind (take_sp (by decide)) fun y16 h16 => ?_
  refine Post.bind (P := fun w => w.1 = false) ?_ fun w hw => Post.iff (by rw [hw]; simp) ?_
  · refine Post.ite (fun _ => ?_) fun _ => Post.pure rfl
    refine Post.bind (take_sp (by decide)) fun y17 h17 => Post.bind (bminutes_sp _ ns (by omega) (by omega)) fun y18 h18 => ?_
    refine Post.bind (right_sp (List.length_pos_iff.mp (by omega)) (by omega) y18.2) fun y19 h19 => Post.pure ?_
    dsimp only
    rw [h19]; rfl
  refine Post.let ?_
  obtain ⟨l1, l2, l3⟩ := lm1
  obtain ⟨w1, w2⟩ := wf1
  obtain ⟨m1, m2⟩ := me1
  obtain ⟨_, _, p3⟩ := fixP
  have a1 : t_middle_pick [9, 4, 5, 20] = some 5 := by rw [mid_sp (by decide), l1]
  have a2 : t_spread_of_picks [9, 4, 5, 20] = some 1 := by rw [spread_sp (by decide), l2]
  have a3 : t_without_far [9, 4, 5, 20] 4 = some [9, 4, 5] := by rw [wfar_sp (by decide) (by decide) (by decide), w1]
  have a4 : t_without_far [1, 1, 5] 3 = some [1, 1] := by rw [wfar_sp (by decide) (by decide) (by decide), w2]
  have a5 : t_middle_pick [7] = some 7 := by rw [mid_sp (by decide), l3]
  refine Post.eqb a1 (Post.eqb (a := false) ?_ (Post.iff (by simp) ?_))
  · rw [if_neg (by decide)]
    show Option.bind (t_spread_of_picks [9, 4, 5, 20]) _ = _
    rw [a2, Option.bind_some, if_neg (by decide)]
    show Option.bind (Option.bind (t_without_far [9, 4, 5, 20] 4) _) _ = _
    rw [a3]; rfl
  refine Post.eqb m1 (Post.eqb (a := false) ?_ (Post.iff (by simp) ?_))
  · rw [if_neg (by decide)]
    show Option.bind (t_moved_by_one [9, 4, 5, 20]) _ = _
    rw [mv0, Option.bind_some, if_neg (by decide)]
    show Option.bind (Option.bind (t_best_pick [9, 4, 5, 20] [1, 1, 1, 9]) _) _ = _
    rw [p3]; rfl
  refine Post.eqb m2 (Post.eqb (a := true) ?_ (Post.pure rfl))
  rw [if_pos (by decide)]
  show Option.bind (t_middle_pick [7]) _ = _
  rw [a5, Option.bind_some, if_pos (by decide)]
  show Option.bind (Option.bind (t_without_far [1, 1, 5] 3) _) _ = _
  rw [a4]; rfl
theorem law_t (ns : List Int) (hn : ns.length ≤ 63) : t_law ns = some true := by
  unfold t_law
  rw [one_sp ns hn, Option.bind_some, if_pos rfl, two_sp ns hn]; rfl
theorem law_data (ns : List Int) (hn : ns.length ≤ 63) : claw [.kst (ns.map .int)] [] = some (.bl true, []) := r_law (law_t ns hn)
end LP
namespace LP
open PySem PySem.Spec PyProof.Rows L2 PF
def topS (i : Nat) : Stmt := PySem.Challenge.pw_shocksknown_k46_whole_picks_as_votes.main.body.getD i (.Pass ⟨0, 0, 0, 0⟩)
section
variable {P : Program} {w : World} {K : PySem.W.Frag} {mg : Str → Option Value} {base : Heap}
abbrev stfraction : Stmt := topS 2
theorem scfraction : FnScope ["n", "d", "divisor"] ["n", "d"] (defScope stfraction) := ⟨rfl, rfl, rfl, by decide +kernel, rfl, by decide +kernel, by decide +kernel⟩
theorem okfraction {f : Addr} {fd : FuncData} (F : FunD K "fraction" "fraction" (defArgs stfraction) (defBody stfraction) (defScope stfraction) [] [] f fd) (g : mg "fraction" = some (.ref f)) (B : Bn mg) (B_gcd : mg "gcd" = some (.builtin "math.gcd"))  : Cal P w K mg base 1 "fraction" cfraction 2 := by
  have nd := scfraction.nd
  refine cal_of (ps := ["n", "d"]) g F.kp (F.bindsN fun _ _ _ _ _ _ us hl => match us, hl with | [_, _], _ => rfl) (fn_ok (k := 0) F scfraction fun cdv A outer s H E hr => ?_)
  exact pfs_cons (pfs_set (i := 2) nd rfl (by first | exact Or.inl rfl | exact Or.inr rfl) (pf_bfun cr_gcd o_i2 (by rfl) B_gcd (pfa_cons (pf_var 0) (pfa_cons (pf_var 1) (pfa_nil)))))
      (pfs_cons (pfs_if (pft_cmp op_lt o_cmp (pf_var 1) (pf_int) (nomark _))
      (pfs_one (pfs_set (i := 2) nd rfl (by first | exact Or.inl rfl | exact Or.inr rfl) (pf_un un_neg o_neg (pf_var 2))))
      (pfs_nil))
      (pfs_one (pfs_ret (pf_tup (pfa_cons (pf_bin op_fdivA o_fdiv (pf_var 0) (pf_var 2)) (pfa_cons (pf_bin op_fdivA o_fdiv (pf_var 1) (pf_var 2)) (pfa_nil)))))))
abbrev stmiddle_pick : Stmt := topS 4
theorem scmiddle_pick : FnScope ["minutes"] ["minutes"] (defScope stmiddle_pick) := ⟨rfl, rfl, rfl, by decide +kernel, rfl, by decide +kernel, by decide +kernel⟩
theorem okmiddle_pick {f : Addr} {fd : FuncData} (F : FunD K "middle_pick" "middle_pick" (defArgs stmiddle_pick) (defBody stmiddle_pick) (defScope stmiddle_pick) [] [] f fd) (g : mg "middle_pick" = some (.ref f)) (B : Bn mg)  : Cal P w K mg base 1 "middle_pick" cmiddle_pick 1 := by
  have nd := scmiddle_pick.nd
  refine cal_of (ps := ["minutes"]) g F.kp (F.bindsN fun _ _ _ _ _ _ us hl => match us, hl with | [_], _ => rfl) (fn_ok (k := 0) F scmiddle_pick fun cdv A outer s H E hr => ?_)
  exact pfs_one (pfs_ret (pf_ix ix_seq o_ix (pf_fz (pfn_b (cr_sortedA hr.units) o_sortA (by rfl) B.sorted boot_sorted (pfa_cons (pf_var 0) (pfa_nil)))) (pf_bin op_fdivA o_fdiv (pf_bin op_sub o_sub (pf_b call_len o_len (by rfl) B.len boot_len (pfa_cons (pf_var 0) (pfa_nil))) (pf_int)) (pf_int)) (fun _ _ => rfl)))
abbrev stfar_from_middle : Stmt := topS 5
theorem scfar_from_middle : FnScope ["minutes", "middle", "minute"] ["minutes"] (defScope stfar_from_middle) := ⟨rfl, rfl, rfl, by decide +kernel, rfl, by decide +kernel, by decide +kernel⟩
theorem okfar_from_middle {f : Addr} {fd : FuncData} (F : FunD K "far_from_middle" "far_from_middle" (defArgs stfar_from_middle) (defBody stfar_from_middle) (defScope stfar_from_middle) [] [] f fd) (g : mg "far_from_middle" = some (.ref f)) (B : Bn mg) (Cmiddle_pick : Cal P w K mg base 1 "middle_pick" qmiddle_pick 1) : Cal P w K mg base 2 "far_from_middle" cfar_from_middle 1 := by
  have nd := scfar_from_middle.nd
  refine cal_of (ps := ["minutes"]) g F.kp (F.bindsN fun _ _ _ _ _ _ us hl => match us, hl with | [_], _ => rfl) (fn_ok (k := 1) F scfar_from_middle fun cdv A outer s H E hr => ?_)
  exact pfs_cons (pfs_set (i := 1) nd rfl (by first | exact Or.inl rfl | exact Or.inr rfl) (pf_callC Cmiddle_pick (hr.mono (by decide)) (by rfl) (pfa_cons (pf_var 0) (pfa_nil)) (len_cons len_nil)))
      (pfs_one (pfs_ret (pf_fz (pfn_lc (own := [("minute", 2)]) rfl nd (pfi_sq (pf_var 0)) (blkOk_by (own := [("minute", 2)]) (N := ["minutes", "middle", "minute"]) (by with_unfolding_all rfl)) (fun _ _ _ _ _ => pfg_name (i := 2) nd rfl (by first | exact Or.inl rfl | exact Or.inr rfl)) (fun _ _ _ _ _ => pfts_nil) (fun _ _ _ _ _ => pf_b call_abs o_i1 (by rfl) B.abs boot_abs (pfa_cons (pf_bin op_sub o_sub (pf_var 2) (pf_var 1)) (pfa_nil)))))))
abbrev stspread_of_picks : Stmt := topS 6
theorem scspread_of_picks : FnScope ["minutes"] ["minutes"] (defScope stspread_of_picks) := ⟨rfl, rfl, rfl, by decide +kernel, rfl, by decide +kernel, by decide +kernel⟩
theorem okspread_of_picks {f : Addr} {fd : FuncData} (F : FunD K "spread_of_picks" "spread_of_picks" (defArgs stspread_of_picks) (defBody stspread_of_picks) (defScope stspread_of_picks) [] [] f fd) (g : mg "spread_of_picks" = some (.ref f)) (B : Bn mg) (Cmiddle_pick : Cal P w K mg base 1 "middle_pick" qmiddle_pick 1) (Cfar_from_middle : Cal P w K mg base 2 "far_from_middle" qfar_from_middle 1) : Cal P w K mg base 3 "spread_of_picks" cspread_of_picks 1 := by
  have nd := scspread_of_picks.nd
  refine cal_of (ps := ["minutes"]) g F.kp (F.bindsN fun _ _ _ _ _ _ us hl => match us, hl with | [_], _ => rfl) (fn_ok (k := 2) F scspread_of_picks fun cdv A outer s H E hr => ?_)
  exact pfs_one (pfs_ret (pf_callC Cmiddle_pick (hr.mono (by decide)) (by rfl) (pfa_cons (pf_callC Cfar_from_middle (hr.mono (by decide)) (by rfl) (pfa_cons (pf_var 0) (pfa_nil)) (len_cons len_nil)) (pfa_nil)) (len_cons len_nil)))
abbrev stwithout_far : Stmt := topS 7
theorem scwithout_far : FnScope ["minutes", "times", "bound", "far", "at"] ["minutes", "times"] (defScope stwithout_far) := ⟨rfl, rfl, rfl, by decide +kernel, rfl, by decide +kernel, by decide +kernel⟩
theorem okwithout_far {f : Addr} {fd : FuncData} (F : FunD K "without_far" "without_far" (defArgs stwithout_far) (defBody stwithout_far) (defScope stwithout_far) [] [] f fd) (g : mg "without_far" = some (.ref f)) (B : Bn mg) (Cspread_of_picks : Cal P w K mg base 3 "spread_of_picks" qspread_of_picks 1) (Cfar_from_middle : Cal P w K mg base 2 "far_from_middle" qfar_from_middle 1) : Cal P w K mg base 4 "without_far" cwithout_far 2 := by
  have nd := scwithout_far.nd
  refine cal_of (ps := ["minutes", "times"]) g F.kp (F.bindsN fun _ _ _ _ _ _ us hl => match us, hl with | [_, _], _ => rfl) (fn_ok (k := 3) F scwithout_far fun cdv A outer s H E hr => ?_)
  exact pfs_cons (pfs_set (i := 2) nd rfl (by first | exact Or.inl rfl | exact Or.inr rfl) (pf_bin op_mulA o_mul (pf_var 1) (pf_callC Cspread_of_picks (hr.mono (by decide)) (by rfl) (pfa_cons (pf_var 0) (pfa_nil)) (len_cons len_nil))))
      (pfs_cons (pfs_set (i := 3) nd rfl (by first | exact Or.inl rfl | exact Or.inr rfl) (pf_callC Cfar_from_middle (hr.mono (by decide)) (by rfl) (pfa_cons (pf_var 0) (pfa_nil)) (len_cons len_nil)))
      (pfs_one (pfs_ret (pf_ty call_tuple_of o_tuple (by rfl) B.tuple boot_tuple (pfa_cons (pf_fz (pfn_lc (own := [("at", 4)]) rfl nd (pfi_rg1 (by rfl) B.range (pfa_cons (pf_b call_len o_len (by rfl) B.len boot_len (pfa_cons (pf_var 0) (pfa_nil))) (pfa_nil))) (blkOk_by (own := [("at", 4)]) (N := ["minutes", "times", "bound", "far", "at"]) (by with_unfolding_all rfl)) (fun _ _ _ _ _ => pfg_name (i := 4) nd rfl (by first | exact Or.inl rfl | exact Or.inr rfl)) (fun _ _ _ _ _ => pfts_one (pft_cmp op_le o_cmp (pf_ix ix_seq o_ix (pf_var 3) (pf_var 4) (fun _ _ => rfl)) (pf_var 2) (nomark _))) (fun _ _ _ _ _ => pf_ix ix_seq o_ix (pf_var 0) (pf_var 4) (fun _ _ => rfl)))) (pfa_nil))))))
abbrev stmean_of_picks : Stmt := topS 8
theorem scmean_of_picks : FnScope ["minutes"] ["minutes"] (defScope stmean_of_picks) := ⟨rfl, rfl, rfl, by decide +kernel, rfl, by decide +kernel, by decide +kernel⟩
theorem okmean_of_picks {f : Addr} {fd : FuncData} (F : FunD K "mean_of_picks" "mean_of_picks" (defArgs stmean_of_picks) (defBody stmean_of_picks) (defScope stmean_of_picks) [] [] f fd) (g : mg "mean_of_picks" = some (.ref f)) (B : Bn mg) (Cfraction : Cal P w K mg base 1 "fraction" qfraction 2) : Cal P w K mg base 2 "mean_of_picks" cmean_of_picks 1 := by
  have nd := scmean_of_picks.nd
  refine cal_of (ps := ["minutes"]) g F.kp (F.bindsN fun _ _ _ _ _ _ us hl => match us, hl with | [_], _ => rfl) (fn_ok (k := 1) F scmean_of_picks fun cdv A outer s H E hr => ?_)
  exact pfs_one (pfs_ret (pf_callC Cfraction (hr.mono (by decide)) (by rfl) (pfa_cons (pf_b (cr_sumA rfl) o_sumA (by rfl) B.sum boot_sum (pfa_cons (pf_var 0) (pfa_nil))) (pfa_cons (pf_b call_len o_len (by rfl) B.len boot_len (pfa_cons (pf_var 0) (pfa_nil))) (pfa_nil))) (len_cons (len_cons len_nil))))
abbrev stbest_pick : Stmt := topS 9
theorem scbest_pick : FnScope ["minutes", "weights", "told", "minute", "at"] ["minutes", "weights"] (defScope stbest_pick) := ⟨rfl, rfl, rfl, by decide +kernel, rfl, by decide +kernel, by decide +kernel⟩
theorem okbest_pick {f : Addr} {fd : FuncData} (F : FunD K "best_pick" "best_pick" (defArgs stbest_pick) (defBody stbest_pick) (defScope stbest_pick) [] [] f fd) (g : mg "best_pick" = some (.ref f)) (B : Bn mg)  : Cal P w K mg base 1 "best_pick" cbest_pick 2 := by
  have nd := scbest_pick.nd
  refine cal_of (ps := ["minutes", "weights"]) g F.kp (F.bindsN fun _ _ _ _ _ _ us hl => match us, hl with | [_, _], _ => rfl) (fn_ok (k := 0) F scbest_pick fun cdv A outer s H E hr => ?_)
  exact pfs_cons (pfs_set (i := 2) nd rfl (by first | exact Or.inl rfl | exact Or.inr rfl) (pf_mut (pfn_lst (pfa_nil))))
      (pfs_cons (pfs_for (vs := [3]) PassesOwn.never rfl (pfi_sq (pf_var 0)) (pfg_name (i := 3) nd rfl (by first | exact Or.inl rfl | exact Or.inr rfl))
      (pfs_one (pfs_expr (pf_m PySem.F.plainAttrs_list PySem.F.slot_list_append PySem.F.type_list_append mt_append o_append (pf_var 2) (pfa_cons (pf_tup (pfa_cons (pf_b (cr_sumA rfl) o_sumA (by rfl) B.sum boot_sum (pfa_cons (pf_fz (pfn_lc (own := [("at", 4)]) rfl nd (pfi_rg1 (by rfl) B.range (pfa_cons (pf_b call_len o_len (by rfl) B.len boot_len (pfa_cons (pf_var 0) (pfa_nil))) (pfa_nil))) (blkOk_by (own := [("at", 4)]) (N := ["minutes", "weights", "told", "minute", "at"]) (by with_unfolding_all rfl)) (fun _ _ _ _ _ => pfg_name (i := 4) nd rfl (by first | exact Or.inl rfl | exact Or.inr rfl)) (fun _ _ _ _ _ => pfts_nil) (fun _ _ _ _ _ => pf_bin op_mulA o_mul (pf_ix ix_seq o_ix (pf_var 1) (pf_var 4) (fun _ _ => rfl)) (pf_b call_abs o_i1 (by rfl) B.abs boot_abs (pfa_cons (pf_bin op_sub o_sub (pf_ix ix_seq o_ix (pf_var 0) (pf_var 4) (fun _ _ => rfl)) (pf_var 3)) (pfa_nil)))))) (pfa_nil))) (pfa_cons (pf_var 3) (pfa_nil)))) (pfa_nil))))))
      (pfs_one (pfs_ret (pf_ix ix_seq o_ix (pf_b (cr_minDt rfl hr.units) o_min1 (by rfl) B.min boot_min (pfa_cons (pf_var 2) (pfa_nil))) (pf_int) (fun _ _ => rfl)))))
abbrev stmoved_by_one : Stmt := topS 10
theorem scmoved_by_one : FnScope ["minutes", "told", "at"] ["minutes"] (defScope stmoved_by_one) := ⟨rfl, rfl, rfl, by decide +kernel, rfl, by decide +kernel, by decide +kernel⟩
theorem okmoved_by_one {f : Addr} {fd : FuncData} (F : FunD K "moved_by_one" "moved_by_one" (defArgs stmoved_by_one) (defBody stmoved_by_one) (defScope stmoved_by_one) [] [] f fd) (g : mg "moved_by_one" = some (.ref f)) (B : Bn mg)  : Cal P w K mg base 1 "moved_by_one" cmoved_by_one 1 := by
  have nd := scmoved_by_one.nd
  refine cal_of (ps := ["minutes"]) g F.kp (F.bindsN fun _ _ _ _ _ _ us hl => match us, hl with | [_], _ => rfl) (fn_ok (k := 0) F scmoved_by_one fun cdv A outer s H E hr => ?_)
  exact pfs_cons (pfs_set (i := 1) nd rfl (by first | exact Or.inl rfl | exact Or.inr rfl) (pf_fz (pfn_b (cr_sortedA hr.units) o_sortA (by rfl) B.sorted boot_sorted (pfa_cons (pf_var 0) (pfa_nil)))))
      (pfs_cons (pfs_set (i := 2) nd rfl (by first | exact Or.inl rfl | exact Or.inr rfl) (pf_bin op_fdivA o_fdiv (pf_bin op_sub o_sub (pf_b call_len o_len (by rfl) B.len boot_len (pfa_cons (pf_var 1) (pfa_nil))) (pf_int)) (pf_int)))
      (pfs_one (pfs_ret (pf_b (call_max2 rfl) o_i2 (by rfl) B.max boot_max (pfa_cons (pf_bin op_sub o_sub (pf_ix ix_seq o_ix (pf_var 1) (pf_var 2) (fun _ _ => rfl)) (pf_ix ix_seq o_ix (pf_var 1) (pf_bin op_sub o_sub (pf_var 2) (pf_int)) (fun _ _ => rfl))) (pfa_cons (pf_bin op_sub o_sub (pf_ix ix_seq o_ix (pf_var 1) (pf_bin op_addA o_add (pf_var 2) (pf_int)) (fun _ _ => rfl)) (pf_ix ix_seq o_ix (pf_var 1) (pf_var 2) (fun _ _ => rfl))) (pfa_nil)))))))
abbrev stweighed_middles : Stmt := topS 12
theorem scweighed_middles : FnScope ["pairs", "whole", "number", "weight", "found", "below"] ["pairs"] (defScope stweighed_middles) := ⟨rfl, rfl, rfl, by decide +kernel, rfl, by decide +kernel, by decide +kernel⟩
theorem okweighed_middles {f : Addr} {fd : FuncData} (F : FunD K "weighed_middles" "weighed_middles" (defArgs stweighed_middles) (defBody stweighed_middles) (defScope stweighed_middles) [] [] f fd) (g : mg "weighed_middles" = some (.ref f)) (B : Bn mg)  : Cal P w K mg base 1 "weighed_middles" cweighed_middles 1 := by
  have nd := scweighed_middles.nd
  refine cal_of (ps := ["pairs"]) g F.kp (F.bindsN fun _ _ _ _ _ _ us hl => match us, hl with | [_], _ => rfl) (fn_ok (k := 0) F scweighed_middles fun cdv A outer s H E hr => ?_)
  exact pfs_cons (pfs_set (i := 1) nd rfl (by first | exact Or.inl rfl | exact Or.inr rfl) (pf_b (cr_sumA rfl) o_sumA (by rfl) B.sum boot_sum (pfa_cons (pf_fz (pfn_lc (own := [("number", 2), ("weight", 3)]) rfl nd (pfi_sq (pf_var 0)) (blkOk_by (own := [("number", 2), ("weight", 3)]) (N := ["pairs", "whole", "number", "weight", "found", "below"]) (by with_unfolding_all rfl)) (fun _ _ _ _ _ => pfg_any rfl (pfgs_cons (pfg_name (i := 2) nd rfl (by first | exact Or.inl rfl | exact Or.inr rfl)) (pfgs_cons (pfg_name (i := 3) nd rfl (by first | exact Or.inl rfl | exact Or.inr rfl)) (pfgs_nil)))) (fun _ _ _ _ _ => pfts_nil) (fun _ _ _ _ _ => pf_var 3))) (pfa_nil))))
      (pfs_cons (pfs_set (i := 4) nd rfl (by first | exact Or.inl rfl | exact Or.inr rfl) (pf_mut (pfn_lst (pfa_nil))))
      (pfs_cons (pfs_set (i := 5) nd rfl (by first | exact Or.inl rfl | exact Or.inr rfl) (pf_int))
      (pfs_cons (pfs_for (vs := [2, 3]) PassesOwn.never rfl (pfi_sq (pf_fz (pfn_b (cr_sortedA hr.units) o_sortA (by rfl) B.sorted boot_sorted (pfa_cons (pf_var 0) (pfa_nil))))) (pfg_any rfl (pfgs_cons (pfg_name (i := 2) nd rfl (by first | exact Or.inl rfl | exact Or.inr rfl)) (pfgs_cons (pfg_name (i := 3) nd rfl (by first | exact Or.inl rfl | exact Or.inr rfl)) (pfgs_nil))))
      (pfs_cons (pfs_aug (i := 5) nd rfl (by first | exact Or.inl rfl | exact Or.inr rfl) (pf_var 3) iop_addA o_iaddA)
      (pfs_cons (pfs_if (PW.pt (pfw_and (pft_cmp (op_eqD hr.units) o_eq (pf_b call_len o_len (by rfl) B.len boot_len (pfa_cons (pf_var 4) (pfa_nil))) (pf_int) (nomark _)) (pfw_and1 (pft_cmp op_ge o_cmp (pf_bin op_mulA o_mul (pf_int) (pf_var 5)) (pf_var 1) (nomark _)))))
      (pfs_one (pfs_expr (pf_m PySem.F.plainAttrs_list PySem.F.slot_list_append PySem.F.type_list_append mt_append o_append (pf_var 4) (pfa_cons (pf_var 2) (pfa_nil)))))
      (pfs_nil))
      (pfs_one (pfs_if (PW.pt (pfw_and (pft_cmp (op_eqD hr.units) o_eq (pf_b call_len o_len (by rfl) B.len boot_len (pfa_cons (pf_var 4) (pfa_nil))) (pf_int) (nomark _)) (pfw_and1 (pft_cmp op_gt o_cmp (pf_bin op_mulA o_mul (pf_int) (pf_var 5)) (pf_var 1) (nomark _)))))
      (pfs_one (pfs_expr (pf_m PySem.F.plainAttrs_list PySem.F.slot_list_append PySem.F.type_list_append mt_append o_append (pf_var 4) (pfa_cons (pf_var 2) (pfa_nil)))))
      (pfs_nil))))))
      (pfs_one (pfs_ret (pf_tup (pfa_cons (pf_ix ix_seq o_ix (pf_var 4) (pf_int) (fun _ _ => rfl)) (pfa_cons (pf_ix ix_seq o_ix (pf_var 4) (pf_int) (fun _ _ => rfl)) (pfa_nil)))))))))
abbrev stbest_span : Stmt := topS 13
theorem scbest_span : FnScope ["votes", "xs", "x", "y", "weight", "ys"] ["votes"] (defScope stbest_span) := ⟨rfl, rfl, rfl, by decide +kernel, rfl, by decide +kernel, by decide +kernel⟩
theorem okbest_span {f : Addr} {fd : FuncData} (F : FunD K "best_span" "best_span" (defArgs stbest_span) (defBody stbest_span) (defScope stbest_span) [] [] f fd) (g : mg "best_span" = some (.ref f)) (B : Bn mg) (Cweighed_middles : Cal P w K mg base 1 "weighed_middles" qweighed_middles 1) : Cal P w K mg base 2 "best_span" cbest_span 1 := by
  have nd := scbest_span.nd
  refine cal_of (ps := ["votes"]) g F.kp (F.bindsN fun _ _ _ _ _ _ us hl => match us, hl with | [_], _ => rfl) (fn_ok (k := 1) F scbest_span fun cdv A outer s H E hr => ?_)
  exact pfs_cons (pfs_set (i := 1) nd rfl (by first | exact Or.inl rfl | exact Or.inr rfl) (pf_callC Cweighed_middles (hr.mono (by decide)) (by rfl) (pfa_cons (pf_fz (pfn_lc (own := [("x", 2), ("y", 3), ("weight", 4)]) rfl nd (pfi_sq (pf_var 0)) (blkOk_by (own := [("x", 2), ("y", 3), ("weight", 4)]) (N := ["votes", "xs", "x", "y", "weight", "ys"]) (by with_unfolding_all rfl)) (fun _ _ _ _ _ => pfg_any rfl (pfgs_cons (pfg_name (i := 2) nd rfl (by first | exact Or.inl rfl | exact Or.inr rfl)) (pfgs_cons (pfg_name (i := 3) nd rfl (by first | exact Or.inl rfl | exact Or.inr rfl)) (pfgs_cons (pfg_name (i := 4) nd rfl (by first | exact Or.inl rfl | exact Or.inr rfl)) (pfgs_nil))))) (fun _ _ _ _ _ => pfts_nil) (fun _ _ _ _ _ => pf_tup (pfa_cons (pf_var 2) (pfa_cons (pf_var 4) (pfa_nil)))))) (pfa_nil)) (len_cons len_nil)))
      (pfs_cons (pfs_set (i := 5) nd rfl (by first | exact Or.inl rfl | exact Or.inr rfl) (pf_callC Cweighed_middles (hr.mono (by decide)) (by rfl) (pfa_cons (pf_fz (pfn_lc (own := [("x", 2), ("y", 3), ("weight", 4)]) rfl nd (pfi_sq (pf_var 0)) (blkOk_by (own := [("x", 2), ("y", 3), ("weight", 4)]) (N := ["votes", "xs", "x", "y", "weight", "ys"]) (by with_unfolding_all rfl)) (fun _ _ _ _ _ => pfg_any rfl (pfgs_cons (pfg_name (i := 2) nd rfl (by first | exact Or.inl rfl | exact Or.inr rfl)) (pfgs_cons (pfg_name (i := 3) nd rfl (by first | exact Or.inl rfl | exact Or.inr rfl)) (pfgs_cons (pfg_name (i := 4) nd rfl (by first | exact Or.inl rfl | exact Or.inr rfl)) (pfgs_nil))))) (fun _ _ _ _ _ => pfts_nil) (fun _ _ _ _ _ => pf_tup (pfa_cons (pf_var 3) (pfa_cons (pf_var 4) (pfa_nil)))))) (pfa_nil)) (len_cons len_nil)))
      (pfs_one (pfs_ret (pf_tup (pfa_cons (pf_tup (pfa_cons (pf_ix ix_seq o_ix (pf_var 1) (pf_int) (fun _ _ => rfl)) (pfa_cons (pf_ix ix_seq o_ix (pf_var 5) (pf_int) (fun _ _ => rfl)) (pfa_nil)))) (pfa_cons (pf_tup (pfa_cons (pf_ix ix_seq o_ix (pf_var 1) (pf_int) (fun _ _ => rfl)) (pfa_cons (pf_ix ix_seq o_ix (pf_var 5) (pf_int) (fun _ _ => rfl)) (pfa_nil)))) (pfa_nil)))))))
abbrev stbest_vote : Stmt := topS 14
theorem scbest_vote : FnScope ["votes"] ["votes"] (defScope stbest_vote) := ⟨rfl, rfl, rfl, by decide +kernel, rfl, by decide +kernel, by decide +kernel⟩
theorem okbest_vote {f : Addr} {fd : FuncData} (F : FunD K "best_vote" "best_vote" (defArgs stbest_vote) (defBody stbest_vote) (defScope stbest_vote) [] [] f fd) (g : mg "best_vote" = some (.ref f)) (B : Bn mg) (Cbest_span : Cal P w K mg base 2 "best_span" qbest_span 1) : Cal P w K mg base 3 "best_vote" cbest_vote 1 := by
  have nd := scbest_vote.nd
  refine cal_of (ps := ["votes"]) g F.kp (F.bindsN fun _ _ _ _ _ _ us hl => match us, hl with | [_], _ => rfl) (fn_ok (k := 2) F scbest_vote fun cdv A outer s H E hr => ?_)
  exact pfs_one (pfs_ret (pf_ix ix_seq o_ix (pf_callC Cbest_span (hr.mono (by decide)) (by rfl) (pfa_cons (pf_var 0) (pfa_nil)) (len_cons len_nil)) (pf_int) (fun _ _ => rfl)))
abbrev stsum_far : Stmt := topS 15
theorem scsum_far : FnScope ["votes", "place", "x", "y", "weight"] ["votes", "place"] (defScope stsum_far) := ⟨rfl, rfl, rfl, by decide +kernel, rfl, by decide +kernel, by decide +kernel⟩
theorem oksum_far {f : Addr} {fd : FuncData} (F : FunD K "sum_far" "sum_far" (defArgs stsum_far) (defBody stsum_far) (defScope stsum_far) [] [] f fd) (g : mg "sum_far" = some (.ref f)) (B : Bn mg)  : Cal P w K mg base 1 "sum_far" csum_far 2 := by
  have nd := scsum_far.nd
  refine cal_of (ps := ["votes", "place"]) g F.kp (F.bindsN fun _ _ _ _ _ _ us hl => match us, hl with | [_, _], _ => rfl) (fn_ok (k := 0) F scsum_far fun cdv A outer s H E hr => ?_)
  exact pfs_one (pfs_ret (pf_b (cr_sumA rfl) o_sumA (by rfl) B.sum boot_sum (pfa_cons (pf_fz (pfn_lc (own := [("x", 2), ("y", 3), ("weight", 4)]) rfl nd (pfi_sq (pf_var 0)) (blkOk_by (own := [("x", 2), ("y", 3), ("weight", 4)]) (N := ["votes", "place", "x", "y", "weight"]) (by with_unfolding_all rfl)) (fun _ _ _ _ _ => pfg_any rfl (pfgs_cons (pfg_name (i := 2) nd rfl (by first | exact Or.inl rfl | exact Or.inr rfl)) (pfgs_cons (pfg_name (i := 3) nd rfl (by first | exact Or.inl rfl | exact Or.inr rfl)) (pfgs_cons (pfg_name (i := 4) nd rfl (by first | exact Or.inl rfl | exact Or.inr rfl)) (pfgs_nil))))) (fun _ _ _ _ _ => pfts_nil) (fun _ _ _ _ _ => pf_bin op_mulA o_mul (pf_var 4) (pf_bin op_addA o_add (pf_b call_abs o_i1 (by rfl) B.abs boot_abs (pfa_cons (pf_bin op_sub o_sub (pf_var 2) (pf_ix ix_seq o_ix (pf_var 1) (pf_int) (fun _ _ => rfl))) (pfa_nil))) (pf_b call_abs o_i1 (by rfl) B.abs boot_abs (pfa_cons (pf_bin op_sub o_sub (pf_var 3) (pf_ix ix_seq o_ix (pf_var 1) (pf_int) (fun _ _ => rfl))) (pfa_nil))))))) (pfa_nil))))
abbrev stworst_far : Stmt := topS 16
theorem scworst_far : FnScope ["votes", "place", "x", "y", "weight"] ["votes", "place"] (defScope stworst_far) := ⟨rfl, rfl, rfl, by decide +kernel, rfl, by decide +kernel, by decide +kernel⟩
theorem okworst_far {f : Addr} {fd : FuncData} (F : FunD K "worst_far" "worst_far" (defArgs stworst_far) (defBody stworst_far) (defScope stworst_far) [] [] f fd) (g : mg "worst_far" = some (.ref f)) (B : Bn mg)  : Cal P w K mg base 1 "worst_far" cworst_far 2 := by
  have nd := scworst_far.nd
  refine cal_of (ps := ["votes", "place"]) g F.kp (F.bindsN fun _ _ _ _ _ _ us hl => match us, hl with | [_, _], _ => rfl) (fn_ok (k := 0) F scworst_far fun cdv A outer s H E hr => ?_)
  exact pfs_one (pfs_ret (pf_b (cr_maxDt rfl hr.units) o_max1 (by rfl) B.max boot_max (pfa_cons (pf_fz (pfn_lc (own := [("x", 2), ("y", 3), ("weight", 4)]) rfl nd (pfi_sq (pf_var 0)) (blkOk_by (own := [("x", 2), ("y", 3), ("weight", 4)]) (N := ["votes", "place", "x", "y", "weight"]) (by with_unfolding_all rfl)) (fun _ _ _ _ _ => pfg_any rfl (pfgs_cons (pfg_name (i := 2) nd rfl (by first | exact Or.inl rfl | exact Or.inr rfl)) (pfgs_cons (pfg_name (i := 3) nd rfl (by first | exact Or.inl rfl | exact Or.inr rfl)) (pfgs_cons (pfg_name (i := 4) nd rfl (by first | exact Or.inl rfl | exact Or.inr rfl)) (pfgs_nil))))) (fun _ _ _ _ _ => pfts_nil) (fun _ _ _ _ _ => pf_bin op_addA o_add (pf_b call_abs o_i1 (by rfl) B.abs boot_abs (pfa_cons (pf_bin op_sub o_sub (pf_var 2) (pf_ix ix_seq o_ix (pf_var 1) (pf_int) (fun _ _ => rfl))) (pfa_nil))) (pf_b call_abs o_i1 (by rfl) B.abs boot_abs (pfa_cons (pf_bin op_sub o_sub (pf_var 3) (pf_ix ix_seq o_ix (pf_var 1) (pf_int) (fun _ _ => rfl))) (pfa_nil)))))) (pfa_nil))))
abbrev stwithout_one : Stmt := topS 17
theorem scwithout_one : FnScope ["votes", "at"] ["votes", "at"] (defScope stwithout_one) := ⟨rfl, rfl, rfl, by decide +kernel, rfl, by decide +kernel, by decide +kernel⟩
theorem okwithout_one {f : Addr} {fd : FuncData} (F : FunD K "without_one" "without_one" (defArgs stwithout_one) (defBody stwithout_one) (defScope stwithout_one) [] [] f fd) (g : mg "without_one" = some (.ref f)) (B : Bn mg) (Cbest_vote : Cal P w K mg base 3 "best_vote" qbest_vote 1) : Cal P w K mg base 4 "without_one" cwithout_one 2 := by
  have nd := scwithout_one.nd
  refine cal_of (ps := ["votes", "at"]) g F.kp (F.bindsN fun _ _ _ _ _ _ us hl => match us, hl with | [_, _], _ => rfl) (fn_ok (k := 3) F scwithout_one fun cdv A outer s H E hr => ?_)
  exact pfs_one (pfs_ret (pf_callC Cbest_vote (hr.mono (by decide)) (by rfl) (pfa_cons (pf_bin op_addA o_add (pf_slice (pf_var 0) (pfo_none) (pfo_some (pf_var 1))) (pf_slice (pf_var 0) (pfo_some (pf_bin op_addA o_add (pf_var 1) (pf_int))) (pfo_none))) (pfa_nil)) (len_cons len_nil)))
abbrev stgreatest_move : Stmt := topS 18
theorem scgreatest_move : FnScope ["votes", "x", "y", "moved", "at", "other", "beside"] ["votes"] (defScope stgreatest_move) := ⟨rfl, rfl, rfl, by decide +kernel, rfl, by decide +kernel, by decide +kernel⟩
theorem okgreatest_move {f : Addr} {fd : FuncData} (F : FunD K "greatest_move" "greatest_move" (defArgs stgreatest_move) (defBody stgreatest_move) (defScope stgreatest_move) [] [] f fd) (g : mg "greatest_move" = some (.ref f)) (B : Bn mg) (Cbest_vote : Cal P w K mg base 3 "best_vote" qbest_vote 1) (Cwithout_one : Cal P w K mg base 4 "without_one" qwithout_one 2) : Cal P w K mg base 5 "greatest_move" cgreatest_move 1 := by
  have nd := scgreatest_move.nd
  refine cal_of (ps := ["votes"]) g F.kp (F.bindsN fun _ _ _ _ _ _ us hl => match us, hl with | [_], _ => rfl) (fn_ok (k := 4) F scgreatest_move fun cdv A outer s H E hr => ?_)
  exact pfs_cons (pfs_asg (vs := [1, 2]) (pf_callC Cbest_vote (hr.mono (by decide)) (by rfl) (pfa_cons (pf_var 0) (pfa_nil)) (len_cons len_nil)) (pfg_any rfl (pfgs_cons (pfg_name (i := 1) nd rfl (by first | exact Or.inl rfl | exact Or.inr rfl)) (pfgs_cons (pfg_name (i := 2) nd rfl (by first | exact Or.inl rfl | exact Or.inr rfl)) (pfgs_nil)))))
      (pfs_cons (pfs_setLcF (own := [("at", 4)]) (i := 3) rfl nd rfl rfl (sw_true rfl rfl rfl (by decide +kernel)) (pfi_rg1 (by rfl) B.range (pfa_cons (pf_b call_len o_len (by rfl) B.len boot_len (pfa_cons (pf_var 0) (pfa_nil))) (pfa_nil))) (blkOk_by (own := [("at", 4)]) (N := ["votes", "x", "y", "moved", "at", "other", "beside"]) (by with_unfolding_all rfl)) (fun _ _ _ _ _ => pfg_name (i := 4) nd rfl (by first | exact Or.inl rfl | exact Or.inr rfl)) (fun _ _ _ _ _ => pfts_nil) (fun _ _ _ _ _ => pf_callC Cwithout_one (hr.mono (by decide)) (by rfl) (pfa_cons (pf_var 0) (pfa_cons (pf_var 4) (pfa_nil))) (len_cons (len_cons len_nil))))
      (pfs_one (pfs_ret (pf_b (cr_maxDt rfl hr.units) o_max1 (by rfl) B.max boot_max (pfa_cons (pf_fz (pfn_lc (own := [("other", 5), ("beside", 6)]) rfl nd (pfi_sq (pf_var 3)) (blkOk_by (own := [("other", 5), ("beside", 6)]) (N := ["votes", "x", "y", "moved", "at", "other", "beside"]) (by with_unfolding_all rfl)) (fun _ _ _ _ _ => pfg_any rfl (pfgs_cons (pfg_name (i := 5) nd rfl (by first | exact Or.inl rfl | exact Or.inr rfl)) (pfgs_cons (pfg_name (i := 6) nd rfl (by first | exact Or.inl rfl | exact Or.inr rfl)) (pfgs_nil)))) (fun _ _ _ _ _ => pfts_nil) (fun _ _ _ _ _ => pf_bin op_addA o_add (pf_b call_abs o_i1 (by rfl) B.abs boot_abs (pfa_cons (pf_bin op_sub o_sub (pf_var 5) (pf_var 1)) (pfa_nil))) (pf_b call_abs o_i1 (by rfl) B.abs boot_abs (pfa_cons (pf_bin op_sub o_sub (pf_var 6) (pf_var 2)) (pfa_nil)))))) (pfa_nil))))))
abbrev st_law_draws : Stmt := topS 20
theorem sc_law_draws : FnScope ["script", "many", "cells", "cell", "rest", "draws", "k", "at", "once"] ["script", "many"] (defScope st_law_draws) := ⟨rfl, rfl, rfl, by decide +kernel, rfl, by decide +kernel, by decide +kernel⟩
theorem ok_law_draws {f : Addr} {fd : FuncData} (F : FunD K "_law_draws" "_law_draws" (defArgs st_law_draws) (defBody st_law_draws) (defScope st_law_draws) [] [] f fd) (g : mg "_law_draws" = some (.ref f)) (B : Bn mg)  : Cal P w K mg base 1 "_law_draws" c_law_draws 2 := by
  have nd := sc_law_draws.nd
  refine cal_of (ps := ["script", "many"]) g F.kp (F.bindsN fun _ _ _ _ _ _ us hl => match us, hl with | [_, _], _ => rfl) (fn_ok (k := 0) F sc_law_draws fun cdv A outer s H E hr => ?_)
  exact pfs_cons (pfs_setLcM (own := [("cell", 3)]) (i := 2) rfl nd rfl rfl (sw_true rfl rfl rfl (by decide +kernel)) (pfi_sq (pf_var 0)) (blkOk_by (own := [("cell", 3)]) (N := ["script", "many", "cells", "cell", "rest", "draws", "k", "at", "once"]) (by with_unfolding_all rfl)) (fun _ _ _ _ _ => pfg_name (i := 3) nd rfl (by first | exact Or.inl rfl | exact Or.inr rfl)) (fun _ _ _ _ _ => pfts_nil) (fun _ _ _ _ _ => pf_ty call_int1 o_int (by rfl) B.int boot_int (pfa_cons (pf_var 3) (pfa_nil))))
      (pfs_cons (pfs_if (pft_cmp (op_eqD hr.units) o_eq (pf_b call_len o_len (by rfl) B.len boot_len (pfa_cons (pf_var 2) (pfa_nil))) (pf_int) (nomark _))
      (pfs_one (pfs_expr (pf_m PySem.F.plainAttrs_list PySem.F.slot_list_append PySem.F.type_list_append mt_append o_append (pf_var 2) (pfa_cons (pf_int) (pfa_nil)))))
      (pfs_nil))
      (pfs_cons (pfs_set (i := 4) nd rfl (by first | exact Or.inl rfl | exact Or.inr rfl) (pf_mut (pfn_ty call_list_of o_list (by rfl) B.list boot_list (pfa_cons (pf_var 2) (pfa_nil)))))
      (pfs_cons (pfs_set (i := 5) nd rfl (by first | exact Or.inl rfl | exact Or.inr rfl) (pf_mut (pfn_lst (pfa_nil))))
      (pfs_cons (pfs_for (vs := [6]) PassesOwn.never rfl (pfi_rg1 (by rfl) B.range (pfa_cons (pf_var 1) (pfa_nil))) (pfg_name (i := 6) nd rfl (by first | exact Or.inl rfl | exact Or.inr rfl))
      (pfs_cons (pfs_set (i := 7) nd rfl (by first | exact Or.inl rfl | exact Or.inr rfl) (pf_bin op_modN o_mod (pf_var 6) (pf_b call_len o_len (by rfl) B.len boot_len (pfa_cons (pf_var 2) (pfa_nil)))))
      (pfs_one (pfs_if (PW.pt (pfw_and (pft_cmp op_ge o_cmp (pf_ix ix_seq o_ix (pf_var 2) (pf_var 7) (fun _ _ => rfl)) (pf_bin op_pow o_pow (pf_int) (pf_int)) (nomark _)) (pfw_and1 (pft_cmp op_gt o_cmp (pf_ix ix_seq o_ix (pf_var 4) (pf_var 7) (fun _ _ => rfl)) (pf_int) (nomark _)))))
      (pfs_cons (pfs_expr (pf_m PySem.F.plainAttrs_list PySem.F.slot_list_append PySem.F.type_list_append mt_append o_append (pf_var 5) (pfa_cons (pf_bin op_modN o_mod (pf_ty call_int1 o_int (by rfl) B.int boot_int (pfa_cons (pf_ix ix_seq o_ix (pf_var 4) (pf_var 7) (fun _ _ => rfl)) (pfa_nil))) (pf_int)) (pfa_nil))))
      (pfs_one (pfs_setIx (pf_bin op_fdivA o_fdiv (pf_ix ix_seq o_ix (pf_var 4) (pf_var 7) (fun _ _ => rfl)) (pf_int)) (pf_var 4) (pf_var 7))))
      (pfs_cons (pfs_set (i := 8) nd rfl (by first | exact Or.inl rfl | exact Or.inr rfl) (pf_bin op_modN o_mod (pf_ty call_int1 o_int (by rfl) B.int boot_int (pfa_cons (pf_bin op_addA o_add (pf_bin op_addA o_add (pf_bin op_mulA o_mul (pf_ix ix_seq o_ix (pf_var 2) (pf_var 7) (fun _ _ => rfl)) (pf_int)) (pf_bin op_mulA o_mul (pf_var 6) (pf_int))) (pf_int)) (pfa_nil))) (pf_int)))
      (pfs_one (pfs_expr (pf_m PySem.F.plainAttrs_list PySem.F.slot_list_append PySem.F.type_list_append mt_append o_append (pf_var 5) (pfa_cons (pf_bin op_modN o_mod (pf_ty call_int1 o_int (by rfl) B.int boot_int (pfa_cons (pf_bin op_addA o_add (pf_bin op_addA o_add (pf_bin op_mulA o_mul (pf_var 8) (pf_var 8)) (pf_bin op_mulA o_mul (pf_int) (pf_var 8))) (pf_var 6)) (pfa_nil))) (pf_int)) (pfa_nil))))))))))
      (pfs_cons (pfs_expr (pf_m0 PySem.F.plainAttrs_list PySem.F.slot_list_reverse PySem.F.type_list_reverse mt_reverse o_reverse (pf_var 5)))
      (pfs_one (pfs_ret (pf_var 5))))))))
abbrev st_law_take : Stmt := topS 21
theorem sc_law_take : FnScope ["draws", "many"] ["draws", "many"] (defScope st_law_take) := ⟨rfl, rfl, rfl, by decide +kernel, rfl, by decide +kernel, by decide +kernel⟩
theorem ok_law_take {f : Addr} {fd : FuncData} (F : FunD K "_law_take" "_law_take" (defArgs st_law_take) (defBody st_law_take) (defScope st_law_take) [] [] f fd) (g : mg "_law_take" = some (.ref f)) (B : Bn mg)  : Cal P w K mg base 1 "_law_take" c_law_take 2 := by
  have nd := sc_law_take.nd
  refine cal_of (ps := ["draws", "many"]) g F.kp (F.bindsN fun _ _ _ _ _ _ us hl => match us, hl with | [_, _], _ => rfl) (fn_ok (k := 0) F sc_law_take fun cdv A outer s H E hr => ?_)
  exact pfs_cons (pfs_if (pft_cmp (op_eqD hr.units) o_eq (pf_b call_len o_len (by rfl) B.len boot_len (pfa_cons (pf_var 0) (pfa_nil))) (pf_int) (nomark _))
      (pfs_one (pfs_ret (pf_int)))
      (pfs_nil))
      (pfs_one (pfs_ret (pf_bin op_modN o_mod (pf_ty call_int1 o_int (by rfl) B.int boot_int (pfa_cons (pf_m0 PySem.F.plainAttrs_list PySem.F.slot_list_pop PySem.F.type_list_pop mt_pop o_pop (pf_var 0)) (pfa_nil))) (pf_var 1))))
abbrev st_law_cell : Stmt := topS 22
theorem sc_law_cell : FnScope ["script", "at", "cell"] ["script", "at"] (defScope st_law_cell) := ⟨rfl, rfl, rfl, by decide +kernel, rfl, by decide +kernel, by decide +kernel⟩
theorem ok_law_cell {f : Addr} {fd : FuncData} (F : FunD K "_law_cell" "_law_cell" (defArgs st_law_cell) (defBody st_law_cell) (defScope st_law_cell) [] [] f fd) (g : mg "_law_cell" = some (.ref f)) (B : Bn mg)  : Cal P w K mg base 1 "_law_cell" c_law_cell 2 := by
  have nd := sc_law_cell.nd
  refine cal_of (ps := ["script", "at"]) g F.kp (F.bindsN fun _ _ _ _ _ _ us hl => match us, hl with | [_, _], _ => rfl) (fn_ok (k := 0) F sc_law_cell fun cdv A outer s H E hr => ?_)
  exact pfs_cons (pfs_if (pft_cmp (op_eqD hr.units) o_eq (pf_b call_len o_len (by rfl) B.len boot_len (pfa_cons (pf_var 0) (pfa_nil))) (pf_int) (nomark _))
      (pfs_one (pfs_ret (pf_int)))
      (pfs_nil))
      (pfs_cons (pfs_set (i := 2) nd rfl (by first | exact Or.inl rfl | exact Or.inr rfl) (pf_ty call_int1 o_int (by rfl) B.int boot_int (pfa_cons (pf_ix ix_seq o_ix (pf_var 0) (pf_bin op_modN o_mod (pf_ty call_int1 o_int (by rfl) B.int boot_int (pfa_cons (pf_var 1) (pfa_nil))) (pf_b call_len o_len (by rfl) B.len boot_len (pfa_cons (pf_var 0) (pfa_nil)))) (fun _ _ => rfl)) (pfa_nil))))
      (pfs_one (pfs_ret (pf_bin op_mulA o_mul (pf_bin op_modN o_mod (pf_b call_abs o_i1 (by rfl) B.abs boot_abs (pfa_cons (pf_var 2) (pfa_nil))) (pf_bin op_pow o_pow (pf_int) (pf_int))) (pf_ix ix_seq o_ix (pf_fz (pfn_lst (pfa_cons (pf_int) (pfa_cons (pf_un un_neg o_neg (pf_int)) (pfa_nil))))) (pf_ty call_int1 o_int (by rfl) B.int boot_int (pfa_cons (pf_cmp op_lt o_cmp (pf_var 2) (pf_int) (nomark _)) (pfa_nil))) (fun _ _ => rfl))))))
abbrev st_law_same : Stmt := topS 23
theorem sc_law_same : FnScope ["actual", "due", "k"] ["actual", "due"] (defScope st_law_same) := ⟨rfl, rfl, rfl, by decide +kernel, rfl, by decide +kernel, by decide +kernel⟩
theorem ok_law_same {f : Addr} {fd : FuncData} (F : FunD K "_law_same" "_law_same" (defArgs st_law_same) (defBody st_law_same) (defScope st_law_same) [] [] f fd) (g : mg "_law_same" = some (.ref f)) (B : Bn mg)  : ∀ n, Cal P w K mg base (1 + n) "_law_same" (c_law_same n) 2 := by
  have nd := sc_law_same.nd
  intro n
  induction n with
  | zero => exact cal_none (ps := ["actual", "due"]) g F.kp (F.bindsN fun _ _ _ _ _ _ us hl => match us, hl with | [_, _], _ => rfl) F (fun _ _ => rfl)
  | succ n ih =>
    refine cal_of (ps := ["actual", "due"]) g F.kp (F.bindsN fun _ _ _ _ _ _ us hl => match us, hl with | [_, _], _ => rfl) (fn_ok (k := 1 + n) F sc_law_same fun cdv A outer s H E hr => ?_)
    exact pfs_cons (pfs_if (pft_tru (pf_isi .bl (by decide) (by rfl) B.isinstance (pf_var 1) (by rfl) B.bool boot_bool))
      (pfs_one (pfs_ret (pf_and (pf_isi .bl (by decide) (by rfl) B.isinstance (pf_var 0) (by rfl) B.bool boot_bool) (pf_one (pf_cmp (op_eqD hr.units) o_eq (pf_var 0) (pf_var 1) (nomark _))))))
      (pfs_nil))
      (pfs_cons (pfs_if (pft_tru (pf_isi .int (by decide) (by rfl) B.isinstance (pf_var 1) (by rfl) B.int boot_int))
      (pfs_one (pfs_ret (pf_and (pf_isi .int (by decide) (by rfl) B.isinstance (pf_var 0) (by rfl) B.int boot_int) (pf_and (pf_not (pf_isi .bl (by decide) (by rfl) B.isinstance (pf_var 0) (by rfl) B.bool boot_bool)) (pf_one (pf_cmp (op_eqD hr.units) o_eq (pf_var 0) (pf_var 1) (nomark _)))))))
      (pfs_nil))
      (pfs_cons (pfs_if (pft_tru (pf_isi .str (by decide) (by rfl) B.isinstance (pf_var 1) (by rfl) B.str boot_str))
      (pfs_one (pfs_ret (pf_and (pf_isi .str (by decide) (by rfl) B.isinstance (pf_var 0) (by rfl) B.str boot_str) (pf_one (pf_cmp (op_eqD hr.units) o_eq (pf_var 0) (pf_var 1) (nomark _))))))
      (pfs_nil))
      (pfs_cons (pfs_if (pft_cmp op_isA o_is (pf_var 1) (pf_non) (nomark _))
      (pfs_one (pfs_ret (pf_cmp op_isA o_is (pf_var 0) (pf_non) (nomark _))))
      (pfs_nil))
      (pfs_cons (pfs_if (PW.pt (pfw_or (pft_not (pft_tru (pf_isi .tup (by decide) (by rfl) B.isinstance (pf_var 0) (by rfl) B.tuple boot_tuple))) (pfw_or1 (pft_cmp (op_neD hr.units) o_ne (pf_b call_len o_len (by rfl) B.len boot_len (pfa_cons (pf_var 0) (pfa_nil))) (pf_b call_len o_len (by rfl) B.len boot_len (pfa_cons (pf_var 1) (pfa_nil))) (nomark _)))))
      (pfs_one (pfs_ret (pf_bl)))
      (pfs_nil))
      (pfs_cons (pfs_for (vs := [2]) PassesOwn.never rfl (pfi_rg1 (by rfl) B.range (pfa_cons (pf_b call_len o_len (by rfl) B.len boot_len (pfa_cons (pf_var 1) (pfa_nil))) (pfa_nil))) (pfg_name (i := 2) nd rfl (by first | exact Or.inl rfl | exact Or.inr rfl))
      (pfs_one (pfs_if (pft_not (pft_tru (pf_callC ih (hr.mono (Nat.le_refl _)) (by rfl) (pfa_cons (pf_ix ix_seq o_ix (pf_var 0) (pf_var 2) (fun _ _ => rfl)) (pfa_cons (pf_ix ix_seq o_ix (pf_var 1) (pf_var 2) (fun _ _ => rfl)) (pfa_nil))) (len_cons (len_cons len_nil)))))
      (pfs_one (pfs_ret (pf_bl)))
      (pfs_nil))))
      (pfs_one (pfs_ret (pf_bl))))))))
abbrev st_law_minutes : Stmt := topS 24
theorem sc_law_minutes : FnScope ["draws", "script", "many", "far", "wide", "k"] ["draws", "script", "many"] (defScope st_law_minutes) := ⟨rfl, rfl, rfl, by decide +kernel, rfl, by decide +kernel, by decide +kernel⟩
theorem ok_law_minutes {f : Addr} {fd : FuncData} (F : FunD K "_law_minutes" "_law_minutes" (defArgs st_law_minutes) (defBody st_law_minutes) (defScope st_law_minutes) [] [] f fd) (g : mg "_law_minutes" = some (.ref f)) (B : Bn mg) (C_law_cell : Cal P w K mg base 1 "_law_cell" q_law_cell 2) (C_law_take : Cal P w K mg base 1 "_law_take" q_law_take 2) : Cal P w K mg base 2 "_law_minutes" c_law_minutes 3 := by
  have nd := sc_law_minutes.nd
  refine cal_of (ps := ["draws", "script", "many"]) g F.kp (F.bindsN fun _ _ _ _ _ _ us hl => match us, hl with | [_, _, _], _ => rfl) (fn_ok (k := 1) F sc_law_minutes fun cdv A outer s H E hr => ?_)
  exact pfs_cons (pfs_set (i := 3) nd rfl (by first | exact Or.inl rfl | exact Or.inr rfl) (pf_ix ix_seq o_ix (pf_fz (pfn_lst (pfa_cons (pf_int) (pfa_cons (pf_bin op_fdivA o_fdiv (pf_callC C_law_cell (hr.mono (by decide)) (by rfl) (pfa_cons (pf_var 1) (pfa_cons (pf_callCS 0 C_law_take (hr.mono (by decide)) (by rfl) (pfa_cons (pf_var 0) (pfa_cons (pf_int) (pfa_nil))) (len_cons (len_cons len_nil))) (pfa_nil))) (len_cons (len_cons len_nil))) (pf_bin op_pow o_pow (pf_int) (pf_int))) (pfa_nil))))) (pf_callCS 0 C_law_take (hr.mono (by decide)) (by rfl) (pfa_cons (pf_var 0) (pfa_cons (pf_int) (pfa_nil))) (len_cons (len_cons len_nil))) (fun _ _ => rfl)))
      (pfs_cons (pfs_set (i := 4) nd rfl (by first | exact Or.inl rfl | exact Or.inr rfl) (pf_ix ix_seq o_ix (pf_fz (pfn_lst (pfa_cons (pf_int) (pfa_cons (pf_int) (pfa_cons (pf_int) (pfa_nil)))))) (pf_callCS 0 C_law_take (hr.mono (by decide)) (by rfl) (pfa_cons (pf_var 0) (pfa_cons (pf_int) (pfa_nil))) (len_cons (len_cons len_nil))) (fun _ _ => rfl)))
      (pfs_one (pfs_ret (pf_ty call_tuple_of o_tuple (by rfl) B.tuple boot_tuple (pfa_cons (pf_fz (pfn_lc (own := [("k", 5)]) rfl nd (pfi_rg1 (by rfl) B.range (pfa_cons (pf_var 2) (pfa_nil))) (blkOk_by (own := [("k", 5)]) (N := ["draws", "script", "many", "far", "wide", "k"]) (by with_unfolding_all rfl)) (fun _ _ _ _ _ => pfg_name (i := 5) nd rfl (by first | exact Or.inl rfl | exact Or.inr rfl)) (fun _ _ _ _ _ => pfts_nil) (fun _ _ _ _ _ => pf_bin op_addA o_add (pf_var 3) (pf_callCS 0 C_law_take (hr.mono (by decide)) (by rfl) (pfa_cons (pf_var 0) (pfa_cons (pf_var 4) (pfa_nil))) (len_cons (len_cons len_nil)))))) (pfa_nil))))))
abbrev st_law_apart : Stmt := topS 25
theorem sc_law_apart : FnScope ["one", "other"] ["one", "other"] (defScope st_law_apart) := ⟨rfl, rfl, rfl, by decide +kernel, rfl, by decide +kernel, by decide +kernel⟩
theorem ok_law_apart {f : Addr} {fd : FuncData} (F : FunD K "_law_apart" "_law_apart" (defArgs st_law_apart) (defBody st_law_apart) (defScope st_law_apart) [] [] f fd) (g : mg "_law_apart" = some (.ref f)) (B : Bn mg)  : Cal P w K mg base 1 "_law_apart" c_law_apart 2 := by
  have nd := sc_law_apart.nd
  refine cal_of (ps := ["one", "other"]) g F.kp (F.bindsN fun _ _ _ _ _ _ us hl => match us, hl with | [_, _], _ => rfl) (fn_ok (k := 0) F sc_law_apart fun cdv A outer s H E hr => ?_)
  exact pfs_one (pfs_ret (pf_bin op_sub o_sub (pf_b (call_max2 rfl) o_i2 (by rfl) B.max boot_max (pfa_cons (pf_var 0) (pfa_cons (pf_var 1) (pfa_nil)))) (pf_b (call_min2 rfl) o_i2 (by rfl) B.min boot_min (pfa_cons (pf_var 0) (pfa_cons (pf_var 1) (pfa_nil))))))
abbrev st_law_sum : Stmt := topS 26
theorem sc_law_sum : FnScope ["minutes", "weights", "minute", "k"] ["minutes", "weights", "minute"] (defScope st_law_sum) := ⟨rfl, rfl, rfl, by decide +kernel, rfl, by decide +kernel, by decide +kernel⟩
theorem ok_law_sum {f : Addr} {fd : FuncData} (F : FunD K "_law_sum" "_law_sum" (defArgs st_law_sum) (defBody st_law_sum) (defScope st_law_sum) [] [] f fd) (g : mg "_law_sum" = some (.ref f)) (B : Bn mg) (C_law_apart : Cal P w K mg base 1 "_law_apart" q_law_apart 2) : Cal P w K mg base 2 "_law_sum" c_law_sum 3 := by
  have nd := sc_law_sum.nd
  refine cal_of (ps := ["minutes", "weights", "minute"]) g F.kp (F.bindsN fun _ _ _ _ _ _ us hl => match us, hl with | [_, _, _], _ => rfl) (fn_ok (k := 1) F sc_law_sum fun cdv A outer s H E hr => ?_)
  exact pfs_one (pfs_ret (pf_b (cr_sumA rfl) o_sumA (by rfl) B.sum boot_sum (pfa_cons (pf_fz (pfn_lc (own := [("k", 3)]) rfl nd (pfi_rg1 (by rfl) B.range (pfa_cons (pf_b call_len o_len (by rfl) B.len boot_len (pfa_cons (pf_var 0) (pfa_nil))) (pfa_nil))) (blkOk_by (own := [("k", 3)]) (N := ["minutes", "weights", "minute", "k"]) (by with_unfolding_all rfl)) (fun _ _ _ _ _ => pfg_name (i := 3) nd rfl (by first | exact Or.inl rfl | exact Or.inr rfl)) (fun _ _ _ _ _ => pfts_nil) (fun _ _ _ _ _ => pf_bin op_mulA o_mul (pf_ix ix_seq o_ix (pf_var 1) (pf_var 3) (fun _ _ => rfl)) (pf_callC C_law_apart (hr.mono (by decide)) (by rfl) (pfa_cons (pf_ix ix_seq o_ix (pf_var 0) (pf_var 3) (fun _ _ => rfl)) (pfa_cons (pf_var 2) (pfa_nil))) (len_cons (len_cons len_nil)))))) (pfa_nil))))
abbrev st_law_ends : Stmt := topS 27
theorem sc_law_ends : FnScope ["minutes", "weights", "sums", "minute", "fit", "k"] ["minutes", "weights"] (defScope st_law_ends) := ⟨rfl, rfl, rfl, by decide +kernel, rfl, by decide +kernel, by decide +kernel⟩
theorem ok_law_ends {f : Addr} {fd : FuncData} (F : FunD K "_law_ends" "_law_ends" (defArgs st_law_ends) (defBody st_law_ends) (defScope st_law_ends) [] [] f fd) (g : mg "_law_ends" = some (.ref f)) (B : Bn mg) (C_law_sum : Cal P w K mg base 2 "_law_sum" q_law_sum 3) : Cal P w K mg base 3 "_law_ends" c_law_ends 2 := by
  have nd := sc_law_ends.nd
  refine cal_of (ps := ["minutes", "weights"]) g F.kp (F.bindsN fun _ _ _ _ _ _ us hl => match us, hl with | [_, _], _ => rfl) (fn_ok (k := 2) F sc_law_ends fun cdv A outer s H E hr => ?_)
  exact pfs_cons (pfs_set (i := 2) nd rfl (by first | exact Or.inl rfl | exact Or.inr rfl) (pf_fz (pfn_lc (own := [("minute", 3)]) rfl nd (pfi_sq (pf_var 0)) (blkOk_by (own := [("minute", 3)]) (N := ["minutes", "weights", "sums", "minute", "fit", "k"]) (by with_unfolding_all rfl)) (fun _ _ _ _ _ => pfg_name (i := 3) nd rfl (by first | exact Or.inl rfl | exact Or.inr rfl)) (fun _ _ _ _ _ => pfts_nil) (fun _ _ _ _ _ => pf_callC C_law_sum (hr.mono (by decide)) (by rfl) (pfa_cons (pf_var 0) (pfa_cons (pf_var 1) (pfa_cons (pf_var 3) (pfa_nil)))) (len_cons (len_cons (len_cons len_nil)))))))
      (pfs_cons (pfs_setLcF (own := [("k", 5)]) (i := 4) rfl nd rfl rfl (sw_true rfl rfl rfl (by decide +kernel)) (pfi_rg1 (by rfl) B.range (pfa_cons (pf_b call_len o_len (by rfl) B.len boot_len (pfa_cons (pf_var 0) (pfa_nil))) (pfa_nil))) (blkOk_by (own := [("k", 5)]) (N := ["minutes", "weights", "sums", "minute", "fit", "k"]) (by with_unfolding_all rfl)) (fun _ _ _ _ _ => pfg_name (i := 5) nd rfl (by first | exact Or.inl rfl | exact Or.inr rfl)) (fun _ _ _ _ _ => pfts_one (pft_cmp (op_eqD hr.units) o_eq (pf_ix ix_seq o_ix (pf_var 2) (pf_var 5) (fun _ _ => rfl)) (pf_b (cr_minDt rfl hr.units) o_min1 (by rfl) B.min boot_min (pfa_cons (pf_var 2) (pfa_nil))) (nomark _))) (fun _ _ _ _ _ => pf_ix ix_seq o_ix (pf_var 0) (pf_var 5) (fun _ _ => rfl)))
      (pfs_one (pfs_ret (pf_tup (pfa_cons (pf_b (cr_minDt rfl hr.units) o_min1 (by rfl) B.min boot_min (pfa_cons (pf_var 4) (pfa_nil))) (pfa_cons (pf_b (cr_maxDt rfl hr.units) o_max1 (by rfl) B.max boot_max (pfa_cons (pf_var 4) (pfa_nil))) (pfa_nil)))))))
abbrev st_law_line_right : Stmt := topS 28
theorem sc_law_line_right : FnScope ["minutes", "weights", "is_up", "low", "high", "votes", "k", "best", "other", "minute", "place", "one", "move", "at", "rest"] ["minutes", "weights", "is_up"] (defScope st_law_line_right) := ⟨rfl, rfl, rfl, by decide +kernel, rfl, by decide +kernel, by decide +kernel⟩
theorem ok_law_line_right {f : Addr} {fd : FuncData} (F : FunD K "_law_line_right" "_law_line_right" (defArgs st_law_line_right) (defBody st_law_line_right) (defScope st_law_line_right) [] [] f fd) (g : mg "_law_line_right" = some (.ref f)) (B : Bn mg) (C_law_ends : Cal P w K mg base 3 "_law_ends" q_law_ends 2) (C_law_same : Cal P w K mg base 13 "_law_same" q_law_same 2) (Cbest_pick : Cal P w K mg base 1 "best_pick" qbest_pick 2) (Cbest_vote : Cal P w K mg base 3 "best_vote" qbest_vote 1) (Cbest_span : Cal P w K mg base 2 "best_span" qbest_span 1) (C_law_sum : Cal P w K mg base 2 "_law_sum" q_law_sum 3) (Csum_far : Cal P w K mg base 1 "sum_far" qsum_far 2) (C_law_apart : Cal P w K mg base 1 "_law_apart" q_law_apart 2) (Cworst_far : Cal P w K mg base 1 "worst_far" qworst_far 2) (Cwithout_one : Cal P w K mg base 4 "without_one" qwithout_one 2) (Cgreatest_move : Cal P w K mg base 5 "greatest_move" qgreatest_move 1) : Cal P w K mg base 14 "_law_line_right" c_law_line_right 3 := by
  have nd := sc_law_line_right.nd
  refine cal_of (ps := ["minutes", "weights", "is_up"]) g F.kp (F.bindsN fun _ _ _ _ _ _ us hl => match us, hl with | [_, _, _], _ => rfl) (fn_ok (k := 13) F sc_law_line_right fun cdv A outer s H E hr => ?_)
  exact pfs_cons (pfs_asg (vs := [3, 4]) (pf_callC C_law_ends (hr.mono (by decide)) (by rfl) (pfa_cons (pf_var 0) (pfa_cons (pf_var 1) (pfa_nil))) (len_cons (len_cons len_nil))) (pfg_any rfl (pfgs_cons (pfg_name (i := 3) nd rfl (by first | exact Or.inl rfl | exact Or.inr rfl)) (pfgs_cons (pfg_name (i := 4) nd rfl (by first | exact Or.inl rfl | exact Or.inr rfl)) (pfgs_nil)))))
      (pfs_cons (pfs_set (i := 5) nd rfl (by first | exact Or.inl rfl | exact Or.inr rfl) (pf_mut (pfn_lst (pfa_nil))))
      (pfs_cons (pfs_for (vs := [6]) PassesOwn.never rfl (pfi_rg1 (by rfl) B.range (pfa_cons (pf_b call_len o_len (by rfl) B.len boot_len (pfa_cons (pf_var 0) (pfa_nil))) (pfa_nil))) (pfg_name (i := 6) nd rfl (by first | exact Or.inl rfl | exact Or.inr rfl))
      (pfs_one (pfs_expr (pf_m PySem.F.plainAttrs_list PySem.F.slot_list_append PySem.F.type_list_append mt_append o_append (pf_var 5) (pfa_cons (pf_ix ix_seq o_ix (pf_fz (pfn_lst (pfa_cons (pf_tup (pfa_cons (pf_ix ix_seq o_ix (pf_var 0) (pf_var 6) (fun _ _ => rfl)) (pfa_cons (pf_int) (pfa_cons (pf_ix ix_seq o_ix (pf_var 1) (pf_var 6) (fun _ _ => rfl)) (pfa_nil))))) (pfa_cons (pf_tup (pfa_cons (pf_int) (pfa_cons (pf_ix ix_seq o_ix (pf_var 0) (pf_var 6) (fun _ _ => rfl)) (pfa_cons (pf_ix ix_seq o_ix (pf_var 1) (pf_var 6) (fun _ _ => rfl)) (pfa_nil))))) (pfa_nil))))) (pf_ty call_int1 o_int (by rfl) B.int boot_int (pfa_cons (pf_var 2) (pfa_nil))) (fun _ _ => rfl)) (pfa_nil))))))
      (pfs_cons (pfs_set (i := 5) nd rfl (by first | exact Or.inl rfl | exact Or.inr rfl) (pf_ty call_tuple_of o_tuple (by rfl) B.tuple boot_tuple (pfa_cons (pf_var 5) (pfa_nil))))
      (pfs_cons (pfs_set (i := 7) nd rfl (by first | exact Or.inl rfl | exact Or.inr rfl) (pf_ix ix_seq o_ix (pf_fz (pfn_lst (pfa_cons (pf_tup (pfa_cons (pf_var 3) (pfa_cons (pf_int) (pfa_nil)))) (pfa_cons (pf_tup (pfa_cons (pf_int) (pfa_cons (pf_var 3) (pfa_nil)))) (pfa_nil))))) (pf_ty call_int1 o_int (by rfl) B.int boot_int (pfa_cons (pf_var 2) (pfa_nil))) (fun _ _ => rfl)))
      (pfs_cons (pfs_set (i := 8) nd rfl (by first | exact Or.inl rfl | exact Or.inr rfl) (pf_ix ix_seq o_ix (pf_fz (pfn_lst (pfa_cons (pf_tup (pfa_cons (pf_var 4) (pfa_cons (pf_int) (pfa_nil)))) (pfa_cons (pf_tup (pfa_cons (pf_int) (pfa_cons (pf_var 4) (pfa_nil)))) (pfa_nil))))) (pf_ty call_int1 o_int (by rfl) B.int boot_int (pfa_cons (pf_var 2) (pfa_nil))) (fun _ _ => rfl)))
      (pfs_cons (pfs_if (PW.pt (pfw_or (pft_not (pft_tru (pf_callC C_law_same (hr.mono (by decide)) (by rfl) (pfa_cons (pf_callC Cbest_pick (hr.mono (by decide)) (by rfl) (pfa_cons (pf_var 0) (pfa_cons (pf_var 1) (pfa_nil))) (len_cons (len_cons len_nil))) (pfa_cons (pf_var 3) (pfa_nil))) (len_cons (len_cons len_nil))))) (pfw_or (pft_not (pft_tru (pf_callC C_law_same (hr.mono (by decide)) (by rfl) (pfa_cons (pf_callC Cbest_vote (hr.mono (by decide)) (by rfl) (pfa_cons (pf_var 5) (pfa_nil)) (len_cons len_nil)) (pfa_cons (pf_var 7) (pfa_nil))) (len_cons (len_cons len_nil))))) (pfw_or1 (pft_not (pft_tru (pf_callC C_law_same (hr.mono (by decide)) (by rfl) (pfa_cons (pf_callC Cbest_span (hr.mono (by decide)) (by rfl) (pfa_cons (pf_var 5) (pfa_nil)) (len_cons len_nil)) (pfa_cons (pf_tup (pfa_cons (pf_var 7) (pfa_cons (pf_var 8) (pfa_nil)))) (pfa_nil))) (len_cons (len_cons len_nil)))))))))
      (pfs_one (pfs_ret (pf_bl)))
      (pfs_nil))
      (pfs_cons (pfs_for (vs := [9]) PassesOwn.never rfl (pfi_sq (pf_bin op_addA o_add (pf_var 0) (pf_tup (pfa_cons (pf_bin op_sub o_sub (pf_var 3) (pf_int)) (pfa_cons (pf_bin op_addA o_add (pf_var 4) (pf_int)) (pfa_nil)))))) (pfg_name (i := 9) nd rfl (by first | exact Or.inl rfl | exact Or.inr rfl))
      (pfs_cons (pfs_set (i := 10) nd rfl (by first | exact Or.inl rfl | exact Or.inr rfl) (pf_ix ix_seq o_ix (pf_fz (pfn_lst (pfa_cons (pf_tup (pfa_cons (pf_var 9) (pfa_cons (pf_int) (pfa_nil)))) (pfa_cons (pf_tup (pfa_cons (pf_int) (pfa_cons (pf_var 9) (pfa_nil)))) (pfa_nil))))) (pf_ty call_int1 o_int (by rfl) B.int boot_int (pfa_cons (pf_var 2) (pfa_nil))) (fun _ _ => rfl)))
      (pfs_cons (pfs_if (pft_not (pft_tru (pf_callC C_law_same (hr.mono (by decide)) (by rfl) (pfa_cons (pf_callC Csum_far (hr.mono (by decide)) (by rfl) (pfa_cons (pf_var 5) (pfa_cons (pf_var 10) (pfa_nil))) (len_cons (len_cons len_nil))) (pfa_cons (pf_callC C_law_sum (hr.mono (by decide)) (by rfl) (pfa_cons (pf_var 0) (pfa_cons (pf_var 1) (pfa_cons (pf_var 9) (pfa_nil)))) (len_cons (len_cons (len_cons len_nil)))) (pfa_nil))) (len_cons (len_cons len_nil)))))
      (pfs_one (pfs_ret (pf_bl)))
      (pfs_nil))
      (pfs_cons (pfs_if (pft_not (pft_tru (pf_callC C_law_same (hr.mono (by decide)) (by rfl) (pfa_cons (pf_callC Cworst_far (hr.mono (by decide)) (by rfl) (pfa_cons (pf_var 5) (pfa_cons (pf_var 10) (pfa_nil))) (len_cons (len_cons len_nil))) (pfa_cons (pf_b (cr_maxDt rfl hr.units) o_max1 (by rfl) B.max boot_max (pfa_cons (pf_fz (pfn_lc (own := [("one", 11)]) rfl nd (pfi_sq (pf_var 0)) (blkOk_by (own := [("one", 11)]) (N := ["minutes", "weights", "is_up", "low", "high", "votes", "k", "best", "other", "minute", "place", "one", "move", "at", "rest"]) (by with_unfolding_all rfl)) (fun _ _ _ _ _ => pfg_name (i := 11) nd rfl (by first | exact Or.inl rfl | exact Or.inr rfl)) (fun _ _ _ _ _ => pfts_nil) (fun _ _ _ _ _ => pf_callC C_law_apart (hr.mono (by decide)) (by rfl) (pfa_cons (pf_var 9) (pfa_cons (pf_var 11) (pfa_nil))) (len_cons (len_cons len_nil))))) (pfa_nil))) (pfa_nil))) (len_cons (len_cons len_nil)))))
      (pfs_one (pfs_ret (pf_bl)))
      (pfs_nil))
      (pfs_one (pfs_if (pft_cmp op_lt o_cmp (pf_callC C_law_sum (hr.mono (by decide)) (by rfl) (pfa_cons (pf_var 0) (pfa_cons (pf_var 1) (pfa_cons (pf_var 9) (pfa_nil)))) (len_cons (len_cons (len_cons len_nil)))) (pf_callC C_law_sum (hr.mono (by decide)) (by rfl) (pfa_cons (pf_var 0) (pfa_cons (pf_var 1) (pfa_cons (pf_var 3) (pfa_nil)))) (len_cons (len_cons (len_cons len_nil)))) (nomark _))
      (pfs_one (pfs_ret (pf_bl)))
      (pfs_nil)))))))
      (pfs_cons (pfs_if (pft_cmp op_lt o_cmp (pf_b call_len o_len (by rfl) B.len boot_len (pfa_cons (pf_var 0) (pfa_nil))) (pf_int) (nomark _))
      (pfs_one (pfs_ret (pf_bl)))
      (pfs_nil))
      (pfs_cons (pfs_set (i := 12) nd rfl (by first | exact Or.inl rfl | exact Or.inr rfl) (pf_int))
      (pfs_cons (pfs_for (vs := [13]) PassesOwn.never rfl (pfi_rg1 (by rfl) B.range (pfa_cons (pf_b call_len o_len (by rfl) B.len boot_len (pfa_cons (pf_var 0) (pfa_nil))) (pfa_nil))) (pfg_name (i := 13) nd rfl (by first | exact Or.inl rfl | exact Or.inr rfl))
      (pfs_cons (pfs_set (i := 14) nd rfl (by first | exact Or.inl rfl | exact Or.inr rfl) (pf_callC Cbest_pick (hr.mono (by decide)) (by rfl) (pfa_cons (pf_bin op_addA o_add (pf_slice (pf_var 0) (pfo_none) (pfo_some (pf_var 13))) (pf_slice (pf_var 0) (pfo_some (pf_bin op_addA o_add (pf_var 13) (pf_int))) (pfo_none))) (pfa_cons (pf_bin op_addA o_add (pf_slice (pf_var 1) (pfo_none) (pfo_some (pf_var 13))) (pf_slice (pf_var 1) (pfo_some (pf_bin op_addA o_add (pf_var 13) (pf_int))) (pfo_none))) (pfa_nil))) (len_cons (len_cons len_nil))))
      (pfs_cons (pfs_if (pft_not (pft_tru (pf_callC C_law_same (hr.mono (by decide)) (by rfl) (pfa_cons (pf_var 14) (pfa_cons (pf_ix ix_seq o_ix (pf_callC C_law_ends (hr.mono (by decide)) (by rfl) (pfa_cons (pf_bin op_addA o_add (pf_slice (pf_var 0) (pfo_none) (pfo_some (pf_var 13))) (pf_slice (pf_var 0) (pfo_some (pf_bin op_addA o_add (pf_var 13) (pf_int))) (pfo_none))) (pfa_cons (pf_bin op_addA o_add (pf_slice (pf_var 1) (pfo_none) (pfo_some (pf_var 13))) (pf_slice (pf_var 1) (pfo_some (pf_bin op_addA o_add (pf_var 13) (pf_int))) (pfo_none))) (pfa_nil))) (len_cons (len_cons len_nil))) (pf_int) (fun _ _ => rfl)) (pfa_nil))) (len_cons (len_cons len_nil)))))
      (pfs_one (pfs_ret (pf_bl)))
      (pfs_nil))
      (pfs_cons (pfs_if (pft_not (pft_tru (pf_callC C_law_same (hr.mono (by decide)) (by rfl) (pfa_cons (pf_callC Cwithout_one (hr.mono (by decide)) (by rfl) (pfa_cons (pf_var 5) (pfa_cons (pf_var 13) (pfa_nil))) (len_cons (len_cons len_nil))) (pfa_cons (pf_ix ix_seq o_ix (pf_fz (pfn_lst (pfa_cons (pf_tup (pfa_cons (pf_var 14) (pfa_cons (pf_int) (pfa_nil)))) (pfa_cons (pf_tup (pfa_cons (pf_int) (pfa_cons (pf_var 14) (pfa_nil)))) (pfa_nil))))) (pf_ty call_int1 o_int (by rfl) B.int boot_int (pfa_cons (pf_var 2) (pfa_nil))) (fun _ _ => rfl)) (pfa_nil))) (len_cons (len_cons len_nil)))))
      (pfs_one (pfs_ret (pf_bl)))
      (pfs_nil))
      (pfs_one (pfs_set (i := 12) nd rfl (by first | exact Or.inl rfl | exact Or.inr rfl) (pf_b (call_max2 rfl) o_i2 (by rfl) B.max boot_max (pfa_cons (pf_var 12) (pfa_cons (pf_callC C_law_apart (hr.mono (by decide)) (by rfl) (pfa_cons (pf_var 14) (pfa_cons (pf_var 3) (pfa_nil))) (len_cons (len_cons len_nil))) (pfa_nil))))))))))
      (pfs_one (pfs_ret (pf_callC C_law_same (hr.mono (by decide)) (by rfl) (pfa_cons (pf_callC Cgreatest_move (hr.mono (by decide)) (by rfl) (pfa_cons (pf_var 5) (pfa_nil)) (len_cons len_nil)) (pfa_cons (pf_var 12) (pfa_nil))) (len_cons (len_cons len_nil)))))))))))))))
abbrev st_law_both_right : Stmt := topS 29
theorem sc_law_both_right : FnScope ["xs", "ys", "weights", "votes", "k", "best", "least", "x", "y"] ["xs", "ys", "weights"] (defScope st_law_both_right) := ⟨rfl, rfl, rfl, by decide +kernel, rfl, by decide +kernel, by decide +kernel⟩
theorem ok_law_both_right {f : Addr} {fd : FuncData} (F : FunD K "_law_both_right" "_law_both_right" (defArgs st_law_both_right) (defBody st_law_both_right) (defScope st_law_both_right) [] [] f fd) (g : mg "_law_both_right" = some (.ref f)) (B : Bn mg) (Cbest_vote : Cal P w K mg base 3 "best_vote" qbest_vote 1) (C_law_same : Cal P w K mg base 13 "_law_same" q_law_same 2) (Cbest_pick : Cal P w K mg base 1 "best_pick" qbest_pick 2) (C_law_ends : Cal P w K mg base 3 "_law_ends" q_law_ends 2) (Cbest_span : Cal P w K mg base 2 "best_span" qbest_span 1) (C_law_sum : Cal P w K mg base 2 "_law_sum" q_law_sum 3) (Csum_far : Cal P w K mg base 1 "sum_far" qsum_far 2) : Cal P w K mg base 14 "_law_both_right" c_law_both_right 3 := by
  have nd := sc_law_both_right.nd
  refine cal_of (ps := ["xs", "ys", "weights"]) g F.kp (F.bindsN fun _ _ _ _ _ _ us hl => match us, hl with | [_, _, _], _ => rfl) (fn_ok (k := 13) F sc_law_both_right fun cdv A outer s H E hr => ?_)
  exact pfs_cons (pfs_set (i := 3) nd rfl (by first | exact Or.inl rfl | exact Or.inr rfl) (pf_ty call_tuple_of o_tuple (by rfl) B.tuple boot_tuple (pfa_cons (pf_fz (pfn_lc (own := [("k", 4)]) rfl nd (pfi_rg1 (by rfl) B.range (pfa_cons (pf_b call_len o_len (by rfl) B.len boot_len (pfa_cons (pf_var 0) (pfa_nil))) (pfa_nil))) (blkOk_by (own := [("k", 4)]) (N := ["xs", "ys", "weights", "votes", "k", "best", "least", "x", "y"]) (by with_unfolding_all rfl)) (fun _ _ _ _ _ => pfg_name (i := 4) nd rfl (by first | exact Or.inl rfl | exact Or.inr rfl)) (fun _ _ _ _ _ => pfts_nil) (fun _ _ _ _ _ => pf_tup (pfa_cons (pf_ix ix_seq o_ix (pf_var 0) (pf_var 4) (fun _ _ => rfl)) (pfa_cons (pf_ix ix_seq o_ix (pf_var 1) (pf_var 4) (fun _ _ => rfl)) (pfa_cons (pf_ix ix_seq o_ix (pf_var 2) (pf_var 4) (fun _ _ => rfl)) (pfa_nil))))))) (pfa_nil))))
      (pfs_cons (pfs_set (i := 5) nd rfl (by first | exact Or.inl rfl | exact Or.inr rfl) (pf_callC Cbest_vote (hr.mono (by decide)) (by rfl) (pfa_cons (pf_var 3) (pfa_nil)) (len_cons len_nil)))
      (pfs_cons (pfs_if (pft_not (pft_tru (pf_callC C_law_same (hr.mono (by decide)) (by rfl) (pfa_cons (pf_var 5) (pfa_cons (pf_tup (pfa_cons (pf_callC Cbest_pick (hr.mono (by decide)) (by rfl) (pfa_cons (pf_var 0) (pfa_cons (pf_var 2) (pfa_nil))) (len_cons (len_cons len_nil))) (pfa_cons (pf_callC Cbest_pick (hr.mono (by decide)) (by rfl) (pfa_cons (pf_var 1) (pfa_cons (pf_var 2) (pfa_nil))) (len_cons (len_cons len_nil))) (pfa_nil)))) (pfa_nil))) (len_cons (len_cons len_nil)))))
      (pfs_one (pfs_ret (pf_bl)))
      (pfs_nil))
      (pfs_cons (pfs_if (pft_not (pft_tru (pf_callC C_law_same (hr.mono (by decide)) (by rfl) (pfa_cons (pf_callC Cbest_span (hr.mono (by decide)) (by rfl) (pfa_cons (pf_var 3) (pfa_nil)) (len_cons len_nil)) (pfa_cons (pf_tup (pfa_cons (pf_var 5) (pfa_cons (pf_tup (pfa_cons (pf_ix ix_seq o_ix (pf_callC C_law_ends (hr.mono (by decide)) (by rfl) (pfa_cons (pf_var 0) (pfa_cons (pf_var 2) (pfa_nil))) (len_cons (len_cons len_nil))) (pf_int) (fun _ _ => rfl)) (pfa_cons (pf_ix ix_seq o_ix (pf_callC C_law_ends (hr.mono (by decide)) (by rfl) (pfa_cons (pf_var 1) (pfa_cons (pf_var 2) (pfa_nil))) (len_cons (len_cons len_nil))) (pf_int) (fun _ _ => rfl)) (pfa_nil)))) (pfa_nil)))) (pfa_nil))) (len_cons (len_cons len_nil)))))
      (pfs_one (pfs_ret (pf_bl)))
      (pfs_nil))
      (pfs_cons (pfs_set (i := 6) nd rfl (by first | exact Or.inl rfl | exact Or.inr rfl) (pf_bin op_addA o_add (pf_callC C_law_sum (hr.mono (by decide)) (by rfl) (pfa_cons (pf_var 0) (pfa_cons (pf_var 2) (pfa_cons (pf_ix ix_seq o_ix (pf_var 5) (pf_int) (fun _ _ => rfl)) (pfa_nil)))) (len_cons (len_cons (len_cons len_nil)))) (pf_callC C_law_sum (hr.mono (by decide)) (by rfl) (pfa_cons (pf_var 1) (pfa_cons (pf_var 2) (pfa_cons (pf_ix ix_seq o_ix (pf_var 5) (pf_int) (fun _ _ => rfl)) (pfa_nil)))) (len_cons (len_cons (len_cons len_nil))))))
      (pfs_cons (pfs_if (pft_not (pft_tru (pf_callC C_law_same (hr.mono (by decide)) (by rfl) (pfa_cons (pf_callC Csum_far (hr.mono (by decide)) (by rfl) (pfa_cons (pf_var 3) (pfa_cons (pf_var 5) (pfa_nil))) (len_cons (len_cons len_nil))) (pfa_cons (pf_var 6) (pfa_nil))) (len_cons (len_cons len_nil)))))
      (pfs_one (pfs_ret (pf_bl)))
      (pfs_nil))
      (pfs_cons (pfs_for (vs := [7]) PassesOwn.never rfl (pfi_sq (pf_var 0)) (pfg_name (i := 7) nd rfl (by first | exact Or.inl rfl | exact Or.inr rfl))
      (pfs_one (pfs_for (vs := [8]) PassesOwn.never rfl (pfi_sq (pf_var 1)) (pfg_name (i := 8) nd rfl (by first | exact Or.inl rfl | exact Or.inr rfl))
      (pfs_one (pfs_if (pft_cmp op_lt o_cmp (pf_callC Csum_far (hr.mono (by decide)) (by rfl) (pfa_cons (pf_var 3) (pfa_cons (pf_tup (pfa_cons (pf_var 7) (pfa_cons (pf_var 8) (pfa_nil)))) (pfa_nil))) (len_cons (len_cons len_nil))) (pf_var 6) (nomark _))
      (pfs_one (pfs_ret (pf_bl)))
      (pfs_nil))))))
      (pfs_one (pfs_ret (pf_bl)))))))))
abbrev st_law_middle_right : Stmt := topS 30
theorem sc_law_middle_right : FnScope ["minutes", "ones", "votes", "minute"] ["minutes"] (defScope st_law_middle_right) := ⟨rfl, rfl, rfl, by decide +kernel, rfl, by decide +kernel, by decide +kernel⟩
theorem ok_law_middle_right {f : Addr} {fd : FuncData} (F : FunD K "_law_middle_right" "_law_middle_right" (defArgs st_law_middle_right) (defBody st_law_middle_right) (defScope st_law_middle_right) [] [] f fd) (g : mg "_law_middle_right" = some (.ref f)) (B : Bn mg) (C_law_same : Cal P w K mg base 13 "_law_same" q_law_same 2) (Cbest_pick : Cal P w K mg base 1 "best_pick" qbest_pick 2) (Cmiddle_pick : Cal P w K mg base 1 "middle_pick" qmiddle_pick 1) (Cbest_vote : Cal P w K mg base 3 "best_vote" qbest_vote 1) (Cgreatest_move : Cal P w K mg base 5 "greatest_move" qgreatest_move 1) (Cmoved_by_one : Cal P w K mg base 1 "moved_by_one" qmoved_by_one 1) : Cal P w K mg base 14 "_law_middle_right" c_law_middle_right 1 := by
  have nd := sc_law_middle_right.nd
  refine cal_of (ps := ["minutes"]) g F.kp (F.bindsN fun _ _ _ _ _ _ us hl => match us, hl with | [_], _ => rfl) (fn_ok (k := 13) F sc_law_middle_right fun cdv A outer s H E hr => ?_)
  exact pfs_cons (pfs_set (i := 1) nd rfl (by first | exact Or.inl rfl | exact Or.inr rfl) (pf_bin op_repTA o_repT (pf_tup (pfa_cons (pf_int) (pfa_nil))) (pf_b call_len o_len (by rfl) B.len boot_len (pfa_cons (pf_var 0) (pfa_nil)))))
      (pfs_cons (pfs_set (i := 2) nd rfl (by first | exact Or.inl rfl | exact Or.inr rfl) (pf_ty call_tuple_of o_tuple (by rfl) B.tuple boot_tuple (pfa_cons (pf_fz (pfn_lc (own := [("minute", 3)]) rfl nd (pfi_sq (pf_var 0)) (blkOk_by (own := [("minute", 3)]) (N := ["minutes", "ones", "votes", "minute"]) (by with_unfolding_all rfl)) (fun _ _ _ _ _ => pfg_name (i := 3) nd rfl (by first | exact Or.inl rfl | exact Or.inr rfl)) (fun _ _ _ _ _ => pfts_nil) (fun _ _ _ _ _ => pf_tup (pfa_cons (pf_var 3) (pfa_cons (pf_int) (pfa_cons (pf_int) (pfa_nil))))))) (pfa_nil))))
      (pfs_cons (pfs_if (PW.pt (pfw_or (pft_not (pft_tru (pf_callC C_law_same (hr.mono (by decide)) (by rfl) (pfa_cons (pf_callC Cmiddle_pick (hr.mono (by decide)) (by rfl) (pfa_cons (pf_var 0) (pfa_nil)) (len_cons len_nil)) (pfa_cons (pf_callC Cbest_pick (hr.mono (by decide)) (by rfl) (pfa_cons (pf_var 0) (pfa_cons (pf_var 1) (pfa_nil))) (len_cons (len_cons len_nil))) (pfa_nil))) (len_cons (len_cons len_nil))))) (pfw_or1 (pft_not (pft_tru (pf_callC C_law_same (hr.mono (by decide)) (by rfl) (pfa_cons (pf_callC Cbest_vote (hr.mono (by decide)) (by rfl) (pfa_cons (pf_var 2) (pfa_nil)) (len_cons len_nil)) (pfa_cons (pf_tup (pfa_cons (pf_callC Cmiddle_pick (hr.mono (by decide)) (by rfl) (pfa_cons (pf_var 0) (pfa_nil)) (len_cons len_nil)) (pfa_cons (pf_int) (pfa_nil)))) (pfa_nil))) (len_cons (len_cons len_nil))))))))
      (pfs_one (pfs_ret (pf_bl)))
      (pfs_nil))
      (pfs_one (pfs_ret (pf_or (pf_cmp op_lt o_cmp (pf_b call_len o_len (by rfl) B.len boot_len (pfa_cons (pf_var 0) (pfa_nil))) (pf_int) (nomark _)) (pf_one (pf_cmp op_le o_cmp (pf_callC Cgreatest_move (hr.mono (by decide)) (by rfl) (pfa_cons (pf_var 2) (pfa_nil)) (len_cons len_nil)) (pf_callC Cmoved_by_one (hr.mono (by decide)) (by rfl) (pfa_cons (pf_var 0) (pfa_nil)) (len_cons len_nil)) (nomark _))))))))
abbrev st_law_b_minutes : Stmt := topS 31
theorem sc_law_b_minutes : FnScope ["draws", "script", "many", "far", "wide", "found", "k", "minute"] ["draws", "script", "many"] (defScope st_law_b_minutes) := ⟨rfl, rfl, rfl, by decide +kernel, rfl, by decide +kernel, by decide +kernel⟩
theorem ok_law_b_minutes {f : Addr} {fd : FuncData} (F : FunD K "_law_b_minutes" "_law_b_minutes" (defArgs st_law_b_minutes) (defBody st_law_b_minutes) (defScope st_law_b_minutes) [] [] f fd) (g : mg "_law_b_minutes" = some (.ref f)) (B : Bn mg) (C_law_cell : Cal P w K mg base 1 "_law_cell" q_law_cell 2) (C_law_take : Cal P w K mg base 1 "_law_take" q_law_take 2) : Cal P w K mg base 2 "_law_b_minutes" c_law_b_minutes 3 := by
  have nd := sc_law_b_minutes.nd
  refine cal_of (ps := ["draws", "script", "many"]) g F.kp (F.bindsN fun _ _ _ _ _ _ us hl => match us, hl with | [_, _, _], _ => rfl) (fn_ok (k := 1) F sc_law_b_minutes fun cdv A outer s H E hr => ?_)
  exact pfs_cons (pfs_set (i := 3) nd rfl (by first | exact Or.inl rfl | exact Or.inr rfl) (pf_ix ix_seq o_ix (pf_fz (pfn_lst (pfa_cons (pf_int) (pfa_cons (pf_bin op_fdivA o_fdiv (pf_callC C_law_cell (hr.mono (by decide)) (by rfl) (pfa_cons (pf_var 1) (pfa_cons (pf_callCS 0 C_law_take (hr.mono (by decide)) (by rfl) (pfa_cons (pf_var 0) (pfa_cons (pf_int) (pfa_nil))) (len_cons (len_cons len_nil))) (pfa_nil))) (len_cons (len_cons len_nil))) (pf_bin op_pow o_pow (pf_int) (pf_int))) (pfa_nil))))) (pf_callCS 0 C_law_take (hr.mono (by decide)) (by rfl) (pfa_cons (pf_var 0) (pfa_cons (pf_int) (pfa_nil))) (len_cons (len_cons len_nil))) (fun _ _ => rfl)))
      (pfs_cons (pfs_set (i := 4) nd rfl (by first | exact Or.inl rfl | exact Or.inr rfl) (pf_ix ix_seq o_ix (pf_fz (pfn_lst (pfa_cons (pf_int) (pfa_cons (pf_int) (pfa_cons (pf_int) (pfa_nil)))))) (pf_callCS 0 C_law_take (hr.mono (by decide)) (by rfl) (pfa_cons (pf_var 0) (pfa_cons (pf_int) (pfa_nil))) (len_cons (len_cons len_nil))) (fun _ _ => rfl)))
      (pfs_cons (pfs_set (i := 5) nd rfl (by first | exact Or.inl rfl | exact Or.inr rfl) (pf_mut (pfn_lst (pfa_nil))))
      (pfs_cons (pfs_for (vs := [6]) PassesOwn.never rfl (pfi_rg1 (by rfl) B.range (pfa_cons (pf_var 2) (pfa_nil))) (pfg_name (i := 6) nd rfl (by first | exact Or.inl rfl | exact Or.inr rfl))
      (pfs_cons (pfs_set (i := 7) nd rfl (by first | exact Or.inl rfl | exact Or.inr rfl) (pf_bin op_addA o_add (pf_var 3) (pf_callCS 0 C_law_take (hr.mono (by decide)) (by rfl) (pfa_cons (pf_var 0) (pfa_cons (pf_var 4) (pfa_nil))) (len_cons (len_cons len_nil)))))
      (pfs_cons (pfs_if (pft_cmp (op_eqD hr.units) o_eq (pf_callCS 0 C_law_take (hr.mono (by decide)) (by rfl) (pfa_cons (pf_var 0) (pfa_cons (pf_int) (pfa_nil))) (len_cons (len_cons len_nil))) (pf_int) (nomark _))
      (pfs_one (pfs_set (i := 7) nd rfl (by first | exact Or.inl rfl | exact Or.inr rfl) (pf_bin op_sub o_sub (pf_bin op_addA o_add (pf_var 7) (pf_int)) (pf_bin op_mulA o_mul (pf_int) (pf_callCS 0 C_law_take (hr.mono (by decide)) (by rfl) (pfa_cons (pf_var 0) (pfa_cons (pf_int) (pfa_nil))) (len_cons (len_cons len_nil)))))))
      (pfs_nil))
      (pfs_one (pfs_expr (pf_m PySem.F.plainAttrs_list PySem.F.slot_list_append PySem.F.type_list_append mt_append o_append (pf_var 5) (pfa_cons (pf_var 7) (pfa_nil))))))))
      (pfs_one (pfs_ret (pf_ty call_tuple_of o_tuple (by rfl) B.tuple boot_tuple (pfa_cons (pf_var 5) (pfa_nil))))))))
abbrev st_law_middle : Stmt := topS 32
theorem sc_law_middle : FnScope ["minutes", "best", "minute", "below", "other"] ["minutes"] (defScope st_law_middle) := ⟨rfl, rfl, rfl, by decide +kernel, rfl, by decide +kernel, by decide +kernel⟩
theorem ok_law_middle {f : Addr} {fd : FuncData} (F : FunD K "_law_middle" "_law_middle" (defArgs st_law_middle) (defBody st_law_middle) (defScope st_law_middle) [] [] f fd) (g : mg "_law_middle" = some (.ref f)) (B : Bn mg)  : Cal P w K mg base 1 "_law_middle" c_law_middle 1 := by
  have nd := sc_law_middle.nd
  refine cal_of (ps := ["minutes"]) g F.kp (F.bindsN fun _ _ _ _ _ _ us hl => match us, hl with | [_], _ => rfl) (fn_ok (k := 0) F sc_law_middle fun cdv A outer s H E hr => ?_)
  exact pfs_cons (pfs_set (i := 1) nd rfl (by first | exact Or.inl rfl | exact Or.inr rfl) (pf_non))
      (pfs_cons (pfs_for (vs := [2]) PassesOwn.never rfl (pfi_sq (pf_var 0)) (pfg_name (i := 2) nd rfl (by first | exact Or.inl rfl | exact Or.inr rfl))
      (pfs_cons (pfs_set (i := 3) nd rfl (by first | exact Or.inl rfl | exact Or.inr rfl) (pf_b call_len o_len (by rfl) B.len boot_len (pfa_cons (pf_fz (pfn_lc (own := [("other", 4)]) rfl nd (pfi_sq (pf_var 0)) (blkOk_by (own := [("other", 4)]) (N := ["minutes", "best", "minute", "below", "other"]) (by with_unfolding_all rfl)) (fun _ _ _ _ _ => pfg_name (i := 4) nd rfl (by first | exact Or.inl rfl | exact Or.inr rfl)) (fun _ _ _ _ _ => pfts_one (pft_cmp op_le o_cmp (pf_var 4) (pf_var 2) (nomark _))) (fun _ _ _ _ _ => pf_int))) (pfa_nil))))
      (pfs_one (pfs_if (PW.pt (pfw_and (pft_cmp op_ge o_cmp (pf_bin op_mulA o_mul (pf_int) (pf_var 3)) (pf_b call_len o_len (by rfl) B.len boot_len (pfa_cons (pf_var 0) (pfa_nil))) (nomark _)) (pfw_and1 (PW.pt (pfw_or (pft_cmp op_isA o_is (pf_var 1) (pf_non) (nomark _)) (pfw_or1 (pft_cmp (op_ltDt hr.units) o_cmpD (pf_var 2) (pf_var 1) (nomark _))))))))
      (pfs_one (pfs_set (i := 1) nd rfl (by first | exact Or.inl rfl | exact Or.inr rfl) (pf_var 2)))
      (pfs_nil)))))
      (pfs_one (pfs_ret (pf_var 1))))
abbrev st_law_divisor : Stmt := topS 33
theorem sc_law_divisor : FnScope ["one", "other"] ["one", "other"] (defScope st_law_divisor) := ⟨rfl, rfl, rfl, by decide +kernel, rfl, by decide +kernel, by decide +kernel⟩
theorem ok_law_divisor {f : Addr} {fd : FuncData} (F : FunD K "_law_divisor" "_law_divisor" (defArgs st_law_divisor) (defBody st_law_divisor) (defScope st_law_divisor) [] [] f fd) (g : mg "_law_divisor" = some (.ref f)) (B : Bn mg)  : Cal P w K mg base 1 "_law_divisor" c_law_divisor 2 := by
  have nd := sc_law_divisor.nd
  refine cal_of (ps := ["one", "other"]) g F.kp (F.bindsN fun _ _ _ _ _ _ us hl => match us, hl with | [_, _], _ => rfl) (fn_ok (k := 0) F sc_law_divisor fun cdv A outer s H E hr => ?_)
  exact pfs_cons (pfs_set (i := 0) nd rfl (by first | exact Or.inl rfl | exact Or.inr rfl) (pf_b (call_max2 rfl) o_i2 (by rfl) B.max boot_max (pfa_cons (pf_var 0) (pfa_cons (pf_un un_neg o_neg (pf_var 0)) (pfa_nil)))))
      (pfs_cons (pfs_while PassesOwn.never (pft_cmp op_gt o_cmp (pf_var 1) (pf_int) (nomark _))
      (pfs_one (pfs_par (i := 0) (j := 1) rfl nd rfl rfl (by decide) rfl rfl (pfa_cons (pf_var 1) (pfa_cons (pf_bin op_modN o_mod (pf_ty call_int1 o_int (by rfl) B.int boot_int (pfa_cons (pf_var 0) (pfa_nil))) (pf_var 1)) (pfa_nil))) (by rfl))))
      (pfs_one (pfs_ret (pf_var 0))))
abbrev st_law_right : Stmt := topS 34
theorem sc_law_right : FnScope ["draws", "minutes", "many", "middle", "far", "minute", "spread", "times", "due", "k", "total", "common", "weights", "sums"] ["draws", "minutes"] (defScope st_law_right) := ⟨rfl, rfl, rfl, by decide +kernel, rfl, by decide +kernel, by decide +kernel⟩
theorem ok_law_right {f : Addr} {fd : FuncData} (F : FunD K "_law_right" "_law_right" (defArgs st_law_right) (defBody st_law_right) (defScope st_law_right) [] [] f fd) (g : mg "_law_right" = some (.ref f)) (B : Bn mg) (C_law_middle : Cal P w K mg base 1 "_law_middle" q_law_middle 1) (C_law_apart : Cal P w K mg base 1 "_law_apart" q_law_apart 2) (C_law_same : Cal P w K mg base 13 "_law_same" q_law_same 2) (Cmiddle_pick : Cal P w K mg base 1 "middle_pick" qmiddle_pick 1) (Cspread_of_picks : Cal P w K mg base 3 "spread_of_picks" qspread_of_picks 1) (Cwithout_far : Cal P w K mg base 4 "without_far" qwithout_far 2) (C_law_divisor : Cal P w K mg base 1 "_law_divisor" q_law_divisor 2) (Cmean_of_picks : Cal P w K mg base 2 "mean_of_picks" qmean_of_picks 1) (C_law_take : Cal P w K mg base 1 "_law_take" q_law_take 2) (Cbest_pick : Cal P w K mg base 1 "best_pick" qbest_pick 2) : Cal P w K mg base 14 "_law_right" c_law_right 2 := by
  have nd := sc_law_right.nd
  refine cal_of (ps := ["draws", "minutes"]) g F.kp (F.bindsN fun _ _ _ _ _ _ us hl => match us, hl with | [_, _], _ => rfl) (fn_ok (k := 13) F sc_law_right fun cdv A outer s H E hr => ?_)
  exact pfs_cons (pfs_set (i := 2) nd rfl (by first | exact Or.inl rfl | exact Or.inr rfl) (pf_b call_len o_len (by rfl) B.len boot_len (pfa_cons (pf_var 1) (pfa_nil))))
      (pfs_cons (pfs_set (i := 3) nd rfl (by first | exact Or.inl rfl | exact Or.inr rfl) (pf_callC C_law_middle (hr.mono (by decide)) (by rfl) (pfa_cons (pf_var 1) (pfa_nil)) (len_cons len_nil)))
      (pfs_cons (pfs_set (i := 4) nd rfl (by first | exact Or.inl rfl | exact Or.inr rfl) (pf_fz (pfn_lc (own := [("minute", 5)]) rfl nd (pfi_sq (pf_var 1)) (blkOk_by (own := [("minute", 5)]) (N := ["draws", "minutes", "many", "middle", "far", "minute", "spread", "times", "due", "k", "total", "common", "weights", "sums"]) (by with_unfolding_all rfl)) (fun _ _ _ _ _ => pfg_name (i := 5) nd rfl (by first | exact Or.inl rfl | exact Or.inr rfl)) (fun _ _ _ _ _ => pfts_nil) (fun _ _ _ _ _ => pf_callC C_law_apart (hr.mono (by decide)) (by rfl) (pfa_cons (pf_var 5) (pfa_cons (pf_var 3) (pfa_nil))) (len_cons (len_cons len_nil))))))
      (pfs_cons (pfs_set (i := 6) nd rfl (by first | exact Or.inl rfl | exact Or.inr rfl) (pf_callC C_law_middle (hr.mono (by decide)) (by rfl) (pfa_cons (pf_var 4) (pfa_nil)) (len_cons len_nil)))
      (pfs_cons (pfs_if (PW.pt (pfw_or (pft_not (pft_tru (pf_callC C_law_same (hr.mono (by decide)) (by rfl) (pfa_cons (pf_callC Cmiddle_pick (hr.mono (by decide)) (by rfl) (pfa_cons (pf_var 1) (pfa_nil)) (len_cons len_nil)) (pfa_cons (pf_var 3) (pfa_nil))) (len_cons (len_cons len_nil))))) (pfw_or1 (pft_not (pft_tru (pf_callC C_law_same (hr.mono (by decide)) (by rfl) (pfa_cons (pf_callC Cspread_of_picks (hr.mono (by decide)) (by rfl) (pfa_cons (pf_var 1) (pfa_nil)) (len_cons len_nil)) (pfa_cons (pf_var 6) (pfa_nil))) (len_cons (len_cons len_nil))))))))
      (pfs_one (pfs_ret (pf_bl)))
      (pfs_nil))
      (pfs_cons (pfs_if (pft_not (pft_tru (pf_callC C_law_same (hr.mono (by decide)) (by rfl) (pfa_cons (pf_callC Cmiddle_pick (hr.mono (by decide)) (by rfl) (pfa_cons (pf_revA (pf_var 1)) (pfa_nil)) (len_cons len_nil)) (pfa_cons (pf_var 3) (pfa_nil))) (len_cons (len_cons len_nil)))))
      (pfs_one (pfs_ret (pf_bl)))
      (pfs_nil))
      (pfs_cons (pfs_for (vs := [7]) PassesOwn.never rfl (pfi_rg1 (by rfl) B.range (pfa_cons (pf_int) (pfa_nil))) (pfg_name (i := 7) nd rfl (by first | exact Or.inl rfl | exact Or.inr rfl))
      (pfs_cons (pfs_set (i := 8) nd rfl (by first | exact Or.inl rfl | exact Or.inr rfl) (pf_ty call_tuple_of o_tuple (by rfl) B.tuple boot_tuple (pfa_cons (pf_fz (pfn_lc (own := [("k", 9)]) rfl nd (pfi_rg1 (by rfl) B.range (pfa_cons (pf_var 2) (pfa_nil))) (blkOk_by (own := [("k", 9)]) (N := ["draws", "minutes", "many", "middle", "far", "minute", "spread", "times", "due", "k", "total", "common", "weights", "sums"]) (by with_unfolding_all rfl)) (fun _ _ _ _ _ => pfg_name (i := 9) nd rfl (by first | exact Or.inl rfl | exact Or.inr rfl)) (fun _ _ _ _ _ => pfts_one (pft_cmp op_le o_cmp (pf_ix ix_seq o_ix (pf_var 4) (pf_var 9) (fun _ _ => rfl)) (pf_bin op_mulA o_mul (pf_var 7) (pf_var 6)) (nomark _))) (fun _ _ _ _ _ => pf_ix ix_seq o_ix (pf_var 1) (pf_var 9) (fun _ _ => rfl)))) (pfa_nil))))
      (pfs_one (pfs_if (pft_not (pft_tru (pf_callC C_law_same (hr.mono (by decide)) (by rfl) (pfa_cons (pf_callC Cwithout_far (hr.mono (by decide)) (by rfl) (pfa_cons (pf_var 1) (pfa_cons (pf_var 7) (pfa_nil))) (len_cons (len_cons len_nil))) (pfa_cons (pf_var 8) (pfa_nil))) (len_cons (len_cons len_nil)))))
      (pfs_one (pfs_ret (pf_bl)))
      (pfs_nil)))))
      (pfs_cons (pfs_set (i := 10) nd rfl (by first | exact Or.inl rfl | exact Or.inr rfl) (pf_b (cr_sumA rfl) o_sumA (by rfl) B.sum boot_sum (pfa_cons (pf_var 1) (pfa_nil))))
      (pfs_cons (pfs_set (i := 11) nd rfl (by first | exact Or.inl rfl | exact Or.inr rfl) (pf_callC C_law_divisor (hr.mono (by decide)) (by rfl) (pfa_cons (pf_var 10) (pfa_cons (pf_var 2) (pfa_nil))) (len_cons (len_cons len_nil))))
      (pfs_cons (pfs_if (pft_not (pft_tru (pf_callC C_law_same (hr.mono (by decide)) (by rfl) (pfa_cons (pf_callC Cmean_of_picks (hr.mono (by decide)) (by rfl) (pfa_cons (pf_var 1) (pfa_nil)) (len_cons len_nil)) (pfa_cons (pf_tup (pfa_cons (pf_bin op_fdivA o_fdiv (pf_var 10) (pf_var 11)) (pfa_cons (pf_bin op_fdivA o_fdiv (pf_var 2) (pf_var 11)) (pfa_nil)))) (pfa_nil))) (len_cons (len_cons len_nil)))))
      (pfs_one (pfs_ret (pf_bl)))
      (pfs_nil))
      (pfs_cons (pfs_set (i := 12) nd rfl (by first | exact Or.inl rfl | exact Or.inr rfl) (pf_ty call_tuple_of o_tuple (by rfl) B.tuple boot_tuple (pfa_cons (pf_fz (pfn_lc (own := [("minute", 5)]) rfl nd (pfi_sq (pf_var 1)) (blkOk_by (own := [("minute", 5)]) (N := ["draws", "minutes", "many", "middle", "far", "minute", "spread", "times", "due", "k", "total", "common", "weights", "sums"]) (by with_unfolding_all rfl)) (fun _ _ _ _ _ => pfg_name (i := 5) nd rfl (by first | exact Or.inl rfl | exact Or.inr rfl)) (fun _ _ _ _ _ => pfts_nil) (fun _ _ _ _ _ => pf_bin op_addA o_add (pf_int) (pf_callCS 0 C_law_take (hr.mono (by decide)) (by rfl) (pfa_cons (pf_var 0) (pfa_cons (pf_int) (pfa_nil))) (len_cons (len_cons len_nil)))))) (pfa_nil))))
      (pfs_cons (pfs_set (i := 13) nd rfl (by first | exact Or.inl rfl | exact Or.inr rfl) (pf_mut (pfn_lst (pfa_nil))))
      (pfs_cons (pfs_for (vs := [5]) PassesOwn.never rfl (pfi_sq (pf_var 1)) (pfg_name (i := 5) nd rfl (by first | exact Or.inl rfl | exact Or.inr rfl))
      (pfs_one (pfs_expr (pf_m PySem.F.plainAttrs_list PySem.F.slot_list_append PySem.F.type_list_append mt_append o_append (pf_var 13) (pfa_cons (pf_tup (pfa_cons (pf_b (cr_sumA rfl) o_sumA (by rfl) B.sum boot_sum (pfa_cons (pf_fz (pfn_lc (own := [("k", 9)]) rfl nd (pfi_rg1 (by rfl) B.range (pfa_cons (pf_var 2) (pfa_nil))) (blkOk_by (own := [("k", 9)]) (N := ["draws", "minutes", "many", "middle", "far", "minute", "spread", "times", "due", "k", "total", "common", "weights", "sums"]) (by with_unfolding_all rfl)) (fun _ _ _ _ _ => pfg_name (i := 9) nd rfl (by first | exact Or.inl rfl | exact Or.inr rfl)) (fun _ _ _ _ _ => pfts_nil) (fun _ _ _ _ _ => pf_bin op_mulA o_mul (pf_ix ix_seq o_ix (pf_var 12) (pf_var 9) (fun _ _ => rfl)) (pf_callC C_law_apart (hr.mono (by decide)) (by rfl) (pfa_cons (pf_ix ix_seq o_ix (pf_var 1) (pf_var 9) (fun _ _ => rfl)) (pfa_cons (pf_var 5) (pfa_nil))) (len_cons (len_cons len_nil)))))) (pfa_nil))) (pfa_cons (pf_var 5) (pfa_nil)))) (pfa_nil))))))
      (pfs_cons (pfs_if (pft_not (pft_tru (pf_callC C_law_same (hr.mono (by decide)) (by rfl) (pfa_cons (pf_callC Cbest_pick (hr.mono (by decide)) (by rfl) (pfa_cons (pf_var 1) (pfa_cons (pf_var 12) (pfa_nil))) (len_cons (len_cons len_nil))) (pfa_cons (pf_ix ix_seq o_ix (pf_b (cr_minDt rfl hr.units) o_min1 (by rfl) B.min boot_min (pfa_cons (pf_var 13) (pfa_nil))) (pf_int) (fun _ _ => rfl)) (pfa_nil))) (len_cons (len_cons len_nil)))))
      (pfs_one (pfs_ret (pf_bl)))
      (pfs_nil))
      (pfs_one (pfs_ret (pf_callC C_law_same (hr.mono (by decide)) (by rfl) (pfa_cons (pf_callC Cbest_pick (hr.mono (by decide)) (by rfl) (pfa_cons (pf_var 1) (pfa_cons (pf_bin op_repTA o_repT (pf_tup (pfa_cons (pf_int) (pfa_nil))) (pf_var 2)) (pfa_nil))) (len_cons (len_cons len_nil))) (pfa_cons (pf_var 3) (pfa_nil))) (len_cons (len_cons len_nil))))))))))))))))))
abbrev st_law_moved_right : Stmt := topS 35
theorem sc_law_moved_right : FnScope ["minutes", "middle", "there", "minute", "best", "k", "moved"] ["minutes"] (defScope st_law_moved_right) := ⟨rfl, rfl, rfl, by decide +kernel, rfl, by decide +kernel, by decide +kernel⟩
theorem ok_law_moved_right {f : Addr} {fd : FuncData} (F : FunD K "_law_moved_right" "_law_moved_right" (defArgs st_law_moved_right) (defBody st_law_moved_right) (defScope st_law_moved_right) [] [] f fd) (g : mg "_law_moved_right" = some (.ref f)) (B : Bn mg) (C_law_middle : Cal P w K mg base 1 "_law_middle" q_law_middle 1) (C_law_apart : Cal P w K mg base 1 "_law_apart" q_law_apart 2) (C_law_same : Cal P w K mg base 13 "_law_same" q_law_same 2) (Cmoved_by_one : Cal P w K mg base 1 "moved_by_one" qmoved_by_one 1) : Cal P w K mg base 14 "_law_moved_right" c_law_moved_right 1 := by
  have nd := sc_law_moved_right.nd
  refine cal_of (ps := ["minutes"]) g F.kp (F.bindsN fun _ _ _ _ _ _ us hl => match us, hl with | [_], _ => rfl) (fn_ok (k := 13) F sc_law_moved_right fun cdv A outer s H E hr => ?_)
  exact pfs_cons (pfs_set (i := 1) nd rfl (by first | exact Or.inl rfl | exact Or.inr rfl) (pf_callC C_law_middle (hr.mono (by decide)) (by rfl) (pfa_cons (pf_var 0) (pfa_nil)) (len_cons len_nil)))
      (pfs_cons (pfs_set (i := 2) nd rfl (by first | exact Or.inl rfl | exact Or.inr rfl) (pf_fz (pfn_sortU (by rfl) B.sorted (by rfl) B.set (pfa_cons (pf_bin op_addA o_add (pf_bin op_addA o_add (pf_var 0) (pf_ty call_tuple_of o_tuple (by rfl) B.tuple boot_tuple (pfa_cons (pf_fz (pfn_lc (own := [("minute", 3)]) rfl nd (pfi_sq (pf_var 0)) (blkOk_by (own := [("minute", 3)]) (N := ["minutes", "middle", "there", "minute", "best", "k", "moved"]) (by with_unfolding_all rfl)) (fun _ _ _ _ _ => pfg_name (i := 3) nd rfl (by first | exact Or.inl rfl | exact Or.inr rfl)) (fun _ _ _ _ _ => pfts_nil) (fun _ _ _ _ _ => pf_bin op_addA o_add (pf_var 3) (pf_int)))) (pfa_nil)))) (pf_tup (pfa_cons (pf_bin op_sub o_sub (pf_b (cr_minDt rfl hr.units) o_min1 (by rfl) B.min boot_min (pfa_cons (pf_var 0) (pfa_nil))) (pf_int)) (pfa_cons (pf_bin op_addA o_add (pf_b (cr_maxDt rfl hr.units) o_max1 (by rfl) B.max boot_max (pfa_cons (pf_var 0) (pfa_nil))) (pf_int)) (pfa_nil))))) (pfa_nil)))))
      (pfs_cons (pfs_set (i := 4) nd rfl (by first | exact Or.inl rfl | exact Or.inr rfl) (pf_int))
      (pfs_cons (pfs_for (vs := [5]) PassesOwn.never rfl (pfi_rg1 (by rfl) B.range (pfa_cons (pf_b call_len o_len (by rfl) B.len boot_len (pfa_cons (pf_var 0) (pfa_nil))) (pfa_nil))) (pfg_name (i := 5) nd rfl (by first | exact Or.inl rfl | exact Or.inr rfl))
      (pfs_one (pfs_for (vs := [3]) PassesOwn.never rfl (pfi_sq (pf_var 2)) (pfg_name (i := 3) nd rfl (by first | exact Or.inl rfl | exact Or.inr rfl))
      (pfs_cons (pfs_set (i := 6) nd rfl (by first | exact Or.inl rfl | exact Or.inr rfl) (pf_callC C_law_middle (hr.mono (by decide)) (by rfl) (pfa_cons (pf_bin op_addA o_add (pf_bin op_addA o_add (pf_slice (pf_var 0) (pfo_none) (pfo_some (pf_var 5))) (pf_tup (pfa_cons (pf_var 3) (pfa_nil)))) (pf_slice (pf_var 0) (pfo_some (pf_bin op_addA o_add (pf_var 5) (pf_int))) (pfo_none))) (pfa_nil)) (len_cons len_nil)))
      (pfs_one (pfs_set (i := 4) nd rfl (by first | exact Or.inl rfl | exact Or.inr rfl) (pf_b (call_max2 rfl) o_i2 (by rfl) B.max boot_max (pfa_cons (pf_var 4) (pfa_cons (pf_callC C_law_apart (hr.mono (by decide)) (by rfl) (pfa_cons (pf_var 6) (pfa_cons (pf_var 1) (pfa_nil))) (len_cons (len_cons len_nil))) (pfa_nil))))))))))
      (pfs_one (pfs_ret (pf_callC C_law_same (hr.mono (by decide)) (by rfl) (pfa_cons (pf_callC Cmoved_by_one (hr.mono (by decide)) (by rfl) (pfa_cons (pf_var 0) (pfa_nil)) (len_cons len_nil)) (pfa_cons (pf_var 4) (pfa_nil))) (len_cons (len_cons len_nil))))))))
abbrev st_law_part_one : Stmt := topS 36
theorem sc_law_part_one : FnScope ["script", "draws", "k", "many", "xs", "ys", "weights", "minute"] ["script"] (defScope st_law_part_one) := ⟨rfl, rfl, rfl, by decide +kernel, rfl, by decide +kernel, by decide +kernel⟩
theorem ok_law_part_one {f : Addr} {fd : FuncData} (F : FunD K "_law_part_one" "_law_part_one" (defArgs st_law_part_one) (defBody st_law_part_one) (defScope st_law_part_one) [] [] f fd) (g : mg "_law_part_one" = some (.ref f)) (B : Bn mg) (C_law_draws : Cal P w K mg base 1 "_law_draws" q_law_draws 2) (C_law_take : Cal P w K mg base 1 "_law_take" q_law_take 2) (C_law_minutes : Cal P w K mg base 2 "_law_minutes" q_law_minutes 3) (C_law_line_right : Cal P w K mg base 14 "_law_line_right" q_law_line_right 3) (C_law_both_right : Cal P w K mg base 14 "_law_both_right" q_law_both_right 3) (C_law_middle_right : Cal P w K mg base 14 "_law_middle_right" q_law_middle_right 1) (C_law_same : Cal P w K mg base 13 "_law_same" q_law_same 2) (Cbest_pick : Cal P w K mg base 1 "best_pick" qbest_pick 2) (Cbest_span : Cal P w K mg base 2 "best_span" qbest_span 1) : Cal P w K mg base 15 "_law_part_one" c_law_part_one 1 := by
  have nd := sc_law_part_one.nd
  refine cal_of (ps := ["script"]) g F.kp (F.bindsN fun _ _ _ _ _ _ us hl => match us, hl with | [_], _ => rfl) (fn_ok (k := 14) F sc_law_part_one fun cdv A outer s H E hr => ?_)
  exact pfs_cons (pfs_set (i := 1) nd rfl (by first | exact Or.inl rfl | exact Or.inr rfl) (pf_callC C_law_draws (hr.mono (by decide)) (by rfl) (pfa_cons (pf_var 0) (pfa_cons (pf_int) (pfa_nil))) (len_cons (len_cons len_nil))))
      (pfs_cons (pfs_for (vs := [2]) PassesOwn.never rfl (pfi_rg1 (by rfl) B.range (pfa_cons (pf_int) (pfa_nil))) (pfg_name (i := 2) nd rfl (by first | exact Or.inl rfl | exact Or.inr rfl))
      (pfs_cons (pfs_set (i := 3) nd rfl (by first | exact Or.inl rfl | exact Or.inr rfl) (pf_bin op_addA o_add (pf_int) (pf_callCS 0 C_law_take (hr.mono (by decide)) (by rfl) (pfa_cons (pf_var 1) (pfa_cons (pf_ix ix_seq o_ix (pf_fz (pfn_lst (pfa_cons (pf_int) (pfa_cons (pf_int) (pfa_cons (pf_int) (pfa_nil)))))) (pf_var 2) (fun _ _ => rfl)) (pfa_nil))) (len_cons (len_cons len_nil)))))
      (pfs_cons (pfs_set (i := 4) nd rfl (by first | exact Or.inl rfl | exact Or.inr rfl) (pf_callCS 0 C_law_minutes (hr.mono (by decide)) (by rfl) (pfa_cons (pf_var 1) (pfa_cons (pf_var 0) (pfa_cons (pf_var 3) (pfa_nil)))) (len_cons (len_cons (len_cons len_nil)))))
      (pfs_cons (pfs_set (i := 5) nd rfl (by first | exact Or.inl rfl | exact Or.inr rfl) (pf_callCS 0 C_law_minutes (hr.mono (by decide)) (by rfl) (pfa_cons (pf_var 1) (pfa_cons (pf_var 0) (pfa_cons (pf_var 3) (pfa_nil)))) (len_cons (len_cons (len_cons len_nil)))))
      (pfs_cons (pfs_set (i := 6) nd rfl (by first | exact Or.inl rfl | exact Or.inr rfl) (pf_ty call_tuple_of o_tuple (by rfl) B.tuple boot_tuple (pfa_cons (pf_fz (pfn_lc (own := [("minute", 7)]) rfl nd (pfi_sq (pf_var 4)) (blkOk_by (own := [("minute", 7)]) (N := ["script", "draws", "k", "many", "xs", "ys", "weights", "minute"]) (by with_unfolding_all rfl)) (fun _ _ _ _ _ => pfg_name (i := 7) nd rfl (by first | exact Or.inl rfl | exact Or.inr rfl)) (fun _ _ _ _ _ => pfts_nil) (fun _ _ _ _ _ => pf_bin op_addA o_add (pf_int) (pf_callCS 0 C_law_take (hr.mono (by decide)) (by rfl) (pfa_cons (pf_var 1) (pfa_cons (pf_ix ix_seq o_ix (pf_fz (pfn_lst (pfa_cons (pf_int) (pfa_cons (pf_int) (pfa_nil))))) (pf_callCS 0 C_law_take (hr.mono (by decide)) (by rfl) (pfa_cons (pf_var 1) (pfa_cons (pf_int) (pfa_nil))) (len_cons (len_cons len_nil))) (fun _ _ => rfl)) (pfa_nil))) (len_cons (len_cons len_nil)))))) (pfa_nil))))
      (pfs_cons (pfs_if (PW.pt (pfw_or (pft_not (pft_tru (pf_callC C_law_line_right (hr.mono (by decide)) (by rfl) (pfa_cons (pf_var 4) (pfa_cons (pf_var 6) (pfa_cons (pf_bl) (pfa_nil)))) (len_cons (len_cons (len_cons len_nil)))))) (pfw_or1 (pft_not (pft_tru (pf_callC C_law_line_right (hr.mono (by decide)) (by rfl) (pfa_cons (pf_var 5) (pfa_cons (pf_var 6) (pfa_cons (pf_bl) (pfa_nil)))) (len_cons (len_cons (len_cons len_nil)))))))))
      (pfs_one (pfs_ret (pf_bl)))
      (pfs_nil))
      (pfs_one (pfs_if (PW.pt (pfw_or (pft_not (pft_tru (pf_callC C_law_both_right (hr.mono (by decide)) (by rfl) (pfa_cons (pf_var 4) (pfa_cons (pf_var 5) (pfa_cons (pf_var 6) (pfa_nil)))) (len_cons (len_cons (len_cons len_nil)))))) (pfw_or1 (pft_not (pft_tru (pf_callC C_law_middle_right (hr.mono (by decide)) (by rfl) (pfa_cons (pf_var 4) (pfa_nil)) (len_cons len_nil)))))))
      (pfs_one (pfs_ret (pf_bl)))
      (pfs_nil)))))))))
      (pfs_one (pfs_ret (pf_and (pf_callC C_law_same (hr.mono (by decide)) (by rfl) (pfa_cons (pf_callC Cbest_pick (hr.mono (by decide)) (by rfl) (pfa_cons (pf_tup (pfa_cons (pf_int) (pfa_cons (pf_int) (pfa_nil)))) (pfa_cons (pf_tup (pfa_cons (pf_int) (pfa_cons (pf_int) (pfa_nil)))) (pfa_nil))) (len_cons (len_cons len_nil))) (pfa_cons (pf_int) (pfa_nil))) (len_cons (len_cons len_nil))) (pf_and (pf_callC C_law_same (hr.mono (by decide)) (by rfl) (pfa_cons (pf_callC Cbest_span (hr.mono (by decide)) (by rfl) (pfa_cons (pf_tup (pfa_cons (pf_tup (pfa_cons (pf_int) (pfa_cons (pf_int) (pfa_cons (pf_int) (pfa_nil))))) (pfa_cons (pf_tup (pfa_cons (pf_int) (pfa_cons (pf_int) (pfa_cons (pf_int) (pfa_nil))))) (pfa_nil)))) (pfa_nil)) (len_cons len_nil)) (pfa_cons (pf_tup (pfa_cons (pf_tup (pfa_cons (pf_int) (pfa_cons (pf_int) (pfa_nil)))) (pfa_cons (pf_tup (pfa_cons (pf_int) (pfa_cons (pf_int) (pfa_nil)))) (pfa_nil)))) (pfa_nil))) (len_cons (len_cons len_nil))) (pf_one (pf_callC C_law_same (hr.mono (by decide)) (by rfl) (pfa_cons (pf_callC Cbest_pick (hr.mono (by decide)) (by rfl) (pfa_cons (pf_tup (pfa_cons (pf_int) (pfa_cons (pf_int) (pfa_cons (pf_int) (pfa_nil))))) (pfa_cons (pf_tup (pfa_cons (pf_int) (pfa_cons (pf_int) (pfa_cons (pf_int) (pfa_nil))))) (pfa_nil))) (len_cons (len_cons len_nil))) (pfa_cons (pf_int) (pfa_nil))) (len_cons (len_cons len_nil)))))))))
abbrev st_law_part_two : Stmt := topS 37
theorem sc_law_part_two : FnScope ["script", "draws", "k", "minutes"] ["script"] (defScope st_law_part_two) := ⟨rfl, rfl, rfl, by decide +kernel, rfl, by decide +kernel, by decide +kernel⟩
theorem ok_law_part_two {f : Addr} {fd : FuncData} (F : FunD K "_law_part_two" "_law_part_two" (defArgs st_law_part_two) (defBody st_law_part_two) (defScope st_law_part_two) [] [] f fd) (g : mg "_law_part_two" = some (.ref f)) (B : Bn mg) (C_law_draws : Cal P w K mg base 1 "_law_draws" q_law_draws 2) (C_law_b_minutes : Cal P w K mg base 2 "_law_b_minutes" q_law_b_minutes 3) (C_law_take : Cal P w K mg base 1 "_law_take" q_law_take 2) (C_law_right : Cal P w K mg base 14 "_law_right" q_law_right 2) (C_law_moved_right : Cal P w K mg base 14 "_law_moved_right" q_law_moved_right 1) (C_law_same : Cal P w K mg base 13 "_law_same" q_law_same 2) (Cmiddle_pick : Cal P w K mg base 1 "middle_pick" qmiddle_pick 1) (Cspread_of_picks : Cal P w K mg base 3 "spread_of_picks" qspread_of_picks 1) (Cwithout_far : Cal P w K mg base 4 "without_far" qwithout_far 2) (Cmean_of_picks : Cal P w K mg base 2 "mean_of_picks" qmean_of_picks 1) (Cmoved_by_one : Cal P w K mg base 1 "moved_by_one" qmoved_by_one 1) (Cbest_pick : Cal P w K mg base 1 "best_pick" qbest_pick 2) : Cal P w K mg base 15 "_law_part_two" c_law_part_two 1 := by
  have nd := sc_law_part_two.nd
  refine cal_of (ps := ["script"]) g F.kp (F.bindsN fun _ _ _ _ _ _ us hl => match us, hl with | [_], _ => rfl) (fn_ok (k := 14) F sc_law_part_two fun cdv A outer s H E hr => ?_)
  exact pfs_cons (pfs_set (i := 1) nd rfl (by first | exact Or.inl rfl | exact Or.inr rfl) (pf_callC C_law_draws (hr.mono (by decide)) (by rfl) (pfa_cons (pf_var 0) (pfa_cons (pf_int) (pfa_nil))) (len_cons (len_cons len_nil))))
      (pfs_cons (pfs_for (vs := [2]) PassesOwn.never rfl (pfi_rg1 (by rfl) B.range (pfa_cons (pf_int) (pfa_nil))) (pfg_name (i := 2) nd rfl (by first | exact Or.inl rfl | exact Or.inr rfl))
      (pfs_cons (pfs_set (i := 3) nd rfl (by first | exact Or.inl rfl | exact Or.inr rfl) (pf_callCS 0 C_law_b_minutes (hr.mono (by decide)) (by rfl) (pfa_cons (pf_var 1) (pfa_cons (pf_var 0) (pfa_cons (pf_bin op_addA o_add (pf_int) (pf_callCS 0 C_law_take (hr.mono (by decide)) (by rfl) (pfa_cons (pf_var 1) (pfa_cons (pf_ix ix_seq o_ix (pf_fz (pfn_lst (pfa_cons (pf_int) (pfa_cons (pf_int) (pfa_cons (pf_int) (pfa_nil)))))) (pf_var 2) (fun _ _ => rfl)) (pfa_nil))) (len_cons (len_cons len_nil)))) (pfa_nil)))) (len_cons (len_cons (len_cons len_nil)))))
      (pfs_one (pfs_if (PW.pt (pfw_or (pft_not (pft_tru (pf_callCS 0 C_law_right (hr.mono (by decide)) (by rfl) (pfa_cons (pf_var 1) (pfa_cons (pf_var 3) (pfa_nil))) (len_cons (len_cons len_nil))))) (pfw_or1 (PW.pt (pfw_and (pft_cmp op_gt o_cmp (pf_b call_len o_len (by rfl) B.len boot_len (pfa_cons (pf_var 3) (pfa_nil))) (pf_int) (nomark _)) (pfw_and1 (pft_not (pft_tru (pf_callC C_law_moved_right (hr.mono (by decide)) (by rfl) (pfa_cons (pf_var 3) (pfa_nil)) (len_cons len_nil))))))))))
      (pfs_one (pfs_ret (pf_bl)))
      (pfs_nil)))))
      (pfs_cons (pfs_if (PW.pt (pfw_and (pft_cmp (op_eqD hr.units) o_eq (pf_callCS 0 C_law_take (hr.mono (by decide)) (by rfl) (pfa_cons (pf_var 1) (pfa_cons (pf_int) (pfa_nil))) (len_cons (len_cons len_nil))) (pf_int) (nomark _)) (pfw_and1 (pft_not (pft_tru (pf_callCS 0 C_law_right (hr.mono (by decide)) (by rfl) (pfa_cons (pf_var 1) (pfa_cons (pf_callCS 0 C_law_b_minutes (hr.mono (by decide)) (by rfl) (pfa_cons (pf_var 1) (pfa_cons (pf_var 0) (pfa_cons (pf_bin op_sub o_sub (pf_int) (pf_callCS 0 C_law_take (hr.mono (by decide)) (by rfl) (pfa_cons (pf_var 1) (pfa_cons (pf_int) (pfa_nil))) (len_cons (len_cons len_nil)))) (pfa_nil)))) (len_cons (len_cons (len_cons len_nil)))) (pfa_nil))) (len_cons (len_cons len_nil))))))))
      (pfs_one (pfs_ret (pf_bl)))
      (pfs_nil))
      (pfs_cons (pfs_set (i := 3) nd rfl (by first | exact Or.inl rfl | exact Or.inr rfl) (pf_tup (pfa_cons (pf_int) (pfa_cons (pf_int) (pfa_cons (pf_int) (pfa_cons (pf_int) (pfa_nil)))))))
      (pfs_cons (pfs_if (PW.pt (pfw_or (pft_not (pft_tru (pf_callC C_law_same (hr.mono (by decide)) (by rfl) (pfa_cons (pf_callC Cmiddle_pick (hr.mono (by decide)) (by rfl) (pfa_cons (pf_var 3) (pfa_nil)) (len_cons len_nil)) (pfa_cons (pf_int) (pfa_nil))) (len_cons (len_cons len_nil))))) (pfw_or (pft_not (pft_tru (pf_callC C_law_same (hr.mono (by decide)) (by rfl) (pfa_cons (pf_callC Cspread_of_picks (hr.mono (by decide)) (by rfl) (pfa_cons (pf_var 3) (pfa_nil)) (len_cons len_nil)) (pfa_cons (pf_int) (pfa_nil))) (len_cons (len_cons len_nil))))) (pfw_or1 (pft_not (pft_tru (pf_callC C_law_same (hr.mono (by decide)) (by rfl) (pfa_cons (pf_callC Cwithout_far (hr.mono (by decide)) (by rfl) (pfa_cons (pf_var 3) (pfa_cons (pf_int) (pfa_nil))) (len_cons (len_cons len_nil))) (pfa_cons (pf_tup (pfa_cons (pf_int) (pfa_cons (pf_int) (pfa_cons (pf_int) (pfa_nil))))) (pfa_nil))) (len_cons (len_cons len_nil)))))))))
      (pfs_one (pfs_ret (pf_bl)))
      (pfs_nil))
      (pfs_cons (pfs_if (PW.pt (pfw_or (pft_not (pft_tru (pf_callC C_law_same (hr.mono (by decide)) (by rfl) (pfa_cons (pf_callC Cmean_of_picks (hr.mono (by decide)) (by rfl) (pfa_cons (pf_var 3) (pfa_nil)) (len_cons len_nil)) (pfa_cons (pf_tup (pfa_cons (pf_int) (pfa_cons (pf_int) (pfa_nil)))) (pfa_nil))) (len_cons (len_cons len_nil))))) (pfw_or (pft_not (pft_tru (pf_callC C_law_same (hr.mono (by decide)) (by rfl) (pfa_cons (pf_callC Cmoved_by_one (hr.mono (by decide)) (by rfl) (pfa_cons (pf_var 3) (pfa_nil)) (len_cons len_nil)) (pfa_cons (pf_int) (pfa_nil))) (len_cons (len_cons len_nil))))) (pfw_or1 (pft_not (pft_tru (pf_callC C_law_same (hr.mono (by decide)) (by rfl) (pfa_cons (pf_callC Cbest_pick (hr.mono (by decide)) (by rfl) (pfa_cons (pf_var 3) (pfa_cons (pf_tup (pfa_cons (pf_int) (pfa_cons (pf_int) (pfa_cons (pf_int) (pfa_cons (pf_int) (pfa_nil)))))) (pfa_nil))) (len_cons (len_cons len_nil))) (pfa_cons (pf_int) (pfa_nil))) (len_cons (len_cons len_nil)))))))))
      (pfs_one (pfs_ret (pf_bl)))
      (pfs_nil))
      (pfs_one (pfs_ret (pf_and (pf_callC C_law_same (hr.mono (by decide)) (by rfl) (pfa_cons (pf_callC Cmean_of_picks (hr.mono (by decide)) (by rfl) (pfa_cons (pf_tup (pfa_cons (pf_un un_neg o_neg (pf_int)) (pfa_cons (pf_un un_neg o_neg (pf_int)) (pfa_nil)))) (pfa_nil)) (len_cons len_nil)) (pfa_cons (pf_tup (pfa_cons (pf_un un_neg o_neg (pf_int)) (pfa_cons (pf_int) (pfa_nil)))) (pfa_nil))) (len_cons (len_cons len_nil))) (pf_and (pf_callC C_law_same (hr.mono (by decide)) (by rfl) (pfa_cons (pf_callC Cmiddle_pick (hr.mono (by decide)) (by rfl) (pfa_cons (pf_tup (pfa_cons (pf_int) (pfa_nil))) (pfa_nil)) (len_cons len_nil)) (pfa_cons (pf_int) (pfa_nil))) (len_cons (len_cons len_nil))) (pf_one (pf_callC C_law_same (hr.mono (by decide)) (by rfl) (pfa_cons (pf_callC Cwithout_far (hr.mono (by decide)) (by rfl) (pfa_cons (pf_tup (pfa_cons (pf_int) (pfa_cons (pf_int) (pfa_cons (pf_int) (pfa_nil))))) (pfa_cons (pf_int) (pfa_nil))) (len_cons (len_cons len_nil))) (pfa_cons (pf_tup (pfa_cons (pf_int) (pfa_cons (pf_int) (pfa_nil)))) (pfa_nil))) (len_cons (len_cons len_nil)))))))))))))
abbrev stlaw : Stmt := topS 38
theorem sclaw : FnScope ["script"] ["script"] (defScope stlaw) := ⟨rfl, rfl, rfl, by decide +kernel, rfl, by decide +kernel, by decide +kernel⟩
theorem oklaw {f : Addr} {fd : FuncData} (F : FunD K "law" "law" (defArgs stlaw) (defBody stlaw) (defScope stlaw) [] [] f fd) (g : mg "law" = some (.ref f)) (B : Bn mg) (C_law_part_one : Cal P w K mg base 15 "_law_part_one" q_law_part_one 1) (C_law_part_two : Cal P w K mg base 15 "_law_part_two" q_law_part_two 1) : FnOk P w K mg base CX0 16 f fd ["script"] (spOf K claw 1) := by
  have nd := sclaw.nd
  refine (fn_ok (k := 15) F sclaw fun cdv A outer s H E hr => ?_)
  exact pfs_one (pfs_ret (pf_and (pf_callC C_law_part_one (hr.mono (by decide)) (by rfl) (pfa_cons (pf_var 0) (pfa_nil)) (len_cons len_nil)) (pf_one (pf_callC C_law_part_two (hr.mono (by decide)) (by rfl) (pfa_cons (pf_var 0) (pfa_nil)) (len_cons len_nil)))))
end
end LP
namespace LP
open PySem PySem.Spec PyProof.Rows L2 PF
section
open L2
def imL : List (Str × String) := [("gcd", "math.gcd")]
def fnL : List He.DefD := [⟨("fraction", none), "fraction", "fraction", defArgs stfraction, defBody stfraction, defScope stfraction, [], []⟩,
  ⟨("middle_pick", none), "middle_pick", "middle_pick", defArgs stmiddle_pick, defBody stmiddle_pick, defScope stmiddle_pick, [], []⟩,
  ⟨("far_from_middle", none), "far_from_middle", "far_from_middle", defArgs stfar_from_middle, defBody stfar_from_middle, defScope stfar_from_middle, [], []⟩,
  ⟨("spread_of_picks", none), "spread_of_picks", "spread_of_picks", defArgs stspread_of_picks, defBody stspread_of_picks, defScope stspread_of_picks, [], []⟩,
  ⟨("without_far", none), "without_far", "without_far", defArgs stwithout_far, defBody stwithout_far, defScope stwithout_far, [], []⟩,
  ⟨("mean_of_picks", none), "mean_of_picks", "mean_of_picks", defArgs stmean_of_picks, defBody stmean_of_picks, defScope stmean_of_picks, [], []⟩,
  ⟨("best_pick", none), "best_pick", "best_pick", defArgs stbest_pick, defBody stbest_pick, defScope stbest_pick, [], []⟩,
  ⟨("moved_by_one", none), "moved_by_one", "moved_by_one", defArgs stmoved_by_one, defBody stmoved_by_one, defScope stmoved_by_one, [], []⟩,
  ⟨("weighed_middles", none), "weighed_middles", "weighed_middles", defArgs stweighed_middles, defBody stweighed_middles, defScope stweighed_middles, [], []⟩,
  ⟨("best_span", none), "best_span", "best_span", defArgs stbest_span, defBody stbest_span, defScope stbest_span, [], []⟩,
  ⟨("best_vote", none), "best_vote", "best_vote", defArgs stbest_vote, defBody stbest_vote, defScope stbest_vote, [], []⟩,
  ⟨("sum_far", none), "sum_far", "sum_far", defArgs stsum_far, defBody stsum_far, defScope stsum_far, [], []⟩,
  ⟨("worst_far", none), "worst_far", "worst_far", defArgs stworst_far, defBody stworst_far, defScope stworst_far, [], []⟩,
  ⟨("without_one", none), "without_one", "without_one", defArgs stwithout_one, defBody stwithout_one, defScope stwithout_one, [], []⟩,
  ⟨("greatest_move", none), "greatest_move", "greatest_move", defArgs stgreatest_move, defBody stgreatest_move, defScope stgreatest_move, [], []⟩,
  ⟨("_law_draws", none), "_law_draws", "_law_draws", defArgs st_law_draws, defBody st_law_draws, defScope st_law_draws, [], []⟩,
  ⟨("_law_take", none), "_law_take", "_law_take", defArgs st_law_take, defBody st_law_take, defScope st_law_take, [], []⟩,
  ⟨("_law_cell", none), "_law_cell", "_law_cell", defArgs st_law_cell, defBody st_law_cell, defScope st_law_cell, [], []⟩,
  ⟨("_law_same", none), "_law_same", "_law_same", defArgs st_law_same, defBody st_law_same, defScope st_law_same, [], []⟩,
  ⟨("_law_minutes", none), "_law_minutes", "_law_minutes", defArgs st_law_minutes, defBody st_law_minutes, defScope st_law_minutes, [], []⟩,
  ⟨("_law_apart", none), "_law_apart", "_law_apart", defArgs st_law_apart, defBody st_law_apart, defScope st_law_apart, [], []⟩,
  ⟨("_law_sum", none), "_law_sum", "_law_sum", defArgs st_law_sum, defBody st_law_sum, defScope st_law_sum, [], []⟩,
  ⟨("_law_ends", none), "_law_ends", "_law_ends", defArgs st_law_ends, defBody st_law_ends, defScope st_law_ends, [], []⟩,
  ⟨("_law_line_right", none), "_law_line_right", "_law_line_right", defArgs st_law_line_right, defBody st_law_line_right, defScope st_law_line_right, [], []⟩,
  ⟨("_law_both_right", none), "_law_both_right", "_law_both_right", defArgs st_law_both_right, defBody st_law_both_right, defScope st_law_both_right, [], []⟩,
  ⟨("_law_middle_right", none), "_law_middle_right", "_law_middle_right", defArgs st_law_middle_right, defBody st_law_middle_right, defScope st_law_middle_right, [], []⟩,
  ⟨("_law_b_minutes", none), "_law_b_minutes", "_law_b_minutes", defArgs st_law_b_minutes, defBody st_law_b_minutes, defScope st_law_b_minutes, [], []⟩,
  ⟨("_law_middle", none), "_law_middle", "_law_middle", defArgs st_law_middle, defBody st_law_middle, defScope st_law_middle, [], []⟩,
  ⟨("_law_divisor", none), "_law_divisor", "_law_divisor", defArgs st_law_divisor, defBody st_law_divisor, defScope st_law_divisor, [], []⟩,
  ⟨("_law_right", none), "_law_right", "_law_right", defArgs st_law_right, defBody st_law_right, defScope st_law_right, [], []⟩,
  ⟨("_law_moved_right", none), "_law_moved_right", "_law_moved_right", defArgs st_law_moved_right, defBody st_law_moved_right, defScope st_law_moved_right, [], []⟩,
  ⟨("_law_part_one", none), "_law_part_one", "_law_part_one", defArgs st_law_part_one, defBody st_law_part_one, defScope st_law_part_one, [], []⟩,
  ⟨("_law_part_two", none), "_law_part_two", "_law_part_two", defArgs st_law_part_two, defBody st_law_part_two, defScope st_law_part_two, [], []⟩,
  ⟨("law", none), "law", "law", defArgs stlaw, defBody stlaw, defScope stlaw, [], []⟩]
def faL : List He.Fa := [.free "len", .free "int", .free "abs", .free "tuple", .free "list", .free "range", .free "isinstance", .free "bool", .free "str", .free "min", .free "max", .free "sum", .free "sorted", .free "any", .free "all", .free "set", .free "dict", .free "type", .glo "fraction", .glo "middle_pick", .glo "far_from_middle", .glo "spread_of_picks", .glo "without_far", .glo "mean_of_picks", .glo "best_pick", .glo "moved_by_one", .glo "weighed_middles", .glo "best_span", .glo "best_vote", .glo "sum_far", .glo "worst_far", .glo "without_one", .glo "greatest_move", .glo "_law_draws", .glo "_law_take", .glo "_law_cell", .glo "_law_same", .glo "_law_minutes", .glo "_law_apart", .glo "_law_sum", .glo "_law_ends", .glo "_law_line_right", .glo "_law_both_right", .glo "_law_middle_right", .glo "_law_b_minutes", .glo "_law_middle", .glo "_law_divisor", .glo "_law_right", .glo "_law_moved_right", .glo "_law_part_one", .glo "_law_part_two", .glo "law"]
abbrev LR : PySem.W.OpenRow := PySem.W.OpenLaw.row PySem.Challenge.rw_shocksknown_k46_whole_picks_as_votes
abbrev hkL : PySem.W.Hook := hkX 4 imL faL fnL
def obL (s : PySem.W.SharedT) : Bool × He.AlD := obX 4 imL faL fnL (HandSHeadRun.getT s)
theorem obL_eq (s : PySem.W.SharedT) : obL s = hkL.obs s.abs := obX_eq (HandSHeadRun.getT_eq s)
theorem runL (w : World) : HandSHeadRun.RunEqI LR (PySem.W.view LR.prog [0, 38]) hkL obL 3000 [("fraction" : Str), ("middle_pick" : Str), ("far_from_middle" : Str), ("spread_of_picks" : Str), ("without_far" : Str), ("mean_of_picks" : Str), ("best_pick" : Str), ("moved_by_one" : Str), ("weighed_middles" : Str), ("best_span" : Str), ("best_vote" : Str), ("sum_far" : Str), ("worst_far" : Str), ("without_one" : Str), ("greatest_move" : Str), ("_law_draws" : Str), ("_law_take" : Str), ("_law_cell" : Str), ("_law_same" : Str), ("_law_minutes" : Str), ("_law_apart" : Str), ("_law_sum" : Str), ("_law_ends" : Str), ("_law_line_right" : Str), ("_law_both_right" : Str), ("_law_middle_right" : Str), ("_law_b_minutes" : Str), ("_law_middle" : Str), ("_law_divisor" : Str), ("_law_right" : Str), ("_law_moved_right" : Str), ("_law_part_one" : Str), ("_law_part_two" : Str)] w := by
  unfold HandSHeadRun.RunEqI
  kernel_rfl
theorem bnL : ∀ (i : Nat) (x : Str), bnNames[i]? = some x → faL[i]? = some (He.Fa.free x) := by
  intro i x h
  match i, h with
  | 0, h => cases h; rfl
  | 1, h => cases h; rfl
  | 2, h => cases h; rfl
  | 3, h => cases h; rfl
  | 4, h => cases h; rfl
  | 5, h => cases h; rfl
  | 6, h => cases h; rfl
  | 7, h => cases h; rfl
  | 8, h => cases h; rfl
  | 9, h => cases h; rfl
  | 10, h => cases h; rfl
  | 11, h => cases h; rfl
  | 12, h => cases h; rfl
  | 13, h => cases h; rfl
  | 14, h => cases h; rfl
  | 15, h => cases h; rfl
  | 16, h => cases h; rfl
  | 17, h => cases h; rfl
  | n + 18, h => cases (show (none : Option Str) = _ from h)
theorem factsL {P : Program} {w : World} {K : PySem.W.Frag} {h : Heap} {mg : Str → Option Value} {f : Addr} (X : K.In h) (G : h.Ns mainGlobals mg) (hfa : mg ("law" : Str) = some (.ref f)) (c : SaysX imL faL fnL K) :
    ∃ fd : FuncData, (∀ (s : Shared) (v : Value), BindsTo s fd ⟨[v], []⟩ [("script", v)]) ∧ ∀ base : Heap, K.In base → base.Ns mainGlobals mg → FnOk P w K mg base CX0 16 f fd ["script"] (spLaw K) := by
  have B : Bn mg := bn_at X G c bnL
  have B_gcd : mg "gcd" = some (.builtin "math.gcd") := c.imp X G 0 rfl
  obtain ⟨fd, F⟩ := c.d.def_ 33 rfl
  have e := hfa.symm.trans (fun_at X G c (x := "law") 51 rfl)
  cases e
  have b := FunD.bindsA (ps := ["script"]) F fun _ _ _ _ _ _ us hl => match us, hl with | [_], _ => rfl
  refine ⟨fd, fun s v => b s [v] rfl, fun base _ _ => ?_⟩
  obtain ⟨_, Ffraction⟩ := c.d.def_ 0 rfl
  have Cfraction : Cal P w K mg base 1 "fraction" qfraction 2 := (okfraction Ffraction (fun_at X G c (x := "fraction") 18 rfl) B B_gcd).as hqfraction
  obtain ⟨_, Fmiddle_pick⟩ := c.d.def_ 1 rfl
  have Cmiddle_pick : Cal P w K mg base 1 "middle_pick" qmiddle_pick 1 := (okmiddle_pick Fmiddle_pick (fun_at X G c (x := "middle_pick") 19 rfl) B).as hqmiddle_pick
  obtain ⟨_, Ffar_from_middle⟩ := c.d.def_ 2 rfl
  have Cfar_from_middle : Cal P w K mg base 2 "far_from_middle" qfar_from_middle 1 := (okfar_from_middle Ffar_from_middle (fun_at X G c (x := "far_from_middle") 20 rfl) B Cmiddle_pick).as hqfar_from_middle
  obtain ⟨_, Fspread_of_picks⟩ := c.d.def_ 3 rfl
  have Cspread_of_picks : Cal P w K mg base 3 "spread_of_picks" qspread_of_picks 1 := (okspread_of_picks Fspread_of_picks (fun_at X G c (x := "spread_of_picks") 21 rfl) B Cmiddle_pick Cfar_from_middle).as hqspread_of_picks
  obtain ⟨_, Fwithout_far⟩ := c.d.def_ 4 rfl
  have Cwithout_far : Cal P w K mg base 4 "without_far" qwithout_far 2 := (okwithout_far Fwithout_far (fun_at X G c (x := "without_far") 22 rfl) B Cspread_of_picks Cfar_from_middle).as hqwithout_far
  obtain ⟨_, Fmean_of_picks⟩ := c.d.def_ 5 rfl
  have Cmean_of_picks : Cal P w K mg base 2 "mean_of_picks" qmean_of_picks 1 := (okmean_of_picks Fmean_of_picks (fun_at X G c (x := "mean_of_picks") 23 rfl) B Cfraction).as hqmean_of_picks
  obtain ⟨_, Fbest_pick⟩ := c.d.def_ 6 rfl
  have Cbest_pick : Cal P w K mg base 1 "best_pick" qbest_pick 2 := (okbest_pick Fbest_pick (fun_at X G c (x := "best_pick") 24 rfl) B).as hqbest_pick
  obtain ⟨_, Fmoved_by_one⟩ := c.d.def_ 7 rfl
  have Cmoved_by_one : Cal P w K mg base 1 "moved_by_one" qmoved_by_one 1 := (okmoved_by_one Fmoved_by_one (fun_at X G c (x := "moved_by_one") 25 rfl) B).as hqmoved_by_one
  obtain ⟨_, Fweighed_middles⟩ := c.d.def_ 8 rfl
  have Cweighed_middles : Cal P w K mg base 1 "weighed_middles" qweighed_middles 1 := (okweighed_middles Fweighed_middles (fun_at X G c (x := "weighed_middles") 26 rfl) B).as hqweighed_middles
  obtain ⟨_, Fbest_span⟩ := c.d.def_ 9 rfl
  have Cbest_span : Cal P w K mg base 2 "best_span" qbest_span 1 := (okbest_span Fbest_span (fun_at X G c (x := "best_span") 27 rfl) B Cweighed_middles).as hqbest_span
  obtain ⟨_, Fbest_vote⟩ := c.d.def_ 10 rfl
  have Cbest_vote : Cal P w K mg base 3 "best_vote" qbest_vote 1 := (okbest_vote Fbest_vote (fun_at X G c (x := "best_vote") 28 rfl) B Cbest_span).as hqbest_vote
  obtain ⟨_, Fsum_far⟩ := c.d.def_ 11 rfl
  have Csum_far : Cal P w K mg base 1 "sum_far" qsum_far 2 := (oksum_far Fsum_far (fun_at X G c (x := "sum_far") 29 rfl) B).as hqsum_far
  obtain ⟨_, Fworst_far⟩ := c.d.def_ 12 rfl
  have Cworst_far : Cal P w K mg base 1 "worst_far" qworst_far 2 := (okworst_far Fworst_far (fun_at X G c (x := "worst_far") 30 rfl) B).as hqworst_far
  obtain ⟨_, Fwithout_one⟩ := c.d.def_ 13 rfl
  have Cwithout_one : Cal P w K mg base 4 "without_one" qwithout_one 2 := (okwithout_one Fwithout_one (fun_at X G c (x := "without_one") 31 rfl) B Cbest_vote).as hqwithout_one
  obtain ⟨_, Fgreatest_move⟩ := c.d.def_ 14 rfl
  have Cgreatest_move : Cal P w K mg base 5 "greatest_move" qgreatest_move 1 := (okgreatest_move Fgreatest_move (fun_at X G c (x := "greatest_move") 32 rfl) B Cbest_vote Cwithout_one).as hqgreatest_move
  obtain ⟨_, F_law_draws⟩ := c.d.def_ 15 rfl
  have C_law_draws : Cal P w K mg base 1 "_law_draws" q_law_draws 2 := (ok_law_draws F_law_draws (fun_at X G c (x := "_law_draws") 33 rfl) B).as hq_law_draws
  obtain ⟨_, F_law_take⟩ := c.d.def_ 16 rfl
  have C_law_take : Cal P w K mg base 1 "_law_take" q_law_take 2 := (ok_law_take F_law_take (fun_at X G c (x := "_law_take") 34 rfl) B).as hq_law_take
  obtain ⟨_, F_law_cell⟩ := c.d.def_ 17 rfl
  have C_law_cell : Cal P w K mg base 1 "_law_cell" q_law_cell 2 := (ok_law_cell F_law_cell (fun_at X G c (x := "_law_cell") 35 rfl) B).as hq_law_cell
  obtain ⟨_, F_law_same⟩ := c.d.def_ 18 rfl
  have C_law_same : Cal P w K mg base 13 "_law_same" q_law_same 2 := (ok_law_same F_law_same (fun_at X G c (x := "_law_same") 36 rfl) B 12).as hq_law_same
  obtain ⟨_, F_law_minutes⟩ := c.d.def_ 19 rfl
  have C_law_minutes : Cal P w K mg base 2 "_law_minutes" q_law_minutes 3 := (ok_law_minutes F_law_minutes (fun_at X G c (x := "_law_minutes") 37 rfl) B C_law_cell C_law_take).as hq_law_minutes
  obtain ⟨_, F_law_apart⟩ := c.d.def_ 20 rfl
  have C_law_apart : Cal P w K mg base 1 "_law_apart" q_law_apart 2 := (ok_law_apart F_law_apart (fun_at X G c (x := "_law_apart") 38 rfl) B).as hq_law_apart
  obtain ⟨_, F_law_sum⟩ := c.d.def_ 21 rfl
  have C_law_sum : Cal P w K mg base 2 "_law_sum" q_law_sum 3 := (ok_law_sum F_law_sum (fun_at X G c (x := "_law_sum") 39 rfl) B C_law_apart).as hq_law_sum
  obtain ⟨_, F_law_ends⟩ := c.d.def_ 22 rfl
  have C_law_ends : Cal P w K mg base 3 "_law_ends" q_law_ends 2 := (ok_law_ends F_law_ends (fun_at X G c (x := "_law_ends") 40 rfl) B C_law_sum).as hq_law_ends
  obtain ⟨_, F_law_line_right⟩ := c.d.def_ 23 rfl
  have C_law_line_right : Cal P w K mg base 14 "_law_line_right" q_law_line_right 3 := (ok_law_line_right F_law_line_right (fun_at X G c (x := "_law_line_right") 41 rfl) B C_law_ends C_law_same Cbest_pick Cbest_vote Cbest_span C_law_sum Csum_far C_law_apart Cworst_far Cwithout_one Cgreatest_move).as hq_law_line_right
  obtain ⟨_, F_law_both_right⟩ := c.d.def_ 24 rfl
  have C_law_both_right : Cal P w K mg base 14 "_law_both_right" q_law_both_right 3 := (ok_law_both_right F_law_both_right (fun_at X G c (x := "_law_both_right") 42 rfl) B Cbest_vote C_law_same Cbest_pick C_law_ends Cbest_span C_law_sum Csum_far).as hq_law_both_right
  obtain ⟨_, F_law_middle_right⟩ := c.d.def_ 25 rfl
  have C_law_middle_right : Cal P w K mg base 14 "_law_middle_right" q_law_middle_right 1 := (ok_law_middle_right F_law_middle_right (fun_at X G c (x := "_law_middle_right") 43 rfl) B C_law_same Cbest_pick Cmiddle_pick Cbest_vote Cgreatest_move Cmoved_by_one).as hq_law_middle_right
  obtain ⟨_, F_law_b_minutes⟩ := c.d.def_ 26 rfl
  have C_law_b_minutes : Cal P w K mg base 2 "_law_b_minutes" q_law_b_minutes 3 := (ok_law_b_minutes F_law_b_minutes (fun_at X G c (x := "_law_b_minutes") 44 rfl) B C_law_cell C_law_take).as hq_law_b_minutes
  obtain ⟨_, F_law_middle⟩ := c.d.def_ 27 rfl
  have C_law_middle : Cal P w K mg base 1 "_law_middle" q_law_middle 1 := (ok_law_middle F_law_middle (fun_at X G c (x := "_law_middle") 45 rfl) B).as hq_law_middle
  obtain ⟨_, F_law_divisor⟩ := c.d.def_ 28 rfl
  have C_law_divisor : Cal P w K mg base 1 "_law_divisor" q_law_divisor 2 := (ok_law_divisor F_law_divisor (fun_at X G c (x := "_law_divisor") 46 rfl) B).as hq_law_divisor
  obtain ⟨_, F_law_right⟩ := c.d.def_ 29 rfl
  have C_law_right : Cal P w K mg base 14 "_law_right" q_law_right 2 := (ok_law_right F_law_right (fun_at X G c (x := "_law_right") 47 rfl) B C_law_middle C_law_apart C_law_same Cmiddle_pick Cspread_of_picks Cwithout_far C_law_divisor Cmean_of_picks C_law_take Cbest_pick).as hq_law_right
  obtain ⟨_, F_law_moved_right⟩ := c.d.def_ 30 rfl
  have C_law_moved_right : Cal P w K mg base 14 "_law_moved_right" q_law_moved_right 1 := (ok_law_moved_right F_law_moved_right (fun_at X G c (x := "_law_moved_right") 48 rfl) B C_law_middle C_law_apart C_law_same Cmoved_by_one).as hq_law_moved_right
  obtain ⟨_, F_law_part_one⟩ := c.d.def_ 31 rfl
  have C_law_part_one : Cal P w K mg base 15 "_law_part_one" q_law_part_one 1 := (ok_law_part_one F_law_part_one (fun_at X G c (x := "_law_part_one") 49 rfl) B C_law_draws C_law_take C_law_minutes C_law_line_right C_law_both_right C_law_middle_right C_law_same Cbest_pick Cbest_span).as hq_law_part_one
  obtain ⟨_, F_law_part_two⟩ := c.d.def_ 32 rfl
  have C_law_part_two : Cal P w K mg base 15 "_law_part_two" q_law_part_two 1 := (ok_law_part_two F_law_part_two (fun_at X G c (x := "_law_part_two") 50 rfl) B C_law_draws C_law_b_minutes C_law_take C_law_right C_law_moved_right C_law_same Cmiddle_pick Cspread_of_picks Cwithout_far Cmean_of_picks Cmoved_by_one Cbest_pick).as hq_law_part_two
  exact (oklaw F (fun_at X G c (x := "law") 51 rfl) B C_law_part_one C_law_part_two).imp (law_sp law_data)
end
end LP
open PySem PySem.W PySem.Calls PyProof.Rows
theorem PySem.Challenge.cw_shocksknown_k46_whole_picks_as_votes_holds : PySem.Challenge.rw_shocksknown_k46_whole_picks_as_votes.Holds := by
  w_on; o_law
  refine HandSHeadRun.head_imp (r := LP.LR) (q := view LP.LR.prog [0, 38]) (H := LP.hkL) (ob := LP.obL) (M := 3000) (loose := [("fraction" : Str), ("middle_pick" : Str), ("far_from_middle" : Str), ("spread_of_picks" : Str), ("without_far" : Str), ("mean_of_picks" : Str), ("best_pick" : Str), ("moved_by_one" : Str), ("weighed_middles" : Str), ("best_span" : Str), ("best_vote" : Str), ("sum_far" : Str), ("worst_far" : Str), ("without_one" : Str), ("greatest_move" : Str), ("_law_draws" : Str), ("_law_take" : Str), ("_law_cell" : Str), ("_law_same" : Str), ("_law_minutes" : Str), ("_law_apart" : Str), ("_law_sum" : Str), ("_law_ends" : Str), ("_law_line_right" : Str), ("_law_both_right" : Str), ("_law_middle_right" : Str), ("_law_b_minutes" : Str), ("_law_middle" : Str), ("_law_divisor" : Str), ("_law_right" : Str), ("_law_moved_right" : Str), ("_law_part_one" : Str), ("_law_part_two" : Str)]) (d := HandSHeadRun.topDef LP.LR.prog 38) (kwd := []) LP.obL_eq LP.runL (by kernel_rfl) (by kernel_rfl) (by kernel_rfl) (by rfl) (by first | assumption | decide +kernel) (by decide +kernel) ⟨rfl, rfl, rfl, rfl, rfl, by decide +kernel⟩ ?hw ?hc
  case hw => w_witness2
  case hc =>
    refine L2.walk_ofE (l := PySem.Challenge.rw_shocksknown_k46_whole_picks_as_votes) (n := 63) (k := 16) (x := "script") (CX := L2.CX0) rfl (by decide) (by kernel_rfl) ⟨rfl, by decide, by decide⟩ ?F (fun _ _ _ _ z => z)
    intro w mg fa h Y G hmg0
    obtain ⟨K, KX, c⟩ := Y
    have hmg : mg ("law" : PySem.Str) = some (.ref fa) := by
      have e : (HandSHeadRun.topDef LP.LR.prog 38).name = ("law" : PySem.Str) := by kernel_rfl
      rw [← e]
      exact hmg0
    obtain ⟨fd, hb, hF⟩ := LP.factsL (P := (PySem.Challenge.rw_shocksknown_k46_whole_picks_as_votes).prog) (w := w) KX G hmg c
    exact ⟨K, fd, PF.spLaw K, KX, hb, fun H a ns hl hO hS => ⟨a, ns, rfl, hS, hO, hl, fun _ => rfl⟩, hF⟩
