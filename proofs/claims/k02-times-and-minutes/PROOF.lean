import PyProof.Rows.All
import Wide.All
import OpenK.AllK
import Wide.FinOn
import KE.KStateDown
import HandS.ForMost
import HandS.IsInst
import HandS.Wide
import HandS.Gcd
import HandS.Style
import HandS.Flow
import HandS.TupAny
import HandS.Conv
import HandS.Comp
import HandS.HeadHook2
import HandS.HeadEnd
import HandS.Head0
import HandS.Head1
import HandS.Head2
import HandS.HeadHook1
import HandS.Head3
import HandS.Deep
import PySem.Challenge.RW_shocksknown_k02_whole_times_and_minutes
set_option Elab.async false
set_option linter.all false
set_option maxRecDepth 100000
set_option maxHeartbeats 0
namespace PF
open PySem PySem.Spec PyProof.Rows L2
/-- data as the proofs see it: ref n is the n-th changeable list of the state; lst: a list that nobody changes any more; kst: a list that stood before (the script) -/
inductive D where
  | non | bl (b : Bool) | int (i : Int) | str (x : Str) | tup (xs : List D) | lst (xs : List D) | kst (xs : List D) | ref (n : Nat)
inductive MO where
  | lst (xs : List D)
abbrev Mem := List MO
abbrev Rho := List (Option D)
structure Wo where
  as : List Addr
  bad : Addr → Prop
  H : Hp
abbrev LINE : Nat := 16777216
theorem line_eq : sizeLine = LINE := sizeLine_eq
section
variable (K : PySem.W.Frag) (W : Wo)
def FzL (a : Addr) (vs : List V) : Prop := (W.H a = some (.lst vs) ∧ ¬ W.bad a) ∧ vs.length ≤ LINE
def FzK (a : Addr) (vs : List V) : Prop := (((∃ o, W.H a = some (.frz o (.lst vs))) ∧ ¬ W.bad a) ∨ SqL K (fun _ => none) a vs) ∧ vs.length ≤ LINE
def FzT (a : Addr) (vs : List V) : Prop := ((W.H a = some (.tup vs) ∧ ¬ W.bad a) ∨ SqT K (fun _ => none) a vs) ∧ vs.length ≤ LINE
mutual
def Rp : D → V → Prop
  | .non, v => v = .non
  | .bl b, v => v = .bl b
  | .int i, v => v = .int i
  | .str x, v => v = .str x
  | .tup ds, v => ∃ a vs, v = .ref a ∧ FzT K W a vs ∧ RpL ds vs
  | .lst ds, v => ∃ a vs, v = .ref a ∧ FzL W a vs ∧ RpL ds vs
  | .kst ds, v => ∃ a vs, v = .ref a ∧ FzK K W a vs ∧ RpL ds vs
  | .ref n, v => ∃ a, W.as[n]? = some a ∧ v = .ref a
def RpL : List D → List V → Prop
  | [], vs => vs = []
  | d :: ds, vs => ∃ v r, vs = v :: r ∧ Rp d v ∧ RpL ds r
end
def MoOk (a : Addr) : MO → Prop
  | .lst ds => ∃ vs, (W.H a = some (.lst vs) ∧ vs.length ≤ LINE) ∧ RpL K W ds vs
structure SR (M : Mem) : Prop where
  len : W.as.length = M.length
  nd : W.as.Nodup
  sub : ∀ a ∈ W.as, W.bad a
  bt : ∀ a, W.bad a → ∃ o, W.H a = some o
  obj : ∀ (n : Nat) (a : Addr) (mo : MO), W.as[n]? = some a → M[n]? = some mo → MoOk K W a mo
structure Sl (ρ : Rho) (σ : L2.St) : Prop where
  len : ρ.length = σ.length
  at_ : ∀ (i : Nat) (d : D), ρ[i]? = some (some d) → ∃ v, σ[i]? = some (some v) ∧ Rp K W d v
end
/-- one state behind another -/
structure Ext (W W' : Wo) : Prop where
  as : ∃ new, W'.as = W.as ++ new ∧ ∀ a ∈ new, W.H a = none
  bad : ∀ a, W.bad a → W'.bad a
  new : ∀ a, W'.bad a → W.bad a ∨ W.H a = none
  keep : ∀ a o, a ∉ W.as → W.H a = some o → W'.H a = some o
  live : ∀ a o, W.H a = some o → ∃ o', W'.H a = some o'
theorem Ext.refl (W : Wo) : Ext W W := ⟨⟨[], by simp, fun _ h => by simp at h⟩, fun _ h => h, fun _ h => .inl h, fun _ _ _ h => h, fun _ o h => ⟨o, h⟩⟩
theorem none_of_live {W W' : Wo} (e : Ext W W') {a : Addr} (h : W'.H a = none) : W.H a = none := by
  cases q : W.H a with
  | none => rfl
  | some o => obtain ⟨o', h'⟩ := e.live a o q; rw [h] at h'; cases h'
theorem Ext.trans {W W1 W2 : Wo} (e : Ext W W1) (e' : Ext W1 W2) : Ext W W2 := by
  obtain ⟨n1, h1, f1⟩ := e.as
  obtain ⟨n2, h2, f2⟩ := e'.as
  refine ⟨⟨n1 ++ n2, by rw [h2, h1, List.append_assoc], fun a ha => ?_⟩, fun a h => e'.bad a (e.bad a h), fun a h => ?_, fun a o ha h => ?_, fun a o h => ?_⟩
  · rcases List.mem_append.mp ha with h | h
    · exact f1 a h
    · exact none_of_live e (f2 a h)
  · rcases e'.new a h with h | h
    · exact e.new a h
    · exact .inr (none_of_live e h)
  · refine e'.keep a o (fun z => ?_) (e.keep a o ha h)
    rw [h1] at z
    rcases List.mem_append.mp z with z | z
    · exact ha z
    · rw [f1 a z] at h; cases h
  · obtain ⟨o', h'⟩ := e.live a o h
    exact e'.live a o' h'
section
variable {K : PySem.W.Frag} {W W' : Wo}
theorem Ext.frz {a : Addr} {u : HO} (e : Ext W W') (hs : ∀ a ∈ W.as, W.bad a) (h : W.H a = some u ∧ ¬ W.bad a) : W'.H a = some u ∧ ¬ W'.bad a := by
  obtain ⟨h, nb⟩ := h
  have na : a ∉ W.as := fun z => nb (hs a z)
  refine ⟨e.keep a _ na h, fun z => ?_⟩
  rcases e.new a z with z | z
  · exact nb z
  · rw [h] at z; cases z
mutual
theorem Rp.ext (e : Ext W W') (hs : ∀ a ∈ W.as, W.bad a) : ∀ (d : D) (v : V), Rp K W d v → Rp K W' d v
  | .non, _, h => h
  | .bl _, _, h => h
  | .int _, _, h => h
  | .str _, _, h => h
  | .tup ds, v, h => by
    obtain ⟨a, vs, e1, f, r⟩ := h
    exact ⟨a, vs, e1, ⟨f.1.imp (fun q => e.frz hs q) fun q => q, f.2⟩, RpL.ext e hs ds vs r⟩
  | .lst ds, v, h => by
    obtain ⟨a, vs, e1, f, r⟩ := h
    exact ⟨a, vs, e1, ⟨e.frz hs f.1, f.2⟩, RpL.ext e hs ds vs r⟩
  | .kst ds, v, h => by
    obtain ⟨a, vs, e1, f, r⟩ := h
    refine ⟨a, vs, e1, ⟨f.1.imp (fun q => ?_) fun q => q, f.2⟩, RpL.ext e hs ds vs r⟩
    obtain ⟨⟨o, q⟩, nb⟩ := q
    obtain ⟨q', nb'⟩ := e.frz hs ⟨q, nb⟩
    exact ⟨⟨o, q'⟩, nb'⟩
  | .ref n, v, h => by
    obtain ⟨a, h1, h2⟩ := h
    obtain ⟨new, h3, _⟩ := e.as
    refine ⟨a, ?_, h2⟩
    rw [h3]
    exact (List.getElem?_append_left (List.getElem?_eq_some_iff.mp h1).1).trans h1
theorem RpL.ext (e : Ext W W') (hs : ∀ a ∈ W.as, W.bad a) : ∀ (ds : List D) (vs : List V), RpL K W ds vs → RpL K W' ds vs
  | [], _, h => h
  | d :: ds, vs, h => by
    obtain ⟨v, r, e1, h1, h2⟩ := h
    exact ⟨v, r, e1, Rp.ext e hs d v h1, RpL.ext e hs ds r h2⟩
end
theorem Sl.ext {ρ : Rho} {σ : L2.St} (e : Ext W W') (hs : ∀ a ∈ W.as, W.bad a) (h : Sl K W ρ σ) : Sl K W' ρ σ :=
  ⟨h.len, fun i d hd => let ⟨v, h1, h2⟩ := h.at_ i d hd; ⟨v, h1, h2.ext e hs⟩⟩
theorem RpL.len : ∀ {ds : List D} {vs : List V}, RpL K W ds vs → ds.length = vs.length
  | [], _, h => by cases (show _ = _ from h); rfl
  | _ :: _, _, h => by
    obtain ⟨v, r, rfl, _, h2⟩ := h
    simp [RpL.len h2]
theorem RpL.get : ∀ {ds : List D} {vs : List V} {i : Nat} {d : D}, RpL K W ds vs → ds[i]? = some d → ∃ v, vs[i]? = some v ∧ Rp K W d v
  | [], _, _, _, _, h => by simp at h
  | x :: _, _, 0, d, h, e => by
    obtain ⟨v, r, rfl, h1, _⟩ := h
    simp at e; subst e
    exact ⟨v, rfl, h1⟩
  | _ :: _, _, i + 1, d, h, e => by
    obtain ⟨v, r, rfl, _, h2⟩ := h
    obtain ⟨u, a, b⟩ := RpL.get (i := i) (d := d) h2 (by simpa using e)
    exact ⟨u, by simpa using a, b⟩
theorem RpL.append : ∀ {ds es : List D} {vs us : List V}, RpL K W ds vs → RpL K W es us → RpL K W (ds ++ es) (vs ++ us)
  | [], _, _, _, h, h' => by cases (show _ = _ from h); exact h'
  | _ :: _, _, _, _, h, h' => by
    obtain ⟨v, r, rfl, h1, h2⟩ := h
    exact ⟨v, r ++ _, rfl, h1, RpL.append h2 h'⟩
theorem RpL.one {d : D} {v : V} (h : Rp K W d v) : RpL K W [d] [v] := ⟨v, [], rfl, h, rfl⟩
theorem RpL.take : ∀ {ds : List D} {vs : List V} (n : Nat), RpL K W ds vs → RpL K W (ds.take n) (vs.take n)
  | _, _, 0, _ => rfl
  | [], _, _ + 1, h => by cases (show _ = _ from h); rfl
  | _ :: _, _, n + 1, h => by
    obtain ⟨v, r, rfl, h1, h2⟩ := h
    exact ⟨v, _, rfl, h1, RpL.take n h2⟩
theorem RpL.drop : ∀ {ds : List D} {vs : List V} (n : Nat), RpL K W ds vs → RpL K W (ds.drop n) (vs.drop n)
  | _, _, 0, h => h
  | [], _, _ + 1, h => by cases (show _ = _ from h); rfl
  | _ :: _, _, n + 1, h => by
    obtain ⟨v, r, rfl, h1, h2⟩ := h
    exact RpL.drop n h2
theorem RpL.set : ∀ {ds : List D} {vs : List V} {d : D} {v : V} (n : Nat), RpL K W ds vs → Rp K W d v → RpL K W (ds.set n d) (vs.set n v)
  | [], _, _, _, _, h, _ => by cases (show _ = _ from h); exact rfl
  | _ :: _, _, _, _, 0, h, q => by
    obtain ⟨v, r, rfl, h1, h2⟩ := h
    exact ⟨_, _, rfl, q, h2⟩
  | _ :: _, _, _, _, n + 1, h, q => by
    obtain ⟨v, r, rfl, h1, h2⟩ := h
    exact ⟨_, _, rfl, h1, RpL.set n h2 q⟩
theorem RpL.reverse : ∀ {ds : List D} {vs : List V}, RpL K W ds vs → RpL K W ds.reverse vs.reverse
  | [], _, h => by cases (show _ = _ from h); exact rfl
  | d :: ds, _, h => by
    obtain ⟨v, r, rfl, h1, h2⟩ := h
    rw [List.reverse_cons, List.reverse_cons]
    exact (RpL.reverse h2).append (.one h1)
end
/-! ### what a piece of code computes -/
inductive Out where
  | nx (ρ : Rho) | ret (d : D) | bk (ρ : Rho) | ct (ρ : Rho)
abbrev FE := Rho → Mem → Option (D × Mem)
abbrev FT := Rho → Mem → Option (Bool × Mem)
abbrev FA := Rho → Mem → Option (List D × Mem)
abbrev FS := Rho → Mem → Option (Out × Mem)
def liftE (K : PySem.W.Frag) (f : FE) : TE := fun σ H Q => ∃ W ρ M, W.H = H ∧ SR K W M ∧ Sl K W ρ σ ∧ ∃ d M', f ρ M = some (d, M') ∧
  ∀ W' v, Ext W W' → SR K W' M' → Rp K W' d v → Q v W'.H
def liftT (K : PySem.W.Frag) (f : FT) : TT := fun σ H Q => ∃ W ρ M, W.H = H ∧ SR K W M ∧ Sl K W ρ σ ∧ ∃ d M', f ρ M = some (d, M') ∧
  ∀ W', Ext W W' → SR K W' M' → Q d W'.H
def liftA (K : PySem.W.Frag) (f : FA) : TA := fun σ H Q => ∃ W ρ M, W.H = H ∧ SR K W M ∧ Sl K W ρ σ ∧ ∃ d M', f ρ M = some (d, M') ∧
  ∀ W' v, Ext W W' → SR K W' M' → RpL K W' d v → Q v W'.H
/-- a new list comes last, nothing else knows it -/
def liftN (K : PySem.W.Frag) (f : FA) : TE := fun σ H Q => ∃ W ρ M, W.H = H ∧ SR K W M ∧ Sl K W ρ σ ∧ ∃ d M', f ρ M = some (d, M') ∧
  ∀ W' p vs, Ext W W' → SR K W' M' → W'.H p = none → RpL K W' d vs → vs.length ≤ LINE → Q (.ref p) (upd W'.H p (.lst vs))
def liftS (K : PySem.W.Frag) (f : FS) : TS := fun E σ H => ∃ W ρ M, W.H = H ∧ SR K W M ∧ Sl K W ρ σ ∧ ∃ o M', f ρ M = some (o, M') ∧
  match o with
  | .nx ρ' => ∀ W' σ', Ext W W' → SR K W' M' → Sl K W' ρ' σ' → E.nx σ' W'.H
  | .bk ρ' => ∀ W' σ', Ext W W' → SR K W' M' → Sl K W' ρ' σ' → E.bk σ' W'.H
  | .ct ρ' => ∀ W' σ', Ext W W' → SR K W' M' → Sl K W' ρ' σ' → E.ct σ' W'.H
  | .ret d => ∀ W' v, Ext W W' → SR K W' M' → Rp K W' d v → E.rt v W'.H
/-! ### weakening -/
section
variable {X : Cx}
theorem pe_weak {e : Expr} {t t' : TE} (h : PE X e t) (i : ∀ σ H Q, t' σ H Q → t σ H Q) : PE X e t' := ⟨fun pins s σ H Q I q => h.run pins s σ H Q I (i σ H Q q)⟩
theorem pt_weak {e : Expr} {t t' : TT} (h : PT X e t) (i : ∀ σ H Q, t' σ H Q → t σ H Q) : PT X e t' := ⟨fun pins s σ H Q I q => h.run pins s σ H Q I (i σ H Q q)⟩
theorem pw_weak {e : Expr} {t t' : TT} (h : PW X e t) (i : ∀ σ H Q, t' σ H Q → t σ H Q) : PW X e t' := ⟨fun wh pins s σ H Q I q => h.run wh pins s σ H Q I (i σ H Q q)⟩
theorem pa_weak {e : List Expr} {t t' : TA} (h : PA X e t) (i : ∀ σ H Q, t' σ H Q → t σ H Q) : PA X e t' := ⟨fun pos pins s σ H Q I q => h.run pos pins s σ H Q I (i σ H Q q)⟩
theorem ps_weak {e : Stmt} {t t' : TS} (h : PS X e t) (i : ∀ σ H Q, t' σ H Q → t σ H Q) : PS X e t' := ⟨fun pins s σ H D I q => h.run pins s σ H D I (i D σ H q)⟩
theorem pss_weak {e : List Stmt} {t t' : TS} (h : PSs X e t) (i : ∀ σ H Q, t' σ H Q → t σ H Q) : PSs X e t' := ⟨fun pins s σ H D I q => h.run pins s σ H D I (i D σ H q)⟩
abbrev PFE (X : Cx) (e : Expr) (f : FE) : Prop := PE X e (liftE X.K f)
abbrev PFN (X : Cx) (e : Expr) (f : FA) : Prop := PE X e (liftN X.K f)
abbrev PFT (X : Cx) (e : Expr) (f : FT) : Prop := PT X e (liftT X.K f)
abbrev PFW (X : Cx) (e : Expr) (f : FT) : Prop := PW X e (liftT X.K f)
abbrev PFA (X : Cx) (e : List Expr) (f : FA) : Prop := PA X e (liftA X.K f)
abbrev PFS (X : Cx) (e : Stmt) (f : FS) : Prop := PS X e (liftS X.K f)
abbrev PFSs (X : Cx) (e : List Stmt) (f : FS) : Prop := PSs X e (liftS X.K f)
end
end PF
namespace PF
open PySem PySem.Spec PyProof.Rows L2
/-! ### the state's steps -/
section
variable {K : PySem.W.Frag} {W W' : Wo} {M : Mem}
def Wo.put (W : Wo) (p : Addr) (o : HO) : Wo := { W with H := upd W.H p o }
theorem Ext.put {p : Addr} {o : HO} (hp : W.H p = none) : Ext W (W.put p o) :=
  ⟨⟨[], by simp [Wo.put], fun _ h => by simp at h⟩, fun _ h => h, fun _ h => .inl h, fun a u _ h => (upd_ne (ne_of_none h hp)).trans h, fun a u h => ⟨u, (upd_ne (ne_of_none h hp)).trans h⟩⟩
theorem MoOk.ext {a : Addr} {mo : MO} (e : Ext W W') (hs : ∀ a ∈ W.as, W.bad a) (h : MoOk K W a mo) (ha : W'.H a = W.H a) : MoOk K W' a mo := by
  cases mo with
  | lst ds => obtain ⟨vs, h1, h2⟩ := h; exact ⟨vs, ⟨ha.trans h1.1, h1.2⟩, h2.ext e hs⟩
theorem MoOk.there {a : Addr} {mo : MO} (h : MoOk K W a mo) : ∃ o, W.H a = some o := by
  cases mo with
  | lst ds => obtain ⟨vs, h1, h2⟩ := h; exact ⟨_, h1.1⟩
theorem SR.at_ (sr : SR K W M) {n : Nat} {a : Addr} (h : W.as[n]? = some a) : ∃ mo, M[n]? = some mo ∧ MoOk K W a mo := by
  have hn : n < M.length := by rw [← sr.len]; exact (List.getElem?_eq_some_iff.mp h).1
  exact ⟨M[n], by simp [hn], sr.obj n a _ h (by simp [hn])⟩
theorem SR.addr (sr : SR K W M) {n : Nat} {mo : MO} (h : M[n]? = some mo) : ∃ a, W.as[n]? = some a ∧ MoOk K W a mo := by
  have hn : n < W.as.length := by rw [sr.len]; exact (List.getElem?_eq_some_iff.mp h).1
  exact ⟨W.as[n], by simp [hn], sr.obj n _ mo (by simp [hn]) h⟩
theorem SR.put {p : Addr} {o : HO} (sr : SR K W M) (hp : W.H p = none) : SR K (W.put p o) M := by
  refine ⟨sr.len, sr.nd, sr.sub, fun a h => ?_, fun n a mo h1 h2 => ?_⟩
  · obtain ⟨o, q⟩ := sr.bt a h
    exact (Ext.put hp).live a o q
  · have m := sr.obj n a mo h1 h2
    obtain ⟨o', q⟩ := m.there
    exact m.ext (Ext.put hp) sr.sub (upd_ne (ne_of_none q hp))
theorem SR.nb {p : Addr} (sr : SR K W M) (hp : W.H p = none) : ¬ W.bad p := fun z => by
  obtain ⟨o, q⟩ := sr.bt p z
  rw [hp] at q; cases q
theorem Rp.newTup {p : Addr} {ds : List D} {vs : List V} (sr : SR K W M) (hp : W.H p = none) (h : RpL K W ds vs) (hl : vs.length ≤ LINE) : Rp K (W.put p (.tup vs)) (.tup ds) (.ref p) :=
  ⟨p, vs, rfl, ⟨.inl ⟨upd_same, sr.nb hp⟩, hl⟩, h.ext (Ext.put hp) sr.sub⟩
theorem Rp.newLst {p : Addr} {ds : List D} {vs : List V} (sr : SR K W M) (hp : W.H p = none) (h : RpL K W ds vs) (hl : vs.length ≤ LINE) : Rp K (W.put p (.lst vs)) (.lst ds) (.ref p) :=
  ⟨p, vs, rfl, ⟨⟨upd_same, sr.nb hp⟩, hl⟩, h.ext (Ext.put hp) sr.sub⟩
/-- a new changeable list -/
def Wo.mk2 (W : Wo) (p : Addr) (o : HO) : Wo := ⟨W.as ++ [p], fun a => W.bad a ∨ a = p, upd W.H p o⟩
theorem Ext.mk2 {p : Addr} {o : HO} (hp : W.H p = none) : Ext W (W.mk2 p o) := by
  refine ⟨⟨[p], rfl, fun a h => ?_⟩, fun _ h => .inl h, fun a h => ?_, fun a u _ h => (upd_ne (ne_of_none h hp)).trans h, fun a u h => ⟨u, (upd_ne (ne_of_none h hp)).trans h⟩⟩
  · have e : a = p := by simpa using h
    rw [e]; exact hp
  · rcases h with h | h
    · exact .inl h
    · rw [h]; exact .inr hp
theorem SR.mk2 {p : Addr} {ds : List D} {vs : List V} (sr : SR K W M) (hp : W.H p = none) (h : RpL K W ds vs) (hl : vs.length ≤ LINE) : SR K (W.mk2 p (.lst vs)) (M ++ [.lst ds]) := by
  have npa : p ∉ W.as := fun z => sr.nb hp (sr.sub p z)
  have E := Ext.mk2 (W := W) (o := .lst vs) hp
  refine ⟨by simp [Wo.mk2, sr.len], ?_, fun a h => ?_, fun a h => ?_, fun n a mo h1 h2 => ?_⟩
  · show (W.as ++ [p]).Nodup
    rw [List.nodup_append]
    refine ⟨sr.nd, by simp, fun a ha b hb => ?_⟩
    have e : b = p := by simpa using hb
    rw [e]; rintro rfl; exact npa ha
  · rcases List.mem_append.mp h with h | h
    · exact .inl (sr.sub a h)
    · exact .inr (by simpa using h)
  · rcases h with h | h
    · obtain ⟨o, q⟩ := sr.bt a h
      exact E.live a o q
    · rw [h]; exact ⟨_, upd_same⟩
  · have h1' : (W.as ++ [p])[n]? = some a := h1
    by_cases hn : n < W.as.length
    · rw [List.getElem?_append_left hn] at h1'
      rw [List.getElem?_append_left (by rw [← sr.len]; exact hn)] at h2
      have m := sr.obj n a mo h1' h2
      obtain ⟨o', q⟩ := m.there
      exact m.ext E sr.sub (upd_ne (ne_of_none q hp))
    · have e : n = W.as.length := by
        have := (List.getElem?_eq_some_iff.mp h1').1
        simp at this; omega
      subst e
      have ea : p = a := by simpa using h1'
      have em : MO.lst ds = mo := by
        rw [sr.len] at h2
        simpa using h2
      subst ea em
      exact ⟨vs, ⟨upd_same, hl⟩, h.ext E sr.sub⟩
theorem Rp.mk2 {p : Addr} {o : HO} (sr : SR K W M) : Rp K (W.mk2 p o) (.ref M.length) (.ref p) := ⟨p, by show (W.as ++ [p])[M.length]? = _; rw [← sr.len]; simp, rfl⟩
/-- a changeable list is written -/
theorem Ext.wr {a : Addr} {o : HO} (ha : a ∈ W.as) : Ext W (W.put a o) := by
  refine ⟨⟨[], by simp [Wo.put], fun _ h => by simp at h⟩, fun _ h => h, fun _ h => .inl h, fun b u hb h => (upd_ne fun z => hb (by rw [z]; exact ha)).trans h, fun b u h => ?_⟩
  by_cases hb : b = a
  · subst hb; exact ⟨_, upd_same⟩
  · exact ⟨u, (upd_ne hb).trans h⟩
theorem SR.wr {n : Nat} {a : Addr} {ds : List D} {vs : List V} (sr : SR K W M) (hn : W.as[n]? = some a) (h : RpL K W ds vs) (hl : vs.length ≤ LINE) : SR K (W.put a (.lst vs)) (M.set n (.lst ds)) := by
  have ha : a ∈ W.as := List.mem_of_getElem? hn
  have E := Ext.wr (W := W) (o := .lst vs) ha
  refine ⟨by rw [List.length_set]; exact sr.len, sr.nd, sr.sub, fun b hb => ?_, fun m b mo h1 h2 => ?_⟩
  · obtain ⟨o, q⟩ := sr.bt b hb
    exact E.live b o q
  · have h1' : W.as[m]? = some b := h1
    by_cases e : m = n
    · subst e
      rw [hn] at h1'; cases h1'
      have hm : m < M.length := by rw [← sr.len]; exact (List.getElem?_eq_some_iff.mp hn).1
      rw [List.getElem?_set_self hm] at h2
      cases h2
      exact ⟨vs, ⟨upd_same, hl⟩, h.ext E sr.sub⟩
    · rw [List.getElem?_set_ne (Ne.symm e)] at h2
      refine (sr.obj m b mo h1' h2).ext E sr.sub (upd_ne fun z => e ?_)
      subst z
      obtain ⟨q1, q2⟩ := List.getElem?_eq_some_iff.mp h1'
      obtain ⟨q3, q4⟩ := List.getElem?_eq_some_iff.mp hn
      exact (List.getElem_inj sr.nd).mp (q2.trans q4.symm)
end
/-! ### lists and tuples, read -/
def lsOf : D → Mem → Option (List D)
  | .lst xs, _ => some xs
  | .kst xs, _ => some xs
  | .ref n, M => match M[n]? with | some (.lst xs) => some xs | _ => none
  | _, _ => none
def sqOf : D → Mem → Option (List D)
  | .tup xs, _ => some xs
  | d, M => lsOf d M
section
variable {K : PySem.W.Frag} {W W' : Wo} {M : Mem} {d : D} {v : V} {xs : List D}
theorem SqL.any {H : Hp} {a : Addr} {vs : List V} (h : SqL K (fun _ => none) a vs) : SqL K H a vs := by
  rcases h with (h | ⟨o, h⟩) | h
  · cases (show (none : Option HO) = _ from h)
  · cases (show (none : Option HO) = _ from h)
  · exact .inr h
theorem SqT.any {H : Hp} {a : Addr} {vs : List V} (h : SqT K (fun _ => none) a vs) : SqT K H a vs := by
  rcases h with (h | ⟨o, h⟩) | h
  · cases (show (none : Option HO) = _ from h)
  · cases (show (none : Option HO) = _ from h)
  · exact .inr h
theorem ls_sq (sr : SR K W M) (h : Rp K W d v) (e : lsOf d M = some xs) : ∃ a vs, v = .ref a ∧ SqL K W.H a vs ∧ RpL K W xs vs := by
  cases d with
  | lst ds =>
    cases e
    obtain ⟨a, vs, e1, f, r⟩ := h
    exact ⟨a, vs, e1, .of f.1.1, r⟩
  | kst ds =>
    cases e
    obtain ⟨a, vs, e1, f, r⟩ := h
    refine ⟨a, vs, e1, ?_, r⟩
    rcases f.1 with ⟨⟨o, f⟩, _⟩ | f
    · exact .inl (.inr ⟨o, f⟩)
    · exact SqL.any f
  | ref n =>
    obtain ⟨a, h1, e1⟩ := h
    obtain ⟨mo, h2, m⟩ := sr.at_ h1
    have e' : (match M[n]? with | some (.lst xs) => some xs | _ => none) = some xs := e
    rw [h2] at e'
    cases mo with
    | lst ds =>
      cases e'
      obtain ⟨vs, q1, q2⟩ := m
      exact ⟨a, vs, e1, .of q1.1, q2⟩
  | _ => cases e
theorem ls_len (sr : SR K W M) (h : Rp K W d v) (e : lsOf d M = some xs) : xs.length ≤ LINE := by
  cases d with
  | lst ds =>
    cases e
    obtain ⟨a, vs, e1, f, r⟩ := h
    rw [r.len]; exact f.2
  | kst ds =>
    cases e
    obtain ⟨a, vs, e1, f, r⟩ := h
    rw [r.len]; exact f.2
  | ref n =>
    obtain ⟨a, h1, e1⟩ := h
    obtain ⟨mo, h2, m⟩ := sr.at_ h1
    have e' : (match M[n]? with | some (.lst xs) => some xs | _ => none) = some xs := e
    rw [h2] at e'
    cases mo with
    | lst ds =>
      cases e'
      obtain ⟨vs, q1, q2⟩ := m
      rw [q2.len]; exact q1.2
  | _ => cases e
theorem tp_sq (h : Rp K W (.tup xs) v) : ∃ a vs, v = .ref a ∧ SqT K W.H a vs ∧ RpL K W xs vs := by
  obtain ⟨a, vs, e1, f, r⟩ := h
  refine ⟨a, vs, e1, ?_, r⟩
  rcases f.1 with ⟨f, _⟩ | f
  · exact .of f
  · exact SqT.any f
theorem sq_len (sr : SR K W M) (h : Rp K W d v) (e : sqOf d M = some xs) : xs.length ≤ LINE := by
  cases d with
  | tup ds =>
    cases e
    obtain ⟨a, vs, e1, f, r⟩ := h
    rw [r.len]; exact f.2
  | lst ds => exact ls_len sr h e
  | kst ds => exact ls_len sr h e
  | ref n => exact ls_len sr h e
  | _ => cases e
theorem sq_sq (sr : SR K W M) (h : Rp K W d v) (e : sqOf d M = some xs) : ∃ a vs, v = .ref a ∧ (SqL K W.H a vs ∨ SqT K W.H a vs) ∧ RpL K W xs vs := by
  have l : lsOf d M = some xs → ∃ a vs, v = .ref a ∧ (SqL K W.H a vs ∨ SqT K W.H a vs) ∧ RpL K W xs vs := fun e => by
    obtain ⟨a, vs, h1, h2, h3⟩ := ls_sq sr h e
    exact ⟨a, vs, h1, .inl h2, h3⟩
  cases d with
  | tup ds =>
    cases e
    obtain ⟨a, vs, h1, h2, h3⟩ := tp_sq h
    exact ⟨a, vs, h1, .inr h2, h3⟩
  | _ => exact l e
end
/-! ### names, constants, two-place operations -/
def fVar (i : Nat) : FE := fun ρ M => match ρ[i]? with | some (some d) => some (d, M) | _ => none
def fC (d : D) : FE := fun _ M => some (d, M)
abbrev G1 := D → Mem → Option D
abbrev G2 := D → D → Mem → Option D
abbrev G2B := D → D → Mem → Option Bool
def f1 (g : G1) (fa : FE) : FE := fun ρ M => (fa ρ M).bind fun a => (g a.1 a.2).bind fun d => some (d, a.2)
def f2 (g : G2) (fa fb : FE) : FE := fun ρ M => (fa ρ M).bind fun a => (fb ρ a.2).bind fun b => (g a.1 b.1 b.2).bind fun d => some (d, b.2)
def gB (g : G2B) : G2 := fun x y M => (g x y M).map .bl
def f2T (g : G2B) (fa fb : FE) : FT := fun ρ M => (fa ρ M).bind fun a => (fb ρ a.2).bind fun b => (g a.1 b.1 b.2).bind fun d => some (d, b.2)
/-- the operation's reading follows from what it computes -/
def Op1 (K : PySem.W.Frag) (r : V → Hp → VK → Prop) (g : G1) : Prop := ∀ (W : Wo) (M : Mem) (x d : D) (v : V) (Q : VK), SR K W M → Rp K W x v → g x M = some d →
  (∀ W' v', Ext W W' → SR K W' M → Rp K W' d v' → Q v' W'.H) → r v W.H Q
def Op2 (K : PySem.W.Frag) (r : R2) (g : G2) : Prop := ∀ (W : Wo) (M : Mem) (x y d : D) (v u : V) (Q : VK), SR K W M → Rp K W x v → Rp K W y u → g x y M = some d →
  (∀ W' v', Ext W W' → SR K W' M → Rp K W' d v' → Q v' W'.H) → r v u W.H Q
section
variable {K : PySem.W.Frag}
theorem lift1 {r : V → Hp → VK → Prop} {g : G1} {fa : FE} (op : Op1 K r g) : ∀ σ H Q, liftE K (f1 g fa) σ H Q → tUn r (liftE K fa) σ H Q := by
  rintro σ H Q ⟨W, ρ, M, rfl, sr, sl, d, M', hf, k⟩
  obtain ⟨⟨x, M1⟩, hx, hf⟩ := Option.bind_eq_some_iff.mp hf
  obtain ⟨d', hg, hf⟩ := Option.bind_eq_some_iff.mp hf
  cases hf
  exact ⟨W, ρ, M, rfl, sr, sl, x, M1, hx, fun W1 v e1 s1 r1 => op W1 _ x d v Q s1 r1 hg fun W2 v' e2 s2 r2 => k W2 v' (e1.trans e2) s2 r2⟩
theorem lift2 {r : R2} {g : G2} {fa fb : FE} (op : Op2 K r g) : ∀ σ H Q, liftE K (f2 g fa fb) σ H Q → tOp r (liftE K fa) (liftE K fb) σ H Q := by
  rintro σ H Q ⟨W, ρ, M, rfl, sr, sl, d, M', hf, k⟩
  obtain ⟨⟨x, M1⟩, hx, hf⟩ := Option.bind_eq_some_iff.mp hf
  obtain ⟨⟨y, M2⟩, hy, hf⟩ := Option.bind_eq_some_iff.mp hf
  obtain ⟨d', hg, hf⟩ := Option.bind_eq_some_iff.mp hf
  cases hf
  exact ⟨W, ρ, M, rfl, sr, sl, x, M1, hx, fun W1 v e1 s1 r1 => ⟨W1, ρ, M1, rfl, s1, sl.ext e1 sr.sub, y, M2, hy, fun W2 u e2 s2 r2 =>
    op W2 _ x y d v u Q s2 (r1.ext e2 s1.sub) r2 hg fun W3 v' e3 s3 r3 => k W3 v' ((e1.trans e2).trans e3) s3 r3⟩⟩
theorem lift2T {r : R2} {g : G2B} {fa fb : FE} (op : Op2 K r (gB g)) : ∀ σ H Q, liftT K (f2T g fa fb) σ H Q → tTest (tOp r (liftE K fa) (liftE K fb)) σ H Q := by
  rintro σ H Q ⟨W, ρ, M, rfl, sr, sl, d, M', hf, k⟩
  obtain ⟨⟨x, M1⟩, hx, hf⟩ := Option.bind_eq_some_iff.mp hf
  obtain ⟨⟨y, M2⟩, hy, hf⟩ := Option.bind_eq_some_iff.mp hf
  obtain ⟨d', hg, hf⟩ := Option.bind_eq_some_iff.mp hf
  cases hf
  exact ⟨W, ρ, M, rfl, sr, sl, x, M1, hx, fun W1 v e1 s1 r1 => ⟨W1, ρ, M1, rfl, s1, sl.ext e1 sr.sub, y, M2, hy, fun W2 u e2 s2 r2 =>
    op W2 _ x y (.bl d) v u _ s2 (r1.ext e2 s1.sub) r2 (by rw [gB, hg]; rfl) fun W3 v' e3 s3 r3 => ⟨d, r3, k W3 ((e1.trans e2).trans e3) s3⟩⟩⟩
theorem Op2.or {r r' : R2} {g g' : G2} (h : Op2 K r g) (h' : Op2 K r' g') : Op2 K (fun x y H Q => r x y H Q ∨ r' x y H Q) (fun x y M => (g x y M).orElse fun _ => g' x y M) := by
  intro W M x y d v u Q sr rx ry hg k
  cases q : g x y M with
  | some z =>
    simp only [q, Option.orElse_some, Option.some.injEq] at hg
    subst hg
    exact .inl (h W M x y z v u Q sr rx ry q k)
  | none =>
    simp only [q, Option.orElse_none] at hg
    exact .inr (h' W M x y d v u Q sr rx ry hg k)
theorem Op2.sum {r r' : R2} {g : G2} (h : ∀ (W : Wo) (M : Mem) (x y d : D) (v u : V) (Q : VK), SR K W M → Rp K W x v → Rp K W y u → g x y M = some d →
  (∀ W' v', Ext W W' → SR K W' M → Rp K W' d v' → Q v' W'.H) → r v u W.H Q ∨ r' v u W.H Q) : Op2 K (fun x y H Q => r x y H Q ∨ r' x y H Q) g := h
end
section
variable {X : Cx} {a b c : Expr} {fa fb fc : FE} {pos : Pos}
theorem pf_var (i : Nat) {x : Str} {pos : Pos} (hN : X.N[i]? = some x := by rfl) (hv : Vis X.env.scope x := by first | exact Or.inl rfl | exact Or.inr (Or.inl rfl) | exact Or.inr (Or.inr rfl)) (hd : (x == ("__debug__" : Str)) = false := by decide)
    (hcd : (x == ("__classdict__" : Str)) = false := by decide) : PFE X (.Name x pos) (fVar i) := pe_weak (pe_var hN hv hd hcd) fun σ H Q ⟨W, ρ, M, hW, sr, sl, d, M', hf, k⟩ => by
  subst hW
  unfold fVar at hf
  split at hf
  · rename_i d' hd'
    cases hf
    obtain ⟨v, h1, h2⟩ := sl.at_ i _ hd'
    exact ⟨v, h1, k W v (.refl W) sr h2⟩
  · cases hf
theorem pf_c {d : D} {v : V} {e : Expr} (h : PE X e (tC v)) (r : ∀ W, Rp X.K W d v) : PFE X e (fC d) := pe_weak h fun σ H Q ⟨W, ρ, M, hW, sr, sl, d, M', hf, k⟩ => by
  subst hW
  cases hf
  exact k W v (.refl W) sr (r W)
theorem pf_int {i : Int} {j pos} : PFE X (.Constant (.int i) j pos) (fC (.int i)) := pf_c pe_int fun _ => rfl
theorem pf_bl {i : Bool} {j pos} : PFE X (.Constant (.bool i) j pos) (fC (.bl i)) := pf_c pe_bl fun _ => rfl
theorem pf_non {j pos} : PFE X (.Constant .none j pos) (fC .non) := pf_c pe_non fun _ => rfl
theorem pf_str {i : Str} {j pos} : PFE X (.Constant (.str i) j pos) (fC (.str i)) := pf_c pe_str fun _ => rfl
theorem pf_un {op : UnaryOp} {r : V → Hp → VK → Prop} {g : G1} (ho : UnR X (unaryOp op) r) (o : Op1 X.K r g) (ha : PFE X a fa) : PFE X (.UnaryOp op a pos) (f1 g fa) := pe_weak (pe_un ho ha) (lift1 o)
theorem pf_bin {op : Operator} {r : R2} {g : G2} (ho : OpR X (binaryOp op) r) (o : Op2 X.K r g) (ha : PFE X a fa) (hb : PFE X b fb) : PFE X (.BinOp a op b pos) (f2 g fa fb) := pe_weak (pe_op ho ha hb) (lift2 o)
theorem pf_cmp {op : CmpOp} {r : R2} {g : G2B} (ho : OpR X (compareOp op) r) (o : Op2 X.K r (gB g)) (ha : PFE X a fa) (hb : PFE X b fb) (hm : behindInMarks op b = false) : PFE X (.Compare a [op] [b] pos) (f2 (gB g) fa fb) := pe_weak (pe_cmpR ho ha hb hm) (lift2 o)
theorem pft_cmp {op : CmpOp} {r : R2} {g : G2B} (ho : OpR X (compareOp op) r) (o : Op2 X.K r (gB g)) (ha : PFE X a fa) (hb : PFE X b fb) (hm : behindInMarks op b = false) : PFT X (.Compare a [op] [b] pos) (f2T g fa fb) := pt_weak (pt_cmpR ho ha hb hm) (lift2T o)
theorem pf_ix {r : R2} {g : G2} (hr : IxR X r) (o : Op2 X.K r g) (ha : PFE X a fa) (hb : PFE X b fb) (hs : PlainIx b) : PFE X (.Subscript a b pos) (f2 g fa fb) := pe_weak (pe_ix hr ha hb hs) (lift2 o)
end
end PF
namespace PF
open PySem PySem.Spec PyProof.Rows L2
/-! ### arithmetic -/
/-- lists that are tracked as they are -/
def ltOf : D → Mem → Option (List D)
  | .lst xs, _ => some xs
  | .ref n, M => match M[n]? with | some (.lst xs) => some xs | _ => none
  | _, _ => none
theorem lt_sq {K : PySem.W.Frag} {W : Wo} {M : Mem} {d : D} {v : V} {xs : List D} (sr : SR K W M) (h : Rp K W d v) (e : ltOf d M = some xs) : ∃ a vs, v = .ref a ∧ W.H a = some (.lst vs) ∧ RpL K W xs vs := by
  cases d with
  | lst ds =>
    cases e
    obtain ⟨a, vs, e1, f, r⟩ := h
    exact ⟨a, vs, e1, f.1.1, r⟩
  | ref n =>
    obtain ⟨a, h1, e1⟩ := h
    obtain ⟨mo, h2, m⟩ := sr.at_ h1
    have e' : (match M[n]? with | some (.lst xs) => some xs | _ => none) = some xs := e
    rw [h2] at e'
    cases mo with
    | lst ds =>
      cases e'
      obtain ⟨vs, q1, q2⟩ := m
      exact ⟨a, vs, e1, q1.1, q2⟩
  | _ => cases e
def gAdd : G2 := fun x y M => match x, y with
  | .int i, .int j => some (.int (i + j))
  | .str a, .str b => if a.length + b.length ≤ LINE then some (.str (a ++ b)) else none
  | .tup a, .tup b => if a.length + b.length ≤ LINE then some (.tup (a ++ b)) else none
  | x, y => match ltOf x M, ltOf y M with
    | some a, some b => if a.length + b.length ≤ LINE then some (.lst (a ++ b)) else none
    | _, _ => none
def rAddA (K : PySem.W.Frag) : R2 := fun x y H Q => rI0 (fun i j => .int (i + j)) x y H Q ∨ (∃ i j, x = .str i ∧ y = .str j ∧ i.length + j.length ≤ sizeLine ∧ Q (.str (i ++ j)) H) ∨ rCatA K x y H Q ∨ rCat x y H Q
theorem op_addA {X : Cx} : OpR X (binaryOp .Add) (rAddA X.K) := op_add.or (op_add_str.or (op_catA.or op_cat))
theorem o_add {K : PySem.W.Frag} : Op2 K (rAddA K) gAdd := by
  intro W M x y d v u Q sr rx ry hg k
  have lists : (match ltOf x M, ltOf y M with
    | some a, some b => if a.length + b.length ≤ LINE then some (D.lst (a ++ b)) else none
    | _, _ => none) = some d → rCat v u W.H Q := fun e => by
    split at e
    · rename_i a b ha hb
      split at e
      · rename_i hl
        cases e
        obtain ⟨p, vs, rfl, h1, r1⟩ := lt_sq sr rx ha
        obtain ⟨q, us, rfl, h2, r2⟩ := lt_sq sr ry hb
        exact ⟨p, q, vs, us, rfl, rfl, h1, h2, by rw [line_eq, ← r1.len, ← r2.len]; exact hl, fun t nt => k _ _ (Ext.put nt) (sr.put nt) (.newLst sr nt (r1.append r2) (by rw [List.length_append, ← r1.len, ← r2.len]; exact hl))⟩
      · cases e
    · cases e
  unfold gAdd at hg
  split at hg
  · cases hg
    cases rx; cases ry
    exact .inl ⟨_, _, rfl, rfl, k W _ (.refl W) sr rfl⟩
  · split at hg
    · rename_i hl
      cases hg
      cases rx; cases ry
      exact .inr (.inl ⟨_, _, rfl, rfl, by rw [line_eq]; exact hl, k W _ (.refl W) sr rfl⟩)
    · cases hg
  · split at hg
    · rename_i a b hl
      cases hg
      obtain ⟨p, vs, rfl, h1, r1⟩ := tp_sq rx
      obtain ⟨q, us, rfl, h2, r2⟩ := tp_sq ry
      refine .inr (.inr (.inl ⟨p, q, vs, us, rfl, rfl, h1, h2, by rw [line_eq, ← r1.len, ← r2.len]; exact hl, fun e => ?_, fun _ e => ?_, fun _ _ t nt => k _ _ (Ext.put nt) (sr.put nt) (.newTup sr nt (r1.append r2) (by rw [List.length_append, ← r1.len, ← r2.len]; exact hl))⟩))
      · subst e
        have : a = [] := List.eq_nil_of_length_eq_zero r1.len
        subst this
        exact k W _ (.refl W) sr ry
      · subst e
        have : b = [] := List.eq_nil_of_length_eq_zero r2.len
        subst this
        exact k W _ (.refl W) sr (by rw [List.append_nil]; exact rx)
    · cases hg
  · exact .inr (.inr (.inr (lists hg)))
def rInts (f : Int → Int → Int) : G2 := fun x y _ => match x, y with | .int i, .int j => some (.int (f i j)) | _, _ => none
def gInts (c : Int → Int → Bool) (f : Int → Int → Int) : G2 := fun x y _ => match x, y with | .int i, .int j => if c i j then some (.int (f i j)) else none | _, _ => none
theorem o_ints0 {K : PySem.W.Frag} {f : Int → Int → Int} : Op2 K (rI0 fun i j => .int (f i j)) (rInts f) := by
  intro W M x y d v u Q sr rx ry hg k
  unfold rInts at hg
  split at hg
  · cases hg
    cases rx; cases ry
    exact ⟨_, _, rfl, rfl, k W _ (.refl W) sr rfl⟩
  · cases hg
theorem o_ints {K : PySem.W.Frag} {C : Int → Int → Prop} {c : Int → Int → Bool} {f : Int → Int → Int} (hc : ∀ i j, c i j = true → C i j) : Op2 K (rI C fun i j => .int (f i j)) (gInts c f) := by
  intro W M x y d v u Q sr rx ry hg k
  unfold gInts at hg
  split at hg
  · split at hg
    · rename_i h
      cases hg
      cases rx; cases ry
      exact ⟨_, _, rfl, rfl, hc _ _ h, k W _ (.refl W) sr rfl⟩
    · cases hg
  · cases hg
def gSub : G2 := rInts fun i j => i - j
def okMul (i j : Int) : Bool := decide (i.natAbs < 18446744073709551616) || (decide (j.natAbs < 18446744073709551616) || decide (i.natAbs.log2 + j.natAbs.log2 < 1000000))
def okDiv (j : Int) : Bool := decide (j ≠ 0) && decide (j.natAbs.log2 < 9000)
def okPow (i j : Int) : Bool := decide (0 ≤ j) && (decide (j ≤ 1000000) && decide (i.natAbs < 18446744073709551616))
def gMul : G2 := fun x y M => match x, y with
  | .int i, .int j => if okMul i j then some (.int (i * j)) else none
  | x, .int j => match ltOf x M with
    | some xs => if decide (-(9223372036854775808) ≤ j) && (decide (j < 9223372036854775808) && decide (xs.length * j.toNat ≤ LINE)) then some (.lst (List.replicate j.toNat xs).flatten) else none
    | none => none
  | _, _ => none
def gFdiv : G2 := gInts (fun _ j => okDiv j) Int.fdiv
def gMod : G2 := gInts (fun _ j => decide (j ≠ 0)) Int.fmod
def gPow : G2 := gInts okPow fun i j => i ^ j.toNat
theorem op_fdivA {X : Cx} : OpR X (binaryOp .FloorDiv) (rI (fun _ j => j ≠ 0 ∧ j.natAbs.log2 < 9000) fun i j => .int (i.fdiv j)) := opI fun _ _ _ _ _ _ _ hc q => floordiv_int hc.1 q (.inl (PyProof.noPylong_of_log2 hc.2))
theorem o_sub {K : PySem.W.Frag} : Op2 K (rI0 fun i j => .int (i - j)) gSub := o_ints0
theorem RpL.rep {K : PySem.W.Frag} {W : Wo} {xs : List D} {vs : List V} (h : RpL K W xs vs) : ∀ n : Nat, RpL K W (List.replicate n xs).flatten (List.replicate n vs).flatten
  | 0 => rfl
  | n + 1 => by
    rw [List.replicate_succ, List.replicate_succ, List.flatten_cons, List.flatten_cons]
    exact h.append (RpL.rep h n)
theorem okMul_ok {i j : Int} (h : okMul i j = true) : IntMulOk i j := by
  unfold okMul at h
  simp only [Bool.or_eq_true, decide_eq_true_eq] at h
  rcases h with h | h | h
  · exact CMul.ok (.inl ⟨by omega, by omega⟩)
  · exact CMul.ok (.inr ⟨by omega, by omega⟩)
  · exact CMulW.ok h
def rMulA : R2 := fun x y H Q => rI IntMulOk (fun i j => .int (i * j)) x y H Q ∨ rRep x y H Q
theorem op_mulA {X : Cx} : OpR X (binaryOp .Mult) rMulA := OpR.or (opI fun _ _ _ _ _ _ _ hc q => mul_int q hc) op_rep
theorem o_mul {K : PySem.W.Frag} : Op2 K rMulA gMul := by
  intro W M x y d v u Q sr rx ry hg k
  unfold gMul at hg
  split at hg
  · split at hg
    · rename_i h
      cases hg
      cases rx; cases ry
      exact .inl ⟨_, _, rfl, rfl, okMul_ok h, k W _ (.refl W) sr rfl⟩
    · cases hg
  · split at hg
    · rename_i xs hx
      split at hg
      · rename_i h
        cases hg
        simp only [Bool.and_eq_true, decide_eq_true_eq] at h
        obtain ⟨p, vs, rfl, h1, r1⟩ := lt_sq sr rx hx
        cases ry
        exact .inr ⟨p, _, vs, rfl, rfl, h1, h.1, h.2.1, by rw [line_eq, ← r1.len]; exact h.2.2, fun t nt => k _ _ (Ext.put nt) (sr.put nt) (.newLst sr nt (r1.rep _) (by rw [← (r1.rep _).len, PyProof.Rows.lm_len_rep_flat, Nat.mul_comm]; exact h.2.2))⟩
      · cases hg
    · cases hg
  · cases hg
theorem o_fdiv {K : PySem.W.Frag} : Op2 K (rI (fun _ j => j ≠ 0 ∧ j.natAbs.log2 < 9000) fun i j => .int (i.fdiv j)) gFdiv := o_ints fun i j h => by
  unfold okDiv at h
  simp only [Bool.and_eq_true, decide_eq_true_eq] at h
  exact h
theorem o_mod {K : PySem.W.Frag} : Op2 K (rI (fun _ j => j ≠ 0) fun i j => .int (i.fmod j)) gMod := o_ints fun i j h => of_decide_eq_true h
theorem o_pow {K : PySem.W.Frag} : Op2 K (rI CPow fun i j => .int (i ^ j.toNat)) gPow := o_ints fun i j h => by
  unfold okPow at h
  simp only [Bool.and_eq_true, decide_eq_true_eq] at h
  exact ⟨h.1, h.2.1, h.2.2⟩
def gNeg : G1 := fun x _ => match x with | .int i => some (.int (-i)) | _ => none
theorem o_neg {K : PySem.W.Frag} : Op1 K (rU fun i => .int (-i)) gNeg := by
  intro W M x d v Q sr rx hg k
  unfold gNeg at hg
  split at hg
  · cases hg
    cases rx
    exact ⟨_, rfl, k W _ (.refl W) sr rfl⟩
  · cases hg
/-! ### comparisons -/
def gCmp (c : Int → Int → Bool) : G2B := fun x y _ => match x, y with | .int i, .int j => some (c i j) | _, _ => none
theorem o_cmp {K : PySem.W.Frag} {c : Int → Int → Bool} : Op2 K (rI0 fun i j => .bl (c i j)) (gB (gCmp c)) := by
  intro W M x y d v u Q sr rx ry hg k
  unfold gB gCmp at hg
  split at hg
  · cases hg
    cases rx; cases ry
    exact ⟨_, _, rfl, rfl, k W _ (.refl W) sr rfl⟩
  · cases hg
/-! Python's == -/
mutual
def D.py : D → PyData
  | .non => .none
  | .bl b => .bool b
  | .int i => .int i
  | .str x => .str x
  | .tup xs => .tuple (D.pys xs)
  | .lst xs => .list (D.pys xs)
  | .kst xs => .list (D.pys xs)
  | .ref _ => .none
def D.pys : List D → List PyData
  | [] => []
  | x :: xs => x.py :: D.pys xs
end
mutual
/-- without references, at most n deep -/
def D.dp : Nat → D → Bool
  | _, .non => true
  | _, .bl _ => true
  | _, .int _ => true
  | _, .str x => PyData.strOk x
  | n, .tup xs => decide (0 < n) && D.dps (n - 1) xs
  | n, .lst xs => decide (0 < n) && D.dps (n - 1) xs
  | n, .kst xs => decide (0 < n) && D.dps (n - 1) xs
  | _, .ref _ => false
def D.dps : Nat → List D → Bool
  | _, [] => true
  | n, x :: xs => D.dp n x && D.dps n xs
end
/-- a list that is referred to, as a list -/
def D.val (d : D) (M : Mem) : Option D := match d with
  | .ref n => match M[n]? with | some (.lst xs) => some (.lst xs) | _ => none
  | d => some d
def gEq : G2B := fun x y M => match x.val M, y.val M with
  | some a, some b => if a.dp 60 && b.dp 60 then some (PyData.eqv a.py b.py) else none
  | _, _ => none
def gNe : G2B := fun x y M => (gEq x y M).map (! ·)
section
variable {K : PySem.W.Frag} {W : Wo} {M : Mem}
mutual
theorem dp_Dp : ∀ (n : Nat) (d : D) (v : V), d.dp n = true → Rp K W d v → Dp K W.H v d.py
  | _, .non, v, _, h => by cases (show _ = _ from h); exact .non
  | _, .bl b, v, _, h => by cases (show _ = _ from h); exact .bl b
  | _, .int b, v, _, h => by cases (show _ = _ from h); exact .int b
  | _, .str b, v, _, h => by cases (show _ = _ from h); exact .str b
  | n, .tup xs, v, hd, h => by
    obtain ⟨a, vs, e, h1, r⟩ := tp_sq h
    subst e
    rw [D.dp, Bool.and_eq_true] at hd
    rw [D.py]
    exact .tup h1 (dp_Dps (n - 1) xs vs hd.2 r)
  | n, .lst xs, v, hd, h => by
    obtain ⟨a, vs, e, f, r⟩ := h
    subst e
    rw [D.dp, Bool.and_eq_true] at hd
    rw [D.py]
    exact .lst (.of f.1.1) (dp_Dps (n - 1) xs vs hd.2 r)
  | n, .kst xs, v, hd, h => by
    obtain ⟨a, vs, e, f, r⟩ := h
    subst e
    rw [D.dp, Bool.and_eq_true] at hd
    rw [D.py]
    refine .lst ?_ (dp_Dps (n - 1) xs vs hd.2 r)
    rcases f.1 with ⟨⟨o, f⟩, _⟩ | f
    · exact .inl (.inr ⟨o, f⟩)
    · exact SqL.any f
  | _, .ref _, _, hd, _ => by rw [D.dp] at hd; cases hd
theorem dp_Dps : ∀ (n : Nat) (ds : List D) (vs : List V), D.dps n ds = true → RpL K W ds vs → DpAll K W.H vs (D.pys ds)
  | _, [], vs, _, h => by cases (show _ = _ from h); rw [D.pys]; exact .nil
  | n, d :: ds, vs, hd, h => by
    obtain ⟨v, r, e, h1, h2⟩ := h
    subst e
    rw [D.dps, Bool.and_eq_true] at hd
    rw [D.pys]
    exact .cons (dp_Dp n d v hd.1 h1) (dp_Dps n ds r hd.2 h2)
end
mutual
theorem dp_can : ∀ (n : Nat) (d : D), d.dp n = true → d.py.canLay0 = true ∧ d.py.depth ≤ n
  | n, .non, _ => by rw [D.py]; exact ⟨by simp [PyData.canLay0], by simp [PyData.depth]⟩
  | n, .bl _, _ => by rw [D.py]; exact ⟨by simp [PyData.canLay0], by simp [PyData.depth]⟩
  | n, .int _, _ => by rw [D.py]; exact ⟨by simp [PyData.canLay0], by simp [PyData.depth]⟩
  | n, .str _, h => by rw [D.py]; rw [D.dp] at h; exact ⟨by simpa [PyData.canLay0] using h, by simp [PyData.depth]⟩
  | n, .tup xs, h => by
    rw [D.dp, Bool.and_eq_true, decide_eq_true_eq] at h
    obtain ⟨h1, h2⟩ := dps_can (n - 1) xs h.2
    rw [D.py]
    exact ⟨by simpa [PyData.canLay0] using h1, by simp only [PyData.depth]; omega⟩
  | n, .lst xs, h => by
    rw [D.dp, Bool.and_eq_true, decide_eq_true_eq] at h
    obtain ⟨h1, h2⟩ := dps_can (n - 1) xs h.2
    rw [D.py]
    exact ⟨by simpa [PyData.canLay0] using h1, by simp only [PyData.depth]; omega⟩
  | n, .kst xs, h => by
    rw [D.dp, Bool.and_eq_true, decide_eq_true_eq] at h
    obtain ⟨h1, h2⟩ := dps_can (n - 1) xs h.2
    rw [D.py]
    exact ⟨by simpa [PyData.canLay0] using h1, by simp only [PyData.depth]; omega⟩
  | _, .ref _, h => by rw [D.dp] at h; cases h
theorem dps_can : ∀ (n : Nat) (ds : List D), D.dps n ds = true → PyData.canLayAll0 (D.pys ds) = true ∧ PyData.depthAll (D.pys ds) ≤ n
  | n, [], _ => by rw [D.pys]; exact ⟨by simp [PyData.canLayAll0], by simp [PyData.depthAll]⟩
  | n, d :: ds, h => by
    rw [D.dps, Bool.and_eq_true] at h
    obtain ⟨h1, h2⟩ := dp_can n d h.1
    obtain ⟨h3, h4⟩ := dps_can n ds h.2
    rw [D.pys]
    exact ⟨by simp [PyData.canLayAll0, h1, h3], by simp only [PyData.depthAll]; omega⟩
end
theorem val_Rp {d d' : D} {v : V} (sr : SR K W M) (h : Rp K W d v) (e : d.val M = some d') (hp : d'.dp 60 = true) : Dp K W.H v d'.py := by
  cases d with
  | ref n =>
    obtain ⟨a, h1, e1⟩ := h
    obtain ⟨mo, h2, m⟩ := sr.at_ h1
    have e' : (match M[n]? with | some (.lst xs) => some (D.lst xs) | _ => none) = some d' := e
    rw [h2] at e'
    cases mo with
    | lst ds =>
      cases e'
      obtain ⟨vs, q1, q2⟩ := m
      subst e1
      rw [D.dp, Bool.and_eq_true] at hp
      rw [D.py]
      exact .lst (.of q1.1) (dp_Dps _ ds vs hp.2 q2)
  | _ => cases e; exact dp_Dp 60 _ v hp h
theorem shaped_of {d : D} (h : d.dp 60 = true) : SeqAt.shaped d.py = true := by
  obtain ⟨h1, h2⟩ := dp_can 60 d h
  unfold SeqAt.shaped
  rw [h1, decide_eq_true (Nat.le_trans h2 (by decide))]
  rfl
theorem o_eq : Op2 K (rEqD K) (gB gEq) := by
  intro W M x y d v u Q sr rx ry hg k
  unfold gB gEq at hg
  split at hg
  · rename_i a b ha hb
    split at hg
    · rename_i h
      cases hg
      rw [Bool.and_eq_true] at h
      exact ⟨_, _, val_Rp sr rx ha h.1, val_Rp sr ry hb h.2, shaped_of h.1, shaped_of h.2, k W _ (.refl W) sr rfl⟩
    · cases hg
  · cases hg
theorem o_ne : Op2 K (rNeD K) (gB gNe) := by
  intro W M x y d v u Q sr rx ry hg k
  unfold gB gNe gEq at hg
  split at hg
  · rename_i a b ha hb
    split at hg
    · rename_i h
      cases hg
      rw [Bool.and_eq_true] at h
      exact ⟨_, _, val_Rp sr rx ha h.1, val_Rp sr ry hb h.2, shaped_of h.1, shaped_of h.2, k W _ (.refl W) sr rfl⟩
    · cases hg
  · cases hg
/-- is None; is True, is False of a bool -/
def isNon : D → Bool
  | .non => true
  | _ => false
def gIs : G2B := fun x y _ => match y with
  | .non => some (isNon x)
  | .bl b => match x with | .bl a => some (decide (a = b)) | _ => none
  | _ => none
def gIsNot : G2B := fun x y M => (gIs x y M).map (! ·)
theorem isNon_rel {d : D} {v : V} (h : Rp K W d v) : decide (v = .non) = isNon d := by
  cases d with
  | non => cases (show _ = _ from h); rfl
  | bl _ => cases (show _ = _ from h); rfl
  | int _ => cases (show _ = _ from h); rfl
  | str _ => cases (show _ = _ from h); rfl
  | tup _ => obtain ⟨a, vs, e, _⟩ := h; subst e; rfl
  | lst _ => obtain ⟨a, vs, e, _⟩ := h; subst e; rfl
  | kst _ => obtain ⟨a, vs, e, _⟩ := h; subst e; rfl
  | ref _ => obtain ⟨a, _, e⟩ := h; subst e; rfl
end
def rIsA : R2 := fun x y H Q => (y = .non ∧ Q (.bl (decide (x = .non))) H) ∨ rIsB x y H Q
def rIsNotA : R2 := fun x y H Q => (y = .non ∧ Q (.bl (!decide (x = .non))) H) ∨ rNotB x y H Q
theorem op_isA {X : Cx} : OpR X (compareOp .Is) rIsA := op_isN.or op_isBl
theorem op_isNotA {X : Cx} : OpR X (compareOp .IsNot) rIsNotA := op_notN.or op_notBl
theorem o_is {K : PySem.W.Frag} : Op2 K rIsA (gB gIs) := by
  intro W M x y d v u Q sr rx ry hg k
  unfold gB gIs at hg
  split at hg
  · cases hg
    cases (show _ = _ from ry)
    exact .inl ⟨rfl, k W _ (.refl W) sr (by rw [isNon_rel rx]; rfl)⟩
  · split at hg
    · cases hg
      cases (show _ = _ from ry); cases (show _ = _ from rx)
      exact .inr ⟨_, _, rfl, rfl, k W _ (.refl W) sr rfl⟩
    · cases hg
  · cases hg
theorem o_isNot {K : PySem.W.Frag} : Op2 K rIsNotA (gB gIsNot) := by
  intro W M x y d v u Q sr rx ry hg k
  unfold gB gIsNot gIs at hg
  split at hg
  · cases hg
    cases (show _ = _ from ry)
    exact .inl ⟨rfl, k W _ (.refl W) sr (by rw [isNon_rel rx]; rfl)⟩
  · split at hg
    · cases hg
      cases (show _ = _ from ry); cases (show _ = _ from rx)
      exact .inr ⟨_, _, rfl, rfl, k W _ (.refl W) sr rfl⟩
    · cases hg
  · cases hg
/-! ### subscripts -/
def ixD (xs : List D) (i : Int) : Option D := atI xs i
def gIx : G2 := fun x y M => match y with
  | .int i => match x with
    | .str z => if z.length ≤ LINE then (atI z.cps.toList i).map fun c => .str ⟨#[c]⟩ else none
    | x => (sqOf x M).bind fun xs => atI xs i
  | _ => none
theorem RpL.atI {K : PySem.W.Frag} {W : Wo} {xs : List D} {vs : List V} {i : Int} {d : D} (h : RpL K W xs vs) (e : atI xs i = some d) : ∃ v, L2.atI vs i = some v ∧ Rp K W d v := by
  unfold L2.atI at e ⊢
  rw [← h.len]
  obtain ⟨j, hj, e⟩ := Option.bind_eq_some_iff.mp e
  obtain ⟨v, h1, h2⟩ := h.get e
  exact ⟨v, by rw [hj]; exact h1, h2⟩
theorem o_ix {K : PySem.W.Frag} : Op2 K (rIx K) gIx := by
  intro W M x y d v u Q sr rx ry hg k
  unfold gIx at hg
  split at hg
  · cases (show _ = _ from ry)
    split at hg
    · split at hg
      · rename_i h
        cases (show _ = _ from rx)
        obtain ⟨c, hc, hg⟩ := Option.map_eq_some_iff.mp hg
        subst hg
        exact .inr (.inr ⟨_, _, c, rfl, rfl, by rw [line_eq]; exact h, hc, k W _ (.refl W) sr rfl⟩)
      · cases hg
    · obtain ⟨xs, hx, hg⟩ := Option.bind_eq_some_iff.mp hg
      obtain ⟨p, vs, rfl, h1, r1⟩ := sq_sq sr rx hx
      obtain ⟨z, h2, r2⟩ := r1.atI hg
      rcases h1 with h1 | h1
      · exact .inl ⟨p, vs, _, z, rfl, rfl, h1, h2, k W _ (.refl W) sr r2⟩
      · exact .inr (.inl ⟨p, vs, _, z, rfl, rfl, h1, h2, k W _ (.refl W) sr r2⟩)
  · cases hg
end PF
namespace PF
open PySem PySem.Spec PyProof.Rows L2
/-! ### truth, and, or, not -/
def gTru (d : D) (M : Mem) : Option Bool := match d with
  | .non => some false
  | .bl b => some b
  | .int i => some (i != 0)
  | .str x => if x.length ≤ LINE then some ((x.length : Int) != 0) else none
  | d => (sqOf d M).map fun xs => !xs.isEmpty
section
variable {K : PySem.W.Frag} {W : Wo} {M : Mem}
theorem RpL.emp {xs : List D} {vs : List V} (h : RpL K W xs vs) : (!xs.isEmpty) = !vs.isEmpty := by
  cases xs with
  | nil => cases (show _ = _ from h); rfl
  | cons d ds => obtain ⟨v, r, e, _⟩ := h; subst e; rfl
theorem tru_of {d : D} {v : V} {k : Bool} (sr : SR K W M) (h : Rp K W d v) (e : gTru d M = some k) : TruV K v W.H k := by
  have seq : (sqOf d M).map (fun xs => !xs.isEmpty) = some k → TruV K v W.H k := fun e => by
    obtain ⟨xs, hx, e⟩ := Option.map_eq_some_iff.mp e
    obtain ⟨a, vs, e1, h1, r⟩ := sq_sq sr h hx
    subst e1
    rcases h1 with h1 | h1
    · exact .inl ⟨vs, h1, by rw [← e]; exact r.emp⟩
    · exact .inr (.inl ⟨vs, h1, by rw [← e]; exact r.emp⟩)
  cases d with
  | non => cases (show _ = _ from h); cases e; exact rfl
  | bl b => cases (show _ = _ from h); cases e; exact rfl
  | int i => cases (show _ = _ from h); cases e; exact rfl
  | str x =>
    cases (show _ = _ from h)
    have e' : (if x.length ≤ LINE then some ((x.length : Int) != 0) else none) = some k := e
    split at e'
    · rename_i hl
      cases e'
      exact ⟨by rw [line_eq]; exact hl, rfl⟩
    · cases e'
  | _ => exact seq e
end
def fTru (fa : FE) : FT := fun ρ M => (fa ρ M).bind fun a => (gTru a.1 a.2).bind fun k => some (k, a.2)
def fNot (fa : FT) : FT := fun ρ M => (fa ρ M).bind fun a => some (!a.1, a.2)
def fAnd (fa fb : FT) : FT := fun ρ M => (fa ρ M).bind fun a => if a.1 = true then fb ρ a.2 else some (false, a.2)
def fOr (fa fb : FT) : FT := fun ρ M => (fa ρ M).bind fun a => if a.1 = true then some (true, a.2) else fb ρ a.2
def fAndV (fa fb : FE) : FE := fun ρ M => (fa ρ M).bind fun a => (gTru a.1 a.2).bind fun k => if k = true then fb ρ a.2 else some a
def fOrV (fa fb : FE) : FE := fun ρ M => (fa ρ M).bind fun a => (gTru a.1 a.2).bind fun k => if k = true then some a else fb ρ a.2
def fNotV (fa : FE) : FE := fun ρ M => (fa ρ M).bind fun a => (gTru a.1 a.2).bind fun k => some (.bl (!k), a.2)
def fIfE (fc : FT) (fa fb : FE) : FE := fun ρ M => (fc ρ M).bind fun c => if c.1 = true then fa ρ c.2 else fb ρ c.2
def fChain (g g' : G2B) (fa fb fc : FE) : FE := fun ρ M => (fa ρ M).bind fun a => (fb ρ a.2).bind fun b => (g a.1 b.1 b.2).bind fun k =>
  if k = true then (fc ρ b.2).bind fun c => (g' b.1 c.1 c.2).bind fun z => some (.bl z, c.2) else some (.bl false, b.2)
def fChainT (g g' : G2B) (fa fb fc : FE) : FT := fun ρ M => (fa ρ M).bind fun a => (fb ρ a.2).bind fun b => (g a.1 b.1 b.2).bind fun k =>
  if k = true then (fc ρ b.2).bind fun c => (g' b.1 c.1 c.2).bind fun z => some (z, c.2) else some (false, b.2)
section
variable {X : Cx} {a b c : Expr} {rest : List Expr} {fa fb fc : FE} {ta tb : FT} {pos : Pos}
theorem pft_tru (ha : PFE X a fa) (he : ∀ whole, isTrue a X.env whole = (do let v ← whole; standAt a.pos; holding [v] (truthy v)) := by intro _; rfl) : PFT X a (fTru fa) := pt_weak (pt_truth ha he) fun σ H Q => by
  rintro ⟨W, ρ, M, rfl, sr, sl, d, M', hf, k⟩
  obtain ⟨⟨x, M1⟩, hx, hf⟩ := Option.bind_eq_some_iff.mp hf
  obtain ⟨t, ht, hf⟩ := Option.bind_eq_some_iff.mp hf
  cases hf
  exact ⟨W, ρ, M, rfl, sr, sl, x, _, hx, fun W1 v e1 s1 r1 => ⟨_, tru_of s1 r1 ht, k W1 e1 s1⟩⟩
theorem pft_not (ha : PFT X a ta) : PFT X (.UnaryOp .Not a pos) (fNot ta) := pt_weak (pt_not ha) fun σ H Q => by
  rintro ⟨W, ρ, M, rfl, sr, sl, d, M', hf, k⟩
  obtain ⟨⟨x, M1⟩, hx, hf⟩ := Option.bind_eq_some_iff.mp hf
  cases hf
  exact ⟨W, ρ, M, rfl, sr, sl, x, _, hx, fun W1 e1 s1 => k W1 e1 s1⟩
theorem pfw_and1 (ha : PFT X a ta) : PFW X (.BoolOp .And [a] pos) ta := pw_and1 ha
theorem pfw_or1 (ha : PFT X a ta) : PFW X (.BoolOp .Or [a] pos) ta := pw_or1 ha
theorem pfw_and (ha : PFT X a ta) (hb : PFW X (.BoolOp .And (b :: rest) pos) tb) : PFW X (.BoolOp .And (a :: b :: rest) pos) (fAnd ta tb) := pw_weak (pw_and ha hb) fun σ H Q => by
  rintro ⟨W, ρ, M, rfl, sr, sl, d, M', hf, k⟩
  obtain ⟨⟨x, M1⟩, hx, hf⟩ := Option.bind_eq_some_iff.mp hf
  refine ⟨W, ρ, M, rfl, sr, sl, x, M1, hx, fun W1 e1 s1 => ?_⟩
  cases x with
  | true =>
    rw [if_pos rfl] at hf ⊢
    exact ⟨W1, ρ, M1, rfl, s1, sl.ext e1 sr.sub, d, M', hf, fun W2 e2 s2 => k W2 (e1.trans e2) s2⟩
  | false =>
    rw [if_neg Bool.false_ne_true] at hf ⊢
    cases hf
    exact k W1 e1 s1
theorem pfw_or (ha : PFT X a ta) (hb : PFW X (.BoolOp .Or (b :: rest) pos) tb) : PFW X (.BoolOp .Or (a :: b :: rest) pos) (fOr ta tb) := pw_weak (pw_or ha hb) fun σ H Q => by
  rintro ⟨W, ρ, M, rfl, sr, sl, d, M', hf, k⟩
  obtain ⟨⟨x, M1⟩, hx, hf⟩ := Option.bind_eq_some_iff.mp hf
  refine ⟨W, ρ, M, rfl, sr, sl, x, M1, hx, fun W1 e1 s1 => ?_⟩
  cases x with
  | false =>
    rw [if_neg Bool.false_ne_true] at hf ⊢
    exact ⟨W1, ρ, M1, rfl, s1, sl.ext e1 sr.sub, d, M', hf, fun W2 e2 s2 => k W2 (e1.trans e2) s2⟩
  | true =>
    rw [if_pos rfl] at hf ⊢
    cases hf
    exact k W1 e1 s1
theorem pf_one {op} (h : PFE X a fa) : PFE X (.BoolOp op [a] pos) fa := pe_one h
theorem pf_and (ha : PFE X a fa) (hb : PFE X (.BoolOp .And (b :: rest) pos) fb) : PFE X (.BoolOp .And (a :: b :: rest) pos) (fAndV fa fb) := pe_weak (pe_andT ha hb) fun σ H Q => by
  rintro ⟨W, ρ, M, rfl, sr, sl, d, M', hf, k⟩
  obtain ⟨⟨x, M1⟩, hx, hf⟩ := Option.bind_eq_some_iff.mp hf
  obtain ⟨t, ht, hf⟩ := Option.bind_eq_some_iff.mp hf
  refine ⟨W, ρ, M, rfl, sr, sl, x, M1, hx, fun W1 v e1 s1 r1 => ⟨t, tru_of s1 r1 ht, ?_⟩⟩
  cases t with
  | true =>
    rw [if_pos rfl] at hf ⊢
    exact ⟨W1, ρ, M1, rfl, s1, sl.ext e1 sr.sub, d, M', hf, fun W2 v e2 s2 r2 => k W2 v (e1.trans e2) s2 r2⟩
  | false =>
    rw [if_neg Bool.false_ne_true] at hf ⊢
    cases hf
    exact k W1 v e1 s1 r1
theorem pf_or (ha : PFE X a fa) (hb : PFE X (.BoolOp .Or (b :: rest) pos) fb) : PFE X (.BoolOp .Or (a :: b :: rest) pos) (fOrV fa fb) := pe_weak (pe_orT ha hb) fun σ H Q => by
  rintro ⟨W, ρ, M, rfl, sr, sl, d, M', hf, k⟩
  obtain ⟨⟨x, M1⟩, hx, hf⟩ := Option.bind_eq_some_iff.mp hf
  obtain ⟨t, ht, hf⟩ := Option.bind_eq_some_iff.mp hf
  refine ⟨W, ρ, M, rfl, sr, sl, x, M1, hx, fun W1 v e1 s1 r1 => ⟨t, tru_of s1 r1 ht, ?_⟩⟩
  cases t with
  | false =>
    rw [if_neg Bool.false_ne_true] at hf ⊢
    exact ⟨W1, ρ, M1, rfl, s1, sl.ext e1 sr.sub, d, M', hf, fun W2 v e2 s2 r2 => k W2 v (e1.trans e2) s2 r2⟩
  | true =>
    rw [if_pos rfl] at hf ⊢
    cases hf
    exact k W1 v e1 s1 r1
theorem pf_not (ha : PFE X a fa) : PFE X (.UnaryOp .Not a pos) (fNotV fa) := pe_weak (pe_notT ha) fun σ H Q => by
  rintro ⟨W, ρ, M, rfl, sr, sl, d, M', hf, k⟩
  obtain ⟨⟨x, M1⟩, hx, hf⟩ := Option.bind_eq_some_iff.mp hf
  obtain ⟨t, ht, hf⟩ := Option.bind_eq_some_iff.mp hf
  cases hf
  exact ⟨W, ρ, M, rfl, sr, sl, x, _, hx, fun W1 v e1 s1 r1 => ⟨t, tru_of s1 r1 ht, k W1 _ e1 s1 rfl⟩⟩
theorem pf_if (hc : PFT X c ta) (ha : PFE X a fa) (hb : PFE X b fb) : PFE X (.IfExp c a b pos) (fIfE ta fa fb) := pe_weak (pe_ifExp hc ha hb) fun σ H Q => by
  rintro ⟨W, ρ, M, rfl, sr, sl, d, M', hf, k⟩
  obtain ⟨⟨x, M1⟩, hx, hf⟩ := Option.bind_eq_some_iff.mp hf
  refine ⟨W, ρ, M, rfl, sr, sl, x, M1, hx, fun W1 e1 s1 => ?_⟩
  cases x with
  | false =>
    rw [if_neg Bool.false_ne_true] at hf ⊢
    exact ⟨W1, ρ, M1, rfl, s1, sl.ext e1 sr.sub, d, M', hf, fun W2 v e2 s2 r2 => k W2 v (e1.trans e2) s2 r2⟩
  | true =>
    rw [if_pos rfl] at hf ⊢
    exact ⟨W1, ρ, M1, rfl, s1, sl.ext e1 sr.sub, d, M', hf, fun W2 v e2 s2 r2 => k W2 v (e1.trans e2) s2 r2⟩
theorem pf_chain {op op' : CmpOp} {r r' : R2} {g g' : G2B} (ho : OpR X (compareOp op) r) (o : Op2 X.K r (gB g)) (ho' : OpR X (compareOp op') r') (o' : Op2 X.K r' (gB g')) (ha : PFE X a fa) (hb : PFE X b fb) (hc : PFE X c fc)
    (hm : lastMarks [op, op'] [b, c] = false := by with_unfolding_all rfl) : PFE X (.Compare a [op, op'] [b, c] pos) (fChain g g' fa fb fc) := pe_weak (pe_chain ho ho' ha hb hc hm) fun σ H Q => by
  rintro ⟨W, ρ, M, rfl, sr, sl, d, M', hf, k⟩
  obtain ⟨⟨x, M1⟩, hx, hf⟩ := Option.bind_eq_some_iff.mp hf
  obtain ⟨⟨y, M2⟩, hy, hf⟩ := Option.bind_eq_some_iff.mp hf
  obtain ⟨t, ht, hf⟩ := Option.bind_eq_some_iff.mp hf
  refine ⟨W, ρ, M, rfl, sr, sl, x, M1, hx, fun W1 v e1 s1 r1 => ⟨W1, ρ, M1, rfl, s1, sl.ext e1 sr.sub, y, M2, hy, fun W2 u e2 s2 r2 => ?_⟩⟩
  refine o W2 M2 x y (.bl t) v u _ s2 (r1.ext e2 s1.sub) r2 (by rw [gB, ht]; rfl) fun W3 z e3 s3 r3 => ⟨t, r3, ?_⟩
  cases t with
  | false =>
    rw [if_neg Bool.false_ne_true] at hf ⊢
    cases hf
    exact k W3 _ ((e1.trans e2).trans e3) s3 rfl
  | true =>
    rw [if_pos rfl] at hf ⊢
    obtain ⟨⟨z', M3⟩, hz, hf⟩ := Option.bind_eq_some_iff.mp hf
    obtain ⟨t', ht', hf⟩ := Option.bind_eq_some_iff.mp hf
    cases hf
    exact ⟨W3, ρ, M2, rfl, s3, sl.ext ((e1.trans e2).trans e3) sr.sub, z', _, hz, fun W4 q e4 s4 r4 => o' W4 _ y z' (.bl t') u q _ s4 (r2.ext (e3.trans e4) s2.sub) r4 (by rw [gB, ht']; rfl) fun W5 q' e5 s5 r5 => k W5 q' (((e1.trans e2).trans e3).trans (e4.trans e5)) s5 r5⟩
theorem pft_chain {op op' : CmpOp} {r r' : R2} {g g' : G2B} (ho : OpR X (compareOp op) r) (o : Op2 X.K r (gB g)) (ho' : OpR X (compareOp op') r') (o' : Op2 X.K r' (gB g')) (ha : PFE X a fa) (hb : PFE X b fb) (hc : PFE X c fc)
    (hm : lastMarks [op, op'] [b, c] = false := by with_unfolding_all rfl) : PFT X (.Compare a [op, op'] [b, c] pos) (fChainT g g' fa fb fc) := pt_weak (pt_chain ho ho' ha hb hc hm) fun σ H Q => by
  rintro ⟨W, ρ, M, rfl, sr, sl, d, M', hf, k⟩
  obtain ⟨⟨x, M1⟩, hx, hf⟩ := Option.bind_eq_some_iff.mp hf
  obtain ⟨⟨y, M2⟩, hy, hf⟩ := Option.bind_eq_some_iff.mp hf
  obtain ⟨t, ht, hf⟩ := Option.bind_eq_some_iff.mp hf
  refine ⟨W, ρ, M, rfl, sr, sl, x, M1, hx, fun W1 v e1 s1 r1 => ⟨W1, ρ, M1, rfl, s1, sl.ext e1 sr.sub, y, M2, hy, fun W2 u e2 s2 r2 => ?_⟩⟩
  refine o W2 M2 x y (.bl t) v u _ s2 (r1.ext e2 s1.sub) r2 (by rw [gB, ht]; rfl) fun W3 z e3 s3 r3 => ⟨t, r3, ?_⟩
  cases t with
  | false =>
    rw [if_neg Bool.false_ne_true] at hf ⊢
    cases hf
    exact ⟨false, rfl, k W3 ((e1.trans e2).trans e3) s3⟩
  | true =>
    rw [if_pos rfl] at hf ⊢
    obtain ⟨⟨z', M3⟩, hz, hf⟩ := Option.bind_eq_some_iff.mp hf
    obtain ⟨t', ht', hf⟩ := Option.bind_eq_some_iff.mp hf
    cases hf
    exact ⟨W3, ρ, M2, rfl, s3, sl.ext ((e1.trans e2).trans e3) sr.sub, z', _, hz, fun W4 q e4 s4 r4 => o' W4 _ y z' (.bl _) u q _ s4 (r2.ext (e3.trans e4) s2.sub) r4 (by rw [gB, ht']; rfl) fun W5 q' e5 s5 r5 => ⟨_, r5, k W5 (((e1.trans e2).trans e3).trans (e4.trans e5)) s5⟩⟩
end
/-! ### argument lists, displays, slices -/
def fNil : FA := fun _ M => some ([], M)
def fCons (fa : FE) (fr : FA) : FA := fun ρ M => (fa ρ M).bind fun a => (fr ρ a.2).bind fun r => some (a.1 :: r.1, r.2)
def fTup (f : FA) : FE := fun ρ M => (f ρ M).bind fun a => if a.1.length ≤ LINE then some (.tup a.1, a.2) else none
def fLstD (f : FA) : FA := fun ρ M => (f ρ M).bind fun a => if a.1.length ≤ LINE then some a else none
def fFz (f : FA) : FE := fun ρ M => (f ρ M).bind fun a => some (.lst a.1, a.2)
def fMut (f : FA) : FE := fun ρ M => (f ρ M).bind fun a => some (.ref a.2.length, a.2 ++ [.lst a.1])
abbrev FO := Rho → Mem → Option (Option Int × Mem)
def liftO (K : PySem.W.Frag) (f : FO) : TO := fun σ H Q => ∃ W ρ M, W.H = H ∧ SR K W M ∧ Sl K W ρ σ ∧ ∃ d M', f ρ M = some (d, M') ∧ ∀ W', Ext W W' → SR K W' M' → Q d W'.H
abbrev PFO (X : Cx) (e : Option Expr) (f : FO) : Prop := PO X e (liftO X.K f)
def fNoPart : FO := fun _ M => some (none, M)
def fPart (fa : FE) : FO := fun ρ M => (fa ρ M).bind fun a => match a.1 with | .int i => some (some i, a.2) | _ => none
def cutD (xs : List D) (lo hi : Option Int) : List D := (xs.drop (HT.sIx xs.length 0 lo)).take (HT.sIx xs.length xs.length hi - HT.sIx xs.length 0 lo)
def gSlice (x : D) (lo hi : Option Int) (M : Mem) : Option D := match x with
  | .tup xs => some (.tup (cutD xs lo hi))
  | x => (lsOf x M).map fun xs => .lst (cutD xs lo hi)
def fSlice (fa : FE) (fl fh : FO) : FE := fun ρ M => (fa ρ M).bind fun a => (fl ρ a.2).bind fun l => (fh ρ l.2).bind fun h => (gSlice a.1 l.1 h.1 h.2).bind fun d => some (d, h.2)
def fSliceN (fa : FE) (fl fh : FO) : FA := fun ρ M => (fa ρ M).bind fun a => (fl ρ a.2).bind fun l => (fh ρ l.2).bind fun h => (lsOf a.1 h.2).bind fun d => some (cutD d l.1 h.1, h.2)
section
variable {X : Cx} {a b c : Expr} {es : List Expr} {fa fb fc : FE} {f : FA} {pos : Pos}
theorem pfa_nil : PFA X [] fNil := pa_weak pa_nil fun σ H Q => by
  rintro ⟨W, ρ, M, rfl, sr, sl, d, M', hf, k⟩
  cases hf
  exact k W [] (.refl W) sr rfl
theorem pfa_cons (ha : PFE X a fa) (hr : PFA X es f) (hs : starEach (a :: es) X.env = (false, eval a X.env) :: starEach es X.env := by rfl) : PFA X (a :: es) (fCons fa f) := pa_weak (pa_cons ha hr hs) fun σ H Q => by
  rintro ⟨W, ρ, M, rfl, sr, sl, d, M', hf, k⟩
  obtain ⟨⟨x, M1⟩, hx, hf⟩ := Option.bind_eq_some_iff.mp hf
  obtain ⟨⟨r, M2⟩, hr, hf⟩ := Option.bind_eq_some_iff.mp hf
  cases hf
  exact ⟨W, ρ, M, rfl, sr, sl, x, M1, hx, fun W1 v e1 s1 r1 => ⟨W1, ρ, M1, rfl, s1, sl.ext e1 sr.sub, r, _, hr, fun W2 vs e2 s2 r2 => k W2 (v :: vs) (e1.trans e2) s2 ⟨v, vs, rfl, r1.ext e2 s1.sub, r2⟩⟩⟩
theorem pf_tup {x1} (h : PFA X es f) : PFE X (.Tuple es x1 pos) (fTup f) := pe_weak (pe_tup h) fun σ H Q => by
  rintro ⟨W, ρ, M, rfl, sr, sl, d, M', hf, k⟩
  obtain ⟨⟨x, M1⟩, hx, hf⟩ := Option.bind_eq_some_iff.mp hf
  split at hf
  · rename_i hl
    cases hf
    exact ⟨W, ρ, M, rfl, sr, sl, x, _, hx, fun W1 vs e1 s1 r1 => ⟨by rw [line_eq, ← r1.len]; exact hl, fun p hp => k _ _ (e1.trans (Ext.put hp)) (s1.put hp) (.newTup s1 hp r1 (by rw [← r1.len]; exact hl))⟩⟩
  · cases hf
theorem pfn_lst (h : PFA X es f) : PFN X (.List es pos) (fLstD f) := pe_weak (pe_lst h) fun σ H Q => by
  rintro ⟨W, ρ, M, rfl, sr, sl, d, M', hf, k⟩
  obtain ⟨⟨x, M1⟩, hx, hf⟩ := Option.bind_eq_some_iff.mp hf
  split at hf
  · rename_i hl
    cases hf
    exact ⟨W, ρ, M, rfl, sr, sl, d, _, hx, fun W1 vs e1 s1 r1 => ⟨by rw [line_eq, ← r1.len]; exact hl, fun p hp => k W1 p vs e1 s1 hp r1 (by rw [← r1.len]; exact hl)⟩⟩
  · cases hf
theorem pf_fz (h : PFN X a f) : PFE X a (fFz f) := pe_weak h fun σ H Q => by
  rintro ⟨W, ρ, M, rfl, sr, sl, d, M', hf, k⟩
  obtain ⟨⟨x, M1⟩, hx, hf⟩ := Option.bind_eq_some_iff.mp hf
  cases hf
  exact ⟨W, ρ, M, rfl, sr, sl, x, _, hx, fun W1 p vs e1 s1 hp r1 hl => k _ _ (e1.trans (Ext.put hp)) (s1.put hp) (.newLst s1 hp r1 hl)⟩
theorem pf_mut (h : PFN X a f) : PFE X a (fMut f) := pe_weak h fun σ H Q => by
  rintro ⟨W, ρ, M, rfl, sr, sl, d, M', hf, k⟩
  obtain ⟨⟨x, M1⟩, hx, hf⟩ := Option.bind_eq_some_iff.mp hf
  cases hf
  exact ⟨W, ρ, M, rfl, sr, sl, x, _, hx, fun W1 p vs e1 s1 hp r1 hl => k _ _ (e1.trans (Ext.mk2 hp)) (s1.mk2 hp r1 hl) (.mk2 s1)⟩
theorem po_weak {e : Option Expr} {t t' : TO} (h : PO X e t) (i : ∀ σ H Q, t' σ H Q → t σ H Q) : PO X e t' := ⟨fun pins s σ H Q I q => h.run pins s σ H Q I (i σ H Q q)⟩
theorem pfo_none : PFO X none fNoPart := po_weak po_none fun σ H Q => by
  rintro ⟨W, ρ, M, rfl, sr, sl, d, M', hf, k⟩
  cases hf
  exact k W (.refl W) sr
theorem pfo_some (ha : PFE X a fa) : PFO X (some a) (fPart fa) := po_weak (po_some ha) fun σ H Q => by
  rintro ⟨W, ρ, M, rfl, sr, sl, d, M', hf, k⟩
  obtain ⟨⟨x, M1⟩, hx, hf⟩ := Option.bind_eq_some_iff.mp hf
  dsimp only at hf
  split at hf
  · cases hf
    exact ⟨W, ρ, M, rfl, sr, sl, _, _, hx, fun W1 v e1 s1 r1 => ⟨_, r1, k W1 e1 s1⟩⟩
  · cases hf
theorem RpL.cut {K : PySem.W.Frag} {W : Wo} {xs : List D} {vs : List V} (h : RpL K W xs vs) (lo hi : Option Int) : RpL K W (cutD xs lo hi) (cutV vs lo hi) := by
  unfold cutD cutV
  rw [h.len]
  exact (h.drop _).take _
theorem cut_len (vs : List V) (lo hi : Option Int) (h : vs.length ≤ LINE) : (cutV vs lo hi).length ≤ LINE := Nat.le_trans (cutV_length vs lo hi) h
def rSlice (K : PySem.W.Frag) : V → Option Int → Option Int → Hp → VK → Prop := fun x lo hi H Q => rSlA K x lo hi H Q ∨ rSlL K x lo hi H Q
theorem sl_any : SlR X (rSlice X.K) := sl_tupA.or sl_list
theorem pf_slice {lo hi : Option Expr} {fl fh : FO} {p2 : Pos} (ha : PFE X a fa) (hl : PFO X lo fl) (hh : PFO X hi fh) : PFE X (.Subscript a (.Slice lo hi none p2) pos) (fSlice fa fl fh) := pe_weak (pe_slice sl_any ha hl hh) fun σ H Q => by
  rintro ⟨W, ρ, M, rfl, sr, sl, d, M', hf, k⟩
  obtain ⟨⟨x, M1⟩, hx, hf⟩ := Option.bind_eq_some_iff.mp hf
  obtain ⟨⟨l, M2⟩, hl, hf⟩ := Option.bind_eq_some_iff.mp hf
  obtain ⟨⟨h, M3⟩, hh, hf⟩ := Option.bind_eq_some_iff.mp hf
  obtain ⟨d', hd, hf⟩ := Option.bind_eq_some_iff.mp hf
  cases hf
  refine ⟨W, ρ, M, rfl, sr, sl, x, M1, hx, fun W1 v e1 s1 r1 => ⟨W1, ρ, M1, rfl, s1, sl.ext e1 sr.sub, l, M2, hl, fun W2 e2 s2 => ⟨W2, ρ, M2, rfl, s2, sl.ext (e1.trans e2) sr.sub, h, _, hh, fun W3 e3 s3 => ?_⟩⟩⟩
  have r3 := r1.ext (e2.trans e3) s1.sub
  have e123 := e1.trans (e2.trans e3)
  have lists : (lsOf x M3).map (fun xs => D.lst (cutD xs l h)) = some d → rSlice X.K v l h W3.H Q := fun e => by
    obtain ⟨xs, hx, e⟩ := Option.map_eq_some_iff.mp e
    subst e
    obtain ⟨p, vs, rfl, h1, q1⟩ := ls_sq s3 r3 hx
    exact .inr ⟨p, vs, rfl, h1, fun t nt => k _ _ (e123.trans (Ext.put nt)) (s3.put nt) (.newLst s3 nt (q1.cut l h) (cut_len _ _ _ (by rw [← q1.len]; exact ls_len s3 r3 hx)))⟩
  cases x with
  | tup xs =>
    cases hd
    obtain ⟨p, vs, rfl, h1, q1⟩ := tp_sq r3
    refine .inl ⟨p, vs, rfl, h1, fun e => ?_, fun _ t nt => k _ _ (e123.trans (Ext.put nt)) (s3.put nt) (.newTup s3 nt (q1.cut l h) (cut_len _ _ _ (by rw [← q1.len]; exact sq_len s3 r3 rfl)))⟩
    have ec : cutD xs l h = xs := by
      unfold cutD
      rw [q1.len, e.1, e.2, ← q1.len]
      simp
    exact k W3 _ e123 s3 (by rw [ec]; exact r3)
  | _ => exact lists hd
theorem pfn_slice {lo hi : Option Expr} {fl fh : FO} {p2 : Pos} (ha : PFE X a fa) (hl : PFO X lo fl) (hh : PFO X hi fh) : PFN X (.Subscript a (.Slice lo hi none p2) pos) (fSliceN fa fl fh) := pe_weak (pe_slice sl_list ha hl hh) fun σ H Q => by
  rintro ⟨W, ρ, M, rfl, sr, sl, d, M', hf, k⟩
  obtain ⟨⟨x, M1⟩, hx, hf⟩ := Option.bind_eq_some_iff.mp hf
  obtain ⟨⟨l, M2⟩, hl, hf⟩ := Option.bind_eq_some_iff.mp hf
  obtain ⟨⟨h, M3⟩, hh, hf⟩ := Option.bind_eq_some_iff.mp hf
  obtain ⟨d', hd, hf⟩ := Option.bind_eq_some_iff.mp hf
  cases hf
  refine ⟨W, ρ, M, rfl, sr, sl, x, M1, hx, fun W1 v e1 s1 r1 => ⟨W1, ρ, M1, rfl, s1, sl.ext e1 sr.sub, l, M2, hl, fun W2 e2 s2 => ⟨W2, ρ, M2, rfl, s2, sl.ext (e1.trans e2) sr.sub, h, _, hh, fun W3 e3 s3 => ?_⟩⟩⟩
  have r3 := r1.ext (e2.trans e3) s1.sub
  have hl := ls_len s3 r3 hd
  obtain ⟨p, vs, rfl, h1, q1⟩ := ls_sq s3 r3 hd
  exact ⟨p, vs, rfl, h1, fun t nt => k W3 t _ (e1.trans (e2.trans e3)) s3 nt (q1.cut l h) (cut_len _ _ _ (by rw [← q1.len]; exact hl))⟩
/-- xs[::-1] of a list -/
def fRevN (fa : FE) : FA := fun ρ M => (fa ρ M).bind fun a => (lsOf a.1 a.2).bind fun xs => some (xs.reverse, a.2)
theorem pfn_rev {k : Nat} {p1 p2 p3 pos : Pos} (ha : PFE X a fa) : PFN X (.Subscript a (.Slice none none (some (.UnaryOp .USub (.Constant (.int 1) k p1) p2)) p3) pos) (fRevN fa) := pe_weak (pe_revL ha) fun σ H Q => by
  rintro ⟨W, ρ, M, rfl, sr, sl, d, M', hf, k⟩
  obtain ⟨⟨x, M1⟩, hx, hf⟩ := Option.bind_eq_some_iff.mp hf
  obtain ⟨xs, hl, hf⟩ := Option.bind_eq_some_iff.mp hf
  cases hf
  refine ⟨W, ρ, M, rfl, sr, sl, x, _, hx, fun W1 v e1 s1 r1 => ?_⟩
  have hz := ls_len s1 r1 hl
  obtain ⟨p, vs, rfl, h1, q1⟩ := ls_sq s1 r1 hl
  exact ⟨p, vs, rfl, h1, fun t nt => k W1 t _ e1 s1 nt q1.reverse (by rw [List.length_reverse, ← q1.len]; exact hz)⟩
end
end PF
namespace PF
open PySem PySem.Spec PyProof.Rows L2
/-! ### equality of data, as a Bool -/
mutual
def D.beq : D → D → Bool
  | .non, .non => true
  | .bl a, .bl b => a == b
  | .int a, .int b => a == b
  | .str a, .str b => decide (a = b)
  | .tup a, .tup b => D.beqs a b
  | .lst a, .lst b => D.beqs a b
  | .kst a, .kst b => D.beqs a b
  | .ref a, .ref b => a == b
  | _, _ => false
def D.beqs : List D → List D → Bool
  | [], [] => true
  | a :: as, b :: bs => D.beq a b && D.beqs as bs
  | _, _ => false
end
mutual
theorem D.beq_refl : ∀ a : D, D.beq a a = true
  | .non => by simp [D.beq]
  | .bl _ => by simp [D.beq]
  | .int _ => by simp [D.beq]
  | .str _ => by simp [D.beq]
  | .ref _ => by simp [D.beq]
  | .tup xs => by rw [D.beq]; exact D.beqs_refl xs
  | .lst xs => by rw [D.beq]; exact D.beqs_refl xs
  | .kst xs => by rw [D.beq]; exact D.beqs_refl xs
theorem D.beqs_refl : ∀ a : List D, D.beqs a a = true
  | [] => by simp [D.beqs]
  | x :: xs => by rw [D.beqs, D.beq_refl x, D.beqs_refl xs]; rfl
end
mutual
theorem D.eq_of_beq : ∀ a b : D, D.beq a b = true → a = b
  | .non, b, h => by cases b <;> simp [D.beq] at h ⊢
  | .bl _, b, h => by cases b <;> simp [D.beq] at h ⊢ <;> exact h
  | .int _, b, h => by cases b <;> simp [D.beq] at h ⊢ <;> exact h
  | .str _, b, h => by cases b <;> simp [D.beq] at h ⊢ <;> exact h
  | .ref _, b, h => by cases b <;> simp [D.beq] at h ⊢ <;> exact h
  | .tup xs, b, h => by
    cases b with
    | tup ys => rw [D.beq] at h; rw [D.eqs_of_beqs xs ys h]
    | _ => simp [D.beq] at h
  | .lst xs, b, h => by
    cases b with
    | lst ys => rw [D.beq] at h; rw [D.eqs_of_beqs xs ys h]
    | _ => simp [D.beq] at h
  | .kst xs, b, h => by
    cases b with
    | kst ys => rw [D.beq] at h; rw [D.eqs_of_beqs xs ys h]
    | _ => simp [D.beq] at h
theorem D.eqs_of_beqs : ∀ a b : List D, D.beqs a b = true → a = b
  | [], [], _ => rfl
  | [], _ :: _, h => by simp [D.beqs] at h
  | _ :: _, [], h => by simp [D.beqs] at h
  | x :: xs, y :: ys, h => by
    rw [D.beqs, Bool.and_eq_true] at h
    rw [D.eq_of_beq x y h.1, D.eqs_of_beqs xs ys h.2]
end
/-! ### what statements compute, wanted at an end -/
def OutK (K : PySem.W.Frag) (E : Ends) (W : Wo) (M' : Mem) : Out → Prop
  | .nx ρ' => ∀ W' σ', Ext W W' → SR K W' M' → Sl K W' ρ' σ' → E.nx σ' W'.H
  | .bk ρ' => ∀ W' σ', Ext W W' → SR K W' M' → Sl K W' ρ' σ' → E.bk σ' W'.H
  | .ct ρ' => ∀ W' σ', Ext W W' → SR K W' M' → Sl K W' ρ' σ' → E.ct σ' W'.H
  | .ret d => ∀ W' v, Ext W W' → SR K W' M' → Rp K W' d v → E.rt v W'.H
theorem OutK.ext {K : PySem.W.Frag} {E : Ends} {W W1 : Wo} {M' : Mem} {o : Out} (e : Ext W W1) (h : OutK K E W M' o) : OutK K E W1 M' o := by
  cases o with
  | nx ρ => exact fun W' σ' e' => h W' σ' (e.trans e')
  | bk ρ => exact fun W' σ' e' => h W' σ' (e.trans e')
  | ct ρ => exact fun W' σ' e' => h W' σ' (e.trans e')
  | ret d => exact fun W' v e' => h W' v (e.trans e')
theorem liftS_iff {K : PySem.W.Frag} {f : FS} {E : Ends} {σ : L2.St} {H : Hp} : liftS K f E σ H ↔ ∃ W ρ M, W.H = H ∧ SR K W M ∧ Sl K W ρ σ ∧ ∃ o M', f ρ M = some (o, M') ∧ OutK K E W M' o := by
  constructor
  · rintro ⟨W, ρ, M, h1, h2, h3, o, M', hf, k⟩
    refine ⟨W, ρ, M, h1, h2, h3, o, M', hf, ?_⟩
    cases o <;> exact k
  · rintro ⟨W, ρ, M, h1, h2, h3, o, M', hf, k⟩
    refine ⟨W, ρ, M, h1, h2, h3, o, M', hf, ?_⟩
    cases o <;> exact k
theorem sl_set {K : PySem.W.Frag} {W : Wo} {ρ : Rho} {σ : L2.St} {i : Nat} {d : D} {v : V} (h : Sl K W ρ σ) (r : Rp K W d v) : Sl K W (ρ.set i (some d)) (σ.set i (some v)) := by
  refine ⟨by rw [List.length_set, List.length_set]; exact h.len, fun j e hj => ?_⟩
  by_cases hji : j = i
  · subst hji
    have hl : j < ρ.length := by
      have := (List.getElem?_eq_some_iff.mp hj).1
      rw [List.length_set] at this; exact this
    rw [List.getElem?_set_self hl] at hj
    cases hj
    exact ⟨v, by rw [List.getElem?_set_self (by rw [← h.len]; exact hl)], r⟩
  · rw [List.getElem?_set_ne (Ne.symm hji)] at hj ⊢
    exact h.at_ j e hj
/-! ### targets -/
abbrev FG := D → Rho → Option Rho
abbrev FGs := List D → Rho → Option Rho
/-- vs: the slots that the target may change -/
def liftG (K : PySem.W.Frag) (vs : List Nat) (t : FG) : TG := fun v σ H Q => ∃ W ρ M d, W.H = H ∧ SR K W M ∧ Sl K W ρ σ ∧ Rp K W d v ∧ ∃ ρ', t d ρ = some ρ' ∧ ∀ W' σ', Ext W W' → SR K W' M → Sl K W' ρ' σ' → wipe σ' vs = wipe σ vs → Q σ' W'.H
def liftGs (K : PySem.W.Frag) (vs : List Nat) (t : FGs) : TGs := fun v σ H Q => ∃ W ρ M d, W.H = H ∧ SR K W M ∧ Sl K W ρ σ ∧ RpL K W d v ∧ ∃ ρ', t d ρ = some ρ' ∧ ∀ W' σ', Ext W W' → SR K W' M → Sl K W' ρ' σ' → wipe σ' vs = wipe σ vs → Q σ' W'.H
abbrev PFG (X : Cx) (vs : List Nat) (e : Expr) (t : FG) : Prop := PG X e (liftG X.K vs t)
abbrev PFGs (X : Cx) (vs : List Nat) (e : List Expr) (t : FGs) : Prop := PGs X e (liftGs X.K vs t)
def tN (i : Nat) : FG := fun d ρ => some (ρ.set i (some d))
def tT (n : Nat) (t : FGs) : FG := fun d ρ => match d with | .tup xs => if xs.length = n then t xs ρ else none | _ => none
def tsN : FGs := fun ds ρ => match ds with | [] => some ρ | _ => none
def tsC (t : FG) (u : FGs) : FGs := fun ds ρ => match ds with | d :: r => (t d ρ).bind fun ρ' => u r ρ' | [] => none
theorem wipe_set_in {i : Nat} {v : Option V} : ∀ {vs : List Nat} {σ : L2.St}, i ∈ vs → wipe (σ.set i v) vs = wipe σ vs
  | [], _, h => by simp at h
  | w :: vs, σ, h => by
    unfold wipe
    by_cases hw : i ∈ vs
    · rw [wipe_set_in hw]
    · have e : i = w := by
        rcases List.mem_cons.mp h with e | h
        · exact e
        · exact absurd h hw
      subst e
      have out : ∀ (ws : List Nat) (σ : L2.St), i ∉ ws → wipe (σ.set i v) ws = (wipe σ ws).set i v := by
        intro ws
        induction ws with
        | nil => intro σ _; rfl
        | cons z zs ih =>
          intro σ hz
          unfold wipe
          rw [ih σ fun q => hz (List.mem_cons_of_mem _ q), List.set_comm _ _ (fun q => hz (by rw [q]; exact List.mem_cons_self))]
      rw [out vs σ hw, List.set_set]
section
variable {X : Cx} {pos : Pos} {vs : List Nat}
theorem pg_weak {e : Expr} {t t' : TG} (h : PG X e t) (i : ∀ v σ H Q, t' v σ H Q → t v σ H Q) : PG X e t' := ⟨fun pins s σ H v u Q I r q => h.run pins s σ H v u Q I r (i v σ H Q q)⟩
theorem pgs_weak {e : List Expr} {t t' : TGs} (h : PGs X e t) (i : ∀ v σ H Q, t' v σ H Q → t v σ H Q) : PGs X e t' := ⟨fun pins s σ H v u Q I r q => h.run pins s σ H v u Q I r (i v σ H Q q)⟩
theorem pfg_name {i : Nat} {x : Str} (hN : X.N.Nodup) (hi : X.N[i]? = some x) (hx : Loc X.env.scope x) (hv : i ∈ vs := by decide) (hf : X.fn x = true ∨ X.env.scope.names.lookup x = some .local := by first | exact .inl rfl | exact .inr rfl | assumption) : PFG X vs (.Name x pos) (tN i) := pg_weak (pg_name hN hi hx hf) fun v σ H Q => by
  rintro ⟨W, ρ, M, d, rfl, sr, sl, r, ρ', ht, k⟩
  cases ht
  exact k W _ (.refl W) sr (sl_set sl r) (wipe_set_in hv)
theorem pfgs_nil : PFGs X vs [] tsN := pgs_weak pgs_nil fun v σ H Q => by
  rintro ⟨W, ρ, M, d, rfl, sr, sl, r, ρ', ht, k⟩
  unfold tsN at ht
  split at ht
  · cases ht
    cases (show _ = _ from r)
    exact ⟨rfl, k W _ (.refl W) sr sl rfl⟩
  · cases ht
theorem pfgs_cons {e : Expr} {es : List Expr} {t : FG} {u : FGs} (h1 : PFG X vs e t) (h2 : PFGs X vs es u) (hs : (assignEach (e :: es) X.env).map (·.2) = assign e X.env :: (assignEach es X.env).map (·.2) := by rfl) : PFGs X vs (e :: es) (tsC t u) := pgs_weak (pgs_cons h1 h2 hs) fun v σ H Q => by
  rintro ⟨W, ρ, M, d, rfl, sr, sl, r, ρ', ht, k⟩
  unfold tsC at ht
  split at ht
  · obtain ⟨ρ1, h1, h2⟩ := Option.bind_eq_some_iff.mp ht
    obtain ⟨v1, vr, rfl, q1, q2⟩ := r
    exact ⟨v1, vr, rfl, W, ρ, M, _, rfl, sr, sl, q1, ρ1, h1, fun W1 σ1 e1 s1 l1 w1 => ⟨W1, ρ1, M, _, rfl, s1, l1, q2.ext e1 sr.sub, ρ', h2, fun W2 σ2 e2 s2 l2 w2 => k W2 σ2 (e1.trans e2) s2 l2 (w2.trans w1)⟩⟩
  · cases ht
theorem pfg_tup {es : List Expr} {k : Nat} {t : FGs} {n : Nat} (hc : X.calm = true) (h : PFGs X vs es t) (hn : (assignEach es X.env).length = n := by rfl) (hst : (assignEach es X.env).findIdx? (·.1) = none := by rfl) : PFG X vs (.Tuple es k pos) (tT n t) := pg_weak (pg_tup hc h hn hst) fun v σ H Q => by
  rintro ⟨W, ρ, M, d, rfl, sr, sl, r, ρ', ht, k⟩
  unfold tT at ht
  split at ht
  · split at ht
    · rename_i hl
      obtain ⟨a, vs, rfl, h1, q1⟩ := tp_sq r
      exact ⟨a, vs, rfl, h1, by rw [← q1.len]; exact hl, W, ρ, M, _, rfl, sr, sl, q1, ρ', ht, k⟩
    · cases ht
  · cases ht
end
/-! ### statements -/
def sNext : FS := fun ρ M => some (.nx ρ, M)
def sSeq (f g : FS) : FS := fun ρ M => (f ρ M).bind fun o => match o.1 with | .nx ρ' => g ρ' o.2 | _ => some o
def sBreak : FS := fun ρ M => some (.bk ρ, M)
def sCont : FS := fun ρ M => some (.ct ρ, M)
def sDrop (f : FE) : FS := fun ρ M => (f ρ M).bind fun a => some (.nx ρ, a.2)
def sRet (f : FE) : FS := fun ρ M => (f ρ M).bind fun a => some (.ret a.1, a.2)
def sRetN : FS := fun _ M => some (.ret .non, M)
def sIf (c : FT) (f g : FS) : FS := fun ρ M => (c ρ M).bind fun a => if a.1 = true then f ρ a.2 else g ρ a.2
def sSet (i : Nat) (f : FE) : FS := fun ρ M => (f ρ M).bind fun a => some (.nx (ρ.set i (some a.1)), a.2)
def sAsg (f : FE) (t : FG) : FS := fun ρ M => (f ρ M).bind fun a => (t a.1 ρ).bind fun ρ' => some (.nx ρ', a.2)
def sPar (i j : Nat) (f : FA) : FS := fun ρ M => (f ρ M).bind fun a => match a.1 with | [x, y] => some (.nx ((ρ.set i (some x)).set j (some y)), a.2) | _ => none
def sPar3 (i j l : Nat) (f : FA) : FS := fun ρ M => (f ρ M).bind fun a => match a.1 with | [x, y, z] => some (.nx (((ρ.set i (some x)).set j (some y)).set l (some z)), a.2) | _ => none
abbrev G2M := D → D → Mem → Option (D × Mem)
def sAug (i : Nat) (g : G2M) (f : FE) : FS := fun ρ M => match ρ[i]? with | some (some x) => (f ρ M).bind fun a => (g x a.1 a.2).bind fun z => some (.nx (ρ.set i (some z.1)), z.2) | _ => none
def Op2M (K : PySem.W.Frag) (r : R2) (g : G2M) : Prop := ∀ (W : Wo) (M M' : Mem) (x y d : D) (v u : V) (Q : VK), SR K W M → Rp K W x v → Rp K W y u → g x y M = some (d, M') →
  (∀ W' v', Ext W W' → SR K W' M' → Rp K W' d v' → Q v' W'.H) → r v u W.H Q
section
variable {X : Cx} {st : Stmt} {rest : List Stmt} {f g : FS} {e : Expr} {fe : FE} {pos : Pos}
theorem pfs_nil : PFSs X [] sNext := pss_weak pss_nil fun E σ H => by
  rw [liftS_iff]
  rintro ⟨W, ρ, M, rfl, sr, sl, o, M', hf, k⟩
  cases hf
  exact k W σ (.refl W) sr sl
theorem pfs_cons (h1 : PFS X st f) (h2 : PFSs X rest g) : PFSs X (st :: rest) (sSeq f g) := pss_weak (pss_cons h1 h2) fun E σ H => by
  rw [liftS_iff]
  rintro ⟨W, ρ, M, rfl, sr, sl, o, M', hf, k⟩
  obtain ⟨⟨o1, M1⟩, h1, hf⟩ := Option.bind_eq_some_iff.mp hf
  show liftS X.K f _ σ W.H
  rw [liftS_iff]
  refine ⟨W, ρ, M, rfl, sr, sl, o1, M1, h1, ?_⟩
  cases o1 with
  | nx ρ1 =>
    intro W1 σ1 e1 s1 l1
    exact liftS_iff.mpr ⟨W1, ρ1, M1, rfl, s1, l1, o, M', hf, k.ext e1⟩
  | ret d => cases hf; exact k
  | bk d => cases hf; exact k
  | ct d => cases hf; exact k
theorem pfs_one (h1 : PFS X st f) : PFSs X [st] f := pss_one h1
theorem pfs_pass : PFS X (.Pass pos) sNext := ps_weak ps_pass fun E σ H => by
  rw [liftS_iff]
  rintro ⟨W, ρ, M, rfl, sr, sl, o, M', hf, k⟩
  cases hf
  exact k W σ (.refl W) sr sl
theorem pfs_break : PFS X (.Break pos) sBreak := ps_weak ps_break fun E σ H => by
  rw [liftS_iff]
  rintro ⟨W, ρ, M, rfl, sr, sl, o, M', hf, k⟩
  cases hf
  exact k W σ (.refl W) sr sl
theorem pfs_continue : PFS X (.Continue pos) sCont := ps_weak ps_continue fun E σ H => by
  rw [liftS_iff]
  rintro ⟨W, ρ, M, rfl, sr, sl, o, M', hf, k⟩
  cases hf
  exact k W σ (.refl W) sr sl
theorem pfs_doc {x j pos pos'} : PFS X (.Expr (.Constant (.str x) j pos) pos') sNext := ps_weak ps_doc fun E σ H => by
  rw [liftS_iff]
  rintro ⟨W, ρ, M, rfl, sr, sl, o, M', hf, k⟩
  cases hf
  exact k W σ (.refl W) sr sl
theorem pfs_expr (he : PFE X e fe) (hs : swapsWith e none pos.line X.env = pure false := by rfl) : PFS X (.Expr e pos) (sDrop fe) := ps_weak (ps_expr he hs) fun E σ H => by
  rw [liftS_iff]
  rintro ⟨W, ρ, M, rfl, sr, sl, o, M', hf, k⟩
  obtain ⟨⟨x, M1⟩, hx, hf⟩ := Option.bind_eq_some_iff.mp hf
  cases hf
  exact ⟨W, ρ, M, rfl, sr, sl, x, _, hx, fun W1 v e1 s1 r1 => k W1 σ e1 s1 (sl.ext e1 sr.sub)⟩
theorem pfs_ret (he : PFE X e fe) : PFS X (.Return (some e) pos) (sRet fe) := ps_weak (ps_ret he) fun E σ H => by
  rw [liftS_iff]
  rintro ⟨W, ρ, M, rfl, sr, sl, o, M', hf, k⟩
  obtain ⟨⟨x, M1⟩, hx, hf⟩ := Option.bind_eq_some_iff.mp hf
  cases hf
  exact ⟨W, ρ, M, rfl, sr, sl, x, _, hx, fun W1 v e1 s1 r1 => k W1 v e1 s1 r1⟩
theorem pfs_retN : PFS X (.Return none pos) sRetN := ps_weak ps_retN fun E σ H => by
  rw [liftS_iff]
  rintro ⟨W, ρ, M, rfl, sr, sl, o, M', hf, k⟩
  cases hf
  exact k W .non (.refl W) sr rfl
theorem pfs_if {c : Expr} {a b : List Stmt} {fc : FT} (hc : PFT X c fc) (ha : PFSs X a f) (hb : PFSs X b g) : PFS X (.If c a b pos) (sIf fc f g) := ps_weak (ps_if hc ha hb) fun E σ H => by
  rw [liftS_iff]
  rintro ⟨W, ρ, M, rfl, sr, sl, o, M', hf, k⟩
  obtain ⟨⟨x, M1⟩, hx, hf⟩ := Option.bind_eq_some_iff.mp hf
  refine ⟨W, ρ, M, rfl, sr, sl, x, M1, hx, fun W1 e1 s1 => ?_⟩
  cases x with
  | true =>
    rw [if_pos rfl] at hf ⊢
    exact liftS_iff.mpr ⟨W1, ρ, M1, rfl, s1, sl.ext e1 sr.sub, o, M', hf, k.ext e1⟩
  | false =>
    rw [if_neg Bool.false_ne_true] at hf ⊢
    exact liftS_iff.mpr ⟨W1, ρ, M1, rfl, s1, sl.ext e1 sr.sub, o, M', hf, k.ext e1⟩
theorem pfs_set {i : Nat} {x : Str} {pos' : Pos} (hN : X.N.Nodup) (hi : X.N[i]? = some x) (hx : Loc X.env.scope x) (he : PFE X e fe) (hs : swapsWith e (some (.Name x pos')) pos.line X.env = pure false := by rfl) (hf : X.fn x = true ∨ X.env.scope.names.lookup x = some .local := by first | exact .inl rfl | exact .inr rfl | assumption) :
    PFS X (.Assign [.Name x pos'] e pos) (sSet i fe) := ps_weak (ps_set hN hi hx he hs hf) fun E σ H => by
  rw [liftS_iff]
  rintro ⟨W, ρ, M, rfl, sr, sl, o, M', hf, k⟩
  obtain ⟨⟨x, M1⟩, hx, hf⟩ := Option.bind_eq_some_iff.mp hf
  cases hf
  exact ⟨W, ρ, M, rfl, sr, sl, x, _, hx, fun W1 v e1 s1 r1 => k W1 _ e1 s1 (sl_set (sl.ext e1 sr.sub) r1)⟩
theorem pfs_asg {tg : Expr} {t : FG} {vs : List Nat} (he : PFE X e fe) (hg : PFG X vs tg t) (hs : swapsWithSole [tg] e pos.line X.env = pure false := by rfl) (hw : swappedStores [tg] e X.env = pure none := by rfl)
    (h1 : (assignEach [tg] X.env).map (·.2) = [assign tg X.env] := by rfl) : PFS X (.Assign [tg] e pos) (sAsg fe t) := ps_weak (ps_asg he hg hs hw h1) fun E σ H => by
  rw [liftS_iff]
  rintro ⟨W, ρ, M, rfl, sr, sl, o, M', hf, k⟩
  obtain ⟨⟨x, M1⟩, hx, hf⟩ := Option.bind_eq_some_iff.mp hf
  obtain ⟨ρ', ht, hf⟩ := Option.bind_eq_some_iff.mp hf
  cases hf
  exact ⟨W, ρ, M, rfl, sr, sl, x, _, hx, fun W1 v e1 s1 r1 => ⟨W1, ρ, _, x, rfl, s1, sl.ext e1 sr.sub, r1, ρ', ht, fun W2 σ2 e2 s2 l2 _ => k W2 σ2 (e1.trans e2) s2 l2⟩⟩
theorem pfs_par {i j : Nat} {x y : Str} {a b : Expr} {fa : FA} {px py pt : Pos} {kt k2 pt2} (hc : X.calm = true) (hN : X.N.Nodup) (hi : X.N[i]? = some x) (hj : X.N[j]? = some y) (hij : i ≠ j)
    (hx : X.env.scope.names.lookup x = some .local) (hy : X.env.scope.names.lookup y = some .local) (ha : PFA X [a, b] fa)
    (hw : swappedStores [.Tuple [.Name x px, .Name y py] kt pt] (.Tuple [a, b] k2 pt2) X.env = pure (some [x, y]))
    (hs : swapsWithSole [.Tuple [.Name x px, .Name y py] kt pt] (.Tuple [a, b] k2 pt2) pos.line X.env = pure false := by rfl) :
    PFS X (.Assign [.Tuple [.Name x px, .Name y py] kt pt] (.Tuple [a, b] k2 pt2) pos) (sPar i j fa) := ps_weak (ps_par hc hN hi hj hij hx hy ha hw hs) fun E σ H => by
  rw [liftS_iff]
  rintro ⟨W, ρ, M, rfl, sr, sl, o, M', hf, k⟩
  obtain ⟨⟨x, M1⟩, hx, hf⟩ := Option.bind_eq_some_iff.mp hf
  dsimp only at hf
  split at hf
  · cases hf
    refine ⟨W, ρ, M, rfl, sr, sl, _, _, hx, fun W1 v e1 s1 r1 => ?_⟩
    obtain ⟨v1, r, rfl, q1, v2, r', rfl, q2, q3⟩ := r1
    cases (show _ = _ from q3)
    exact ⟨v1, v2, rfl, k W1 _ e1 s1 (sl_set (sl_set (sl.ext e1 sr.sub) q1) q2)⟩
  · cases hf
theorem pfs_par3 {i j l : Nat} {x y z : Str} {a b c : Expr} {fa : FA} {px py pz pt : Pos} {kt k2 pt2} (hc : X.calm = true) (hN : X.N.Nodup) (hi : X.N[i]? = some x) (hj : X.N[j]? = some y) (hl : X.N[l]? = some z) (hij : i ≠ j) (hil : i ≠ l) (hjl : j ≠ l)
    (hx : X.env.scope.names.lookup x = some .local) (hy : X.env.scope.names.lookup y = some .local) (hz : X.env.scope.names.lookup z = some .local) (ha : PFA X [a, b, c] fa)
    (hw : swappedStores [.Tuple [.Name x px, .Name y py, .Name z pz] kt pt] (.Tuple [a, b, c] k2 pt2) X.env = pure (some [x, y, z]))
    (hs : swapsWithSole [.Tuple [.Name x px, .Name y py, .Name z pz] kt pt] (.Tuple [a, b, c] k2 pt2) pos.line X.env = pure false := by rfl) :
    PFS X (.Assign [.Tuple [.Name x px, .Name y py, .Name z pz] kt pt] (.Tuple [a, b, c] k2 pt2) pos) (sPar3 i j l fa) := ps_weak (ps_par3 hc hN hi hj hl hij hil hjl hx hy hz ha hw hs) fun E σ H => by
  rw [liftS_iff]
  rintro ⟨W, ρ, M, rfl, sr, sl, o, M', hf, k⟩
  obtain ⟨⟨x, M1⟩, hx, hf⟩ := Option.bind_eq_some_iff.mp hf
  dsimp only at hf
  split at hf
  · cases hf
    refine ⟨W, ρ, M, rfl, sr, sl, _, _, hx, fun W1 v e1 s1 r1 => ?_⟩
    obtain ⟨v1, r, rfl, q1, v2, r', rfl, q2, v3, r'', rfl, q3, q4⟩ := r1
    cases (show _ = _ from q4)
    exact ⟨v1, v2, v3, rfl, k W1 _ e1 s1 (sl_set (sl_set (sl_set (sl.ext e1 sr.sub) q1) q2) q3)⟩
  · cases hf
theorem pfs_aug {i : Nat} {x : Str} {op : Operator} {r : R2} {gm : G2M} {pos' : Pos} (hN : X.N.Nodup) (hi : X.N[i]? = some x) (hx : Loc X.env.scope x) (he : PFE X e fe) (ho : OpR X (inplaceOp op) r) (o : Op2M X.K r gm) (hf : X.fn x = true ∨ X.env.scope.names.lookup x = some .local := by first | exact .inl rfl | exact .inr rfl | assumption) :
    PFS X (.AugAssign (.Name x pos') op e pos) (sAug i gm fe) := ps_weak (ps_aug (ti := r) hN hi hx he ho hf) fun E σ H => by
  rw [liftS_iff]
  rintro ⟨W, ρ, M, rfl, sr, sl, o', M', hf, k⟩
  unfold sAug at hf
  split at hf
  · rename_i d hd
    obtain ⟨⟨y, M1⟩, hy, hf⟩ := Option.bind_eq_some_iff.mp hf
    obtain ⟨⟨z, M2⟩, hz, hf⟩ := Option.bind_eq_some_iff.mp hf
    cases hf
    obtain ⟨v, h1, h2⟩ := sl.at_ i d hd
    exact ⟨v, h1, W, ρ, M, rfl, sr, sl, y, M1, hy, fun W1 u e1 s1 r1 => o W1 M1 _ d y z v u _ s1 (h2.ext e1 sr.sub) r1 hz fun W2 w e2 s2 r2 => k W2 _ (e1.trans e2) s2 (sl_set (sl.ext (e1.trans e2) sr.sub) r2)⟩
  · cases hf
end
/-! ### while -/
def sWhileN (fc : FT) (fb : FS) : Nat → FS
  | 0, _, _ => none
  | n + 1, ρ, M => (fc ρ M).bind fun c => if c.1 = true then (fb ρ c.2).bind fun o => match o.1 with
      | .nx ρ' => sWhileN fc fb n ρ' o.2
      | .ct ρ' => sWhileN fc fb n ρ' o.2
      | .bk ρ' => some (.nx ρ', o.2)
      | .ret d => some (.ret d, o.2)
    else some (.nx ρ, c.2)
def fuel (ρ : Rho) (M : Mem) : Nat := ρ.foldl (fun n d => n + match d with | some (.int i) => i.natAbs | _ => 0) 1000000
def sWhile (fc : FT) (fb : FS) : FS := fun ρ M => sWhileN fc fb (fuel ρ M) ρ M
theorem pfs_while {X : Cx} {pos : Pos} {c : Expr} {body : List Stmt} {fc : FT} {fb : FS} (hp : PassesOwn (model X.prog X.w) X.A X.env X.xe) (hc : PFT X c fc) (hb : PFSs X body fb) : PFS X (.While c body [] pos) (sWhile fc fb) := ps_weak (ps_while hp hc hb) fun E σ H => by
  rw [liftS_iff]
  rintro ⟨W, ρ, M, rfl, sr, sl, o, M', hf, k⟩
  refine ⟨fun n σ' H' => ∃ W1 ρ1 M1, W1.H = H' ∧ Ext W W1 ∧ SR X.K W1 M1 ∧ Sl X.K W1 ρ1 σ' ∧ sWhileN fc fb n ρ1 M1 = some (o, M'), ⟨_, W, ρ, M, rfl, .refl W, sr, sl, hf⟩, ?_⟩
  rintro n σ1 H1 ⟨W1, ρ1, M1, rfl, e1, s1, l1, hw⟩
  cases n with
  | zero => cases hw
  | succ n =>
    obtain ⟨⟨b, M2⟩, hcx, hw⟩ := Option.bind_eq_some_iff.mp hw
    refine ⟨W1, ρ1, M1, rfl, s1, l1, b, M2, hcx, fun W2 e2 s2 => ?_⟩
    cases b with
    | false =>
      rw [if_neg Bool.false_ne_true] at hw ⊢
      cases hw
      exact k W2 σ1 (e1.trans e2) s2 (l1.ext e2 s1.sub)
    | true =>
      rw [if_pos rfl] at hw ⊢
      obtain ⟨⟨o3, M3⟩, ho, hw⟩ := Option.bind_eq_some_iff.mp hw
      refine ⟨fun σ' H' => ∃ W3 ρ3, W3.H = H' ∧ Ext W W3 ∧ SR X.K W3 M3 ∧ Sl X.K W3 ρ3 σ' ∧ sWhileN fc fb n ρ3 M3 = some (o, M'), ?_, liftS_iff.mpr ⟨W2, ρ1, M2, rfl, s2, l1.ext e2 s1.sub, o3, M3, ho, ?_⟩⟩
      · rintro σ' H' ⟨W3, ρ3, h1, h2, h3, h4, h5⟩
        exact ⟨n, Nat.lt_succ_self n, W3, ρ3, M3, h1, h2, h3, h4, h5⟩
      · cases o3 with
        | nx ρ3 => exact fun W3 σ3 e3 s3 l3 => ⟨W3, ρ3, rfl, (e1.trans e2).trans e3, s3, l3, hw⟩
        | ct ρ3 => exact fun W3 σ3 e3 s3 l3 => ⟨W3, ρ3, rfl, (e1.trans e2).trans e3, s3, l3, hw⟩
        | bk ρ3 => cases hw; exact fun W3 σ3 e3 s3 l3 => k W3 σ3 ((e1.trans e2).trans e3) s3 l3
        | ret d => cases hw; exact fun W3 v e3 s3 r3 => k W3 v ((e1.trans e2).trans e3) s3 r3
/-! ### for -/
/-- the items, and the changeable list that they are read from, if it is one -/
abbrev FI := Rho → Mem → Option ((List D × Option Nat) × Mem)
def chk (k : Option Nat) (xs : List D) (M : Mem) : Bool := match k with
  | none => true
  | some n => match M[n]? with | some (.lst ys) => D.beqs ys xs | _ => false
def JOk (K : PySem.W.Frag) (W : Wo) (J : It) (xs : List D) (k : Option Nat) : Prop := xs.length ≤ LINE ∧ ∀ W' M', Ext W W' → SR K W' M' → chk k xs M' = true → ∀ i,
  (∀ d, xs[i]? = some d → J.go i W'.H ∧ ∀ x H', J.yld i W'.H x H' → H' = W'.H ∧ Rp K W' d x) ∧ (xs.length ≤ i → J.stop i W'.H)
def liftI (K : PySem.W.Frag) (f : FI) : TI := fun σ H R => ∃ W ρ M, W.H = H ∧ SR K W M ∧ Sl K W ρ σ ∧ ∃ xs k M', f ρ M = some ((xs, k), M') ∧
  ∀ W' J, Ext W W' → SR K W' M' → JOk K W' J xs k → R J W'.H
abbrev PFI (X : Cx) (tg e : Expr) (f : FI) : Prop := PI X tg e (liftI X.K f)
def sLoop (c : Mem → Bool) (step : D → FS) : List D → FS
  | [], ρ, M => if c M = true then some (.nx ρ, M) else none
  | d :: ds, ρ, M => if c M = true then (step d ρ M).bind fun o => match o.1 with
      | .nx ρ' => sLoop c step ds ρ' o.2
      | .ct ρ' => sLoop c step ds ρ' o.2
      | .bk ρ' => some (.nx ρ', o.2)
      | .ret d => some (.ret d, o.2)
    else none
def sStep (t : FG) (fb : FS) (d : D) : FS := fun ρ M => (t d ρ).bind fun ρ' => fb ρ' M
def sFor (fi : FI) (t : FG) (fb : FS) : FS := fun ρ M => (fi ρ M).bind fun a => sLoop (chk a.1.2 a.1.1) (sStep t fb) a.1.1 ρ a.2
theorem pfs_for {X : Cx} {pos : Pos} {tg iter : Expr} {body : List Stmt} {fi : FI} {t : FG} {vs : List Nat} {fb : FS} (hp : PassesOwn (model X.prog X.w) X.A X.env X.xe) (hc : X.calm = true) (hi : PFI X tg iter fi) (hg : PFG X vs tg t) (hb : PFSs X body fb)
    (hs : ∀ x, foldedSetIterable iter X.env x = pure x := by intro _; rfl) : PFS X (.For tg iter body [] pos) (sFor fi t fb) := ps_weak (ps_for hp hc hi hg hb hs) fun E σ H => by
  rw [liftS_iff]
  rintro ⟨W, ρ, M, rfl, sr, sl, o, M', hf, k⟩
  obtain ⟨⟨⟨xs, kk⟩, M1⟩, hi, hf⟩ := Option.bind_eq_some_iff.mp hf
  refine ⟨W, ρ, M, rfl, sr, sl, xs, kk, M1, hi, fun W1 J e1 s1 jo => ?_⟩
  refine ⟨fun i m σ' H' => ∃ W2 ρ2 M2, W2.H = H' ∧ Ext W1 W2 ∧ SR X.K W2 M2 ∧ Sl X.K W2 ρ2 σ' ∧ i ≤ xs.length ∧ m = xs.length - i ∧ sLoop (chk kk xs) (sStep t fb) (xs.drop i) ρ2 M2 = some (o, M'), ⟨xs.length, W1, ρ, M1, rfl, .refl W1, s1, sl.ext e1 sr.sub, Nat.zero_le _, rfl, hf⟩, ?_⟩
  rintro i m σ2 H2 ⟨W2, ρ2, Mt, rfl, e2, s2, l2, hil, rfl, hw⟩
  by_cases hlt : i < xs.length
  · right
    have hd : xs.drop i = xs[i] :: xs.drop (i + 1) := List.drop_eq_getElem_cons hlt
    rw [hd] at hw
    unfold sLoop at hw
    split at hw
    · rename_i hck
      obtain ⟨⟨o3, M3⟩, ho, hw⟩ := Option.bind_eq_some_iff.mp hw
      obtain ⟨hgo, hy⟩ := (jo.2 W2 Mt e2 s2 hck i).1 xs[i] (by simp [hlt])
      refine ⟨hgo, fun σ' H' => ∃ W3 ρ3, W3.H = H' ∧ Ext W1 W3 ∧ SR X.K W3 M3 ∧ Sl X.K W3 ρ3 σ' ∧ sLoop (chk kk xs) (sStep t fb) (xs.drop (i + 1)) ρ3 M3 = some (o, M'), ?_, fun x H' hx => ?_⟩
      · rintro σ' H' ⟨W3, ρ3, h1, h2, h3, h4, h5⟩
        exact ⟨xs.length - (i + 1), by omega, W3, ρ3, M3, h1, h2, h3, h4, hlt, rfl, h5⟩
      · obtain ⟨rfl, rx⟩ := hy x H' hx
        obtain ⟨ρ3, ht, ho⟩ := Option.bind_eq_some_iff.mp ho
        refine ⟨W2, ρ2, Mt, xs[i], rfl, s2, l2, rx, ρ3, ht, fun W3 σ3 e3 s3 l3 _ => liftS_iff.mpr ⟨W3, ρ3, Mt, rfl, s3, l3, o3, M3, ho, ?_⟩⟩
        cases o3 with
        | nx ρ4 => exact fun W4 σ4 e4 s4 l4 => ⟨W4, ρ4, rfl, e2.trans (e3.trans e4), s4, l4, hw⟩
        | ct ρ4 => exact fun W4 σ4 e4 s4 l4 => ⟨W4, ρ4, rfl, e2.trans (e3.trans e4), s4, l4, hw⟩
        | bk ρ4 => cases hw; exact fun W4 σ4 e4 s4 l4 => k W4 σ4 (e1.trans (e2.trans (e3.trans e4))) s4 l4
        | ret d => cases hw; exact fun W4 v e4 s4 r4 => k W4 v (e1.trans (e2.trans (e3.trans e4))) s4 r4
    · cases hw
  · left
    have e : i = xs.length := by omega
    subst e
    rw [List.drop_length] at hw
    unfold sLoop at hw
    split at hw
    · rename_i hck
      cases hw
      exact ⟨(jo.2 W2 _ e2 s2 hck xs.length).2 (Nat.le_refl _), k W2 σ2 (e1.trans e2) s2 l2⟩
    · cases hw
/-! ### what a for walks -/
def fiSq (fa : FE) : FI := fun ρ M => (fa ρ M).bind fun a => match a.1 with
  | .ref n => (lsOf a.1 a.2).bind fun xs => some ((xs, some n), a.2)
  | d => (sqOf d a.2).bind fun xs => some ((xs, none), a.2)
def rgD (lo : Int) (n : Nat) : List D := (List.range n).map fun (i : Nat) => D.int (lo + i)
def okR (i j : Int) : Bool := Nat.ble i.natAbs 1000000000 && (Nat.ble j.natAbs 1000000000 && Nat.ble (j - i).toNat 16777216)
theorem okR_ok {i j : Int} (h : okR i j = true) : (-(4611686018427387904) ≤ i ∧ i < 4611686018427387904) ∧ (-(4611686018427387904) ≤ j ∧ j < 4611686018427387904) ∧ j - i ≤ 16777216 := by
  unfold okR at h
  rw [Bool.and_eq_true, Bool.and_eq_true] at h
  have h1 := Nat.le_of_ble_eq_true h.1
  have h2 := Nat.le_of_ble_eq_true h.2.1
  have h3 := Nat.le_of_ble_eq_true h.2.2
  omega
def fiRg1 (f : FA) : FI := fun ρ M => (f ρ M).bind fun a => match a.1 with | [.int j] => if okR 0 j then some ((rgD 0 j.toNat, none), a.2) else none | _ => none
def fiRg2 (f : FA) : FI := fun ρ M => (f ρ M).bind fun a => match a.1 with | [.int i, .int j] => if okR i j then some ((rgD i (j - i).toNat, none), a.2) else none | _ => none
section
variable {X : Cx} {tg a : Expr} {fa : FE}
theorem pi_weak {e : Expr} {t t' : TI} (h : PI X tg e t) (i : ∀ σ H Q, t' σ H Q → t σ H Q) : PI X tg e t' := ⟨fun pins s σ H Q I q => h.run pins s σ H Q I (i σ H Q q)⟩
def iSeq (K : PySem.W.Frag) (tl : TE) : TI := fun σ H R => tl σ H fun x H1 => ∃ a, x = .ref a ∧ (((∃ xs, SqL K H1 a xs) ∧ R (Itl K a) H1) ∨ ((∃ xs, SqT K H1 a xs) ∧ R (Itt K a) H1))
/-- a list or a tuple is walked -/
theorem pi_seq {l : Expr} {tl : TE} (hl : PE X l tl) : PI X tg l (iSeq X.K tl) := by
  refine ⟨fun pins s σ H R I h => ?_⟩
  refine thn (hl.run pins s σ H _ I h) fun vv s1 ⟨x, H1, I1, r1, p, ex, q⟩ => ?_
  subst ex
  cases r1
  have fresh : ∀ b ∈ [s1.heap.objs.size], FpOk X pins H1 b := fun b hb => by
    obtain rfl : b = s1.heap.objs.size := by simpa using hb
    exact I1.fpOk (Nat.le_refl _) (I1.hok.fresh (Nat.le_refl _))
  rcases q with ⟨⟨xs, hq⟩, q⟩ | ⟨⟨xs, hq⟩, q⟩
  · obtain ⟨its, rv, pl, _⟩ := I1.list hq
    exact wpAny_pyIter_list pl.isList ⟨s1.heap.objs.size, [s1.heap.objs.size], _, _, H1, rfl, I1.kept (t' := s1.toks) fun b u eb => Heap.get?_push_of_some _ eb, turn_list p _, ⟨_, Heap.get?_push_size _ rfl, rfl, rfl⟩, fresh, q⟩
  · obtain ⟨its, rv, pt, _⟩ := I1.tuple hq
    exact wpAny_pyIter_tuple (show s1.heap.IsTuple p its.toArray from pt) ⟨s1.heap.objs.size, [s1.heap.objs.size], _, _, H1, rfl, I1.kept (t' := s1.toks) fun b u eb => Heap.get?_push_of_some _ eb, turn_tuple p _, ⟨_, Heap.get?_push_size _ rfl, rfl, rfl⟩, fresh, q⟩
theorem jok_of {K : PySem.W.Frag} {W : Wo} {J : It} {xs : List D} {kk : Option Nat} (hz : xs.length ≤ LINE) (h : ∀ W' M', Ext W W' → SR K W' M' → chk kk xs M' = true → ∃ vs, RpL K W' xs vs ∧ (∀ i x, vs[i]? = some x → J.go i W'.H ∧ ∀ y H', J.yld i W'.H y H' → H' = W'.H ∧ y = x) ∧ ∀ i, vs.length ≤ i → J.stop i W'.H) : JOk K W J xs kk := by
  refine ⟨hz, fun W' M' e s c i => ?_⟩
  obtain ⟨vs, r, h1, h2⟩ := h W' M' e s c
  refine ⟨fun d hd => ?_, fun hl => h2 i (by rw [← r.len]; exact hl)⟩
  obtain ⟨v, hv, rv⟩ := r.get hd
  obtain ⟨g, y⟩ := h1 i v hv
  exact ⟨g, fun x H' hx => ⟨(y x H' hx).1, by rw [(y x H' hx).2]; exact rv⟩⟩
theorem walk_l {K : PySem.W.Frag} {H : Hp} {p : Addr} {vs : List V} (h : SqL K H p vs) : (∀ i x, vs[i]? = some x → (Itl K p).go i H ∧ ∀ y H', (Itl K p).yld i H y H' → H' = H ∧ y = x) ∧ ∀ i, vs.length ≤ i → (Itl K p).stop i H :=
  ⟨fun i x hx => ⟨⟨vs, x, h, hx⟩, fun y H' q => ⟨q.1, Option.some.inj ((q.2 vs h).symm.trans hx)⟩⟩, fun i hi => ⟨vs, h, hi⟩⟩
theorem walk_t {K : PySem.W.Frag} {H : Hp} {p : Addr} {vs : List V} (h : SqT K H p vs) : (∀ i x, vs[i]? = some x → (Itt K p).go i H ∧ ∀ y H', (Itt K p).yld i H y H' → H' = H ∧ y = x) ∧ ∀ i, vs.length ≤ i → (Itt K p).stop i H :=
  ⟨fun i x hx => ⟨⟨vs, x, h, hx⟩, fun y H' q => ⟨q.1, Option.some.inj ((q.2 vs h).symm.trans hx)⟩⟩, fun i hi => ⟨vs, h, hi⟩⟩
theorem jok_sq {K : PySem.W.Frag} {W : Wo} {M : Mem} {d : D} {v : V} {xs : List D} (sr : SR K W M) (h : Rp K W d v) (hn : ∀ n, d ≠ .ref n) (e : sqOf d M = some xs) :
    ∃ p, v = .ref p ∧ (((∃ vs, SqL K W.H p vs) ∧ JOk K W (Itl K p) xs none) ∨ ((∃ vs, SqT K W.H p vs) ∧ JOk K W (Itt K p) xs none)) := by
  obtain ⟨p, vs, rfl, h1, r⟩ := sq_sq sr h e
  refine ⟨p, rfl, ?_⟩
  cases d with
  | tup ds =>
    have hz := sq_len sr h e
    cases e
    obtain ⟨p', vs', e', q, r'⟩ := tp_sq h
    cases e'
    refine .inr ⟨⟨_, q⟩, jok_of hz fun W' M' ex s _ => ?_⟩
    obtain ⟨p2, vs2, e2, q2, r2⟩ := tp_sq (h.ext ex sr.sub)
    cases e2
    exact ⟨vs2, r2, walk_t q2⟩
  | ref n => exact absurd rfl (hn n)
  | lst ds =>
    have e' : lsOf (.lst ds) M = some xs := e
    obtain ⟨p', vs', e2, q, r'⟩ := ls_sq sr h e'
    cases e2
    refine .inl ⟨⟨_, q⟩, jok_of (sq_len sr h e) fun W' M' ex s _ => ?_⟩
    obtain ⟨p2, vs2, e2, q2, r2⟩ := ls_sq s (h.ext ex sr.sub) (show lsOf (.lst ds) M' = some xs from e')
    cases e2
    exact ⟨vs2, r2, walk_l q2⟩
  | kst ds =>
    have e' : lsOf (.kst ds) M = some xs := e
    obtain ⟨p', vs', e2, q, r'⟩ := ls_sq sr h e'
    cases e2
    refine .inl ⟨⟨_, q⟩, jok_of (sq_len sr h e) fun W' M' ex s _ => ?_⟩
    obtain ⟨p2, vs2, e2, q2, r2⟩ := ls_sq s (h.ext ex sr.sub) (show lsOf (.kst ds) M' = some xs from e')
    cases e2
    exact ⟨vs2, r2, walk_l q2⟩
  | _ => cases e
theorem pfi_sq (ha : PFE X a fa) : PFI X tg a (fiSq fa) := pi_weak (pi_seq ha) fun σ H R => by
  rintro ⟨W, ρ, M, rfl, sr, sl, xs, kk, M', hf, k⟩
  obtain ⟨⟨x, M1⟩, hx, hf⟩ := Option.bind_eq_some_iff.mp hf
  refine ⟨W, ρ, M, rfl, sr, sl, x, M1, hx, fun W1 v e1 s1 r1 => ?_⟩
  have other : (∀ n, x ≠ .ref n) → (sqOf x M1).bind (fun xs => some ((xs, (none : Option Nat)), M1)) = some ((xs, kk), M') → ∃ p, v = .ref p ∧ (((∃ xs, SqL X.K W1.H p xs) ∧ R (Itl X.K p) W1.H) ∨ ((∃ xs, SqT X.K W1.H p xs) ∧ R (Itt X.K p) W1.H)) := fun hn e => by
    obtain ⟨ys, hy, e⟩ := Option.bind_eq_some_iff.mp e
    cases e
    obtain ⟨p, rfl, q⟩ := jok_sq s1 r1 hn hy
    exact ⟨p, rfl, q.imp (fun z => ⟨z.1, k W1 _ e1 s1 z.2⟩) fun z => ⟨z.1, k W1 _ e1 s1 z.2⟩⟩
  cases x with
  | ref n =>
    obtain ⟨ys, hy, hf⟩ := Option.bind_eq_some_iff.mp hf
    cases hf
    obtain ⟨p, vs, rfl, q, r⟩ := ls_sq s1 r1 hy
    refine ⟨p, rfl, .inl ⟨⟨_, q⟩, k W1 _ e1 s1 (jok_of (ls_len s1 r1 hy) fun W' M' ex s c => ?_)⟩⟩
    unfold chk at c
    dsimp only at c
    split at c
    · rename_i zs hz
      have ez := D.eqs_of_beqs _ _ c
      subst ez
      obtain ⟨p2, vs2, e2, q2, r2⟩ := ls_sq s (r1.ext ex s1.sub) (show lsOf (.ref n) M' = some zs by simp only [lsOf, hz])
      cases e2
      exact ⟨vs2, r2, walk_l q2⟩
    · cases c
  | tup _ => exact other (fun n z => nomatch z) hf
  | lst _ => exact other (fun n z => nomatch z) hf
  | kst _ => exact other (fun n z => nomatch z) hf
  | non => exact other (fun n z => nomatch z) hf
  | bl _ => exact other (fun n z => nomatch z) hf
  | int _ => exact other (fun n z => nomatch z) hf
  | str _ => exact other (fun n z => nomatch z) hf
theorem jok_rg {K : PySem.W.Frag} {W : Wo} {lo : Int} {n : Nat} (hn : n ≤ LINE) : JOk K W (Itr lo n) (rgD lo n) none := by
  have hl : (rgD lo n).length = n := by unfold rgD; simp
  refine ⟨by rw [hl]; exact hn, fun W' M' e s c i => ?_⟩
  refine ⟨fun d hd => ?_, fun h => by rw [hl] at h; exact h⟩
  have hi : i < n := by rw [← hl]; exact (List.getElem?_eq_some_iff.mp hd).1
  have hd' : d = D.int (lo + i) := by
    unfold rgD at hd
    rw [List.getElem?_map, List.getElem?_range hi] at hd
    cases hd; rfl
  subst hd'
  exact ⟨hi, fun x H' hx => ⟨hx.1, hx.2⟩⟩
theorem pfi_rg1 {f : FA} {p pos : Pos} (hg : Gl X "range") (hm : X.mg "range" = none) (ha : PFA X [a] f) (hs : starEach [a] X.env = [(false, eval a X.env)] := by rfl) : PFI X tg (.Call (.Name "range" p) [a] [] pos) (fiRg1 f) := pi_weak (pi_range1 hg hm ha hs) fun σ H R => by
  rintro ⟨W, ρ, M, rfl, sr, sl, xs, kk, M', hf, k⟩
  obtain ⟨⟨x, M1⟩, hx, hf⟩ := Option.bind_eq_some_iff.mp hf
  dsimp only at hf
  split at hf
  · split at hf
    · rename_i hr
      cases hf
      replace hr := okR_ok hr
      refine ⟨W, ρ, M, rfl, sr, sl, _, _, hx, fun W1 v e1 s1 r1 => ?_⟩
      obtain ⟨v1, r, rfl, q1, q2⟩ := r1
      cases (show _ = _ from q1); cases (show _ = _ from q2)
      exact ⟨_, rfl, hr.2.1.1, hr.2.1.2, k W1 _ e1 s1 (jok_rg (by show _ ≤ 16777216; omega))⟩
    · cases hf
  · cases hf
theorem pfi_rg2 {b : Expr} {f : FA} {p pos : Pos} (hg : Gl X "range") (hm : X.mg "range" = none) (ha : PFA X [a, b] f) (hs : starEach [a, b] X.env = [(false, eval a X.env), (false, eval b X.env)] := by rfl) (hs2 : starEach [b] X.env = [(false, eval b X.env)] := by rfl) :
    PFI X tg (.Call (.Name "range" p) [a, b] [] pos) (fiRg2 f) := pi_weak (pi_range2 hg hm ha hs hs2) fun σ H R => by
  rintro ⟨W, ρ, M, rfl, sr, sl, xs, kk, M', hf, k⟩
  obtain ⟨⟨x, M1⟩, hx, hf⟩ := Option.bind_eq_some_iff.mp hf
  dsimp only at hf
  split at hf
  · split at hf
    · rename_i hr
      cases hf
      replace hr := okR_ok hr
      refine ⟨W, ρ, M, rfl, sr, sl, _, _, hx, fun W1 v e1 s1 r1 => ?_⟩
      obtain ⟨v1, r, rfl, q1, v2, r', rfl, q2, q3⟩ := r1
      cases (show _ = _ from q1); cases (show _ = _ from q2); cases (show _ = _ from q3)
      exact ⟨_, _, rfl, ⟨hr.1.1, hr.1.2, hr.2.1.1, hr.2.1.2⟩, k W1 _ e1 s1 (jok_rg (by show _ ≤ 16777216; omega))⟩
    · cases hf
  · cases hf
end
end PF
namespace PF
open PySem PySem.Spec PyProof.Rows L2
/-! ### list comprehensions -/
/-- the state without the list that grows -/
def Wo.minus (W : Wo) (p : Addr) : Wo := ⟨W.as, fun a => W.bad a ∧ a ≠ p, fun a => if a = p then none else W.H a⟩
def Wo.plus (W : Wo) (p : Addr) (o : HO) : Wo := ⟨W.as, fun a => W.bad a ∨ a = p, upd W.H p o⟩
section
variable {K : PySem.W.Frag} {W W' W3 : Wo} {M : Mem} {p : Addr} {o : HO}
theorem minus_H {a : Addr} (h : a ≠ p) : (W.minus p).H a = W.H a := if_neg h
theorem minus_self : (W.minus p).H p = none := if_pos rfl
mutual
theorem Rp.minus (hb : W.bad p) (hn : p ∉ W.as) : ∀ (d : D) (v : V), Rp K W d v → Rp K (W.minus p) d v
  | .non, _, h => h
  | .bl _, _, h => h
  | .int _, _, h => h
  | .str _, _, h => h
  | .tup ds, v, h => by
    obtain ⟨a, vs, e1, f, r⟩ := h
    refine ⟨a, vs, e1, ⟨f.1.imp (fun q => ?_) fun q => q, f.2⟩, RpL.minus hb hn ds vs r⟩
    exact ⟨(minus_H fun z => q.2 (by rw [z]; exact hb)).trans q.1, fun z => q.2 z.1⟩
  | .lst ds, v, h => by
    obtain ⟨a, vs, e1, f, r⟩ := h
    exact ⟨a, vs, e1, ⟨⟨(minus_H fun z => f.1.2 (by rw [z]; exact hb)).trans f.1.1, fun z => f.1.2 z.1⟩, f.2⟩, RpL.minus hb hn ds vs r⟩
  | .kst ds, v, h => by
    obtain ⟨a, vs, e1, f, r⟩ := h
    refine ⟨a, vs, e1, ⟨f.1.imp (fun q => ?_) fun q => q, f.2⟩, RpL.minus hb hn ds vs r⟩
    obtain ⟨⟨o, q1⟩, q2⟩ := q
    exact ⟨⟨o, (minus_H fun z => q2 (by rw [z]; exact hb)).trans q1⟩, fun z => q2 z.1⟩
  | .ref n, v, h => h
theorem RpL.minus (hb : W.bad p) (hn : p ∉ W.as) : ∀ (ds : List D) (vs : List V), RpL K W ds vs → RpL K (W.minus p) ds vs
  | [], _, h => h
  | d :: ds, vs, h => by
    obtain ⟨v, r, e1, h1, h2⟩ := h
    exact ⟨v, r, e1, Rp.minus hb hn d v h1, RpL.minus hb hn ds r h2⟩
end
theorem SR.minus (hb : W.bad p) (hn : p ∉ W.as) (sr : SR K W M) : SR K (W.minus p) M := by
  have ne : ∀ a, a ∈ W.as → a ≠ p := fun a h z => hn (by rw [← z]; exact h)
  refine ⟨sr.len, sr.nd, fun a h => ⟨sr.sub a h, ne a h⟩, fun a h => ?_, fun n a mo h1 h2 => ?_⟩
  · obtain ⟨o, q⟩ := sr.bt a h.1
    exact ⟨o, (minus_H h.2).trans q⟩
  · have m := sr.obj n a mo h1 h2
    have na := ne a (List.mem_of_getElem? h1)
    cases mo with
    | lst ds =>
      obtain ⟨vs, q1, q2⟩ := m
      exact ⟨vs, ⟨(minus_H na).trans q1.1, q1.2⟩, q2.minus hb hn⟩
theorem Ext.plus (hp : W.H p = none) : Ext W (W.plus p o) := by
  refine ⟨⟨[], by simp [Wo.plus], fun _ h => by simp at h⟩, fun _ h => .inl h, fun a h => ?_, fun a u _ h => (upd_ne (ne_of_none h hp)).trans h, fun a u h => ⟨u, (upd_ne (ne_of_none h hp)).trans h⟩⟩
  rcases h with h | h
  · exact .inl h
  · rw [h]; exact .inr hp
theorem SR.plus (sr : SR K W M) (hp : W.H p = none) : SR K (W.plus p o) M := by
  have E := Ext.plus (W := W) (o := o) hp
  refine ⟨sr.len, sr.nd, fun a h => .inl (sr.sub a h), fun a h => ?_, fun n a mo h1 h2 => ?_⟩
  · rcases h with h | h
    · obtain ⟨u, q⟩ := sr.bt a h
      exact E.live a u q
    · rw [h]; exact ⟨o, upd_same⟩
  · have m := sr.obj n a mo h1 h2
    obtain ⟨o', q⟩ := m.there
    exact m.ext E sr.sub (upd_ne (ne_of_none q hp))
/-- behind a step from W with the list at p: W without it, and the list as it was -/
theorem Ext.unplus (sr : SR K W M) (hp : W.H p = none) (e : Ext (W.plus p o) W3) : Ext W (W3.minus p) ∧ W3.bad p ∧ p ∉ W3.as ∧ W3.H p = some o := by
  have npa : p ∉ W.as := fun z => sr.nb hp (sr.sub p z)
  have h3 : W3.H p = some o := e.keep p o npa upd_same
  have hb : W3.bad p := e.bad p (.inr rfl)
  obtain ⟨new, ea, fr⟩ := e.as
  have frW : ∀ a ∈ new, W.H a = none ∧ a ≠ p := fun a ha => by
    have q : upd W.H p o a = none := fr a ha
    by_cases z : a = p
    · rw [z, upd_same] at q; cases q
    · rw [upd_ne z] at q; exact ⟨q, z⟩
  refine ⟨⟨⟨new, ea, fun a ha => (frW a ha).1⟩, fun a h => ⟨e.bad a (.inl h), fun z => sr.nb hp (by rw [← z]; exact h)⟩, fun a h => ?_, fun a u ha hu => ?_, fun a u hu => ?_⟩, hb, fun z => ?_, h3⟩
  · rcases e.new a h.1 with q | q
    · rcases q with q | q
      · exact .inl q
      · exact absurd q h.2
    · have q' : upd W.H p o a = none := q
      rw [upd_ne h.2] at q'
      exact .inr q'
  · have na : a ≠ p := ne_of_none hu hp
    exact (minus_H na).trans (e.keep a u ha ((upd_ne na).trans hu))
  · have na : a ≠ p := ne_of_none hu hp
    obtain ⟨u', q⟩ := e.live a u ((upd_ne na).trans hu)
    exact ⟨u', (minus_H na).trans q⟩
  · have z' : p ∈ W.as ++ new := by
      have q := z
      rw [ea] at q
      exact q
    rcases List.mem_append.mp z' with z | z
    · exact npa z
    · exact (frW p z).2 rfl
end
def wipeR (ρ : Rho) : List Nat → Rho
  | [] => ρ
  | v :: vs => (wipeR ρ vs).set v none
theorem wipeR_len (ρ : Rho) : ∀ vs : List Nat, (wipeR ρ vs).length = ρ.length
  | [] => rfl
  | v :: vs => by unfold wipeR; rw [List.length_set, wipeR_len ρ vs]
theorem Sl.wipe {K : PySem.W.Frag} {W : Wo} {ρ : Rho} {σ : L2.St} (h : Sl K W ρ σ) : ∀ vs : List Nat, Sl K W (wipeR ρ vs) (L2.wipe σ vs)
  | [] => h
  | v :: vs => by
    have ih := Sl.wipe h vs
    refine ⟨by unfold wipeR L2.wipe; rw [List.length_set, List.length_set]; exact ih.len, fun i d hi => ?_⟩
    unfold wipeR at hi
    unfold L2.wipe
    by_cases e : v = i
    · subst e
      by_cases hl : v < (wipeR ρ vs).length
      · rw [List.getElem?_set_self hl] at hi; cases hi
      · rw [List.getElem?_eq_none (by rw [List.length_set]; omega)] at hi; cases hi
    · rw [List.getElem?_set_ne e] at hi ⊢
      exact ih.at_ i d hi
theorem wipe_idem (σ : L2.St) (vs : List Nat) : L2.wipe (L2.wipe σ vs) vs = L2.wipe σ vs := by
  have at_ : ∀ (vs ws : List Nat) (σ : L2.St) (i : Nat), i ∈ vs → (L2.wipe σ vs)[i]? = (if i < σ.length then some none else none) := by
    intro vs
    induction vs with
    | nil => intro ws σ i h; simp at h
    | cons v vs ih =>
      intro ws σ i h
      unfold L2.wipe
      by_cases e : v = i
      · subst e
        by_cases hl : v < σ.length
        · rw [List.getElem?_set_self (by rw [wipe_length]; exact hl), if_pos hl]
        · rw [List.getElem?_eq_none (by rw [List.length_set, wipe_length]; omega), if_neg hl]
      · rw [List.getElem?_set_ne e]
        rcases List.mem_cons.mp h with q | q
        · exact absurd q.symm e
        · exact ih ws σ i q
  apply List.ext_getElem?
  intro i
  by_cases h : i ∈ vs
  · rw [at_ vs [] _ i h, at_ vs [] _ i h, wipe_length]
  · rw [wipe_out h, wipe_out h]
def lcLoop (c : Mem → Bool) (t : FG) (ft : FT) (fe : FE) (ρ : Rho) : List D → List D → Mem → Option (List D × Mem)
  | [], acc, M => if c M = true then some (acc, M) else none
  | d :: ds, acc, M => if c M = true then (t d ρ).bind fun ρ' => (ft ρ' M).bind fun b =>
      if b.1 = true then (fe ρ' b.2).bind fun y => lcLoop c t ft fe ρ ds (acc ++ [y.1]) y.2 else lcLoop c t ft fe ρ ds acc b.2
    else none
/-- [elt for t in fi if ft] -/
def fLC (vs : List Nat) (fi : FI) (t : FG) (ft : FT) (fe : FE) : FA := fun ρ M => (fi ρ M).bind fun a => lcLoop (chk a.1.2 a.1.1) t ft fe (wipeR ρ vs) a.1.1 [] a.2
def fYes : FT := fun _ M => some (true, M)
abbrev PFTs (X : Cx) (ifs : List Expr) (f : FT) : Prop := PTs X ifs (liftT X.K f)
theorem pts_weak {X : Cx} {e : List Expr} {t t' : TT} (h : PTs X e t) (i : ∀ σ H Q, t' σ H Q → t σ H Q) : PTs X e t' := ⟨fun pins s σ H Q I q => h.run pins s σ H Q I (i σ H Q q)⟩
theorem pfts_nil {X : Cx} : PFTs X [] fYes := pts_weak pts_nil fun σ H Q => by
  rintro ⟨W, ρ, M, rfl, sr, sl, d, M', hf, k⟩
  cases hf
  exact k W (.refl W) sr
theorem pfts_one {X : Cx} {c : Expr} {f : FT} (h : PFT X c f) : PFTs X [c] f := pts_one h
theorem lc_lift {K : PySem.W.Frag} {fi : FI} {t : FG} {ft : FT} {fe : FE} {vs : List Nat} : ∀ σ H Q, liftN K (fLC vs fi t ft fe) σ H Q → tLc (liftI K fi) (liftG K vs t) (liftT K ft) (liftE K fe) vs σ H Q := by
  rintro σ H Q ⟨W, ρ, M, rfl, sr, sl, out, M', hf, k⟩
  obtain ⟨⟨⟨xs, kk⟩, M1⟩, hi, hf⟩ := Option.bind_eq_some_iff.mp hf
  refine ⟨W, ρ, M, rfl, sr, sl, xs, kk, M1, hi, fun W1 J e1 s1 jo D hD => ?_⟩
  -- the loop: W2 is the state without the growing list
  refine ⟨fun i m H' => ∃ W2 Mt acc ws, H' = upd W2.H D (.lst ws) ∧ W2.H D = none ∧ Ext W1 W2 ∧ SR K W2 Mt ∧ RpL K W2 acc ws ∧ ws.length ≤ i ∧ i ≤ xs.length ∧ m = xs.length - i ∧
    lcLoop (chk kk xs) t ft fe (wipeR ρ vs) (xs.drop i) acc Mt = some (out, M'), ⟨xs.length, W1, M1, [], [], rfl, hD, .refl W1, s1, rfl, Nat.le_refl _, Nat.zero_le _, rfl, hf⟩, ?_⟩
  rintro i m H' ⟨W2, Mt, acc, ws, rfl, hD2, e2, s2, racc, hws, hil, rfl, hw⟩
  have eP : Ext W2 (W2.plus D (.lst ws)) := Ext.plus hD2
  have sP : SR K (W2.plus D (.lst ws)) Mt := s2.plus hD2
  by_cases hlt : i < xs.length
  · right
    have hd : xs.drop i = xs[i] :: xs.drop (i + 1) := List.drop_eq_getElem_cons hlt
    rw [hd] at hw
    unfold lcLoop at hw
    split at hw
    · rename_i hck
      obtain ⟨ρ', ht, hw⟩ := Option.bind_eq_some_iff.mp hw
      obtain ⟨⟨b, M3⟩, hb, hw⟩ := Option.bind_eq_some_iff.mp hw
      obtain ⟨hgo, hy⟩ := (jo.2 _ Mt (e2.trans eP) sP hck i).1 xs[i] (by simp [hlt])
      refine ⟨hgo, fun H' => ∃ W4 Mt acc ws, H' = upd W4.H D (.lst ws) ∧ W4.H D = none ∧ Ext W1 W4 ∧ SR K W4 Mt ∧ RpL K W4 acc ws ∧ ws.length ≤ i + 1 ∧
        lcLoop (chk kk xs) t ft fe (wipeR ρ vs) (xs.drop (i + 1)) acc Mt = some (out, M'), ?_, fun x H' hx => ?_⟩
      · rintro H' ⟨W4, Mt', acc', ws', h1, h2, h3, h4, h5, h6, h7⟩
        exact ⟨xs.length - (i + 1), by omega, W4, Mt', acc', ws', h1, h2, h3, h4, h5, h6, hlt, rfl, h7⟩
      · obtain ⟨rfl, rx⟩ := hy x H' hx
        have slW : Sl K (W2.plus D (.lst ws)) (wipeR ρ vs) (L2.wipe σ vs) := (sl.ext (e1.trans (e2.trans eP)) sr.sub).wipe vs
        refine ⟨_, wipeR ρ vs, Mt, xs[i], rfl, sP, slW, rx, ρ', ht, fun W3 σ3 e3 s3 l3 w3 => ⟨by rw [w3, wipe_idem], ?_⟩⟩
        refine ⟨W3, ρ', Mt, rfl, s3, l3, b, M3, hb, fun W4 e4 s4 => ?_⟩
        cases b with
        | false =>
          rw [if_neg Bool.false_ne_true] at hw ⊢
          obtain ⟨e5, b5, n5, h5⟩ := Ext.unplus s2 hD2 (e3.trans e4)
          refine ⟨W4.minus D, M3, acc, ws, ?_, minus_self, e2.trans e5, s4.minus b5 n5, (racc.ext e5 s2.sub), by omega, hw⟩
          funext a
          by_cases z : a = D
          · subst z; rw [upd_same]; exact h5
          · rw [upd_ne z]; exact (minus_H z).symm
        | true =>
          rw [if_pos rfl] at hw ⊢
          obtain ⟨⟨y, M5⟩, hye, hw⟩ := Option.bind_eq_some_iff.mp hw
          refine ⟨W4, ρ', M3, rfl, s4, l3.ext e4 s3.sub, y, M5, hye, fun W5 v e5 s5 r5 => ?_⟩
          obtain ⟨e6, b6, n6, h6⟩ := Ext.unplus s2 hD2 ((e3.trans e4).trans e5)
          have hz : ws.length < LINE := by have := jo.1; omega
          refine ⟨ws, h6, by rw [line_eq]; exact hz, W5.minus D, M5, acc ++ [y], ws ++ [v], ?_, minus_self, e2.trans e6, s5.minus b6 n6, (racc.ext e6 s2.sub).append (.one (r5.minus b6 n6)), by rw [List.length_append, List.length_singleton]; omega, hw⟩
          funext a
          by_cases z : a = D
          · subst z; rw [upd_same, upd_same]
          · rw [upd_ne z, upd_ne z]; exact (minus_H z).symm
    · cases hw
  · left
    have e : i = xs.length := by omega
    subst e
    rw [List.drop_length] at hw
    unfold lcLoop at hw
    split at hw
    · rename_i hck
      cases hw
      refine ⟨(jo.2 _ _ (e2.trans eP) sP hck xs.length).2 (Nat.le_refl _), ?_⟩
      exact k W2 D ws (e1.trans e2) s2 hD2 racc (by have := jo.1; omega)
    · cases hw
section
variable {X : Cx} {elt tg iter : Expr} {ifs : List Expr} {scope : Scope} {own : List (Str × Nat)} {pos : Pos} {fi : FI} {t : FG} {ft : FT} {fe : FE}
theorem pfn_lc (hc : X.calm = true) (hN : X.N.Nodup) (hi : PFI X tg iter fi) (ok : BlkOk X.N X.env.scope scope own)
    (hg : ∀ (s : Shared) (H : Hp) (C : Addr) (cl : List (Str × Addr)) (fp : List Addr), PFG (X.blk s H scope (compEnvC scope cl C X.env) fp) (own.map (·.2)) tg t) (ht : ∀ (s : Shared) (H : Hp) (C : Addr) (cl : List (Str × Addr)) (fp : List Addr), PFTs (X.blk s H scope (compEnvC scope cl C X.env) fp) ifs ft)
    (he : ∀ (s : Shared) (H : Hp) (C : Addr) (cl : List (Str × Addr)) (fp : List Addr), PFE (X.blk s H scope (compEnvC scope cl C X.env) fp) elt fe) (hs : ∀ x, foldedSetIterable iter X.env x = pure x := by intro _; rfl) :
    PFN X (.ListComp elt [⟨tg, iter, ifs, 0⟩] scope pos) (fLC (own.map (·.2)) fi t ft fe) := pe_weak (pe_lc hc hN hi ok hg ht he hs) lc_lift
theorem set_fz {K : PySem.W.Frag} {i : Nat} {f : FA} : ∀ E σ H, liftS K (sSet i (fFz f)) E σ H → liftN K f σ H fun x H1 => gName i x σ H1 E.nx := fun E σ H => by
  rw [liftS_iff]
  rintro ⟨W, ρ, M, rfl, sr, sl, o, M', hf, k⟩
  obtain ⟨⟨x, M1⟩, hx, hf⟩ := Option.bind_eq_some_iff.mp hf
  obtain ⟨⟨y, M2⟩, hy, hx⟩ := Option.bind_eq_some_iff.mp hx
  cases hx; cases hf
  exact ⟨W, ρ, M, rfl, sr, sl, y, _, hy, fun W1 p vs e1 s1 hp r1 hl => k _ _ (e1.trans (Ext.put hp)) (s1.put hp) (sl_set (sl.ext (e1.trans (Ext.put hp)) sr.sub) (.newLst s1 hp r1 hl))⟩
theorem set_mut {K : PySem.W.Frag} {i : Nat} {f : FA} : ∀ E σ H, liftS K (sSet i (fMut f)) E σ H → liftN K f σ H fun x H1 => gName i x σ H1 E.nx := fun E σ H => by
  rw [liftS_iff]
  rintro ⟨W, ρ, M, rfl, sr, sl, o, M', hf, k⟩
  obtain ⟨⟨x, M1⟩, hx, hf⟩ := Option.bind_eq_some_iff.mp hf
  obtain ⟨⟨y, M2⟩, hy, hx⟩ := Option.bind_eq_some_iff.mp hx
  cases hx; cases hf
  exact ⟨W, ρ, M, rfl, sr, sl, y, _, hy, fun W1 p vs e1 s1 hp r1 hl => k _ _ (e1.trans (Ext.mk2 hp)) (s1.mk2 hp r1 hl) (sl_set (sl.ext (e1.trans (Ext.mk2 hp)) sr.sub) (.mk2 s1))⟩
theorem pfs_setLcF {i : Nat} {y : Str} {py spos : Pos} (hc : X.calm = true) (hN : X.N.Nodup) (hy : X.N[i]? = some y) (hyl : X.env.scope.names.lookup y = some .local)
    (hsw : swapsWith (.ListComp elt [⟨tg, iter, ifs, 0⟩] scope pos) (some (.Name y py)) spos.line X.env = pure true) (hi : PFI X tg iter fi) (ok : BlkOk X.N X.env.scope scope own)
    (hg : ∀ (s : Shared) (H : Hp) (C : Addr) (cl : List (Str × Addr)) (fp : List Addr), PFG (X.blk s H scope (compEnvC scope cl C X.env) fp) (own.map (·.2)) tg t) (ht : ∀ (s : Shared) (H : Hp) (C : Addr) (cl : List (Str × Addr)) (fp : List Addr), PFTs (X.blk s H scope (compEnvC scope cl C X.env) fp) ifs ft)
    (he : ∀ (s : Shared) (H : Hp) (C : Addr) (cl : List (Str × Addr)) (fp : List Addr), PFE (X.blk s H scope (compEnvC scope cl C X.env) fp) elt fe) (hs : ∀ x, foldedSetIterable iter X.env x = pure x := by intro _; rfl) :
    PFS X (.Assign [.Name y py] (.ListComp elt [⟨tg, iter, ifs, 0⟩] scope pos) spos) (sSet i (fFz (fLC (own.map (·.2)) fi t ft fe))) := ps_weak (ps_setLc hc hN hy hyl hsw hi ok hg ht he hs) fun E σ H h => lc_lift _ _ _ (set_fz E σ H h)
theorem pfs_setLcM {i : Nat} {y : Str} {py spos : Pos} (hc : X.calm = true) (hN : X.N.Nodup) (hy : X.N[i]? = some y) (hyl : X.env.scope.names.lookup y = some .local)
    (hsw : swapsWith (.ListComp elt [⟨tg, iter, ifs, 0⟩] scope pos) (some (.Name y py)) spos.line X.env = pure true) (hi : PFI X tg iter fi) (ok : BlkOk X.N X.env.scope scope own)
    (hg : ∀ (s : Shared) (H : Hp) (C : Addr) (cl : List (Str × Addr)) (fp : List Addr), PFG (X.blk s H scope (compEnvC scope cl C X.env) fp) (own.map (·.2)) tg t) (ht : ∀ (s : Shared) (H : Hp) (C : Addr) (cl : List (Str × Addr)) (fp : List Addr), PFTs (X.blk s H scope (compEnvC scope cl C X.env) fp) ifs ft)
    (he : ∀ (s : Shared) (H : Hp) (C : Addr) (cl : List (Str × Addr)) (fp : List Addr), PFE (X.blk s H scope (compEnvC scope cl C X.env) fp) elt fe) (hs : ∀ x, foldedSetIterable iter X.env x = pure x := by intro _; rfl) :
    PFS X (.Assign [.Name y py] (.ListComp elt [⟨tg, iter, ifs, 0⟩] scope pos) spos) (sSet i (fMut (fLC (own.map (·.2)) fi t ft fe))) := ps_weak (ps_setLc hc hN hy hyl hsw hi ok hg ht he hs) fun E σ H h => lc_lift _ _ _ (set_mut E σ H h)
end
end PF
namespace PF
open PySem PySem.Spec PyProof.Rows L2
/-! ### data without references; without lists -/
mutual
def D.nr : D → Bool
  | .ref _ => false
  | .tup xs => D.nrs xs
  | .lst xs => D.nrs xs
  | .kst xs => D.nrs xs
  | _ => true
def D.nrs : List D → Bool
  | [] => true
  | x :: xs => D.nr x && D.nrs xs
end
mutual
def D.nl : D → Bool
  | .ref _ => false
  | .tup xs => D.nls xs
  | .lst _ => false
  | .kst _ => false
  | _ => true
def D.nls : List D → Bool
  | [] => true
  | x :: xs => D.nl x && D.nls xs
end
section
variable {K : PySem.W.Frag} {W W' : Wo}
mutual
theorem Rp.nr (hH : W'.H = W.H) (hb : ∀ a, W'.bad a → W.bad a) : ∀ (d : D) (v : V), d.nr = true → Rp K W d v → Rp K W' d v
  | .non, _, _, h => h
  | .bl _, _, _, h => h
  | .int _, _, _, h => h
  | .str _, _, _, h => h
  | .ref _, _, hn, _ => by rw [D.nr] at hn; cases hn
  | .tup ds, v, hn, h => by
    rw [D.nr] at hn
    obtain ⟨a, vs, e1, f, r⟩ := h
    exact ⟨a, vs, e1, ⟨f.1.imp (fun q => ⟨by rw [hH]; exact q.1, fun z => q.2 (hb a z)⟩) fun q => q, f.2⟩, RpL.nr hH hb ds vs hn r⟩
  | .lst ds, v, hn, h => by
    rw [D.nr] at hn
    obtain ⟨a, vs, e1, f, r⟩ := h
    exact ⟨a, vs, e1, ⟨⟨by rw [hH]; exact f.1.1, fun z => f.1.2 (hb a z)⟩, f.2⟩, RpL.nr hH hb ds vs hn r⟩
  | .kst ds, v, hn, h => by
    rw [D.nr] at hn
    obtain ⟨a, vs, e1, f, r⟩ := h
    refine ⟨a, vs, e1, ⟨f.1.imp (fun q => ?_) fun q => q, f.2⟩, RpL.nr hH hb ds vs hn r⟩
    obtain ⟨⟨o, q1⟩, q2⟩ := q
    exact ⟨⟨o, by rw [hH]; exact q1⟩, fun z => q2 (hb a z)⟩
theorem RpL.nr (hH : W'.H = W.H) (hb : ∀ a, W'.bad a → W.bad a) : ∀ (ds : List D) (vs : List V), D.nrs ds = true → RpL K W ds vs → RpL K W' ds vs
  | [], _, _, h => h
  | d :: ds, vs, hn, h => by
    rw [D.nrs, Bool.and_eq_true] at hn
    obtain ⟨v, r, e1, h1, h2⟩ := h
    exact ⟨v, r, e1, Rp.nr hH hb d v hn.1 h1, RpL.nr hH hb ds r hn.2 h2⟩
end
/-- tuples alone: what is wrongly shut away is a list -/
def LstAt (H : Hp) (a : Addr) : Prop := ∃ vs, H a = some (.lst vs)
mutual
theorem Rp.nl (hH : W'.H = W.H) (hb : ∀ a, W'.bad a → W.bad a ∨ LstAt W.H a) : ∀ (d : D) (v : V), d.nl = true → Rp K W d v → Rp K W' d v
  | .non, _, _, h => h
  | .bl _, _, _, h => h
  | .int _, _, _, h => h
  | .str _, _, _, h => h
  | .ref _, _, hn, _ => by rw [D.nl] at hn; cases hn
  | .lst _, _, hn, _ => by rw [D.nl] at hn; cases hn
  | .kst _, _, hn, _ => by rw [D.nl] at hn; cases hn
  | .tup ds, v, hn, h => by
    rw [D.nl] at hn
    obtain ⟨a, vs, e1, f, r⟩ := h
    refine ⟨a, vs, e1, ⟨f.1.imp (fun q => ⟨by rw [hH]; exact q.1, fun z => ?_⟩) fun q => q, f.2⟩, RpL.nl hH hb ds vs hn r⟩
    rcases hb a z with z | ⟨us, z⟩
    · exact q.2 z
    · rw [q.1] at z; cases z
theorem RpL.nl (hH : W'.H = W.H) (hb : ∀ a, W'.bad a → W.bad a ∨ LstAt W.H a) : ∀ (ds : List D) (vs : List V), D.nls ds = true → RpL K W ds vs → RpL K W' ds vs
  | [], _, _, h => h
  | d :: ds, vs, hn, h => by
    rw [D.nls, Bool.and_eq_true] at hn
    obtain ⟨v, r, e1, h1, h2⟩ := h
    exact ⟨v, r, e1, Rp.nl hH hb d v hn.1 h1, RpL.nl hH hb ds r hn.2 h2⟩
end
end
/-! ### a def's promise by a function on data -/
abbrev FnC := List D → Mem → Option (D × Mem)
def spOf (K : PySem.W.Frag) (c : FnC) (n : Nat) : Sp := fun vs H Q _ => vs.length = n ∧ ∃ W M ds, W.H = H ∧ SR K W M ∧ RpL K W ds vs ∧ ∃ d M', c ds M = some (d, M') ∧
  ∀ W' v, Ext W W' → SR K W' M' → Rp K W' d v → Q v W'.H
def MO.nr : MO → Bool
  | .lst xs => D.nrs xs
def Mem.nr : Mem → Bool
  | [] => true
  | m :: ms => m.nr && Mem.nr ms
/-- what is handed back; mu: a new list stays changeable -/
def fin (mu : Bool) (k : Nat) (d : D) (M : Mem) : Option (D × Mem) :=
  if Mem.nr (M.take k) = true then (match d with
    | .ref j => if j < k then none else match M[j]? with
      | some (.lst xs) => if D.nrs xs = true then (if mu = true then some (.ref k, M.take k ++ [.lst xs]) else some (.lst xs, M.take k)) else none
      | none => none
    | d => if d.nr = true then some (d, M.take k) else none) else none
def startR (n : Nat) (ds : List D) : Rho := ds.map some ++ List.replicate (n - ds.length) none
def runFn (mu : Bool) (n : Nat) (f : FS) : FnC := fun ds M => (f (startR n ds) M).bind fun o => match o.1 with
  | .ret d => fin mu M.length d o.2
  | .nx _ => fin mu M.length .non o.2
  | _ => none
section
variable {K : PySem.W.Frag} {W W' : Wo} {M M' : Mem}
theorem sl_start {ds : List D} {vs : List V} {N : List Str} (h : RpL K W ds vs) : Sl K W (startR N.length ds) (L2.start N vs) := by
  have hl := h.len
  refine ⟨by unfold startR L2.start; simp [hl], fun i d hi => ?_⟩
  unfold startR at hi
  unfold L2.start
  by_cases hlt : i < ds.length
  · rw [List.getElem?_append_left (by rw [List.length_map]; exact hlt), List.getElem?_map, List.getElem?_eq_getElem hlt] at hi
    have e : ds[i] = d := by simpa using hi
    obtain ⟨v, h1, h2⟩ := h.get (i := i) (d := d) (by rw [List.getElem?_eq_getElem hlt, e])
    refine ⟨v, ?_, h2⟩
    rw [List.getElem?_append_left (by rw [List.length_map, ← hl]; exact hlt), List.getElem?_map, h1]
    rfl
  · rw [List.getElem?_append_right (by rw [List.length_map]; omega)] at hi
    have := List.mem_of_getElem? hi
    simp at this
theorem Mem.nr_at : ∀ {M : Mem} {n : Nat} {mo : MO}, Mem.nr M = true → M[n]? = some mo → mo.nr = true
  | [], _, _, _, h => by simp at h
  | m :: ms, 0, mo, hn, h => by
    rw [Mem.nr, Bool.and_eq_true] at hn
    simp at h; subst h; exact hn.1
  | m :: ms, n + 1, mo, hn, h => by
    rw [Mem.nr, Bool.and_eq_true] at hn
    exact Mem.nr_at hn.2 (by simpa using h)
theorem MoOk.nr {a : Addr} {mo : MO} (hH : W'.H = W.H) (hb : ∀ a, W'.bad a → W.bad a) (hn : mo.nr = true) (h : MoOk K W a mo) : MoOk K W' a mo := by
  cases mo with
  | lst xs =>
    obtain ⟨vs, h1, h2⟩ := h
    exact ⟨vs, ⟨by rw [hH]; exact h1.1, h1.2⟩, h2.nr hH hb _ _ hn⟩
theorem take_as {new : List Addr} (e : W'.as = W.as ++ new) (hl : W.as.length = M.length) : W'.as.take M.length = W.as := by
  rw [e, ← hl, List.take_left]
/-- the state when a def has come back, but for its own lists -/
theorem fin_ok {mu : Bool} {d d' : D} {v : V} {M2 : Mem} (sr : SR K W M) (ex : Ext W W') (s : SR K W' M') (r : Rp K W' d v) (e : fin mu M.length d M' = some (d', M2)) :
    ∃ W2, W2.H = W'.H ∧ Ext W W2 ∧ SR K W2 M2 ∧ Rp K W2 d' v := by
  obtain ⟨new, ea, fr⟩ := ex.as
  have hl := sr.len
  have hat : ∀ n a, W.as[n]? = some a → W'.as[n]? = some a := fun n a h => by
    rw [ea]; exact (List.getElem?_append_left (List.getElem?_eq_some_iff.mp h).1).trans h
  unfold fin at e
  split at e
  · rename_i hnr
    -- the plain end
    have plain : ∀ bad' : Addr → Prop, (∀ a, bad' a → W'.bad a) → (∀ a, W.bad a → bad' a) → SR K ⟨W.as, bad', W'.H⟩ (M'.take M.length) ∧ Ext W ⟨W.as, bad', W'.H⟩ := fun bad' hb1 hb2 => by
      refine ⟨⟨?_, sr.nd, fun a h => hb2 a (sr.sub a h), fun a h => s.bt a (hb1 a h), fun n a mo h1 h2 => ?_⟩, ⟨⟨[], by simp, fun _ h => by simp at h⟩, hb2, fun a h => ex.new a (hb1 a h), ex.keep, ex.live⟩⟩
      · rw [List.length_take, ← s.len, ea, List.length_append]
        show W.as.length = _
        omega
      · have hn : n < M.length := by rw [← hl]; exact (List.getElem?_eq_some_iff.mp h1).1
        have h2' : M'[n]? = some mo := by rw [List.getElem?_take_of_lt hn] at h2; exact h2
        exact MoOk.nr (W := W') (W' := ⟨W.as, bad', W'.H⟩) rfl hb1 (Mem.nr_at hnr h2) (s.obj n a mo (hat n a h1) h2')
    have other : (∀ j, d ≠ .ref j) → (if d.nr = true then some (d, M'.take M.length) else none) = some (d', M2) → ∃ W2, W2.H = W'.H ∧ Ext W W2 ∧ SR K W2 M2 ∧ Rp K W2 d' v := fun _ e => by
      split at e
      · rename_i hn
        cases e
        obtain ⟨p1, p2⟩ := plain W'.bad (fun _ h => h) ex.bad
        exact ⟨⟨W.as, W'.bad, W'.H⟩, rfl, p2, p1, Rp.nr (W := W') (W' := ⟨W.as, W'.bad, W'.H⟩) rfl (fun _ h => h) _ _ hn r⟩
      · cases e
    cases d with
    | ref j =>
      dsimp only at e
      split at e
      · cases e
      · rename_i hj
        split at e
        · rename_i xs hx
          split at e
          · rename_i hn
            obtain ⟨a, h1, e1⟩ := r
            obtain ⟨vs, q1, q2⟩ := s.obj j a _ h1 hx
            have haN : a ∈ new := by
              rw [ea, List.getElem?_append_right (by omega)] at h1
              exact List.mem_of_getElem? h1
            have hWa : W.H a = none := fr a haN
            have nb : ¬ W.bad a := sr.nb hWa
            split at e
            · cases e
              obtain ⟨p1, p2⟩ := plain W'.bad (fun _ h => h) ex.bad
              have naW : a ∉ W.as := fun z => nb (sr.sub a z)
              refine ⟨⟨W.as ++ [a], W'.bad, W'.H⟩, rfl, ⟨⟨[a], rfl, fun b hb => by rw [show b = a by simpa using hb]; exact hWa⟩, ex.bad, ex.new, ex.keep, ex.live⟩, ?_, ⟨a, ?_, e1⟩⟩
              · refine ⟨?_, ?_, fun b hb => ?_, s.bt, fun n b mo h1' h2' => ?_⟩
                · have := p1.len
                  simp only [List.length_append, List.length_singleton]
                  show W.as.length + 1 = _
                  rw [show W.as.length = (M'.take M.length).length from this]
                · show (W.as ++ [a]).Nodup
                  rw [List.nodup_append]
                  refine ⟨sr.nd, by simp, fun b hb c hc => ?_⟩
                  rw [show c = a by simpa using hc]
                  rintro rfl; exact naW hb
                · rcases List.mem_append.mp hb with hb | hb
                  · exact ex.bad b (sr.sub b hb)
                  · rw [show b = a by simpa using hb]; exact s.sub a (List.mem_of_getElem? h1)
                · have h1'' : (W.as ++ [a])[n]? = some b := h1'
                  have hk : (M'.take M.length).length = W.as.length := p1.len.symm
                  by_cases hlt : n < W.as.length
                  · rw [List.getElem?_append_left hlt] at h1''
                    rw [List.getElem?_append_left (by rw [hk]; exact hlt)] at h2'
                    exact MoOk.nr (W := ⟨W.as, W'.bad, W'.H⟩) (W' := ⟨W.as ++ [a], W'.bad, W'.H⟩) rfl (fun _ h => h) (Mem.nr_at hnr h2') (p1.obj n b mo h1'' h2')
                  · have en : n = W.as.length := by
                      have := (List.getElem?_eq_some_iff.mp h1'').1
                      simp at this; omega
                    subst en
                    have eb : a = b := by simpa using h1''
                    have em : MO.lst xs = mo := by
                      rw [← hk] at h2'
                      simpa using h2'
                    subst eb em
                    exact ⟨vs, q1, RpL.nr (W := W') (W' := ⟨W.as ++ [a], W'.bad, W'.H⟩) rfl (fun _ h => h) _ _ hn q2⟩
              · show (W.as ++ [a])[M.length]? = some a
                rw [← hl]; simp
            · cases e
              obtain ⟨p1, p2⟩ := plain (fun b => W'.bad b ∧ b ≠ a) (fun _ h => h.1) fun b hb => ⟨ex.bad b hb, fun z => nb (by rw [← z]; exact hb)⟩
              exact ⟨⟨W.as, fun b => W'.bad b ∧ b ≠ a, W'.H⟩, rfl, p2, p1, a, vs, e1, ⟨⟨q1.1, fun z => z.2 rfl⟩, q1.2⟩, RpL.nr (W := W') (W' := ⟨W.as, fun b => W'.bad b ∧ b ≠ a, W'.H⟩) rfl (fun _ h => h.1) _ _ hn q2⟩
          · cases e
        · cases e
    | non => exact other (fun _ z => nomatch z) e
    | bl _ => exact other (fun _ z => nomatch z) e
    | int _ => exact other (fun _ z => nomatch z) e
    | str _ => exact other (fun _ z => nomatch z) e
    | tup _ => exact other (fun _ z => nomatch z) e
    | lst _ => exact other (fun _ z => nomatch z) e
    | kst _ => exact other (fun _ z => nomatch z) e
  · cases e
end
/-- THE RULE for a def: what its body computes, from its arguments to what is handed back -/
theorem fn_ok {P : Program} {w : World} {K : PySem.W.Frag} {mg : Str → Option Value} {base : Heap} {x qual : Str} {params : Arguments} {body : List Stmt} {scope : Scope} {f : Addr} {fd : FuncData} {N ps : List Str} {k : Nat} {mu : Bool} {g : FS}
    (F : FunD K x qual params body scope [] [] f fd) (S : FnScope N ps scope)
    (hb : ∀ (cdv : Value) (A : Around) (outer : List Env) (s : Shared) (H : Hp) (E : XK), Room k (A.deeper (envOfC qual scope s.heap.objs.size f cdv)) →
      PFSs (cxOf CX0 P w K mg base N qual scope f cdv A outer s H E).nox body g) : FnOk P w K mg base CX0 (k + 1) f fd ps (spOf K (runFn mu N.length g) ps.length) := by
  refine F.ok S (fun vs H Q E h => h.1) fun cdv A outer s H vs Q E hr h => ⟨_, (hb cdv A outer s H E hr).nox, ?_⟩
  obtain ⟨_, W, M, ds, rfl, sr, r, d, M', hc, k⟩ := h
  obtain ⟨⟨o, M1⟩, hg, hc⟩ := Option.bind_eq_some_iff.mp hc
  refine liftS_iff.mpr ⟨W, _, M, rfl, sr, sl_start r, o, M1, hg, ?_⟩
  cases o with
  | ret d1 =>
    intro W1 v e1 s1 r1
    obtain ⟨W2, hH, e2, s2, r2⟩ := fin_ok sr e1 s1 r1 hc
    show Q v W1.H
    rw [← hH]
    exact k W2 v e2 s2 r2
  | nx ρ1 =>
    intro W1 σ1 e1 s1 l1
    obtain ⟨W2, hH, e2, s2, r2⟩ := fin_ok (d := .non) (v := .non) sr e1 s1 rfl hc
    show Q .non W1.H
    rw [← hH]
    exact k W2 .non e2 s2 r2
  | bk ρ1 => cases hc
  | ct ρ1 => cases hc
/-- another function that says the same (where it says something) -/
theorem fn_as {P : Program} {w : World} {K : PySem.W.Frag} {mg : Str → Option Value} {base : Heap} {f : Addr} {fd : FuncData} {ps : List Str} {k n : Nat} {c c' : FnC} (F : FnOk P w K mg base CX0 k f fd ps (spOf K c n))
    (h : ∀ ds M r, c' ds M = some r → c ds M = some r) : FnOk P w K mg base CX0 k f fd ps (spOf K c' n) := F.imp fun vs H Q E ⟨hl, W, M, ds, h1, h2, h3, d, M', hc, k⟩ => ⟨hl, W, M, ds, h1, h2, h3, d, M', h ds M _ hc, k⟩
/-! ### the call of a def -/
/-- an argument that is only read: a changeable list stands as a list -/
def argP (M : Mem) : D → Option D
  | .ref n => match M[n]? with | some (.lst xs) => if D.nrs xs = true then some (.lst xs) else none | none => none
  | d => if d.nr = true then some d else none
def argsP (M : Mem) : List D → Option (List D)
  | [] => some []
  | d :: ds => (argP M d).bind fun e => (argsP M ds).bind fun es => some (e :: es)
def D.isRef : D → Bool
  | .ref _ => true
  | _ => false
def anyRef : List D → Bool
  | [] => false
  | d :: ds => d.isRef || anyRef ds
/-- nothing is changed by the callee -/
def callP (c : FnC) (ds : List D) (M : Mem) : Option (D × Mem) := (argsP M ds).bind fun es => (c es []).bind fun r => match r.2 with
  | [] => if anyRef ds && !r.1.nl then none else some (r.1, M)
  | [.lst xs] => match r.1 with
    | .ref 0 => if anyRef ds && !D.nls xs then none else if D.nrs xs = true then some (.ref M.length, M ++ [.lst xs]) else none
    | _ => none
  | _ => none
def fCall (c : FnC) (fa : FA) : FE := fun ρ M => (fa ρ M).bind fun a => callP c a.1 a.2
section
variable {K : PySem.W.Frag} {W : Wo} {M : Mem}
/-- the state as a callee sees it that changes nothing: the lists that are handed in are free -/
def Wo.lend (W : Wo) (as : List Addr) (free : Addr → Prop) : Wo := ⟨as, fun a => W.bad a ∧ ¬ free a, W.H⟩
theorem args_ok {as : List Addr} {free : Addr → Prop} (sr : SR K W M) : ∀ {ds es : List D} {vs : List V}, argsP M ds = some es → RpL K W ds vs → (∀ n a, D.ref n ∈ ds → W.as[n]? = some a → free a) →
    RpL K (W.lend as free) es vs
  | [], es, vs, e, r, _ => by cases e; exact r
  | d :: ds, es, vs, e, r, hf => by
    obtain ⟨d', hd, e⟩ := Option.bind_eq_some_iff.mp e
    obtain ⟨es', hes, e⟩ := Option.bind_eq_some_iff.mp e
    cases e
    obtain ⟨v, vr, rfl, r1, r2⟩ := r
    refine ⟨v, vr, rfl, ?_, args_ok sr hes r2 fun n a hm ha => hf n a (List.mem_cons_of_mem _ hm) ha⟩
    have other : (if d.nr = true then some d else none) = some d' → Rp K (W.lend as free) d' v := fun q => by
      split at q
      · rename_i hn
        cases q
        exact Rp.nr (W := W) (W' := W.lend as free) rfl (fun _ z => z.1) _ _ hn r1
      · cases q
    cases d with
    | ref n =>
      obtain ⟨a, h1, e1⟩ := r1
      obtain ⟨mo, hmo, m⟩ := sr.at_ h1
      cases mo with
      | lst xs =>
        simp only [argP, hmo] at hd
        split at hd
        · rename_i hn
          cases hd
          obtain ⟨us, q1, q2⟩ := m
          exact ⟨a, us, e1, ⟨⟨q1.1, fun z => z.2 (hf n a List.mem_cons_self h1)⟩, q1.2⟩, RpL.nr (W := W) (W' := W.lend as free) rfl (fun _ z => z.1) _ _ hn q2⟩
        · cases hd
    | non => exact other hd
    | bl _ => exact other hd
    | int _ => exact other hd
    | str _ => exact other hd
    | tup _ => exact other hd
    | lst _ => exact other hd
    | kst _ => exact other hd
theorem noRef : ∀ {ds : List D}, anyRef ds = false → ∀ n, D.ref n ∉ ds
  | [], _, _ => by simp
  | d :: ds, h, n => by
    rw [anyRef, Bool.or_eq_false_iff] at h
    intro z
    rcases List.mem_cons.mp z with z | z
    · rw [← z] at h; exact absurd h.1 (by simp [D.isRef])
    · exact noRef h.2 n z
/-- which lists are handed in -/
def Lent (W : Wo) (ds : List D) (a : Addr) : Prop := ∃ n, D.ref n ∈ ds ∧ W.as[n]? = some a
theorem lent_lst (sr : SR K W M) {ds : List D} {a : Addr} (h : Lent W ds a) : LstAt W.H a ∧ a ∈ W.as := by
  obtain ⟨n, _, h2⟩ := h
  obtain ⟨mo, _, m⟩ := sr.at_ h2
  cases mo with
  | lst xs => obtain ⟨vs, q, _⟩ := m; exact ⟨⟨vs, q.1⟩, List.mem_of_getElem? h2⟩
theorem callP_ok {c : FnC} {n : Nat} {ds : List D} {vs : List V} {d : D} {M' : Mem} {Q : VK} {E : XK} (sr : SR K W M) (r : RpL K W ds vs) (hn : vs.length = n) (e : callP c ds M = some (d, M'))
    (k : ∀ W' v, Ext W W' → SR K W' M' → Rp K W' d v → Q v W'.H) : spOf K c n vs W.H Q E := by
  obtain ⟨es, he, e⟩ := Option.bind_eq_some_iff.mp e
  obtain ⟨⟨d1, M1⟩, hc, e⟩ := Option.bind_eq_some_iff.mp e
  have sL : SR K (W.lend [] (Lent W ds)) [] := ⟨rfl, List.nodup_nil, fun a h => by simp [Wo.lend] at h, fun a h => sr.bt a h.1, fun n a mo h => by simp [Wo.lend] at h⟩
  refine ⟨hn, W.lend [] (Lent W ds), [], es, rfl, sL, args_ok sr he r fun n a h1 h2 => ⟨n, h1, h2⟩, d1, M1, hc, fun W1 v e1 s1 r1 => ?_⟩
  have keepAll : ∀ a o, W.H a = some o → W1.H a = some o := fun a o h => e1.keep a o (by simp [Wo.lend]) h
  have newb : ∀ a, W1.bad a → W.bad a ∨ W.H a = none := fun a h => (e1.new a h).imp (fun z => z.1) fun z => z
  -- the caller's state behind it
  have sr2 : ∀ (as' : List Addr), (∀ a ∈ as', W.H a = none ∧ W1.bad a) → Ext W ⟨W.as ++ as', fun a => W.bad a ∨ W1.bad a, W1.H⟩ := fun as' h =>
    ⟨⟨as', rfl, fun a ha => (h a ha).1⟩, fun a z => .inl z, fun a z => z.elim .inl (newb a), fun a o _ q => keepAll a o q, fun a o q => ⟨o, keepAll a o q⟩⟩
  have old : ∀ {W2 : Wo}, W2.H = W1.H → Ext W W2 → ∀ n a mo, W.as[n]? = some a → M[n]? = some mo → MoOk K W2 a mo := fun hH ex n a mo h1 h2 => by
    have m := sr.obj n a mo h1 h2
    obtain ⟨o, q⟩ := m.there
    exact m.ext ex sr.sub (by rw [hH, keepAll a o q, q])
  have badLst : ∀ a, (W.bad a ∨ W1.bad a) → W1.bad a ∨ (Lent W ds a ∧ LstAt W1.H a) := fun a z => by
    rcases z with z | z
    · by_cases q : Lent W ds a
      · obtain ⟨us, q2⟩ := (lent_lst sr q).1
        exact .inr ⟨q, us, keepAll a _ q2⟩
      · exact .inl (e1.bad a ⟨z, q⟩)
    · exact .inl z
  have badLst' : ∀ a, (W.bad a ∨ W1.bad a) → W1.bad a ∨ LstAt W1.H a := fun a z => (badLst a z).imp (fun q => q) fun q => q.2
  have noB : anyRef ds = false → ∀ a, (W.bad a ∨ W1.bad a) → W1.bad a := fun hr a z => by
    rcases badLst a z with q | ⟨⟨n, q, _⟩, _⟩
    · exact q
    · exact absurd q (noRef hr n)
  have toW2 : ∀ (as' : List Addr) (d : D) (v : V), d.nr = true → (anyRef ds && !d.nl) = false → Rp K W1 d v → Rp K ⟨W.as ++ as', fun a => W.bad a ∨ W1.bad a, W1.H⟩ d v := fun as' d v hnr h r => by
    cases hr : anyRef ds with
    | false => exact Rp.nr (W := W1) (W' := ⟨W.as ++ as', fun a => W.bad a ∨ W1.bad a, W1.H⟩) rfl (noB hr) _ _ hnr r
    | true => exact Rp.nl (W := W1) (W' := ⟨W.as ++ as', fun a => W.bad a ∨ W1.bad a, W1.H⟩) rfl badLst' _ _ (by rw [hr] at h; simpa using h) r
  have as1 : W1.as.length = M1.length := s1.len
  dsimp only at e
  split at e
  · -- nothing new
    have e0 : W1.as = [] := List.eq_nil_of_length_eq_zero as1
    split at e
    · cases e
    · rename_i h
      cases e
      have hnr : ∀ (d : D) (v : V), Rp K W1 d v → d.nr = true := by
        have both : (∀ (d : D) (v : V), Rp K W1 d v → d.nr = true) ∧ True := by
          refine ⟨fun d => ?_, trivial⟩
          refine D.rec (motive_1 := fun d => ∀ v, Rp K W1 d v → d.nr = true) (motive_2 := fun ds => ∀ vs, RpL K W1 ds vs → D.nrs ds = true) ?_ ?_ ?_ ?_ ?_ ?_ ?_ ?_ ?_ ?_ d
          · intro v _; rw [D.nr] <;> simp
          · intro b v _; rw [D.nr] <;> simp
          · intro i v _; rw [D.nr] <;> simp
          · intro x v _; rw [D.nr] <;> simp
          · intro xs ih v h; obtain ⟨a, vs, _, _, r⟩ := h; rw [D.nr]; exact ih vs r
          · intro xs ih v h; obtain ⟨a, vs, _, _, r⟩ := h; rw [D.nr]; exact ih vs r
          · intro xs ih v h; obtain ⟨a, vs, _, _, r⟩ := h; rw [D.nr]; exact ih vs r
          · intro n v h; obtain ⟨a, q, _⟩ := h; rw [e0] at q; simp at q
          · intro vs _; rw [D.nrs]
          · intro d ds i1 i2 vs h; obtain ⟨v, r, _, h1, h2⟩ := h; rw [D.nrs, i1 v h1, i2 r h2]; rfl
        exact both.1
      have ex := sr2 [] fun a h => by simp at h
      rw [List.append_nil] at ex
      have rd := toW2 [] d v (hnr d v r1) (by simpa using h) r1
      rw [List.append_nil] at rd
      exact k ⟨W.as, fun a => W.bad a ∨ W1.bad a, W1.H⟩ v ex ⟨sr.len, sr.nd, fun a q => .inl (sr.sub a q), fun a q => q.elim (fun z => let ⟨o, hq⟩ := sr.bt a z; ⟨o, keepAll a o hq⟩) (s1.bt a), fun n a mo h1 h2 => old (W2 := ⟨W.as, fun a => W.bad a ∨ W1.bad a, W1.H⟩) rfl ex n a mo h1 h2⟩ rd
  · -- a new list
    rename_i xs
    split at e
    · rename_i hd
      split at e
      · cases e
      · rename_i h
        split at e
        · rename_i hnr
          cases e
          obtain ⟨p, hp, ev⟩ := r1
          have e1' : W1.as = [p] := by
            have hl : W1.as.length = 1 := as1
            match hW : W1.as, hl with
            | [q], _ => rw [hW] at hp; simp at hp; rw [hp]
          obtain ⟨vs1, q1, q2⟩ := s1.obj 0 p (.lst xs) hp rfl
          have hpn : W.H p = none := by
            obtain ⟨new, ea, fr⟩ := e1.as
            refine fr p ?_
            have ea' : W1.as = new := by rw [ea]; rfl
            rw [← ea', e1']; simp
          have pb : W1.bad p := s1.sub p (by rw [e1']; simp)
          have npW : p ∉ W.as := fun z => sr.nb hpn (sr.sub p z)
          have ex := sr2 [p] fun a h => by rw [show a = p by simpa using h]; exact ⟨hpn, pb⟩
          have rxs : RpL K ⟨W.as ++ [p], fun a => W.bad a ∨ W1.bad a, W1.H⟩ xs vs1 := by
            cases hr : anyRef ds with
            | false => exact RpL.nr (W := W1) (W' := ⟨W.as ++ [p], fun a => W.bad a ∨ W1.bad a, W1.H⟩) rfl (noB hr) _ _ hnr q2
            | true => exact RpL.nl (W := W1) (W' := ⟨W.as ++ [p], fun a => W.bad a ∨ W1.bad a, W1.H⟩) rfl badLst' _ _ (by rw [hr] at h; simpa using h) q2
          refine k ⟨W.as ++ [p], fun a => W.bad a ∨ W1.bad a, W1.H⟩ v ex ⟨by simp [sr.len], ?_, fun a q => ?_, fun a q => q.elim (fun z => let ⟨o, hq⟩ := sr.bt a z; ⟨o, keepAll a o hq⟩) (s1.bt a), fun n a mo h1 h2 => ?_⟩ ⟨p, by show (W.as ++ [p])[M.length]? = some p; rw [← sr.len]; simp, ev⟩
          · show (W.as ++ [p]).Nodup
            rw [List.nodup_append]
            refine ⟨sr.nd, by simp, fun a ha b hb => ?_⟩
            rw [show b = p by simpa using hb]
            rintro rfl; exact npW ha
          · rcases List.mem_append.mp q with q | q
            · exact .inl (sr.sub a q)
            · rw [show a = p by simpa using q]; exact .inr pb
          · have h1' : (W.as ++ [p])[n]? = some a := h1
            by_cases hlt : n < W.as.length
            · rw [List.getElem?_append_left hlt] at h1'
              rw [List.getElem?_append_left (by rw [← sr.len]; exact hlt)] at h2
              exact old (W2 := ⟨W.as ++ [p], fun a => W.bad a ∨ W1.bad a, W1.H⟩) rfl ex n a mo h1' h2
            · have en : n = W.as.length := by
                have := (List.getElem?_eq_some_iff.mp h1').1
                simp at this; omega
              subst en
              have eb : p = a := by simpa using h1'
              have em : MO.lst xs = mo := by
                rw [sr.len] at h2
                simpa using h2
              subst eb em
              exact ⟨vs1, q1, rxs⟩
        · cases e
    · cases e
  · cases e
end
section
variable {X : Cx} {k n : Nat} {f : Addr} {fd : FuncData} {ps : List Str} {c : FnC} {x : Str} {p pos : Pos} {e : Expr} {es : List Expr} {fa : FA}
theorem pf_call (F : FnOk X.prog X.w X.K X.mg X.base CX0 k f fd ps (spOf X.K c n)) (hr : Room k X.A) (hg : Gl X x) (hm : X.mg x = some (.ref f)) (hk : PySem.W.keepIn X.K (.ref f) = true) (hb : Binds X.K fd ps []) (ha : PFA X (e :: es) fa) (hn : n = es.length + 1 := by rfl)
    (hlen : ∀ ρ M r, fa ρ M = some r → r.1.length = es.length + 1) (hdb : (x == ("__debug__" : Str)) = false := by decide) (he : starEach (e :: es) X.env = (false, eval e X.env) :: starEach es X.env := by rfl) (hpl : (backTo pos (starEach es X.env)).any (·.1) = false := by rfl) :
    PFE X (.Call (.Name x p) (e :: es) [] pos) (fCall c fa) := pe_weak (pe_call F hr hg hm hk hb .nil pass0 ha hdb he hpl) fun σ H Q => by
  rintro ⟨W, ρ, M, rfl, sr, sl, d, M', hf, k⟩
  obtain ⟨⟨ds, M1⟩, hx, hf⟩ := Option.bind_eq_some_iff.mp hf
  refine ⟨W, ρ, M, rfl, sr, sl, ds, M1, hx, fun W1 vs e1 s1 r1 => ?_⟩
  show spOf X.K c n (vs ++ []) W1.H Q E0
  rw [List.append_nil]
  exact callP_ok s1 r1 (by rw [← r1.len, hn]; exact hlen _ _ _ hx) hf fun W2 v e2 s2 r2 => k W2 v (e1.trans e2) s2 r2
theorem pf_call0 (F : FnOk X.prog X.w X.K X.mg X.base CX0 k f fd ps (spOf X.K c 0)) (hr : Room k X.A) (hg : Gl X x) (hm : X.mg x = some (.ref f)) (hk : PySem.W.keepIn X.K (.ref f) = true) (hb : Binds X.K fd ps []) (hdb : (x == ("__debug__" : Str)) = false := by decide) :
    PFE X (.Call (.Name x p) [] [] pos) (fCall c fNil) := pe_weak (pe_call0 F hr hg hm hk hb .nil pass0 hdb) fun σ H Q => by
  rintro ⟨W, ρ, M, rfl, sr, sl, d, M', hf, k⟩
  show spOf X.K c 0 ([] ++ []) W.H Q E0
  exact callP_ok (ds := []) sr rfl rfl hf fun W2 v e2 s2 r2 => k W2 v e2 s2 r2
end
theorem len_nil : ∀ ρ M (r : List D × Mem), fNil ρ M = some r → r.1.length = 0 := fun ρ M r h => by cases h; rfl
theorem len_cons {fa : FE} {f : FA} {n : Nat} (h : ∀ ρ M r, f ρ M = some r → r.1.length = n) : ∀ ρ M (r : List D × Mem), fCons fa f ρ M = some r → r.1.length = n + 1 := fun ρ M r e => by
  obtain ⟨a, ha, e⟩ := Option.bind_eq_some_iff.mp e
  obtain ⟨b, hb, e⟩ := Option.bind_eq_some_iff.mp e
  cases e
  simp [h _ _ _ hb]
end PF
namespace PF
open PySem PySem.Spec PyProof.Rows L2
/-! ### a call that changes one list -/
def refIn (n : Nat) : List D → Bool
  | [] => false
  | .ref m :: ds => decide (m = n) || refIn n ds
  | _ :: ds => refIn n ds
theorem refIn_no {n : Nat} : ∀ {ds : List D}, refIn n ds = false → D.ref n ∉ ds
  | [], _ => by simp
  | d :: ds, h => by
    intro z
    rcases List.mem_cons.mp z with z | z
    · subst z
      simp [refIn] at h
    · refine refIn_no (ds := ds) ?_ z
      cases d with
      | ref m => rw [refIn, Bool.or_eq_false_iff] at h; exact h.2
      | _ => exact h
def callS (i : Nat) (c : FnC) (ds : List D) (M : Mem) : Option (D × Mem) := match ds[i]? with
  | some (.ref n) => match M[n]? with
    | some mo => if mo.nr && !refIn n (ds.set i .non) then (argsP M (ds.set i .non)).bind fun es => (c (es.set i (.ref 0)) [mo]).bind fun r => match r.2 with
        | [.lst xs] => if (D.nrs xs && r.1.nr) && !(anyRef (ds.set i .non) && !(r.1.nl && D.nls xs)) then some (r.1, M.set n (.lst xs)) else none
        | _ => none
      else none
    | none => none
  | _ => none
def fCallS (i : Nat) (c : FnC) (fa : FA) : FE := fun ρ M => (fa ρ M).bind fun a => callS i c a.1 a.2
section
variable {K : PySem.W.Frag} {W : Wo} {M : Mem}
theorem callS_ok {i : Nat} {c : FnC} {n : Nat} {ds : List D} {vs : List V} {d : D} {M' : Mem} {Q : VK} {E : XK} (sr : SR K W M) (r : RpL K W ds vs) (hn : vs.length = n) (e : callS i c ds M = some (d, M'))
    (k : ∀ W' v, Ext W W' → SR K W' M' → Rp K W' d v → Q v W'.H) : spOf K c n vs W.H Q E := by
  unfold callS at e
  split at e
  · rename_i m hm
    split at e
    · rename_i mo hmo
      split at e
      · rename_i hc0
        rw [Bool.and_eq_true, Bool.not_eq_true'] at hc0
        obtain ⟨hnr, hri⟩ := hc0
        obtain ⟨es, he, e⟩ := Option.bind_eq_some_iff.mp e
        obtain ⟨⟨d1, M1⟩, hc, e⟩ := Option.bind_eq_some_iff.mp e
        obtain ⟨a, ha, mok⟩ := sr.addr hmo
        obtain ⟨vi, hvi, ri⟩ := r.get hm
        obtain ⟨a', ha', ev⟩ := ri
        obtain rfl : a = a' := Option.some.inj (ha.symm.trans ha')
        have haW : a ∈ W.as := List.mem_of_getElem? ha
        have nl : ¬ Lent W (ds.set i .non) a := fun ⟨j, h1, h2⟩ => by
          obtain ⟨q1, q2⟩ := List.getElem?_eq_some_iff.mp h2
          obtain ⟨q3, q4⟩ := List.getElem?_eq_some_iff.mp ha
          have : j = m := (List.getElem_inj sr.nd).mp (q2.trans q4.symm)
          subst this
          exact refIn_no hri h1
        have sL : SR K (W.lend [a] (Lent W (ds.set i .non))) [mo] := by
          refine ⟨rfl, by simp [Wo.lend], fun b h => ?_, fun b h => sr.bt b h.1, fun j b mo' h1 h2 => ?_⟩
          · rw [show b = a by simpa [Wo.lend] using h]
            exact ⟨sr.sub a haW, nl⟩
          · cases j with
            | zero =>
              have eb : a = b := by simpa [Wo.lend] using h1
              have em : mo = mo' := by simpa using h2
              subst eb em
              exact MoOk.nr (W := W) (W' := W.lend [a] (Lent W (ds.set i .non))) rfl (fun _ z => z.1) hnr mok
            | succ j => simp at h2
        have r' : RpL K W (ds.set i .non) (vs.set i .non) := r.set i rfl
        have rE := args_ok (as := [a]) sr he r' (free := Lent W (ds.set i .non)) fun j b h1 h2 => ⟨j, h1, h2⟩
        have rE2 : RpL K (W.lend [a] (Lent W (ds.set i .non))) (es.set i (.ref 0)) vs := by
          have q := rE.set (d := .ref 0) (v := .ref a) i ⟨a, rfl, rfl⟩
          rw [List.set_set] at q
          have ev' : vs.set i (.ref a) = vs := by
            rw [← ev]
            obtain ⟨h1, h2⟩ := List.getElem?_eq_some_iff.mp hvi
            rw [← h2]; exact List.set_getElem_self h1
          rw [ev'] at q
          exact q
        refine ⟨hn, W.lend [a] (Lent W (ds.set i .non)), [mo], _, rfl, sL, rE2, d1, M1, hc, fun W1 v e1 s1 r1 => ?_⟩
        have keepAll : ∀ b o, b ≠ a → W.H b = some o → W1.H b = some o := fun b o hb h => e1.keep b o (by simpa [Wo.lend] using hb) h
        dsimp only at e
        split at e
        · rename_i xs
          split at e
          · rename_i hcond
            rw [Bool.and_eq_true, Bool.and_eq_true, Bool.not_eq_true'] at hcond
            obtain ⟨⟨hxs, hd⟩, hl⟩ := hcond
            cases e
            obtain ⟨new, ea, fr⟩ := e1.as
            have enew : new = [] := by
              have h1 := s1.len
              rw [ea] at h1
              simp [Wo.lend] at h1
              exact h1
            subst enew
            have ea1 : W1.as = [a] := by rw [ea]; rfl
            obtain ⟨us, q1, q2⟩ := s1.obj 0 a (.lst xs) (by rw [ea1]; rfl) rfl
            have ex : Ext W ⟨W.as, fun b => W.bad b ∨ W1.bad b, W1.H⟩ := by
              refine ⟨⟨[], by simp, fun _ h => by simp at h⟩, fun b h => .inl h, fun b h => h.elim .inl fun z => (e1.new b z).imp (fun q => q.1) fun q => q, fun b o hb h => keepAll b o (fun z => hb (by rw [z]; exact haW)) h, fun b o h => ?_⟩
              by_cases z : b = a
              · subst z; exact ⟨_, q1.1⟩
              · exact ⟨o, keepAll b o z h⟩
            have badLst : ∀ b, (W.bad b ∨ W1.bad b) → W1.bad b ∨ (Lent W (ds.set i .non) b ∧ LstAt W1.H b) := fun b z => by
              rcases z with z | z
              · by_cases q : Lent W (ds.set i .non) b
                · have nb : b ≠ a := fun z => nl (by rw [← z]; exact q)
                  obtain ⟨us, q2⟩ := (lent_lst sr q).1
                  exact .inr ⟨q, us, keepAll b _ nb q2⟩
                · exact .inl (e1.bad b ⟨z, q⟩)
              · exact .inl z
            have noB : anyRef (ds.set i .non) = false → ∀ b, (W.bad b ∨ W1.bad b) → W1.bad b := fun hr b z => by
              rcases badLst b z with q | ⟨⟨j, q, _⟩, _⟩
              · exact q
              · exact absurd q (noRef hr j)
            have toD : ∀ (d : D) (v : V), d.nr = true → (anyRef (ds.set i .non) = true → d.nl = true) → Rp K W1 d v → Rp K ⟨W.as, fun b => W.bad b ∨ W1.bad b, W1.H⟩ d v := fun d v h1 h2 r => by
              cases hr : anyRef (ds.set i .non) with
              | false => exact Rp.nr (W := W1) (W' := ⟨W.as, fun b => W.bad b ∨ W1.bad b, W1.H⟩) rfl (noB hr) _ _ h1 r
              | true => exact Rp.nl (W := W1) (W' := ⟨W.as, fun b => W.bad b ∨ W1.bad b, W1.H⟩) rfl (fun b z => (badLst b z).imp (fun q => q) fun q => q.2) _ _ (h2 hr) r
            have toL : RpL K ⟨W.as, fun b => W.bad b ∨ W1.bad b, W1.H⟩ xs us := by
              cases hr : anyRef (ds.set i .non) with
              | false => exact RpL.nr (W := W1) (W' := ⟨W.as, fun b => W.bad b ∨ W1.bad b, W1.H⟩) rfl (noB hr) _ _ hxs q2
              | true =>
                rw [hr, Bool.true_and, Bool.not_eq_false', Bool.and_eq_true] at hl
                exact RpL.nl (W := W1) (W' := ⟨W.as, fun b => W.bad b ∨ W1.bad b, W1.H⟩) rfl (fun b z => (badLst b z).imp (fun q => q) fun q => q.2) _ _ hl.2 q2
            refine k ⟨W.as, fun b => W.bad b ∨ W1.bad b, W1.H⟩ v ex ⟨by rw [List.length_set]; exact sr.len, sr.nd, fun b h => .inl (sr.sub b h), fun b h => h.elim (fun z => let ⟨o, q⟩ := sr.bt b z; ex.live b o q) (s1.bt b), fun j b mo' h1 h2 => ?_⟩ (toD _ _ hd (fun hr => ?_) r1)
            · have h1' : W.as[j]? = some b := h1
              by_cases z : j = m
              · subst z
                obtain rfl : a = b := Option.some.inj (ha.symm.trans h1')
                have hl : j < M.length := by rw [← sr.len]; exact (List.getElem?_eq_some_iff.mp ha).1
                rw [List.getElem?_set_self hl] at h2
                cases h2
                exact ⟨us, q1, toL⟩
              · rw [List.getElem?_set_ne (Ne.symm z)] at h2
                have nb : b ≠ a := fun q => z (by
                  subst q
                  obtain ⟨q1, q2⟩ := List.getElem?_eq_some_iff.mp h1'
                  obtain ⟨q3, q4⟩ := List.getElem?_eq_some_iff.mp ha
                  exact (List.getElem_inj sr.nd).mp (q2.trans q4.symm))
                have mk := sr.obj j b mo' h1' h2
                obtain ⟨o, q⟩ := mk.there
                exact mk.ext ex sr.sub (by rw [q]; exact keepAll b o nb q)
            · rw [hr, Bool.true_and, Bool.not_eq_false', Bool.and_eq_true] at hl
              exact hl.1
          · cases e
        · cases e
      · cases e
    · cases e
  · cases e
end
section
variable {X : Cx} {k n : Nat} {f : Addr} {fd : FuncData} {ps : List Str} {c : FnC} {x : Str} {p pos : Pos} {e : Expr} {es : List Expr} {fa : FA}
theorem pf_callS (i : Nat) (F : FnOk X.prog X.w X.K X.mg X.base CX0 k f fd ps (spOf X.K c n)) (hr : Room k X.A) (hg : Gl X x) (hm : X.mg x = some (.ref f)) (hk : PySem.W.keepIn X.K (.ref f) = true) (hb : Binds X.K fd ps []) (ha : PFA X (e :: es) fa) (hn : n = es.length + 1 := by rfl)
    (hlen : ∀ ρ M r, fa ρ M = some r → r.1.length = es.length + 1) (hdb : (x == ("__debug__" : Str)) = false := by decide) (he : starEach (e :: es) X.env = (false, eval e X.env) :: starEach es X.env := by rfl) (hpl : (backTo pos (starEach es X.env)).any (·.1) = false := by rfl) :
    PFE X (.Call (.Name x p) (e :: es) [] pos) (fCallS i c fa) := pe_weak (pe_call F hr hg hm hk hb .nil pass0 ha hdb he hpl) fun σ H Q => by
  rintro ⟨W, ρ, M, rfl, sr, sl, d, M', hf, k⟩
  obtain ⟨⟨ds, M1⟩, hx, hf⟩ := Option.bind_eq_some_iff.mp hf
  refine ⟨W, ρ, M, rfl, sr, sl, ds, M1, hx, fun W1 vs e1 s1 r1 => ?_⟩
  show spOf X.K c n (vs ++ []) W1.H Q E0
  rw [List.append_nil]
  exact callS_ok s1 r1 (by rw [← r1.len, hn]; exact hlen _ _ _ hx) hf fun W2 v e2 s2 r2 => k W2 v (e1.trans e2) s2 r2
end
/-! ### calls of built-ins -/
abbrev GN := List D → Mem → Option D
def fB (g : GN) (fa : FA) : FE := fun ρ M => (fa ρ M).bind fun a => (g a.1 a.2).bind fun d => some (d, a.2)
def OpN (K : PySem.W.Frag) (r : List V → Hp → VK → Prop) (g : GN) : Prop := ∀ (W : Wo) (M : Mem) (ds : List D) (d : D) (vs : List V) (Q : VK), SR K W M → RpL K W ds vs → g ds M = some d →
  (∀ W' v', Ext W W' → SR K W' M → Rp K W' d v' → Q v' W'.H) → r vs W.H Q
/-- .. that make a new list -/
abbrev GNN := List D → Mem → Option (List D)
def fBN (g : GNN) (fa : FA) : FA := fun ρ M => (fa ρ M).bind fun a => (g a.1 a.2).bind fun d => some (d, a.2)
def OpNN (K : PySem.W.Frag) (r : List V → Hp → VK → Prop) (g : GNN) : Prop := ∀ (W : Wo) (M : Mem) (ds xs : List D) (vs : List V) (Q : VK), SR K W M → RpL K W ds vs → g ds M = some xs →
  (∀ p us, W.H p = none → RpL K W xs us → us.length ≤ LINE → Q (.ref p) (upd W.H p (.lst us))) → r vs W.H Q
section
variable {X : Cx} {e : Expr} {es : List Expr} {fa : FA} {x : Str} {p pos : Pos} {r : List V → Hp → VK → Prop} {g : GN} {gn : GNN} {id T : String}
theorem lB (o : OpN X.K r g) : ∀ σ H Q, liftE X.K (fB g fa) σ H Q → tCB r (liftA X.K fa) σ H Q := by
  rintro σ H Q ⟨W, ρ, M, rfl, sr, sl, d, M', hf, k⟩
  obtain ⟨⟨ds, M1⟩, hx, hf⟩ := Option.bind_eq_some_iff.mp hf
  obtain ⟨d', hg, hf⟩ := Option.bind_eq_some_iff.mp hf
  cases hf
  exact ⟨W, ρ, M, rfl, sr, sl, ds, _, hx, fun W1 vs e1 s1 r1 => o W1 _ ds d vs Q s1 r1 hg fun W2 v e2 s2 r2 => k W2 v (e1.trans e2) s2 r2⟩
theorem lBN (o : OpNN X.K r gn) : ∀ σ H Q, liftN X.K (fBN gn fa) σ H Q → tCB r (liftA X.K fa) σ H Q := by
  rintro σ H Q ⟨W, ρ, M, rfl, sr, sl, d, M', hf, k⟩
  obtain ⟨⟨ds, M1⟩, hx, hf⟩ := Option.bind_eq_some_iff.mp hf
  obtain ⟨d', hg, hf⟩ := Option.bind_eq_some_iff.mp hf
  cases hf
  exact ⟨W, ρ, M, rfl, sr, sl, ds, _, hx, fun W1 vs e1 s1 r1 => o W1 _ ds d vs Q s1 r1 hg fun q us hq ru hl => k W1 q us e1 s1 hq ru hl⟩
theorem pf_b (hc : CallR X (.builtin id) r) (o : OpN X.K r g) (hg : Gl X x) (hm : X.mg x = none) (hv : bootBuiltins x = some (.builtin id)) (ha : PFA X (e :: es) fa) (hn : x ≠ "__name__" := by decide) (hdb : (x == ("__debug__" : Str)) = false := by decide)
    (he : starEach (e :: es) X.env = (false, eval e X.env) :: starEach es X.env := by rfl) (hpl : (backTo pos (starEach es X.env)).any (·.1) = false := by rfl) : PFE X (.Call (.Name x p) (e :: es) [] pos) (fB g fa) := pe_weak (pe_callB hc hg hm hv ha hn hdb he hpl) (lB o)
theorem pf_ty (hc : CallR X (.type T) r) (o : OpN X.K r g) (hg : Gl X x) (hm : X.mg x = none) (hv : bootBuiltins x = some (.type T)) (ha : PFA X (e :: es) fa) (hn : x ≠ "__name__" := by decide) (hdb : (x == ("__debug__" : Str)) = false := by decide)
    (he : starEach (e :: es) X.env = (false, eval e X.env) :: starEach es X.env := by rfl) (hpl : (backTo pos (starEach es X.env)).any (·.1) = false := by rfl) : PFE X (.Call (.Name x p) (e :: es) [] pos) (fB g fa) := pe_weak (pe_callTy hc hg hm hv ha hn hdb he hpl) (lB o)
theorem pfn_b (hc : CallR X (.builtin id) r) (o : OpNN X.K r gn) (hg : Gl X x) (hm : X.mg x = none) (hv : bootBuiltins x = some (.builtin id)) (ha : PFA X (e :: es) fa) (hn : x ≠ "__name__" := by decide) (hdb : (x == ("__debug__" : Str)) = false := by decide)
    (he : starEach (e :: es) X.env = (false, eval e X.env) :: starEach es X.env := by rfl) (hpl : (backTo pos (starEach es X.env)).any (·.1) = false := by rfl) : PFN X (.Call (.Name x p) (e :: es) [] pos) (fBN gn fa) := pe_weak (pe_callB hc hg hm hv ha hn hdb he hpl) (lBN o)
theorem pfn_ty (hc : CallR X (.type T) r) (o : OpNN X.K r gn) (hg : Gl X x) (hm : X.mg x = none) (hv : bootBuiltins x = some (.type T)) (ha : PFA X (e :: es) fa) (hn : x ≠ "__name__" := by decide) (hdb : (x == ("__debug__" : Str)) = false := by decide)
    (he : starEach (e :: es) X.env = (false, eval e X.env) :: starEach es X.env := by rfl) (hpl : (backTo pos (starEach es X.env)).any (·.1) = false := by rfl) : PFN X (.Call (.Name x p) (e :: es) [] pos) (fBN gn fa) := pe_weak (pe_callTy hc hg hm hv ha hn hdb he hpl) (lBN o)
/-- a built-in function that the module has under a name (math.gcd) -/
theorem pf_bfun (hc : CallR X (.builtin id) r) (o : OpN X.K r g) (hg : Gl X x) (hm : X.mg x = some (.builtin id)) (ha : PFA X (e :: es) fa) (hdb : (x == ("__debug__" : Str)) = false := by decide)
    (he : starEach (e :: es) X.env = (false, eval e X.env) :: starEach es X.env := by rfl) (hpl : (backTo pos (starEach es X.env)).any (·.1) = false := by rfl) : PFE X (.Call (.Name x p) (e :: es) [] pos) (fB g fa) := pe_weak (pe_callBfun hc hg hm ha hdb he hpl) (lB o)
end
section
variable {K : PySem.W.Frag}
theorem rl1 {W : Wo} {d : D} {vs : List V} (h : RpL K W [d] vs) : ∃ v, vs = [v] ∧ Rp K W d v := by
  obtain ⟨v, r, rfl, h1, h2⟩ := h
  cases (show _ = _ from h2)
  exact ⟨v, rfl, h1⟩
theorem rl2 {W : Wo} {d e : D} {vs : List V} (h : RpL K W [d, e] vs) : ∃ v u, vs = [v, u] ∧ Rp K W d v ∧ Rp K W e u := by
  obtain ⟨v, r, rfl, h1, h2⟩ := h
  obtain ⟨u, rfl, h3⟩ := rl1 h2
  exact ⟨v, u, rfl, h1, h3⟩
def gLen : GN := fun ds M => match ds with
  | [.str x] => if x.length ≤ LINE then some (.int x.length) else none
  | [d] => (sqOf d M).map fun xs => .int xs.length
  | _ => none
theorem o_len : OpN K (fun xs H Q => ∃ x n, xs = [x] ∧ LenV K x H n ∧ Q (.int n) H) gLen := by
  intro W M ds d vs Q sr r hg k
  unfold gLen at hg
  split at hg
  · split at hg
    · rename_i h
      cases hg
      obtain ⟨v, rfl, r1⟩ := rl1 r
      cases (show _ = _ from r1)
      exact ⟨_, _, rfl, ⟨by rw [line_eq]; exact h, rfl⟩, k W _ (.refl W) sr rfl⟩
    · cases hg
  · obtain ⟨xs, hx, hg⟩ := Option.map_eq_some_iff.mp hg
    subst hg
    obtain ⟨v, rfl, r1⟩ := rl1 r
    obtain ⟨p, us, rfl, h1, r2⟩ := sq_sq sr r1 hx
    refine ⟨_, us.length, rfl, h1.imp (fun z => ⟨us, z, rfl⟩) fun z => ⟨us, z, rfl⟩, k W _ (.refl W) sr ?_⟩
    rw [r2.len]; exact rfl
  · cases hg
def gInt : GN := fun ds _ => match ds with
  | [.int i] => some (.int i)
  | [.bl b] => some (.int (if b then 1 else 0))
  | _ => none
theorem o_int : OpN K (fun xs H Q => (∃ i, xs = [.int i] ∧ Q (.int i) H) ∨ ∃ k, xs = [.bl k] ∧ Q (.int (if k then 1 else 0)) H) gInt := by
  intro W M ds d vs Q sr r hg k
  unfold gInt at hg
  split at hg
  · cases hg
    obtain ⟨v, rfl, r1⟩ := rl1 r
    cases (show _ = _ from r1)
    exact .inl ⟨_, rfl, k W _ (.refl W) sr rfl⟩
  · cases hg
    obtain ⟨v, rfl, r1⟩ := rl1 r
    cases (show _ = _ from r1)
    exact .inr ⟨_, rfl, k W _ (.refl W) sr rfl⟩
  · cases hg
def gI1 (f : Int → Int) : GN := fun ds _ => match ds with | [.int i] => some (.int (f i)) | _ => none
def gI2 (f : Int → Int → Int) : GN := fun ds _ => match ds with | [.int i, .int j] => some (.int (f i j)) | _ => none
theorem o_i1 {f : Int → Int} : OpN K (fun xs H Q => ∃ i, xs = [.int i] ∧ Q (.int (f i)) H) (gI1 f) := by
  intro W M ds d vs Q sr r hg k
  unfold gI1 at hg
  split at hg
  · cases hg
    obtain ⟨v, rfl, r1⟩ := rl1 r
    cases (show _ = _ from r1)
    exact ⟨_, rfl, k W _ (.refl W) sr rfl⟩
  · cases hg
theorem o_i2 {f : Int → Int → Int} : OpN K (fun xs H Q => ∃ i j, xs = [.int i, .int j] ∧ Q (.int (f i j)) H) (gI2 f) := by
  intro W M ds d vs Q sr r hg k
  unfold gI2 at hg
  split at hg
  · cases hg
    obtain ⟨v, u, rfl, r1, r2⟩ := rl2 r
    cases (show _ = _ from r1); cases (show _ = _ from r2)
    exact ⟨_, _, rfl, k W _ (.refl W) sr rfl⟩
  · cases hg
def gAbs : GN := gI1 fun i => if i < 0 then -i else i
def gMax2 : GN := gI2 fun i j => if j > i then j else i
def gMin2 : GN := gI2 fun i j => if j < i then j else i
def gGcd : GN := gI2 fun a b => ((Nat.gcd a.natAbs b.natAbs : Nat) : Int)
def gTuple : GN := fun ds M => match ds with
  | [d] => (sqOf d M).map .tup
  | _ => none
theorem o_tuple : OpN K (fun xs H Q => ∃ p ys, xs = [.ref p] ∧ ((SqL K H p ys ∧ ∀ l, H l = none → Q (.ref l) (upd H l (.tup ys))) ∨ (SqT K H p ys ∧ Q (.ref p) H))) gTuple := by
  intro W M ds d vs Q sr r hg k
  unfold gTuple at hg
  split at hg
  · rename_i d0
    obtain ⟨xs, hx, hg⟩ := Option.map_eq_some_iff.mp hg
    subst hg
    obtain ⟨v, rfl, r1⟩ := rl1 r
    have hl := sq_len sr r1 hx
    have lists : lsOf d0 M = some xs → ∃ p ys, [v] = [V.ref p] ∧ ((SqL K W.H p ys ∧ ∀ l, W.H l = none → Q (.ref l) (upd W.H l (.tup ys))) ∨ (SqT K W.H p ys ∧ Q (.ref p) W.H)) := fun e => by
      obtain ⟨p, us, rfl, h1, r2⟩ := ls_sq sr r1 e
      exact ⟨p, us, rfl, .inl ⟨h1, fun l nl => k _ _ (Ext.put nl) (sr.put nl) (.newTup sr nl r2 (by rw [← r2.len]; exact hl))⟩⟩
    cases d0 with
    | tup ys =>
      cases hx
      obtain ⟨p, us, rfl, h1, r2⟩ := tp_sq r1
      exact ⟨p, us, rfl, .inr ⟨h1, k W _ (.refl W) sr r1⟩⟩
    | _ => exact lists hx
  · cases hg
def gList : GNN := fun ds M => match ds with
  | [d] => sqOf d M
  | _ => none
theorem o_list : OpNN K (fun xs H Q => ∃ p ys, xs = [.ref p] ∧ (SqL K H p ys ∨ SqT K H p ys) ∧ ∀ l, H l = none → Q (.ref l) (upd H l (.lst ys))) gList := by
  intro W M ds xs vs Q sr r hg k
  unfold gList at hg
  split at hg
  · obtain ⟨v, rfl, r1⟩ := rl1 r
    have hl := sq_len sr r1 hg
    obtain ⟨p, us, rfl, h1, r2⟩ := sq_sq sr r1 hg
    exact ⟨p, us, rfl, h1, fun l nl => k l us nl r2 (by rw [← r2.len]; exact hl)⟩
  · cases hg
end
/-! isinstance of one built-in class -/
inductive Ty where
  | non | bl | int | str | tup | lst
  deriving DecidableEq
def Ty.nm : Ty → String
  | .non => "NoneType" | .bl => "bool" | .int => "int" | .str => "str" | .tup => "tuple" | .lst => "list"
def tyOf : D → Ty
  | .non => .non | .bl _ => .bl | .int _ => .int | .str _ => .str | .tup _ => .tup | .lst _ => .lst | .kst _ => .lst | .ref _ => .lst
def isi (t T : Ty) : Bool := decide (t = T) || (decide (t = .bl) && decide (T = .int))
theorem kit_tab : ∀ t T : Ty, T ≠ .non → kitB t.nm T.nm = some (isi t T) := by
  intro t T h
  cases T with
  | non => exact absurd rfl h
  | _ => cases t <;> decide +kernel
section
variable {K : PySem.W.Frag} {W : Wo} {M : Mem}
theorem tyX_of {d : D} {v : V} (sr : SR K W M) (h : Rp K W d v) : TyX K W.H v (.type (tyOf d).nm) := by
  have kl : ∀ {a : Addr} {vs : List V}, SqL K (fun _ => none) a vs → TyX K W.H (.ref a) (.type "list") := fun h => by
    rcases h with (h | ⟨o, h⟩) | ⟨o, its, n, h1, h2, _⟩
    · cases (show (none : Option HO) = _ from h)
    · cases (show (none : Option HO) = _ from h)
    · exact .kList h1 h2
  cases d with
  | non => cases (show _ = _ from h); exact .base .non
  | bl b => cases (show _ = _ from h); exact .base (.bl b)
  | int i => cases (show _ = _ from h); exact .base (.int i)
  | str x => cases (show _ = _ from h); exact .base (.str x)
  | tup xs =>
    obtain ⟨a, vs, rfl, f, _⟩ := h
    rcases f.1 with f | f
    · exact .base (.tup f.1)
    · rcases f with (f | ⟨o, f⟩) | ⟨o, its, n, h1, h2, _⟩
      · cases (show (none : Option HO) = _ from f)
      · cases (show (none : Option HO) = _ from f)
      · exact .kTuple h1 h2
  | lst xs =>
    obtain ⟨a, vs, rfl, f, _⟩ := h
    exact .base (.lst f.1.1)
  | kst xs =>
    obtain ⟨a, vs, rfl, f, _⟩ := h
    rcases f.1 with ⟨⟨o, f⟩, _⟩ | f
    · exact .base (.frz f)
    · exact kl f
  | ref n =>
    obtain ⟨a, h1, rfl⟩ := h
    obtain ⟨mo, _, m⟩ := sr.at_ h1
    cases mo with
    | lst xs => obtain ⟨vs, q, _⟩ := m; exact .base (.lst q.1)
end
def fIsi (T : Ty) (fa : FE) : FE := fun ρ M => (fa ρ M).bind fun a => some (.bl (isi (tyOf a.1) T), a.2)
theorem pf_isi {X : Cx} {e : Expr} {fa : FE} {y : Str} {p q pos : Pos} (T : Ty) (hT : T ≠ .non) (hg : Gl X "isinstance") (hm : X.mg "isinstance" = none) (ha : PFE X e fa) (hgT : Gl X y) (hmT : X.mg y = none) (hvT : bootBuiltins y = some (.type T.nm)) (hy : y ≠ "__name__" := by decide) (hdy : (y == ("__debug__" : Str)) = false := by decide)
    (he : starEach [e, .Name y q] X.env = (false, eval e X.env) :: starEach [.Name y q] X.env := by rfl) (hpl : (backTo pos (starEach [.Name y q] X.env)).any (·.1) = false := by rfl) (hs1 : starEach [.Name y q] X.env = (false, eval (.Name y q) X.env) :: starEach [] X.env := by rfl) :
    PFE X (.Call (.Name "isinstance" p) [e, .Name y q] [] pos) (fIsi T fa) :=
  pe_weak (pe_callB call_isi hg hm boot_isinstance (pa_cons ha (pa_cons (pe_bltn (v := .ty T.nm) hgT hmT hvT rfl hy hdy) pa_nil hs1) he) (by decide) (by decide) he hpl) fun σ H Q => by
    rintro ⟨W, ρ, M, rfl, sr, sl, d, M', hf, k⟩
    obtain ⟨⟨x, M1⟩, hx, hf⟩ := Option.bind_eq_some_iff.mp hf
    cases hf
    exact ⟨W, ρ, M, rfl, sr, sl, x, _, hx, fun W1 v e1 s1 r1 => ⟨v, .ty T.nm, .type (tyOf x).nm, .type T.nm, _, rfl, .ty _, tyX_of s1 r1, kit_ty (kit_tab _ _ hT), k W1 _ e1 s1 rfl⟩⟩
/-! ### methods -/
abbrev GM := D → List D → Mem → Option (D × Mem)
def tyOk (T : String) (d : D) (M : Mem) : Bool := if T = "list" then (lsOf d M).isSome else if T = "str" then (match d with | .str _ => true | _ => false) else false
def fM (T : String) (g : GM) (fo : FE) (fa : FA) : FE := fun ρ M => (fo ρ M).bind fun o => if tyOk T o.1 o.2 = true then (fa ρ o.2).bind fun a => g o.1 a.1 a.2 else none
def OpM (K : PySem.W.Frag) (r : V → List V → Hp → VK → Prop) (g : GM) : Prop := ∀ (W : Wo) (M M' : Mem) (x d : D) (ds : List D) (v : V) (vs : List V) (Q : VK), SR K W M → Rp K W x v → RpL K W ds vs → g x ds M = some (d, M') →
  (∀ W' v', Ext W W' → SR K W' M' → Rp K W' d v' → Q v' W'.H) → r v vs W.H Q
section
variable {K : PySem.W.Frag} {W : Wo} {M : Mem}
theorem tyV_of {T : String} {d : D} {v : V} (sr : SR K W M) (h : Rp K W d v) (e : tyOk T d M = true) : tyV K T v W.H := by
  unfold tyOk at e
  split at e
  · rename_i hT
    subst hT
    obtain ⟨xs, hx⟩ := Option.isSome_iff_exists.mp e
    obtain ⟨p, vs, rfl, h1, _⟩ := ls_sq sr h hx
    exact .inl ⟨rfl, vs, h1⟩
  · split at e
    · rename_i hT
      subst hT
      split at e
      · cases (show _ = _ from h); exact rfl
      · cases e
    · cases e
end
section
variable {X : Cx} {o e : Expr} {es : List Expr} {fo : FE} {fa : FA} {name : Str} {apos cpos : Pos} {T id : String} {r : V → List V → Hp → VK → Prop} {g : GM}
theorem pf_m0 (pa : PlainAttrs T) (slot : Slot T name id) (hty : typeOf (.builtin id) = pure (.type "method_descriptor")) (hm : MtR X id r) (op : OpM X.K r g) (ho : PFE X o fo)
    (hbase : attributeBase o name X.env (eval o X.env) = eval o X.env := by rfl) (hline : (apos.endLine == cpos.line) = true := by rfl) : PFE X (.Call (.Attribute o name apos) [] [] cpos) (fM T g fo fNil) := pe_weak (pe_bm0 pa slot hty hm ho hbase hline) fun σ H Q => by
  rintro ⟨W, ρ, M, rfl, sr, sl, d, M', hf, k⟩
  obtain ⟨⟨x, M1⟩, hx, hf⟩ := Option.bind_eq_some_iff.mp hf
  split at hf
  · rename_i ht
    exact ⟨W, ρ, M, rfl, sr, sl, x, M1, hx, fun W1 v e1 s1 r1 => ⟨tyV_of s1 r1 ht, op W1 M1 M' x d [] v [] Q s1 r1 rfl hf fun W2 u e2 s2 r2 => k W2 u (e1.trans e2) s2 r2⟩⟩
  · cases hf
theorem pf_m (pa : PlainAttrs T) (slot : Slot T name id) (hty : typeOf (.builtin id) = pure (.type "method_descriptor")) (hm : MtR X id r) (op : OpM X.K r g) (ho : PFE X o fo) (ha : PFA X (e :: es) fa)
    (hbase : attributeBase o name X.env (eval o X.env) = eval o X.env := by rfl)
    (hfew : ((backTo cpos (starEach (e :: es) X.env)).all (fun x => !x.1) && (backToKw cpos (keywordEach [] X.env)).all (fun x => x.1.isSome)
      && decide ((e :: es).length + ([] : List Keyword).length + (if ([] : List Keyword).isEmpty then 0 else 1) < 30)) = true := by rfl)
    (hline : (apos.endLine == cpos.line) = true := by rfl) (hs : starEach (e :: es) X.env = (false, eval e X.env) :: starEach es X.env := by rfl) (hplain : (backTo cpos (starEach es X.env)).any (·.1) = false := by rfl) :
    PFE X (.Call (.Attribute o name apos) (e :: es) [] cpos) (fM T g fo fa) := pe_weak (pe_bm pa slot hty hm ho ha hbase hfew hline hs hplain) fun σ H Q => by
  rintro ⟨W, ρ, M, rfl, sr, sl, d, M', hf, k⟩
  obtain ⟨⟨x, M1⟩, hx, hf⟩ := Option.bind_eq_some_iff.mp hf
  split at hf
  · rename_i ht
    obtain ⟨⟨ds, M2⟩, hd, hf⟩ := Option.bind_eq_some_iff.mp hf
    exact ⟨W, ρ, M, rfl, sr, sl, x, M1, hx, fun W1 v e1 s1 r1 => ⟨tyV_of s1 r1 ht, W1, ρ, M1, rfl, s1, sl.ext e1 sr.sub, ds, M2, hd, fun W2 vs e2 s2 r2 => op W2 M2 M' x d ds v vs Q s2 (r1.ext e2 s1.sub) r2 hf fun W3 u e3 s3 r3 => k W3 u ((e1.trans e2).trans e3) s3 r3⟩⟩
  · cases hf
end
/-- a changeable list, as it stands -/
def mlOf (d : D) (M : Mem) : Option (Nat × List D) := match d with
  | .ref n => match M[n]? with | some (.lst xs) => some (n, xs) | _ => none
  | _ => none
def gAppend : GM := fun x ds M => match ds with
  | [d] => (mlOf x M).bind fun l => if l.2.length < LINE then some (.non, M.set l.1 (.lst (l.2 ++ [d]))) else none
  | _ => none
def gPop : GM := fun x ds M => match ds with
  | [] => (mlOf x M).bind fun l => (l.2[l.2.length - 1]?).bind fun d => some (d, M.set l.1 (.lst l.2.dropLast))
  | _ => none
def gReverse : GM := fun x ds M => match ds with
  | [] => (mlOf x M).bind fun l => some (.non, M.set l.1 (.lst l.2.reverse))
  | _ => none
section
variable {K : PySem.W.Frag} {W : Wo} {M : Mem}
theorem ml_ok {x : D} {v : V} {n : Nat} {xs : List D} (sr : SR K W M) (h : Rp K W x v) (e : mlOf x M = some (n, xs)) : ∃ a vs, v = .ref a ∧ W.as[n]? = some a ∧ W.H a = some (.lst vs) ∧ RpL K W xs vs ∧ vs.length ≤ LINE := by
  cases x with
  | ref m =>
    obtain ⟨a, h1, e1⟩ := h
    obtain ⟨mo, h2, q⟩ := sr.at_ h1
    cases mo with
    | lst ys =>
      have e' : (match M[m]? with | some (.lst xs) => some (m, xs) | _ => none) = some (n, xs) := e
      rw [h2] at e'
      cases e'
      obtain ⟨vs, q1, q2⟩ := q
      exact ⟨a, vs, e1, h1, q1.1, q2, q1.2⟩
  | _ => cases e
theorem o_append : OpM K rAppend gAppend := by
  intro W M M' x d ds v vs Q sr rx r hg k
  unfold gAppend at hg
  split at hg
  · obtain ⟨⟨n, xs⟩, hl, hg⟩ := Option.bind_eq_some_iff.mp hg
    split at hg
    · rename_i hz
      cases hg
      obtain ⟨u, rfl, r1⟩ := rl1 r
      obtain ⟨a, ws, rfl, ha, hH, rw_, hlen⟩ := ml_ok sr rx hl
      refine ⟨a, ws, u, rfl, rfl, hH, by rw [line_eq, ← rw_.len]; exact hz, ?_⟩
      exact k _ _ (Ext.wr (List.mem_of_getElem? ha)) (sr.wr ha (rw_.append (.one r1)) (by
        rw [List.length_append, List.length_singleton, ← rw_.len]; exact hz)) rfl
    · cases hg
  · cases hg
theorem RpL.dropLast {xs : List D} {vs : List V} (h : RpL K W xs vs) : RpL K W xs.dropLast vs.dropLast := by
  rw [List.dropLast_eq_take, List.dropLast_eq_take, h.len]
  exact h.take _
theorem o_pop : OpM K rPop gPop := by
  intro W M M' x d ds v vs Q sr rx r hg k
  unfold gPop at hg
  split at hg
  · obtain ⟨⟨n, xs⟩, hl, hg⟩ := Option.bind_eq_some_iff.mp hg
    obtain ⟨y, hy, hg⟩ := Option.bind_eq_some_iff.mp hg
    cases hg
    cases (show _ = _ from r)
    obtain ⟨a, ws, rfl, ha, hH, rw_, hlen⟩ := ml_ok sr rx hl
    obtain ⟨z, hz, rz⟩ := rw_.get hy
    have e := Ext.wr (W := W) (o := .lst ws.dropLast) (List.mem_of_getElem? ha)
    exact ⟨a, ws, z, rfl, rfl, hH, by rw [← rw_.len]; exact hz, k _ _ e (sr.wr ha rw_.dropLast (by rw [List.length_dropLast]; omega)) (rz.ext e sr.sub)⟩
  · cases hg
theorem o_reverse : OpM K rReverse gReverse := by
  intro W M M' x d ds v vs Q sr rx r hg k
  unfold gReverse at hg
  split at hg
  · obtain ⟨⟨n, xs⟩, hl, hg⟩ := Option.bind_eq_some_iff.mp hg
    cases hg
    cases (show _ = _ from r)
    obtain ⟨a, ws, rfl, ha, hH, rw_, hlen⟩ := ml_ok sr rx hl
    exact ⟨a, ws, rfl, rfl, hH, k _ _ (Ext.wr (List.mem_of_getElem? ha)) (sr.wr ha rw_.reverse (by rw [List.length_reverse]; exact hlen)) rfl⟩
  · cases hg
end
/-- xs[i] = e -/
def sSetIx (fe fo fi : FE) : FS := fun ρ M => (fe ρ M).bind fun v => (fo ρ v.2).bind fun o => (fi ρ o.2).bind fun i => match i.1 with
  | .int k => (mlOf o.1 i.2).bind fun l => (ixN l.2.length k).bind fun j => some (.nx ρ, i.2.set l.1 (.lst (l.2.set j v.1)))
  | _ => none
theorem pfs_setIx {X : Cx} {e o i : Expr} {fe fo fi : FE} {p pos : Pos} (he : PFE X e fe) (ho : PFE X o fo) (hi : PFE X i fi)
    (ha : ∀ v, assign (.Subscript o i p) X.env v = (do
      let ov ← holding [v] (eval o X.env)
      let iv ← holding [v, ov] (eval i X.env)
      standAt p
      holding [v, ov, iv] (setItem ov iv v)
      release [v, ov, iv] []) := by intro _; rfl)
    (hs : swapsWithSole [.Subscript o i p] e pos.line X.env = pure false := by rfl) (hw : swappedStores [.Subscript o i p] e X.env = pure none := by rfl)
    (h1 : (assignEach [.Subscript o i p] X.env).map (·.2) = [assign (.Subscript o i p) X.env] := by rfl) : PFS X (.Assign [.Subscript o i p] e pos) (sSetIx fe fo fi) :=
  ps_weak (ps_asg he (pg_sub ho hi set_list ha) hs hw h1) fun E σ H => by
    rw [liftS_iff]
    rintro ⟨W, ρ, M, rfl, sr, sl, o', M', hf, k⟩
    obtain ⟨⟨v, M1⟩, hv, hf⟩ := Option.bind_eq_some_iff.mp hf
    obtain ⟨⟨x, M2⟩, hx, hf⟩ := Option.bind_eq_some_iff.mp hf
    obtain ⟨⟨y, M3⟩, hy, hf⟩ := Option.bind_eq_some_iff.mp hf
    dsimp only at hf
    split at hf
    · obtain ⟨⟨n, xs⟩, hl, hf⟩ := Option.bind_eq_some_iff.mp hf
      obtain ⟨j, hj, hf⟩ := Option.bind_eq_some_iff.mp hf
      cases hf
      refine ⟨W, ρ, M, rfl, sr, sl, v, M1, hv, fun W1 vv e1 s1 r1 => ⟨W1, ρ, M1, rfl, s1, sl.ext e1 sr.sub, x, M2, hx, fun W2 ov e2 s2 r2 => ⟨W2, ρ, M2, rfl, s2, sl.ext (e1.trans e2) sr.sub, _, M3, hy, fun W3 iv e3 s3 r3 => ?_⟩⟩⟩
      cases (show _ = _ from r3)
      obtain ⟨a, ws, rfl, ha, hH, rw_, hlen⟩ := ml_ok s3 (r2.ext e3 s2.sub) hl
      have e4 := Ext.wr (W := W3) (o := .lst (ws.set j vv)) (List.mem_of_getElem? ha)
      have e14 := ((e1.trans e2).trans e3).trans e4
      exact ⟨a, ws, _, j, rfl, rfl, hH, by rw [← rw_.len]; exact hj, k _ σ e14 (s3.wr ha (rw_.set j (r1.ext (e2.trans e3) s1.sub)) (by rw [List.length_set]; exact hlen)) (sl.ext e14 sr.sub)⟩
    · cases hf
end PF
namespace PF
open PySem PySem.Spec PyProof.Rows L2
/-- a def of the module that keeps what c says -/
structure Cal (P : Program) (w : World) (K : PySem.W.Frag) (mg : Str → Option Value) (base : Heap) (k : Nat) (x : Str) (c : FnC) (n : Nat) : Prop where
  ex : ∃ (f : Addr) (fd : FuncData) (ps : List Str), mg x = some (.ref f) ∧ PySem.W.keepIn K (.ref f) = true ∧ L2.Binds K fd ps [] ∧ FnOk P w K mg base CX0 k f fd ps (spOf K c n)
section
variable {P : Program} {w : World} {K : PySem.W.Frag} {mg : Str → Option Value} {base : Heap} {k n : Nat} {x : Str} {c c' : FnC} {f : Addr} {fd : FuncData} {ps : List Str}
theorem cal_of (g : mg x = some (.ref f)) (hk : PySem.W.keepIn K (.ref f) = true) (b : L2.Binds K fd ps []) (F : FnOk P w K mg base CX0 k f fd ps (spOf K c n)) : Cal P w K mg base k x c n := ⟨f, fd, ps, g, hk, b, F⟩
theorem cal_none {qual : Str} {params : Arguments} {body : List Stmt} {scope : Scope} (g : mg x = some (.ref f)) (hk : PySem.W.keepIn K (.ref f) = true) (b : L2.Binds K fd ps []) (F : FunD K x qual params body scope [] [] f fd) (h : ∀ ds M, c ds M = none) : Cal P w K mg base k x c n :=
  ⟨f, fd, ps, g, hk, b, ⟨fun vs H Q E ⟨_, W, M, ds, _, _, _, d, M', e, _⟩ => (by rw [h] at e; cases e), fun A outer s H args us vs Q E _ _ _ _ ⟨_, W, M, ds, _, _, _, d, M', e, _⟩ => (by rw [h] at e; cases e)⟩⟩
/-- another function that says the same where it says something -/
theorem Cal.as (C : Cal P w K mg base k x c n) (h : ∀ ds M r, c' ds M = some r → c ds M = some r) : Cal P w K mg base k x c' n :=
  let ⟨f, fd, ps, g, hk, b, F⟩ := C.ex
  ⟨f, fd, ps, g, hk, b, fn_as F h⟩
theorem Cal.mono {k' : Nat} (C : Cal P w K mg base k x c n) (h : k ≤ k') : Cal P w K mg base k' x c n :=
  let ⟨f, fd, ps, g, hk, b, F⟩ := C.ex
  ⟨f, fd, ps, g, hk, b, F.mono h⟩
end
section
variable {X : Cx} {k n : Nat} {c : FnC} {x : Str} {p pos : Pos} {e : Expr} {es : List Expr} {fa : FA}
theorem pf_callC (C : Cal X.prog X.w X.K X.mg X.base k x c (es.length + 1)) (hr : Room k X.A) (hg : Gl X x) (ha : PFA X (e :: es) fa)
    (hlen : ∀ ρ M r, fa ρ M = some r → r.1.length = es.length + 1) (hdb : (x == ("__debug__" : Str)) = false := by decide) (he : starEach (e :: es) X.env = (false, eval e X.env) :: starEach es X.env := by rfl) (hpl : (backTo pos (starEach es X.env)).any (·.1) = false := by rfl) :
    PFE X (.Call (.Name x p) (e :: es) [] pos) (fCall c fa) :=
  let ⟨_, _, _, g, hk, b, F⟩ := C.ex
  pf_call F hr hg g hk b ha rfl hlen hdb he hpl
theorem pf_callCS (i : Nat) (C : Cal X.prog X.w X.K X.mg X.base k x c (es.length + 1)) (hr : Room k X.A) (hg : Gl X x) (ha : PFA X (e :: es) fa)
    (hlen : ∀ ρ M r, fa ρ M = some r → r.1.length = es.length + 1) (hdb : (x == ("__debug__" : Str)) = false := by decide) (he : starEach (e :: es) X.env = (false, eval e X.env) :: starEach es X.env := by rfl) (hpl : (backTo pos (starEach es X.env)).any (·.1) = false := by rfl) :
    PFE X (.Call (.Name x p) (e :: es) [] pos) (fCallS i c fa) :=
  let ⟨_, _, _, g, hk, b, F⟩ := C.ex
  pf_callS i F hr hg g hk b ha rfl hlen hdb he hpl
end
/-- the built-ins are the built-ins -/
structure Bn (mg : Str → Option Value) : Prop where
  len : mg "len" = none
  int : mg "int" = none
  abs : mg "abs" = none
  tuple : mg "tuple" = none
  list : mg "list" = none
  range : mg "range" = none
  isinstance : mg "isinstance" = none
  bool : mg "bool" = none
  str : mg "str" = none
  min : mg "min" = none
  max : mg "max" = none
  sum : mg "sum" = none
  sorted : mg "sorted" = none
  any : mg "any" = none
  all : mg "all" = none
  set : mg "set" = none
  dict : mg "dict" = none
  type : mg "type" = none
def bnNames : List Str := ["len", "int", "abs", "tuple", "list", "range", "isinstance", "bool", "str", "min", "max", "sum", "sorted", "any", "all", "set", "dict", "type"]
theorem bn_of {mg : Str → Option Value} (h : ∀ (i : Nat) (x : Str), bnNames[i]? = some x → mg x = none) : Bn mg :=
  ⟨h 0 _ rfl, h 1 _ rfl, h 2 _ rfl, h 3 _ rfl, h 4 _ rfl, h 5 _ rfl, h 6 _ rfl, h 7 _ rfl, h 8 _ rfl, h 9 _ rfl, h 10 _ rfl, h 11 _ rfl, h 12 _ rfl, h 13 _ rfl, h 14 _ rfl, h 15 _ rfl, h 16 _ rfl, h 17 _ rfl⟩
/-- the law's own promise, from what it computes of the script -/
def spLaw (K : PySem.W.Frag) : Sp := fun vs H Q _ => ∃ (a : Addr) (ns : List Int), vs = [.ref a] ∧ SqL K H a (ns.map V.int) ∧ Only H ∧ ns.length ≤ 63 ∧ ∀ H', Q (.bl true) H'
theorem rp_ints {K : PySem.W.Frag} {W : Wo} : ∀ ns : List Int, RpL K W (ns.map D.int) (ns.map V.int)
  | [] => rfl
  | n :: ns => ⟨.int n, _, rfl, rfl, rp_ints ns⟩
theorem law_sp {K : PySem.W.Frag} {c : FnC} (h : ∀ ns : List Int, ns.length ≤ 63 → c [.kst (ns.map .int)] [] = some (.bl true, [])) : ∀ vs H Q E, spLaw K vs H Q E → spOf K c 1 vs H Q E := by
  rintro vs H Q E ⟨a, ns, rfl, hS, hO, hl, q⟩
  refine ⟨rfl, ⟨[], fun _ => False, H⟩, [], [.kst (ns.map .int)], rfl, ⟨rfl, List.nodup_nil, fun _ z => by simp at z, fun _ z => z.elim, fun n a mo z => by simp at z⟩, ⟨_, _, rfl, ⟨a, ns.map V.int, rfl, ⟨?_, by rw [List.length_map]; show ns.length ≤ 16777216; omega⟩, rp_ints ns⟩, rfl⟩, .bl true, [], h ns hl, fun W' v _ _ r => ?_⟩
  · rcases hS with (hS | ⟨o, hS⟩) | hS
    · rcases hO a with z | ⟨o, xs, z⟩
      · rw [hS] at z; cases z
      · rw [hS] at z; cases z
    · exact .inl ⟨⟨o, hS⟩, fun z => z⟩
    · exact .inr (.inr hS)
  · cases (show _ = _ from r)
    exact q W'.H
end PF
namespace PF
open PySem PySem.Spec PyProof.Rows L2
/-- names that stand for built-in functions of modules -/
def impB (im : List (Str × String)) (K : PySem.W.Frag) : Bool := im.all fun q => He.eqO (PySem.W.nsIn K mainGlobals q.1) (some (some (.builtin q.2)))
def seeX (im : List (Str × String)) (fa : List He.Fa) (fn : List He.DefD) (K : PySem.W.Frag) : Bool × He.AlD := (impB im K, He.obsD fa fn K)
def obX (n : Nat) (im : List (Str × String)) (fa : List He.Fa) (fn : List He.DefD) (g : Addr → Option Obj) : Bool × He.AlD := seeX im fa fn (He.frG g (He.asD g n))
def SaysX (im : List (Str × String)) (fa : List He.Fa) (fn : List He.DefD) (K : PySem.W.Frag) : Prop := seeX im fa fn K = (true, He.valD fn)
def hkX (n : Nat) (im : List (Str × String)) (fa : List He.Fa) (fn : List He.DefD) : PySem.W.Hook where
  α := Bool × He.AlD
  obs := fun t => obX n im fa fn t.heap.get?
  val := fun _ => (true, He.valD fn)
  says := fun _ h => ∃ K : PySem.W.Frag, K.In h ∧ SaysX im fa fn K
  of := fun _ _ e => ⟨_, He.frG_in, e⟩
  keeps := fun _ _ _ ⟨K, hK, c⟩ k => ⟨K, PySem.W.Frag.In.keeps hK k, c⟩
theorem obX_eq {n : Nat} {im : List (Str × String)} {fa : List He.Fa} {fn : List He.DefD} {g : Addr → Option Obj} {s : Shared} (h : ∀ a, g a = s.heap.get? a) : obX n im fa fn g = (hkX n im fa fn).obs s := by
  rw [show g = s.heap.get? from funext h]; rfl
section
variable {im : List (Str × String)} {fa : List He.Fa} {fn : List He.DefD} {K : PySem.W.Frag}
theorem SaysX.d (c : SaysX im fa fn K) : He.SaysD fa fn K := congrArg (fun z : Bool × He.AlD => z.2) c
theorem SaysX.imp (c : SaysX im fa fn K) {h : Heap} {mg : Str → Option Value} (X : K.In h) (G : h.Ns mainGlobals mg) (i : Nat) {x : Str} {b : String} (e : im[i]? = some (x, b)) : mg x = some (.builtin b) := by
  have c1 : impB im K = true := congrArg (fun z : Bool × He.AlD => z.1) c
  exact PySem.W.mg_of X G (He.eqO_ok (List.all_eq_true.mp c1 _ (List.mem_of_getElem? e)))
end
/-- the function objects, from names -/
theorem fun_at {h : Heap} {mg : Str → Option Value} {K : PySem.W.Frag} (X : K.In h) (G : h.Ns mainGlobals mg) {im : List (Str × String)} {fa : List He.Fa} {fn : List He.DefD} (c : SaysX im fa fn K) (i : Nat) {x : Str} (e : fa[i]? = some (He.Fa.glo x)) : mg x = some (.ref (He.ga K x)) := He.glo_ok X G (c.d.fact i e)
theorem bn_at {h : Heap} {mg : Str → Option Value} {K : PySem.W.Frag} (X : K.In h) (G : h.Ns mainGlobals mg) {im : List (Str × String)} {fa : List He.Fa} {fn : List He.DefD} (c : SaysX im fa fn K) (e : ∀ (i : Nat) (x : Str), bnNames[i]? = some x → fa[i]? = some (He.Fa.free x)) : Bn mg :=
  bn_of fun i x q => He.free_ok X G (c.d.fact i (e i x q))
end PF
namespace PF
open PySem PySem.Spec PyProof.Rows L2
/-! xs.pop(i) -/
def gPop1 : GM := fun x ds M => match ds with
  | [.int i] => (mlOf x M).bind fun l => (ixN l.2.length i).bind fun k => (l.2[k]?).bind fun d => some (d, M.set l.1 (.lst (l.2.eraseIdx k)))
  | _ => none
section
variable {K : PySem.W.Frag} {W : Wo} {M : Mem}
theorem RpL.eraseIdx {xs : List D} {vs : List V} (h : RpL K W xs vs) (k : Nat) : RpL K W (xs.eraseIdx k) (vs.eraseIdx k) := by
  rw [List.eraseIdx_eq_take_drop_succ, List.eraseIdx_eq_take_drop_succ]
  exact (h.take k).append (h.drop (k + 1))
theorem o_pop1 : OpM K rPopAt gPop1 := by
  intro W M M' x d ds v vs Q sr rx r hg k
  unfold gPop1 at hg
  split at hg
  · rename_i i
    obtain ⟨⟨n, xs⟩, hl, hg⟩ := Option.bind_eq_some_iff.mp hg
    obtain ⟨j, hj, hg⟩ := Option.bind_eq_some_iff.mp hg
    obtain ⟨y, hy, hg⟩ := Option.bind_eq_some_iff.mp hg
    cases hg
    obtain ⟨u, rfl, r1⟩ := rl1 r
    cases (show _ = _ from r1)
    obtain ⟨a, ws, rfl, ha, hH, rw_, hlen⟩ := ml_ok sr rx hl
    obtain ⟨z, hz, rz⟩ := rw_.get hy
    obtain ⟨q1, q2, q3, q4⟩ := ixN_seq hj
    have hL : ws.length ≤ 16777216 := hlen
    have el : xs.length = ws.length := rw_.len
    have q3' : -(ws.length : Int) ≤ i := by rw [← el]; exact q3
    have q4' : i < (ws.length : Int) := by rw [← el]; exact q4
    have e := Ext.wr (W := W) (o := .lst (ws.eraseIdx j)) (List.mem_of_getElem? ha)
    refine ⟨a, ws, _, j, z, rfl, rfl, hH, by omega, by omega, by rw [← el]; exact q1, hz, ?_⟩
    exact k _ _ e (sr.wr ha (rw_.eraseIdx j) (Nat.le_trans (List.length_eraseIdx_le ws j) hlen)) (rz.ext e sr.sub)
  · cases hg
end
/-! a + b of lists, as a new list -/
def gCat : D → D → Mem → Option (List D) := fun x y M => match ltOf x M, ltOf y M with
  | some a, some b => if a.length + b.length ≤ LINE then some (a ++ b) else none
  | _, _ => none
def f2N (g : D → D → Mem → Option (List D)) (fa fb : FE) : FA := fun ρ M => (fa ρ M).bind fun a => (fb ρ a.2).bind fun b => (g a.1 b.1 b.2).bind fun d => some (d, b.2)
theorem pfn_cat {X : Cx} {a b : Expr} {fa fb : FE} {pos : Pos} (ha : PFE X a fa) (hb : PFE X b fb) : PFN X (.BinOp a .Add b pos) (f2N gCat fa fb) := pe_weak (pe_op op_cat ha hb) fun σ H Q => by
  rintro ⟨W, ρ, M, rfl, sr, sl, d, M', hf, k⟩
  obtain ⟨⟨x, M1⟩, hx, hf⟩ := Option.bind_eq_some_iff.mp hf
  obtain ⟨⟨y, M2⟩, hy, hf⟩ := Option.bind_eq_some_iff.mp hf
  obtain ⟨z, hz, hf⟩ := Option.bind_eq_some_iff.mp hf
  cases hf
  refine ⟨W, ρ, M, rfl, sr, sl, x, M1, hx, fun W1 v e1 s1 r1 => ⟨W1, ρ, M1, rfl, s1, sl.ext e1 sr.sub, y, _, hy, fun W2 u e2 s2 r2 => ?_⟩⟩
  unfold gCat at hz
  split at hz
  · rename_i p q hp hq
    split at hz
    · rename_i hl
      cases hz
      obtain ⟨p1, vs, rfl, h1, t1⟩ := lt_sq s2 (r1.ext e2 s1.sub) hp
      obtain ⟨q1, us, rfl, h2, t2⟩ := lt_sq s2 r2 hq
      exact ⟨p1, q1, vs, us, rfl, rfl, h1, h2, by rw [line_eq, ← t1.len, ← t2.len]; exact hl, fun t nt => k W2 t _ (e1.trans e2) s2 nt (t1.append t2) (by rw [List.length_append, ← t1.len, ← t2.len]; exact hl)⟩
    · cases hz
  · cases hz
end PF
namespace PF
open PySem PySem.Spec PyProof.Rows L2
/-! ### what the pieces compute, for simp -/
def rg1 (a : List D) (M : Mem) : Option ((List D × Option Nat) × Mem) := match a with | [.int j] => if okR 0 j then some ((rgD 0 j.toNat, none), M) else none | _ => none
def rg2 (a : List D) (M : Mem) : Option ((List D × Option Nat) × Mem) := match a with | [.int i, .int j] => if okR i j then some ((rgD i (j - i).toNat, none), M) else none | _ => none
theorem ev_rgh1 {j : Int} (M : Mem) (h : okR 0 j = true) : rg1 [.int j] M = some ((rgD 0 j.toNat, none), M) := by unfold rg1; dsimp only; rw [if_pos h]
theorem ev_rgh2 {i j : Int} (M : Mem) (h : okR i j = true) : rg2 [.int i, .int j] M = some ((rgD i (j - i).toNat, none), M) := by unfold rg2; dsimp only; rw [if_pos h]
section
variable (ρ : Rho) (M : Mem)
@[simp] theorem ev_var (i) : fVar i ρ M = match ρ[i]? with | some (some d) => some (d, M) | _ => none := rfl
@[simp] theorem ev_c (d) : fC d ρ M = some (d, M) := rfl
@[simp] theorem ev_f1 (g a) : f1 g a ρ M = (a ρ M).bind fun a => (g a.1 a.2).bind fun d => some (d, a.2) := rfl
@[simp] theorem ev_f2 (g a b) : f2 g a b ρ M = (a ρ M).bind fun a => (b ρ a.2).bind fun b => (g a.1 b.1 b.2).bind fun d => some (d, b.2) := rfl
@[simp] theorem ev_f2T (g a b) : f2T g a b ρ M = (a ρ M).bind fun a => (b ρ a.2).bind fun b => (g a.1 b.1 b.2).bind fun d => some (d, b.2) := rfl
@[simp] theorem ev_gB (g x y) : gB g x y M = (g x y M).map .bl := rfl
@[simp] theorem ev_tru (a) : fTru a ρ M = (a ρ M).bind fun a => (gTru a.1 a.2).bind fun k => some (k, a.2) := rfl
@[simp] theorem ev_not (a) : fNot a ρ M = (a ρ M).bind fun a => some (!a.1, a.2) := rfl
@[simp] theorem ev_and (a b) : fAnd a b ρ M = (a ρ M).bind fun a => if a.1 = true then b ρ a.2 else some (false, a.2) := rfl
@[simp] theorem ev_or (a b) : fOr a b ρ M = (a ρ M).bind fun a => if a.1 = true then some (true, a.2) else b ρ a.2 := rfl
@[simp] theorem ev_andV (a b) : fAndV a b ρ M = (a ρ M).bind fun a => (gTru a.1 a.2).bind fun k => if k = true then b ρ a.2 else some a := rfl
@[simp] theorem ev_orV (a b) : fOrV a b ρ M = (a ρ M).bind fun a => (gTru a.1 a.2).bind fun k => if k = true then some a else b ρ a.2 := rfl
@[simp] theorem ev_notV (a) : fNotV a ρ M = (a ρ M).bind fun a => (gTru a.1 a.2).bind fun k => some (.bl (!k), a.2) := rfl
@[simp] theorem ev_ifE (c a b) : fIfE c a b ρ M = (c ρ M).bind fun c => if c.1 = true then a ρ c.2 else b ρ c.2 := rfl
theorem ev_chain (g g' : G2B) (fa fb fc : FE) : fChain g g' fa fb fc ρ M = (fa ρ M).bind fun a => (fb ρ a.2).bind fun b => (g a.1 b.1 b.2).bind fun k => if k = true then (fc ρ b.2).bind fun c => (g' b.1 c.1 c.2).bind fun j => some (.bl j, c.2) else some (.bl false, b.2) := rfl
theorem ev_chainT (g g' : G2B) (fa fb fc : FE) : fChainT g g' fa fb fc ρ M = (fa ρ M).bind fun a => (fb ρ a.2).bind fun b => (g a.1 b.1 b.2).bind fun k => if k = true then (fc ρ b.2).bind fun c => (g' b.1 c.1 c.2).bind fun j => some (j, c.2) else some (false, b.2) := rfl
@[simp] theorem ev_nil : fNil ρ M = some ([], M) := rfl
@[simp] theorem ev_cons (a r) : fCons a r ρ M = (a ρ M).bind fun a => (r ρ a.2).bind fun r => some (a.1 :: r.1, r.2) := rfl
@[simp] theorem ev_tup (f) : fTup f ρ M = (f ρ M).bind fun a => if a.1.length ≤ LINE then some (.tup a.1, a.2) else none := rfl
@[simp] theorem ev_lstD (f) : fLstD f ρ M = (f ρ M).bind fun a => if a.1.length ≤ LINE then some a else none := rfl
@[simp] theorem ev_fz (f) : fFz f ρ M = (f ρ M).bind fun a => some (.lst a.1, a.2) := rfl
@[simp] theorem ev_mut (f) : fMut f ρ M = (f ρ M).bind fun a => some (.ref a.2.length, a.2 ++ [.lst a.1]) := rfl
@[simp] theorem ev_rev (f) : fRevN f ρ M = (f ρ M).bind fun a => (lsOf a.1 a.2).bind fun xs => some (xs.reverse, a.2) := rfl
@[simp] theorem ev_b (g f) : fB g f ρ M = (f ρ M).bind fun a => (g a.1 a.2).bind fun d => some (d, a.2) := rfl
@[simp] theorem ev_bN (g f) : fBN g f ρ M = (f ρ M).bind fun a => (g a.1 a.2).bind fun d => some (d, a.2) := rfl
@[simp] theorem ev_isi (T f) : fIsi T f ρ M = (f ρ M).bind fun a => some (.bl (isi (tyOf a.1) T), a.2) := rfl
@[simp] theorem ev_call (c f) : fCall c f ρ M = (f ρ M).bind fun a => callP c a.1 a.2 := rfl
@[simp] theorem ev_callS (i c f) : fCallS i c f ρ M = (f ρ M).bind fun a => callS i c a.1 a.2 := rfl
@[simp] theorem ev_m (T g o f) : fM T g o f ρ M = (o ρ M).bind fun o => if tyOk T o.1 o.2 = true then (f ρ o.2).bind fun a => g o.1 a.1 a.2 else none := rfl
@[simp] theorem ev_next : sNext ρ M = some (.nx ρ, M) := rfl
@[simp] theorem ev_seq (f g) : sSeq f g ρ M = (f ρ M).bind fun o => match o.1 with | .nx ρ' => g ρ' o.2 | _ => some o := rfl
@[simp] theorem ev_brk : sBreak ρ M = some (.bk ρ, M) := rfl
@[simp] theorem ev_cont : sCont ρ M = some (.ct ρ, M) := rfl
@[simp] theorem ev_drop (f) : sDrop f ρ M = (f ρ M).bind fun a => some (.nx ρ, a.2) := rfl
@[simp] theorem ev_ret (f) : sRet f ρ M = (f ρ M).bind fun a => some (.ret a.1, a.2) := rfl
@[simp] theorem ev_retN : sRetN ρ M = some (.ret .non, M) := rfl
@[simp] theorem ev_if (c f g) : sIf c f g ρ M = (c ρ M).bind fun a => if a.1 = true then f ρ a.2 else g ρ a.2 := rfl
@[simp] theorem ev_set (i f) : sSet i f ρ M = (f ρ M).bind fun a => some (.nx (ρ.set i (some a.1)), a.2) := rfl
@[simp] theorem ev_asg (f t) : sAsg f t ρ M = (f ρ M).bind fun a => (t a.1 ρ).bind fun ρ' => some (.nx ρ', a.2) := rfl
@[simp] theorem ev_par (i j f) : sPar i j f ρ M = (f ρ M).bind fun a => match a.1 with | [x, y] => some (.nx ((ρ.set i (some x)).set j (some y)), a.2) | _ => none := rfl
@[simp] theorem ev_par3 (i j l f) : sPar3 i j l f ρ M = (f ρ M).bind fun a => match a.1 with | [x, y, z] => some (.nx (((ρ.set i (some x)).set j (some y)).set l (some z)), a.2) | _ => none := rfl
@[simp] theorem ev_aug (i g f) : sAug i g f ρ M = match ρ[i]? with | some (some x) => (f ρ M).bind fun a => (g x a.1 a.2).bind fun z => some (.nx (ρ.set i (some z.1)), z.2) | _ => none := rfl
@[simp] theorem ev_while (c f) : sWhile c f ρ M = sWhileN c f (fuel ρ M) ρ M := rfl
@[simp] theorem ev_for (i t f) : sFor i t f ρ M = (i ρ M).bind fun a => sLoop (chk a.1.2 a.1.1) (sStep t f) a.1.1 ρ a.2 := rfl
@[simp] theorem ev_step (t f d) : sStep t f d ρ M = (t d ρ).bind fun ρ' => f ρ' M := rfl
@[simp] theorem ev_tN (i d) : tN i d ρ = some (ρ.set i (some d)) := rfl
@[simp] theorem ev_tT (n t xs) : tT n t (.tup xs) ρ = if xs.length = n then t xs ρ else none := rfl
@[simp] theorem ev_tsN : tsN [] ρ = some ρ := rfl
@[simp] theorem ev_tsC (t u d r) : tsC t u (d :: r) ρ = (t d ρ).bind fun ρ' => u r ρ' := rfl
@[simp] theorem ev_rg1 (f) : fiRg1 f ρ M = (f ρ M).bind fun a => rg1 a.1 a.2 := rfl
@[simp] theorem ev_rg2 (f) : fiRg2 f ρ M = (f ρ M).bind fun a => rg2 a.1 a.2 := rfl
@[simp] theorem ev_lc (vs i t c e) : fLC vs i t c e ρ M = (i ρ M).bind fun a => lcLoop (chk a.1.2 a.1.1) t c e (wipeR ρ vs) a.1.1 [] a.2 := rfl
@[simp] theorem ev_yes : fYes ρ M = some (true, M) := rfl
@[simp] theorem ev_setIx (v o i) : sSetIx v o i ρ M = (v ρ M).bind fun v => (o ρ v.2).bind fun o => (i ρ o.2).bind fun i => match i.1 with
  | .int k => (mlOf o.1 i.2).bind fun l => (ixN l.2.length k).bind fun j => some (.nx ρ, i.2.set l.1 (.lst (l.2.set j v.1)))
  | _ => none := rfl
@[simp] theorem ev_slice (a l h) : fSlice a l h ρ M = (a ρ M).bind fun a => (l ρ a.2).bind fun l => (h ρ l.2).bind fun h => (gSlice a.1 l.1 h.1 h.2).bind fun d => some (d, h.2) := rfl
@[simp] theorem ev_sliceN (a l h) : fSliceN a l h ρ M = (a ρ M).bind fun a => (l ρ a.2).bind fun l => (h ρ l.2).bind fun h => (lsOf a.1 h.2).bind fun d => some (cutD d l.1 h.1, h.2) := rfl
@[simp] theorem ev_noPart : fNoPart ρ M = some (none, M) := rfl
@[simp] theorem ev_part (a) : fPart a ρ M = (a ρ M).bind fun a => match a.1 with | .int i => some (some i, a.2) | _ => none := rfl
end
section
variable (M : Mem) (i j : Int)
@[simp] theorem ev_add : gAdd (.int i) (.int j) M = some (.int (i + j)) := rfl
@[simp] theorem ev_sub : gSub (.int i) (.int j) M = some (.int (i - j)) := rfl
@[simp] theorem ev_mul : gMul (.int i) (.int j) M = if okMul i j = true then some (.int (i * j)) else none := rfl
@[simp] theorem ev_fdiv : gFdiv (.int i) (.int j) M = if okDiv j = true then some (.int (i.fdiv j)) else none := rfl
@[simp] theorem ev_mod : gMod (.int i) (.int j) M = if decide (j ≠ 0) = true then some (.int (i.fmod j)) else none := rfl
@[simp] theorem ev_pow : gPow (.int i) (.int j) M = if okPow i j = true then some (.int (i ^ j.toNat)) else none := rfl
@[simp] theorem ev_neg : gNeg (.int i) M = some (.int (-i)) := rfl
@[simp] theorem ev_cmp (c) : gCmp c (.int i) (.int j) M = some (c i j) := rfl
@[simp] theorem ev_eq : gEq (.int i) (.int j) M = some (decide (i = j)) := by
  unfold gEq; simp [D.val, D.dp, D.py, PyData.eqv]; by_cases h : i = j <;> simp [h]
@[simp] theorem ev_ne : gNe (.int i) (.int j) M = some (!decide (i = j)) := by
  unfold gNe; rw [ev_eq]; rfl
@[simp] theorem ev_eqb (a b : Bool) : gEq (.bl a) (.bl b) M = some (decide (a = b)) := by cases a <;> cases b <;> rfl
@[simp] theorem ev_neb (a b : Bool) : gNe (.bl a) (.bl b) M = some (!decide (a = b)) := by cases a <;> cases b <;> rfl
@[simp] theorem ev_int : gInt [.int i] M = some (.int i) := rfl
@[simp] theorem ev_intb (b) : gInt [.bl b] M = some (.int (if b = true then 1 else 0)) := by cases b <;> rfl
@[simp] theorem ev_abs : gAbs [.int i] M = some (.int (i.natAbs : Int)) := by
  show some (D.int (if i < 0 then -i else i)) = _
  rw [show (if i < 0 then -i else i) = (i.natAbs : Int) by omega]
@[simp] theorem ev_gcd : gGcd [.int i, .int j] M = some (.int ((Nat.gcd i.natAbs j.natAbs : Nat) : Int)) := rfl
@[simp] theorem ev_max2 : gMax2 [.int i, .int j] M = some (.int (if j > i then j else i)) := rfl
@[simp] theorem ev_min2 : gMin2 [.int i, .int j] M = some (.int (if j < i then j else i)) := rfl
@[simp] theorem ev_trub (b) : gTru (.bl b) M = some b := rfl
@[simp] theorem ev_trui : gTru (.int i) M = some (i != 0) := rfl
@[simp] theorem ev_isb (a b : Bool) : gIs (.bl a) (.bl b) M = some (decide (a = b)) := rfl
@[simp] theorem ev_isn (d) : gIs d .non M = some (isNon d) := rfl
@[simp] theorem ev_isNot (d e) : gIsNot d e M = (gIs d e M).map (! ·) := rfl
@[simp] theorem ev_lent (xs : List D) : gLen [.tup xs] M = some (.int xs.length) := rfl
@[simp] theorem ev_lenl (xs : List D) : gLen [.lst xs] M = some (.int xs.length) := rfl
@[simp] theorem ev_lenk (xs : List D) : gLen [.kst xs] M = some (.int xs.length) := rfl
@[simp] theorem ev_lenr (n : Nat) : gLen [.ref n] M = (lsOf (.ref n) M).map fun xs => .int xs.length := rfl
@[simp] theorem ev_lsr (n : Nat) : lsOf (.ref n) M = match M[n]? with | some (.lst xs) => some xs | _ => none := rfl
@[simp] theorem ev_lsl (xs : List D) : lsOf (.lst xs) M = some xs := rfl
@[simp] theorem ev_lsk (xs : List D) : lsOf (.kst xs) M = some xs := rfl
@[simp] theorem ev_sqr (n : Nat) : sqOf (.ref n) M = lsOf (.ref n) M := rfl
@[simp] theorem ev_sql (xs : List D) : sqOf (.lst xs) M = some xs := rfl
@[simp] theorem ev_sqk (xs : List D) : sqOf (.kst xs) M = some xs := rfl
@[simp] theorem ev_sqt (xs : List D) : sqOf (.tup xs) M = some xs := rfl
@[simp] theorem ev_ixt (xs : List D) : gIx (.tup xs) (.int i) M = atI xs i := rfl
@[simp] theorem ev_ixl (xs : List D) : gIx (.lst xs) (.int i) M = atI xs i := rfl
@[simp] theorem ev_ixk (xs : List D) : gIx (.kst xs) (.int i) M = atI xs i := rfl
@[simp] theorem ev_ixr (n : Nat) : gIx (.ref n) (.int i) M = (lsOf (.ref n) M).bind fun xs => atI xs i := rfl
@[simp] theorem ev_tyOk (d : D) : tyOk "list" d M = (lsOf d M).isSome := rfl
@[simp] theorem ev_ml (n : Nat) : mlOf (.ref n) M = match M[n]? with | some (.lst xs) => some (n, xs) | _ => none := rfl
@[simp] theorem ev_append (x d : D) : gAppend x [d] M = (mlOf x M).bind fun l => if l.2.length < LINE then some (.non, M.set l.1 (.lst (l.2 ++ [d]))) else none := rfl
@[simp] theorem ev_pop (x : D) : gPop x [] M = (mlOf x M).bind fun l => (l.2[l.2.length - 1]?).bind fun d => some (d, M.set l.1 (.lst l.2.dropLast)) := rfl
@[simp] theorem ev_reverse (x : D) : gReverse x [] M = (mlOf x M).bind fun l => some (.non, M.set l.1 (.lst l.2.reverse)) := rfl
@[simp] theorem ev_chk0 (xs) : chk none xs M = true := rfl
@[simp] theorem ev_list (d : D) : gList [d] M = sqOf d M := rfl
@[simp] theorem ev_tuple (d : D) : gTuple [d] M = (sqOf d M).map .tup := rfl
theorem atI_eq {α} (xs : List α) : L2.atI xs i = (L2.ixN xs.length i).bind fun n => xs[n]? := rfl
end
theorem at_nat {α} {xs : List α} {n : Nat} {d : α} (h : xs[n]? = some d) : L2.atI xs (n : Int) = some d := by
  have hl := (List.getElem?_eq_some_iff.mp h).1
  rw [atI_eq]
  unfold L2.ixN
  rw [if_pos (by omega), if_pos (by omega)]
  exact h
@[simp] theorem atI_0 {α} (x : α) (xs) : L2.atI (x :: xs) 0 = some x := at_nat (n := 0) rfl
@[simp] theorem atI_1 {α} (x y : α) (xs) : L2.atI (x :: y :: xs) 1 = some y := at_nat (n := 1) rfl
@[simp] theorem atI_2 {α} (x y z : α) (xs) : L2.atI (x :: y :: z :: xs) 2 = some z := at_nat (n := 2) rfl
theorem atI_int {α} {xs : List α} {i : Int} {n : Nat} {d : α} (hi : i = n) (h : xs[n]? = some d) : L2.atI xs i = some d := by subst hi; exact at_nat h
/-- a list of iL -/
def iL (xs : List Int) : List D := xs.map .int
@[simp] theorem iL_len (xs : List Int) : (iL xs).length = xs.length := by simp [iL]
@[simp] theorem iL_nil : iL [] = [] := rfl
theorem iL_cons (x xs) : iL (x :: xs) = .int x :: iL xs := rfl
theorem iL_app (xs ys) : iL xs ++ iL ys = iL (xs ++ ys) := by simp [iL]
theorem iL_at {xs : List Int} {n : Nat} : (iL xs)[n]? = (xs[n]?).map .int := by simp [iL]
theorem nrs_iL : ∀ xs : List Int, D.nrs (iL xs) = true
  | [] => rfl
  | x :: xs => by
    show (D.nr (.int x) && D.nrs (iL xs)) = true
    rw [nrs_iL xs]; rfl
theorem nls_iL : ∀ xs : List Int, D.nls (iL xs) = true
  | [] => rfl
  | x :: xs => by
    show (D.nl (.int x) && D.nls (iL xs)) = true
    rw [nls_iL xs]; rfl
theorem beqs_iL : ∀ xs : List Int, D.beqs (iL xs) (iL xs) = true
  | [] => rfl
  | x :: xs => by
    show (D.beq (.int x) (.int x) && D.beqs (iL xs) (iL xs)) = true
    rw [beqs_iL xs]; simp [D.beq]
theorem line_le {n : Nat} (h : n ≤ 16777216) : n ≤ LINE := h
@[simp] theorem line_1 : (1 ≤ LINE) = True := by simp [LINE]
@[simp] theorem line_2 : (2 ≤ LINE) = True := by simp [LINE]
@[simp] theorem line_3 : (3 ≤ LINE) = True := by simp [LINE]
@[simp] theorem line_4 : (4 ≤ LINE) = True := by simp [LINE]
@[simp] theorem line_5 : (5 ≤ LINE) = True := by simp [LINE]
@[simp] theorem line_6 : (6 ≤ LINE) = True := by simp [LINE]
@[simp] theorem line_7 : (7 ≤ LINE) = True := by simp [LINE]
@[simp] theorem line_8 : (8 ≤ LINE) = True := by simp [LINE]
@[simp] theorem line_9 : (9 ≤ LINE) = True := by simp [LINE]
@[simp] theorem line_10 : (10 ≤ LINE) = True := by simp [LINE]
section
variable (M : Mem) (xs : List D)
@[simp] theorem ap_int (i) : argP M (.int i) = some (.int i) := rfl
@[simp] theorem ap_bl (i) : argP M (.bl i) = some (.bl i) := rfl
@[simp] theorem ap_non : argP M .non = some .non := rfl
@[simp] theorem ap_tup : argP M (.tup xs) = if D.nrs xs = true then some (.tup xs) else none := rfl
@[simp] theorem ap_lst : argP M (.lst xs) = if D.nrs xs = true then some (.lst xs) else none := rfl
@[simp] theorem ap_kst : argP M (.kst xs) = if D.nrs xs = true then some (.kst xs) else none := rfl
@[simp] theorem ir_int (i) : D.isRef (.int i) = false := rfl
@[simp] theorem ir_bl (i) : D.isRef (.bl i) = false := rfl
@[simp] theorem ir_non : D.isRef .non = false := rfl
@[simp] theorem ir_tup : D.isRef (.tup xs) = false := rfl
@[simp] theorem ir_lst : D.isRef (.lst xs) = false := rfl
@[simp] theorem ir_kst : D.isRef (.kst xs) = false := rfl
@[simp] theorem ir_ref (n) : D.isRef (.ref n) = true := rfl
end
/-! ### loops -/
theorem loop_inv {c : Mem → Bool} {step : D → FS} {xs : List D} (I : Nat → Rho → Mem → Prop) (hc : ∀ k ρ M, I k ρ M → c M = true)
    (hs : ∀ k d ρ M, xs[k]? = some d → I k ρ M → ∃ ρ' M', step d ρ M = some (.nx ρ', M') ∧ I (k + 1) ρ' M') {ρ : Rho} {M : Mem} (h0 : I 0 ρ M) : ∃ ρ' M', sLoop c step xs ρ M = some (.nx ρ', M') ∧ I xs.length ρ' M' := by
  have main : ∀ (ys : List D) (k : Nat) (ρ : Rho) (M : Mem), xs.drop k = ys → k ≤ xs.length → I k ρ M → ∃ ρ' M', sLoop c step ys ρ M = some (.nx ρ', M') ∧ I xs.length ρ' M' := by
    intro ys
    induction ys with
    | nil =>
      intro k ρ M e hk h
      have : k = xs.length := by
        have := congrArg List.length e
        simp at this; omega
      subst this
      exact ⟨ρ, M, by rw [sLoop, if_pos (hc _ _ _ h)], h⟩
    | cons d ys ih =>
      intro k ρ M e hk h
      have hd : xs[k]? = some d := by
        have h0 : (xs.drop k)[0]? = some d := by rw [e]; rfl
        rw [List.getElem?_drop] at h0
        simpa using h0
      obtain ⟨ρ', M', e1, h1⟩ := hs k d ρ M hd h
      have e2 : xs.drop (k + 1) = ys := by rw [← List.drop_drop, e]; rfl
      obtain ⟨ρ2, M2, e3, h3⟩ := ih (k + 1) ρ' M' e2 (by have := (List.getElem?_eq_some_iff.mp hd).1; omega) h1
      exact ⟨ρ2, M2, by rw [sLoop, if_pos (hc _ _ _ h), e1]; exact e3, h3⟩
  exact main xs 0 ρ M rfl (Nat.zero_le _) h0
theorem while_inv {fc : FT} {fb : FS} (I : Rho → Mem → Prop) (P : Rho → Mem → Prop) (μ : Rho → Mem → Nat)
    (hs : ∀ ρ M, I ρ M → (fc ρ M = some (false, M) ∧ P ρ M) ∨ (fc ρ M = some (true, M) ∧ ∃ ρ' M', fb ρ M = some (.nx ρ', M') ∧ I ρ' M' ∧ μ ρ' M' < μ ρ M)) : ∀ (n : Nat) (ρ : Rho) (M : Mem), I ρ M → μ ρ M < n → ∃ ρ' M', sWhileN fc fb n ρ M = some (.nx ρ', M') ∧ P ρ' M'
  | 0, _, _, _, h => absurd h (Nat.not_lt_zero _)
  | n + 1, ρ, M, hI, h => by
    rcases hs ρ M hI with ⟨e, hp⟩ | ⟨e, ρ', M', e1, h1, h2⟩
    · exact ⟨ρ, M, by rw [sWhileN, e]; rfl, hp⟩
    · obtain ⟨ρ2, M2, e3, h3⟩ := while_inv I P μ hs n ρ' M' h1 (by omega)
      exact ⟨ρ2, M2, by rw [sWhileN, e]; show ((fb ρ M).bind _) = _; rw [e1]; exact e3, h3⟩
theorem fuel_big (ρ : Rho) (M : Mem) : 1000000 ≤ fuel ρ M := by
  unfold fuel
  have : ∀ (l : Rho) (n : Nat), n ≤ l.foldl (fun n d => n + match d with | some (.int i) => i.natAbs | _ => 0) n := by
    intro l
    induction l with
    | nil => intro n; exact Nat.le_refl n
    | cons d l ih => intro n; exact Nat.le_trans (Nat.le_add_right _ _) (ih _)
  exact this ρ 1000000
theorem fuel_at {ρ : Rho} {M : Mem} {n : Nat} {i : Int} (h : ρ[n]? = some (some (.int i))) : 1000000 + i.natAbs ≤ fuel ρ M := by
  unfold fuel
  have mono : ∀ (l : Rho) (n : Nat), n ≤ l.foldl (fun n d => n + match d with | some (.int i) => i.natAbs | _ => 0) n := by
    intro l
    induction l with
    | nil => intro n; exact Nat.le_refl n
    | cons d l ih => intro n; exact Nat.le_trans (Nat.le_add_right _ _) (ih _)
  have : ∀ (l : Rho) (n m : Nat), l[n]? = some (some (.int i)) → m + i.natAbs ≤ l.foldl (fun n d => n + match d with | some (.int i) => i.natAbs | _ => 0) m := by
    intro l
    induction l with
    | nil => intro n m h; simp at h
    | cons d l ih =>
      intro n m h
      cases n with
      | zero => simp at h; subst h; exact mono l _
      | succ n => exact Nat.le_trans (Nat.add_le_add_right (Nat.le_add_right _ _) _) (ih n _ (by simpa using h))
  exact this ρ n _ h
theorem rgD_at {lo : Int} {n k : Nat} {d : D} (h : (rgD lo n)[k]? = some d) : k < n ∧ d = .int (lo + k) := by
  unfold rgD at h
  rw [List.getElem?_map] at h
  by_cases hk : k < n
  · rw [List.getElem?_range hk] at h
    simp at h
    exact ⟨hk, h.symm⟩
  · rw [List.getElem?_eq_none (by simp; omega)] at h
    simp at h
@[simp] theorem rgD_len (lo : Int) (n : Nat) : (rgD lo n).length = n := by simp [rgD]
/-! ### sides -/
theorem okMul_l {i j : Int} (h : i.natAbs < 18446744073709551616) : okMul i j = true := by simp [okMul, h]
theorem okMul_r {i j : Int} (h : j.natAbs < 18446744073709551616) : okMul i j = true := by simp [okMul, h]
theorem log2_lt_of {n k : Nat} (h : n < 2 ^ k) (hk : 0 < k) : n.log2 < k := by
  by_cases h0 : n = 0
  · subst h0; simpa using hk
  · exact (Nat.log2_lt h0).mpr h
theorem okMul_big {i j : Int} (hi : i.natAbs < 2 ^ 400000) (hj : j.natAbs < 2 ^ 400000) : okMul i j = true := by
  have h1 := log2_lt_of hi (by decide)
  have h2 := log2_lt_of hj (by decide)
  simp [okMul]; right; right; omega
theorem okDiv_of {j : Int} (h0 : j ≠ 0) (h : j.natAbs < 2 ^ 9000) : okDiv j = true := by
  have h1 := log2_lt_of h (by decide)
  simp [okDiv, h0, h1]
theorem okR_of {i j : Int} (h1 : -1000000 ≤ i) (h2 : j ≤ 10000000) (h3 : i ≤ 10000000) (h4 : -1000000 ≤ j) : okR i j = true := by
  unfold okR
  rw [Bool.and_eq_true, Bool.and_eq_true]
  exact ⟨Nat.ble_eq_true_of_le (by omega), Nat.ble_eq_true_of_le (by omega), Nat.ble_eq_true_of_le (by omega)⟩
end PF
namespace PF
open PySem PySem.Spec PyProof.Rows L2
/-- a fraction of the program's -/
def fr (q : Rat) : D := .tup [.int q.num, .int q.den]
theorem fr_nr (q : Rat) : (fr q).nr = true := rfl
theorem frac_parts (n d : Int) (hd : d ≠ 0) {e : Int} (he : e = if d < 0 then -((Nat.gcd n.natAbs d.natAbs : Nat) : Int) else ((Nat.gcd n.natAbs d.natAbs : Nat) : Int)) :
    n.fdiv e = (Rat.divInt n d).num ∧ d.fdiv e = ((Rat.divInt n d).den : Int) := by
  have hg : (Int.gcd d n : Int) = ((Nat.gcd n.natAbs d.natAbs : Nat) : Int) := by rw [Int.gcd_comm]; rfl
  have g0 : (Nat.gcd n.natAbs d.natAbs : Nat) ≠ 0 := by
    intro z
    have := Nat.eq_zero_of_gcd_eq_zero_right z
    omega
  rw [Rat.num_divInt, Rat.den_divInt, if_neg hd, hg, Int.natCast_ediv, show Int.gcd d n = Nat.gcd n.natAbs d.natAbs from by rw [Int.gcd_comm]; rfl]
  generalize hG : (Nat.gcd n.natAbs d.natAbs : Nat) = g at *
  obtain ⟨k, hk⟩ : (g : Int) ∣ n := by rw [← hG]; exact Int.ofNat_dvd_left.mpr (Nat.gcd_dvd_left _ _)
  obtain ⟨m, hm⟩ : (g : Int) ∣ d := by rw [← hG]; exact Int.ofNat_dvd_left.mpr (Nat.gcd_dvd_right _ _)
  have gz : (g : Int) ≠ 0 := by omega
  have gp : (0 : Int) < g := by omega
  by_cases hn : d < 0
  · rw [if_pos hn] at he
    have e1 : d.sign = -1 := Int.sign_eq_neg_one_of_neg hn
    have e2 : (d.natAbs : Int) = -d := by omega
    have en : (-(g : Int)) ≠ 0 := by omega
    rw [e1, e2, he]
    constructor
    · rw [hk, show (g : Int) * k = -(g : Int) * -k by grind, Int.mul_fdiv_cancel_left _ en, show -1 * (-(g : Int) * -k) = (g : Int) * -k by grind, Int.mul_ediv_cancel_left _ gz]
    · rw [hm, show (g : Int) * m = -(g : Int) * -m by grind, Int.mul_fdiv_cancel_left _ en, show -(-(g : Int) * -m) = (g : Int) * -m by grind, Int.mul_ediv_cancel_left _ gz]
  · rw [if_neg hn] at he
    have e1 : d.sign = 1 := Int.sign_eq_one_of_pos (by omega)
    have e2 : (d.natAbs : Int) = d := by omega
    rw [e1, e2, he]
    constructor
    · rw [hk, Int.mul_fdiv_cancel_left _ gz, show 1 * ((g : Int) * k) = (g : Int) * k by grind, Int.mul_ediv_cancel_left _ gz]
    · rw [hm, Int.mul_fdiv_cancel_left _ gz, Int.mul_ediv_cancel_left _ gz]
theorem gcd_le_d (n d : Int) (hd : d ≠ 0) : Nat.gcd n.natAbs d.natAbs ≤ d.natAbs ∧ Nat.gcd n.natAbs d.natAbs ≠ 0 := by
  have h : 0 < d.natAbs := by omega
  refine ⟨Nat.le_of_dvd h (Nat.gcd_dvd_right _ _), fun z => ?_⟩
  have := Nat.eq_zero_of_gcd_eq_zero_right z
  omega
/-- sizes -/
def Sz (k : Nat) (q : Rat) : Prop := q.num.natAbs < 2 ^ k ∧ q.den < 2 ^ k
theorem den_pos (q : Rat) : 0 < (q.den : Int) := by have := q.den_pos; omega
theorem fr_divInt (q : Rat) : Rat.divInt q.num q.den = q := Rat.num_divInt_den q
/-- p + q etc. by their parts -/
theorem add_parts (p q : Rat) : Rat.divInt (p.num * q.den + q.num * p.den) (p.den * q.den) = p + q := by
  conv => rhs; rw [← Rat.num_divInt_den p, ← Rat.num_divInt_den q]
  rw [Rat.divInt_add_divInt _ _ (Int.ne_of_gt (den_pos p)) (Int.ne_of_gt (den_pos q))]
theorem sub_parts (p q : Rat) : Rat.divInt (p.num * q.den - q.num * p.den) (p.den * q.den) = p - q := by
  conv => rhs; rw [← Rat.num_divInt_den p, ← Rat.num_divInt_den q]
  rw [Rat.divInt_sub_divInt _ _ (Int.ne_of_gt (den_pos p)) (Int.ne_of_gt (den_pos q))]
theorem mul_parts (p q : Rat) : Rat.divInt (p.num * q.num) (p.den * q.den) = p * q := by
  conv => rhs; rw [← Rat.num_divInt_den p, ← Rat.num_divInt_den q]
  rw [Rat.divInt_mul_divInt]
theorem div_parts (p q : Rat) : Rat.divInt (p.num * q.den) (p.den * q.num) = p / q := by
  conv => rhs; rw [← Rat.num_divInt_den p, ← Rat.num_divInt_den q]
  rw [Rat.div_def, Rat.inv_divInt, Rat.divInt_mul_divInt]
theorem lt_parts (p q : Rat) : (p.num * q.den < q.num * p.den) ↔ p < q := (Rat.lt_iff p q).symm
theorem natAbs_mul_lt {a b : Int} {k l : Nat} (h1 : a.natAbs < 2 ^ k) (h2 : b.natAbs < 2 ^ l) : (a * b).natAbs < 2 ^ (k + l) := by
  rw [Int.natAbs_mul, Nat.pow_add]
  exact Nat.mul_lt_mul'' h1 h2
theorem natAbs_add_lt {a b : Int} {k : Nat} (h1 : a.natAbs < 2 ^ k) (h2 : b.natAbs < 2 ^ k) : (a + b).natAbs < 2 ^ (k + 1) := by
  rw [Nat.pow_succ]; omega
theorem natAbs_sub_lt {a b : Int} {k : Nat} (h1 : a.natAbs < 2 ^ k) (h2 : b.natAbs < 2 ^ k) : (a - b).natAbs < 2 ^ (k + 1) := by
  rw [Nat.pow_succ]; omega
theorem lt_pow_of {n k l : Nat} (h : n < 2 ^ k) (hk : k ≤ l) : n < 2 ^ l := Nat.lt_of_lt_of_le h (Nat.pow_le_pow_right (by decide) hk)
/-- a fraction made of these is no bigger -/
theorem num_le (n d : Int) (hd : d ≠ 0) : (Rat.divInt n d).num.natAbs ≤ n.natAbs ∧ (Rat.divInt n d).den ≤ d.natAbs := by
  constructor
  · rw [Rat.num_divInt]
    have hs : (d.sign * n).natAbs = n.natAbs := by
      rw [Int.natAbs_mul, Int.natAbs_sign_of_ne_zero hd, Nat.one_mul]
    rw [← hs]
    exact Int.natAbs_ediv_le_natAbs _ _
  · rw [Rat.den_divInt, if_neg hd]
    exact Nat.div_le_self _ _
theorem Sz.mono {k l : Nat} {q : Rat} (h : Sz k q) (hk : k ≤ l) : Sz l q := ⟨lt_pow_of h.1 hk, lt_pow_of h.2 hk⟩
theorem Sz.of {n d : Int} {k : Nat} (hd : d ≠ 0) (h1 : n.natAbs < 2 ^ k) (h2 : d.natAbs < 2 ^ k) : Sz k (Rat.divInt n d) :=
  ⟨Nat.lt_of_le_of_lt (num_le n d hd).1 h1, Nat.lt_of_le_of_lt (num_le n d hd).2 h2⟩
theorem Sz.add {k : Nat} {p q : Rat} (hp : Sz k p) (hq : Sz k q) : Sz (2 * k + 1) (p + q) := by
  rw [← add_parts]
  have a1 := natAbs_mul_lt hp.1 (b := (q.den : Int)) (l := k) (by simpa using hq.2)
  have a2 := natAbs_mul_lt hq.1 (b := (p.den : Int)) (l := k) (by simpa using hp.2)
  have a3 := natAbs_mul_lt (a := (p.den : Int)) (b := (q.den : Int)) (k := k) (l := k) (by simpa using hp.2) (by simpa using hq.2)
  refine Sz.of (Int.ne_of_gt (Int.mul_pos (den_pos p) (den_pos q))) ?_ (lt_pow_of a3 (by omega))
  have := natAbs_add_lt a1 a2
  exact lt_pow_of this (by omega)
theorem Sz.sub {k : Nat} {p q : Rat} (hp : Sz k p) (hq : Sz k q) : Sz (2 * k + 1) (p - q) := by
  rw [← sub_parts]
  have a1 := natAbs_mul_lt hp.1 (b := (q.den : Int)) (l := k) (by simpa using hq.2)
  have a2 := natAbs_mul_lt hq.1 (b := (p.den : Int)) (l := k) (by simpa using hp.2)
  have a3 := natAbs_mul_lt (a := (p.den : Int)) (b := (q.den : Int)) (k := k) (l := k) (by simpa using hp.2) (by simpa using hq.2)
  refine Sz.of (Int.ne_of_gt (Int.mul_pos (den_pos p) (den_pos q))) ?_ (lt_pow_of a3 (by omega))
  have := natAbs_sub_lt a1 a2
  exact lt_pow_of this (by omega)
theorem Sz.div {k : Nat} {p q : Rat} (hp : Sz k p) (hq : Sz k q) (h0 : q ≠ 0) : Sz (2 * k) (p / q) := by
  rw [← div_parts]
  have hz : q.num ≠ 0 := by simpa using h0
  have a1 := natAbs_mul_lt hp.1 (b := (q.den : Int)) (l := k) (by simpa using hq.2)
  have a2 := natAbs_mul_lt (a := (p.den : Int)) (k := k) (by simpa using hp.2) hq.1
  exact Sz.of (Int.mul_ne_zero (Int.ne_of_gt (den_pos p)) hz) (lt_pow_of a1 (by omega)) (lt_pow_of a2 (by omega))
end PF
namespace LP
open PySem PySem.Spec PyProof.Rows L2 PF
/-- how_far(one, other): slots ['one', 'other'] -/
def bhow_far : FS :=
    sRet (f2 gAdd (fB gAbs (fCons (f2 gSub (f2 gIx (fVar 0) (fC (.int 0))) (f2 gIx (fVar 1) (fC (.int 0)))) (fNil))) (fB gAbs (fCons (f2 gSub (f2 gIx (fVar 0) (fC (.int 1))) (f2 gIx (fVar 1) (fC (.int 1)))) (fNil))))
def chow_far : FnC := runFn false 2 bhow_far
abbrev qhow_far : FnC := chow_far
theorem hqhow_far : ∀ ds M r, qhow_far ds M = some r → chow_far ds M = some r := fun _ _ _ h => h
/-- far_from_station(field, station, place): slots ['field', 'station', 'place'] -/
def bfar_from_station : FS :=
    sRet (fCall qhow_far (fCons (fSlice (f2 gIx (f2 gIx (fVar 0) (fC (.int 2))) (fVar 1)) (fNoPart) (fPart (fC (.int 2)))) (fCons (fVar 2) (fNil))))
def cfar_from_station : FnC := runFn false 3 bfar_from_station
abbrev qfar_from_station : FnC := cfar_from_station
theorem hqfar_from_station : ∀ ds M r, qfar_from_station ds M = some r → cfar_from_station ds M = some r := fun _ _ _ h => h
/-- allowed_times(field, reading, place): slots ['field', 'reading', 'place', 'station', 'kind', 'minute', 'error', 'low', 'high', 'far'] -/
def ballowed_times : FS :=
    sSeq (sAsg (fVar 1) (tT 3 (tsC (tN 3) (tsC (tN 4) (tsC (tN 5) (tsN))))))
      (sSeq (sSet 6 (f2 gIx (f2 gIx (f2 gIx (fVar 0) (fC (.int 2))) (fVar 3)) (fC (.int 2))))
      (sSeq (sAsg (f2 gIx (f2 gIx (fVar 0) (fC (.int 3))) (fVar 4)) (tT 2 (tsC (tN 7) (tsC (tN 8) (tsN)))))
      (sSeq (sSet 9 (fCall qfar_from_station (fCons (fVar 0) (fCons (fVar 3) (fCons (fVar 2) (fNil))))))
      (sRet (fTup (fCons (f2 gSub (f2 gSub (fVar 5) (fVar 6)) (f2 gMul (fVar 8) (fVar 9))) (fCons (f2 gSub (f2 gAdd (fVar 5) (fVar 6)) (f2 gMul (fVar 7) (fVar 9))) (fNil))))))))
def callowed_times : FnC := runFn false 10 ballowed_times
abbrev qallowed_times : FnC := callowed_times
theorem hqallowed_times : ∀ ds M r, qallowed_times ds M = some r → callowed_times ds M = some r := fun _ _ _ h => h
/-- due_minutes(field, station, kind, place, time): slots ['field', 'station', 'kind', 'place', 'time', 'error', 'low', 'high', 'far'] -/
def bdue_minutes : FS :=
    sSeq (sSet 5 (f2 gIx (f2 gIx (f2 gIx (fVar 0) (fC (.int 2))) (fVar 1)) (fC (.int 2))))
      (sSeq (sAsg (f2 gIx (f2 gIx (fVar 0) (fC (.int 3))) (fVar 2)) (tT 2 (tsC (tN 6) (tsC (tN 7) (tsN)))))
      (sSeq (sSet 8 (fCall qfar_from_station (fCons (fVar 0) (fCons (fVar 1) (fCons (fVar 3) (fNil))))))
      (sRet (fTup (fCons (f2 gSub (f2 gAdd (fVar 4) (f2 gMul (fVar 6) (fVar 8))) (fVar 5)) (fCons (f2 gAdd (f2 gAdd (fVar 4) (f2 gMul (fVar 7) (fVar 8))) (fVar 5)) (fNil)))))))
def cdue_minutes : FnC := runFn false 9 bdue_minutes
abbrev qdue_minutes : FnC := cdue_minutes
theorem hqdue_minutes : ∀ ds M r, qdue_minutes ds M = some r → cdue_minutes ds M = some r := fun _ _ _ h => h
/-- does_explain(field, shock, reading): slots ['field', 'shock', 'reading', 'least', 'greatest'] -/
def bdoes_explain : FS :=
    sSeq (sAsg (fCall qallowed_times (fCons (fVar 0) (fCons (fVar 2) (fCons (f2 gIx (fVar 1) (fC (.int 0))) (fNil))))) (tT 2 (tsC (tN 3) (tsC (tN 4) (tsN)))))
      (sRet (fChain (gCmp fun i j => decide (i ≤ j)) (gCmp fun i j => decide (i ≤ j)) (fVar 3) (f2 gIx (fVar 1) (fC (.int 1))) (fVar 4)))
def cdoes_explain : FnC := runFn false 5 bdoes_explain
abbrev qdoes_explain : FnC := cdoes_explain
theorem hqdoes_explain : ∀ ds M r, qdoes_explain ds M = some r → cdoes_explain ds M = some r := fun _ _ _ h => h
/-- _law_draws(script, many): slots ['script', 'many', 'cells', 'cell', 'rest', 'draws', 'k', 'at', 'mingled'] -/
def b_law_draws : FS :=
    sSeq (sSet 2 (fMut (fLC [3] (fiSq (fVar 0)) (tN 3) (fYes) (fB gInt (fCons (fVar 3) (fNil))))))
      (sSeq (sIf (f2T (gEq) (fB gLen (fCons (fVar 2) (fNil))) (fC (.int 0)))
      (sDrop (fM "list" gAppend (fVar 2) (fCons (fC (.int 0)) (fNil))))
      (sNext))
      (sSeq (sSet 4 (fMut (fBN gList (fCons (fVar 2) (fNil)))))
      (sSeq (sSet 5 (fMut (fLstD (fNil))))
      (sSeq (sFor (fiRg1 (fCons (fVar 1) (fNil))) (tN 6)
      (sSeq (sSet 7 (f2 gMod (fVar 6) (fB gLen (fCons (fVar 2) (fNil)))))
      (sIf (fAnd (f2T (gCmp fun i j => decide (j ≤ i)) (f2 gIx (fVar 2) (fVar 7)) (f2 gPow (fC (.int 10)) (fC (.int 18)))) (f2T (gCmp fun i j => decide (j < i)) (f2 gIx (fVar 4) (fVar 7)) (fC (.int 0))))
      (sSeq (sDrop (fM "list" gAppend (fVar 5) (fCons (f2 gMod (fB gInt (fCons (f2 gIx (fVar 4) (fVar 7)) (fNil))) (fC (.int 1000))) (fNil))))
      (sSetIx (f2 gFdiv (f2 gIx (fVar 4) (fVar 7)) (fC (.int 1000))) (fVar 4) (fVar 7)))
      (sSeq (sSet 8 (f2 gMod (fB gInt (fCons (f2 gAdd (f2 gAdd (f2 gMul (f2 gIx (fVar 2) (fVar 7)) (fC (.int 48271))) (f2 gMul (fVar 6) (fC (.int 69621)))) (fC (.int 11))) (fNil))) (fC (.int 2147483647))))
      (sDrop (fM "list" gAppend (fVar 5) (fCons (f2 gMod (fB gInt (fCons (f2 gAdd (f2 gAdd (f2 gMul (fVar 8) (fVar 8)) (f2 gMul (fC (.int 3)) (fVar 8))) (fVar 6)) (fNil))) (fC (.int 1000003))) (fNil))))))))
      (sSeq (sDrop (fM "list" gReverse (fVar 5) (fNil)))
      (sRet (fVar 5)))))))
def c_law_draws : FnC := runFn true 9 b_law_draws
abbrev q_law_draws : FnC := c_law_draws
theorem hq_law_draws : ∀ ds M r, q_law_draws ds M = some r → c_law_draws ds M = some r := fun _ _ _ h => h
/-- _law_take(draws, many): slots ['draws', 'many'] -/
def b_law_take : FS :=
    sSeq (sIf (f2T (gEq) (fB gLen (fCons (fVar 0) (fNil))) (fC (.int 0)))
      (sRet (fC (.int 0)))
      (sNext))
      (sRet (f2 gMod (fB gInt (fCons (fM "list" gPop (fVar 0) (fNil)) (fNil))) (fVar 1)))
def c_law_take : FnC := runFn false 2 b_law_take
abbrev q_law_take : FnC := c_law_take
theorem hq_law_take : ∀ ds M r, q_law_take ds M = some r → c_law_take ds M = some r := fun _ _ _ h => h
/-- _law_cell(script, draws): slots ['script', 'draws', 'cell'] -/
def b_law_cell : FS :=
    sSeq (sIf (f2T (gEq) (fB gLen (fCons (fVar 0) (fNil))) (fC (.int 0)))
      (sRet (fC (.int 0)))
      (sNext))
      (sSeq (sSet 2 (fB gInt (fCons (f2 gIx (fVar 0) (fCallS 0 q_law_take (fCons (fVar 1) (fCons (fB gLen (fCons (fVar 0) (fNil))) (fNil))))) (fNil))))
      (sRet (f2 gMul (f2 gMod (fB gAbs (fCons (fVar 2) (fNil))) (f2 gPow (fC (.int 10)) (fC (.int 60)))) (f2 gIx (fFz (fLstD (fCons (fC (.int 1)) (fCons (f1 gNeg (fC (.int 1))) (fNil))))) (fB gInt (fCons (f2 (gB (gCmp fun i j => decide (i < j))) (fVar 2) (fC (.int 0))) (fNil)))))))
def c_law_cell : FnC := runFn false 3 b_law_cell
abbrev q_law_cell : FnC := c_law_cell
theorem hq_law_cell : ∀ ds M r, q_law_cell ds M = some r → c_law_cell ds M = some r := fun _ _ _ h => h
/-- _law_same(actual, due): slots ['actual', 'due', 'k'] -/
def b_law_same (q_law_same : FnC) : FS :=
    sSeq (sIf (fTru (fIsi .bl (fVar 1)))
      (sRet (fAndV (fIsi .bl (fVar 0)) (f2 (gB (gEq)) (fVar 0) (fVar 1))))
      (sNext))
      (sSeq (sIf (fTru (fIsi .int (fVar 1)))
      (sRet (fAndV (fIsi .int (fVar 0)) (fAndV (fNotV (fIsi .bl (fVar 0))) (f2 (gB (gEq)) (fVar 0) (fVar 1)))))
      (sNext))
      (sSeq (sIf (fTru (fIsi .str (fVar 1)))
      (sRet (fAndV (fIsi .str (fVar 0)) (f2 (gB (gEq)) (fVar 0) (fVar 1))))
      (sNext))
      (sSeq (sIf (f2T (gIs) (fVar 1) (fC .non))
      (sRet (f2 (gB (gIs)) (fVar 0) (fC .non)))
      (sNext))
      (sSeq (sIf (fOr (fNot (fTru (fIsi .tup (fVar 0)))) (f2T (gNe) (fB gLen (fCons (fVar 0) (fNil))) (fB gLen (fCons (fVar 1) (fNil)))))
      (sRet (fC (.bl false)))
      (sNext))
      (sSeq (sFor (fiRg1 (fCons (fB gLen (fCons (fVar 1) (fNil))) (fNil))) (tN 2)
      (sIf (fNot (fTru (fCall q_law_same (fCons (f2 gIx (fVar 0) (fVar 2)) (fCons (f2 gIx (fVar 1) (fVar 2)) (fNil))))))
      (sRet (fC (.bl false)))
      (sNext)))
      (sRet (fC (.bl true))))))))
def c_law_same : Nat → FnC
  | 0, _, _ => none
  | n + 1, ds, M => runFn false 3 (b_law_same (c_law_same n)) ds M
def q_law_same : FnC := c_law_same 12
theorem hq_law_same : ∀ ds M r, q_law_same ds M = some r → c_law_same 12 ds M = some r := fun _ _ _ h => h
/-- _law_grid(width, height): slots ['width', 'height', 'found', 'x', 'y'] -/
def b_law_grid : FS :=
    sSeq (sSet 2 (fMut (fLstD (fNil))))
      (sSeq (sFor (fiRg1 (fCons (fVar 0) (fNil))) (tN 3)
      (sSet 2 (fMut (f2N gCat (fVar 2) (fFz (fLC [4] (fiRg1 (fCons (fVar 1) (fNil))) (tN 4) (fYes) (fTup (fCons (fVar 3) (fCons (fVar 4) (fNil))))))))))
      (sRet (fVar 2)))
def c_law_grid : FnC := runFn true 5 b_law_grid
abbrev q_law_grid : FnC := c_law_grid
theorem hq_law_grid : ∀ ds M r, q_law_grid ds M = some r → c_law_grid ds M = some r := fun _ _ _ h => h
/-- _law_waves(draws, by): slots ['draws', 'by', 'low', 'high', 'later'] -/
def b_law_waves : FS :=
    sSeq (sSet 2 (f2 gAdd (fC (.int 1)) (fCallS 0 q_law_take (fCons (fVar 0) (fCons (fC (.int 3)) (fNil))))))
      (sSeq (sSet 3 (f2 gAdd (fVar 2) (fCallS 0 q_law_take (fCons (fVar 0) (fCons (fC (.int 3)) (fNil))))))
      (sSeq (sSet 4 (f2 gAdd (fVar 3) (fCallS 0 q_law_take (fCons (fVar 0) (fCons (fC (.int 4)) (fNil))))))
      (sRet (fTup (fCons (fTup (fCons (f2 gMul (fVar 1) (fVar 2)) (fCons (f2 gMul (fVar 1) (fVar 3)) (fNil)))) (fCons (fTup (fCons (f2 gMul (fVar 1) (fVar 4)) (fCons (f2 gMul (fVar 1) (f2 gAdd (fVar 4) (fCallS 0 q_law_take (fCons (fVar 0) (fCons (fC (.int 3)) (fNil)))))) (fNil)))) (fNil)))))))
def c_law_waves : FnC := runFn false 5 b_law_waves
abbrev q_law_waves : FnC := c_law_waves
theorem hq_law_waves : ∀ ds M r, q_law_waves ds M = some r → c_law_waves ds M = some r := fun _ _ _ h => h
/-- _law_field(draws, wide, many, by): slots ['draws', 'wide', 'many', 'by', 'width', 'height', 'places', 'stations', 'k', 'place'] -/
def b_law_field : FS :=
    sSeq (sSet 4 (f2 gAdd (fC (.int 1)) (fCallS 0 q_law_take (fCons (fVar 0) (fCons (fVar 1) (fNil))))))
      (sSeq (sSet 5 (f2 gAdd (fC (.int 1)) (fCallS 0 q_law_take (fCons (fVar 0) (fCons (fVar 1) (fNil))))))
      (sSeq (sSet 6 (fCall q_law_grid (fCons (fVar 4) (fCons (fVar 5) (fNil)))))
      (sSeq (sSet 7 (fMut (fLstD (fNil))))
      (sSeq (sFor (fiRg1 (fCons (fB gMin2 (fCons (fB gLen (fCons (fVar 6) (fNil))) (fCons (fCallS 0 q_law_take (fCons (fVar 0) (fCons (f2 gAdd (fVar 2) (fC (.int 1))) (fNil)))) (fNil)))) (fNil))) (tN 8)
      (sSeq (sSet 9 (fM "list" gPop1 (fVar 6) (fCons (fCallS 0 q_law_take (fCons (fVar 0) (fCons (fB gLen (fCons (fVar 6) (fNil))) (fNil)))) (fNil))))
      (sDrop (fM "list" gAppend (fVar 7) (fCons (f2 gAdd (fVar 9) (fTup (fCons (f2 gMul (fVar 3) (f2 gIx (fFz (fLstD (fCons (fC (.int 0)) (fCons (fCallS 0 q_law_take (fCons (fVar 0) (fCons (fC (.int 3)) (fNil)))) (fCons (fCallS 0 q_law_take (fCons (fVar 0) (fCons (fC (.int 9)) (fNil)))) (fNil)))))) (fCallS 0 q_law_take (fCons (fVar 0) (fCons (fC (.int 3)) (fNil)))))) (fNil)))) (fNil))))))
      (sRet (fTup (fCons (fVar 4) (fCons (fVar 5) (fCons (fB gTuple (fCons (fVar 7) (fNil))) (fCons (fCallS 0 q_law_waves (fCons (fVar 0) (fCons (fVar 3) (fNil)))) (fNil)))))))))))
def c_law_field : FnC := runFn false 10 b_law_field
abbrev q_law_field : FnC := c_law_field
theorem hq_law_field : ∀ ds M r, q_law_field ds M = some r → c_law_field ds M = some r := fun _ _ _ h => h
/-- _law_far(one, other): slots ['one', 'other'] -/
def b_law_far : FS :=
    sRet (f2 gAdd (fB gAbs (fCons (f2 gSub (f2 gIx (fVar 0) (fC (.int 0))) (f2 gIx (fVar 1) (fC (.int 0)))) (fNil))) (fB gAbs (fCons (f2 gSub (f2 gIx (fVar 0) (fC (.int 1))) (f2 gIx (fVar 1) (fC (.int 1)))) (fNil))))
def c_law_far : FnC := runFn false 2 b_law_far
abbrev q_law_far : FnC := c_law_far
theorem hq_law_far : ∀ ds M r, q_law_far ds M = some r → c_law_far ds M = some r := fun _ _ _ h => h
/-- _law_span(field, reading, place): slots ['field', 'reading', 'place', 'station', 'kind', 'minute', 'x', 'y', 'error', 'far'] -/
def b_law_span : FS :=
    sSeq (sAsg (fVar 1) (tT 3 (tsC (tN 3) (tsC (tN 4) (tsC (tN 5) (tsN))))))
      (sSeq (sAsg (f2 gIx (f2 gIx (fVar 0) (fC (.int 2))) (fVar 3)) (tT 3 (tsC (tN 6) (tsC (tN 7) (tsC (tN 8) (tsN))))))
      (sSeq (sSet 9 (fCall q_law_far (fCons (fTup (fCons (fVar 6) (fCons (fVar 7) (fNil)))) (fCons (fVar 2) (fNil)))))
      (sRet (fTup (fCons (f2 gSub (f2 gSub (fVar 5) (fVar 8)) (f2 gMul (f2 gIx (f2 gIx (f2 gIx (fVar 0) (fC (.int 3))) (fVar 4)) (fC (.int 1))) (fVar 9))) (fCons (f2 gSub (f2 gAdd (fVar 5) (fVar 8)) (f2 gMul (f2 gIx (f2 gIx (f2 gIx (fVar 0) (fC (.int 3))) (fVar 4)) (fC (.int 0))) (fVar 9))) (fNil)))))))
def c_law_span : FnC := runFn false 10 b_law_span
abbrev q_law_span : FnC := c_law_span
theorem hq_law_span : ∀ ds M r, q_law_span ds M = some r → c_law_span ds M = some r := fun _ _ _ h => h
/-- _law_due(field, station, kind, place, time): slots ['field', 'station', 'kind', 'place', 'time', 'x', 'y', 'error', 'low', 'high', 'found', 'step'] -/
def b_law_due : FS :=
    sSeq (sAsg (f2 gIx (f2 gIx (fVar 0) (fC (.int 2))) (fVar 1)) (tT 3 (tsC (tN 5) (tsC (tN 6) (tsC (tN 7) (tsN))))))
      (sSeq (sAsg (f2 gIx (f2 gIx (fVar 0) (fC (.int 3))) (fVar 2)) (tT 2 (tsC (tN 8) (tsC (tN 9) (tsN)))))
      (sSeq (sSet 10 (f2 gSub (fVar 4) (fVar 7)))
      (sSeq (sFor (fiRg1 (fCons (fCall q_law_far (fCons (fTup (fCons (fVar 5) (fCons (fVar 6) (fNil)))) (fCons (fVar 3) (fNil)))) (fNil))) (tN 11)
      (sSet 10 (f2 gAdd (fVar 10) (fVar 8))))
      (sRet (fTup (fCons (fVar 10) (fCons (f2 gAdd (f2 gAdd (fVar 4) (f2 gMul (fVar 9) (fCall q_law_far (fCons (fTup (fCons (fVar 5) (fCons (fVar 6) (fNil)))) (fCons (fVar 3) (fNil)))))) (fVar 7)) (fNil))))))))
def c_law_due : FnC := runFn false 12 b_law_due
abbrev q_law_due : FnC := c_law_due
theorem hq_law_due : ∀ ds M r, q_law_due ds M = some r → c_law_due ds M = some r := fun _ _ _ h => h
/-- _law_is_reading_right(field, station, kind, place, minute): slots ['field', 'station', 'kind', 'place', 'minute', 'reading', 'span', 'time', 'due', 'later'] -/
def b_law_is_reading_right : FS :=
    sSeq (sSet 5 (fTup (fCons (fVar 1) (fCons (fVar 2) (fCons (fVar 4) (fNil))))))
      (sSeq (sSet 6 (fCall q_law_span (fCons (fVar 0) (fCons (fVar 5) (fCons (fVar 3) (fNil))))))
      (sSeq (sIf (fNot (fTru (fCall q_law_same (fCons (fCall qallowed_times (fCons (fVar 0) (fCons (fVar 5) (fCons (fVar 3) (fNil))))) (fCons (fVar 6) (fNil))))))
      (sRet (fC (.bl false)))
      (sNext))
      (sSeq (sFor (fiSq (fFz (fLstD (fCons (f2 gIx (fVar 6) (fC (.int 0))) (fCons (f2 gIx (fVar 6) (fC (.int 1))) (fCons (f2 gSub (f2 gIx (fVar 6) (fC (.int 0))) (fC (.int 1))) (fCons (f2 gAdd (f2 gIx (fVar 6) (fC (.int 1))) (fC (.int 1))) (fCons (f2 gFdiv (f2 gAdd (f2 gIx (fVar 6) (fC (.int 0))) (f2 gIx (fVar 6) (fC (.int 1)))) (fC (.int 2))) (fNil))))))))) (tN 7)
      (sSeq (sSet 8 (fCall q_law_due (fCons (fVar 0) (fCons (fVar 1) (fCons (fVar 2) (fCons (fVar 3) (fCons (fVar 7) (fNil))))))))
      (sSeq (sIf (fNot (fTru (fCall q_law_same (fCons (fCall qdue_minutes (fCons (fVar 0) (fCons (fVar 1) (fCons (fVar 2) (fCons (fVar 3) (fCons (fVar 7) (fNil))))))) (fCons (fVar 8) (fNil))))))
      (sRet (fC (.bl false)))
      (sNext))
      (sSeq (sIf (fOr (fNot (fTru (fCall q_law_same (fCons (fCall qdoes_explain (fCons (fVar 0) (fCons (fTup (fCons (fVar 3) (fCons (fVar 7) (fNil)))) (fCons (fVar 5) (fNil))))) (fCons (fChain (gCmp fun i j => decide (i ≤ j)) (gCmp fun i j => decide (i ≤ j)) (f2 gIx (fVar 8) (fC (.int 0))) (fVar 4) (f2 gIx (fVar 8) (fC (.int 1)))) (fNil)))))) (f2T (gNe) (fChain (gCmp fun i j => decide (i ≤ j)) (gCmp fun i j => decide (i ≤ j)) (f2 gIx (fVar 8) (fC (.int 0))) (fVar 4) (f2 gIx (fVar 8) (fC (.int 1)))) (fChain (gCmp fun i j => decide (i ≤ j)) (gCmp fun i j => decide (i ≤ j)) (f2 gIx (fVar 6) (fC (.int 0))) (fVar 7) (f2 gIx (fVar 6) (fC (.int 1))))))
      (sRet (fC (.bl false)))
      (sNext))
      (sIf (f2T (gNe) (f2 gSub (f2 gIx (fVar 8) (fC (.int 1))) (f2 gIx (fVar 8) (fC (.int 0)))) (f2 gSub (f2 gIx (fVar 6) (fC (.int 1))) (f2 gIx (fVar 6) (fC (.int 0)))))
      (sRet (fC (.bl false)))
      (sNext))))))
      (sSeq (sSet 9 (fCall qallowed_times (fCons (fVar 0) (fCons (fTup (fCons (fVar 1) (fCons (fVar 2) (fCons (f2 gAdd (fVar 4) (fC (.int 1))) (fNil))))) (fCons (fVar 3) (fNil))))))
      (sRet (fCall q_law_same (fCons (fVar 9) (fCons (fTup (fCons (f2 gAdd (f2 gIx (fVar 6) (fC (.int 0))) (fC (.int 1))) (fCons (f2 gAdd (f2 gIx (fVar 6) (fC (.int 1))) (fC (.int 1))) (fNil)))) (fNil)))))))))
def c_law_is_reading_right : FnC := runFn false 10 b_law_is_reading_right
abbrev q_law_is_reading_right : FnC := c_law_is_reading_right
theorem hq_law_is_reading_right : ∀ ds M r, q_law_is_reading_right ds M = some r → c_law_is_reading_right ds M = some r := fun _ _ _ h => h
/-- _law_widened(field, error, more): slots ['field', 'error', 'more', 'stations', 'x', 'y', 'own', 'first', 'second'] -/
def b_law_widened : FS :=
    sSeq (sSet 3 (fB gTuple (fCons (fFz (fLC [4, 5, 6] (fiSq (f2 gIx (fVar 0) (fC (.int 2)))) (tT 3 (tsC (tN 4) (tsC (tN 5) (tsC (tN 6) (tsN))))) (fYes) (fTup (fCons (fVar 4) (fCons (fVar 5) (fCons (f2 gAdd (fVar 6) (fVar 1)) (fNil))))))) (fNil))))
      (sSeq (sAsg (f2 gIx (fVar 0) (fC (.int 3))) (tT 2 (tsC (tN 7) (tsC (tN 8) (tsN)))))
      (sRet (fTup (fCons (f2 gIx (fVar 0) (fC (.int 0))) (fCons (f2 gIx (fVar 0) (fC (.int 1))) (fCons (fVar 3) (fCons (fTup (fCons (fTup (fCons (fB gMax2 (fCons (fC (.int 1)) (fCons (f2 gSub (f2 gIx (fVar 7) (fC (.int 0))) (fVar 2)) (fNil)))) (fCons (f2 gIx (fVar 7) (fC (.int 1))) (fNil)))) (fCons (fTup (fCons (f2 gIx (fVar 8) (fC (.int 0))) (fCons (f2 gAdd (f2 gIx (fVar 8) (fC (.int 1))) (fVar 2)) (fNil)))) (fNil)))) (fNil))))))))
def c_law_widened : FnC := runFn false 9 b_law_widened
abbrev q_law_widened : FnC := c_law_widened
theorem hq_law_widened : ∀ ds M r, q_law_widened ds M = some r → c_law_widened ds M = some r := fun _ _ _ h => h
/-- _law_is_wide_right(field, wider, station, place, minute): slots ['field', 'wider', 'station', 'place', 'minute', 'x', 'y', 'error', 'far', 'kind', 'span', 'outer', 'home', 'first', 'second'] -/
def b_law_is_wide_right : FS :=
    sSeq (sAsg (f2 gIx (f2 gIx (fVar 0) (fC (.int 2))) (fVar 2)) (tT 3 (tsC (tN 5) (tsC (tN 6) (tsC (tN 7) (tsN))))))
      (sSeq (sSet 8 (fCall q_law_far (fCons (fTup (fCons (fVar 5) (fCons (fVar 6) (fNil)))) (fCons (fVar 3) (fNil)))))
      (sSeq (sFor (fiSq (fFz (fLstD (fCons (fC (.int 0)) (fCons (fC (.int 1)) (fNil)))))) (tN 9)
      (sSeq (sSet 10 (fCall qallowed_times (fCons (fVar 0) (fCons (fTup (fCons (fVar 2) (fCons (fVar 9) (fCons (fVar 4) (fNil))))) (fCons (fVar 3) (fNil))))))
      (sSeq (sIf (fOr (fNot (fTru (fIsi .tup (fVar 10)))) (f2T (gNe) (fB gLen (fCons (fVar 10) (fNil))) (fC (.int 2))))
      (sRet (fC (.bl false)))
      (sNext))
      (sSeq (sIf (f2T (gNe) (f2 gSub (f2 gIx (fVar 10) (fC (.int 1))) (f2 gIx (fVar 10) (fC (.int 0)))) (f2 gAdd (f2 gMul (fC (.int 2)) (fVar 7)) (f2 gMul (f2 gSub (f2 gIx (f2 gIx (f2 gIx (fVar 0) (fC (.int 3))) (fVar 9)) (fC (.int 1))) (f2 gIx (f2 gIx (f2 gIx (fVar 0) (fC (.int 3))) (fVar 9)) (fC (.int 0)))) (fVar 8))))
      (sRet (fC (.bl false)))
      (sNext))
      (sSeq (sSet 11 (fCall qallowed_times (fCons (fVar 1) (fCons (fTup (fCons (fVar 2) (fCons (fVar 9) (fCons (fVar 4) (fNil))))) (fCons (fVar 3) (fNil))))))
      (sSeq (sIf (fOr (fNot (fTru (fIsi .tup (fVar 11)))) (fOr (f2T (gNe) (fB gLen (fCons (fVar 11) (fNil))) (fC (.int 2))) (fOr (f2T (gCmp fun i j => decide (j < i)) (f2 gIx (fVar 11) (fC (.int 0))) (f2 gIx (fVar 10) (fC (.int 0)))) (f2T (gCmp fun i j => decide (i < j)) (f2 gIx (fVar 11) (fC (.int 1))) (f2 gIx (fVar 10) (fC (.int 1)))))))
      (sRet (fC (.bl false)))
      (sNext))
      (sSeq (sSet 12 (fCall qallowed_times (fCons (fVar 0) (fCons (fTup (fCons (fVar 2) (fCons (fVar 9) (fCons (fVar 4) (fNil))))) (fCons (fTup (fCons (fVar 5) (fCons (fVar 6) (fNil)))) (fNil))))))
      (sIf (fNot (fTru (fCall q_law_same (fCons (fVar 12) (fCons (fTup (fCons (f2 gSub (fVar 4) (fVar 7)) (fCons (f2 gAdd (fVar 4) (fVar 7)) (fNil)))) (fNil))))))
      (sRet (fC (.bl false)))
      (sNext)))))))))
      (sSeq (sSet 13 (fCall qdue_minutes (fCons (fVar 0) (fCons (fVar 2) (fCons (fC (.int 0)) (fCons (fVar 3) (fCons (fVar 4) (fNil))))))))
      (sSeq (sSet 14 (fCall qdue_minutes (fCons (fVar 0) (fCons (fVar 2) (fCons (fC (.int 1)) (fCons (fVar 3) (fCons (fVar 4) (fNil))))))))
      (sRet (fAndV (f2 (gB (gCmp fun i j => decide (i ≤ j))) (f2 gIx (fVar 13) (fC (.int 0))) (f2 gIx (fVar 14) (fC (.int 0)))) (fAndV (f2 (gB (gCmp fun i j => decide (i ≤ j))) (f2 gIx (fVar 13) (fC (.int 1))) (f2 gIx (fVar 14) (fC (.int 1)))) (f2 (gB (gCmp fun i j => decide (i ≤ j))) (f2 gSub (f2 gIx (fVar 13) (fC (.int 1))) (fVar 7)) (f2 gAdd (f2 gIx (fVar 14) (fC (.int 0))) (fVar 7))))))))))
def c_law_is_wide_right : FnC := runFn false 15 b_law_is_wide_right
abbrev q_law_is_wide_right : FnC := c_law_is_wide_right
theorem hq_law_is_wide_right : ∀ ds M r, q_law_is_wide_right ds M = some r → c_law_is_wide_right ds M = some r := fun _ _ _ h => h
/-- law(script): slots ['script', 'draws', 'by', 'field', 'cell', 'wider', 'k', 'station', 'place', 'minute', 'kind', 'some'] -/
def blaw : FS :=
    sSeq (sSet 1 (fCall q_law_draws (fCons (fVar 0) (fCons (fC (.int 260)) (fNil)))))
      (sSeq (sSet 2 (f2 gIx (fFz (fLstD (fCons (fC (.int 1)) (fCons (fC (.int 1)) (fCons (f2 gAdd (fC (.int 1)) (f2 gMod (fB gAbs (fCons (fCallS 1 q_law_cell (fCons (fVar 0) (fCons (fVar 1) (fNil)))) (fNil))) (f2 gPow (fC (.int 10)) (fC (.int 20))))) (fNil)))))) (fCallS 0 q_law_take (fCons (fVar 1) (fCons (fC (.int 3)) (fNil))))))
      (sSeq (sSet 3 (fCallS 0 q_law_field (fCons (fVar 1) (fCons (fC (.int 12)) (fCons (fC (.int 12)) (fCons (fVar 2) (fNil)))))))
      (sSeq (sIf (f2T (gEq) (fB gLen (fCons (f2 gIx (fVar 3) (fC (.int 2))) (fNil))) (fC (.int 0)))
      (sSet 3 (fTup (fCons (f2 gIx (fVar 3) (fC (.int 0))) (fCons (f2 gIx (fVar 3) (fC (.int 1))) (fCons (fTup (fCons (fTup (fCons (fC (.int 0)) (fCons (fC (.int 0)) (fCons (fC (.int 2)) (fNil))))) (fNil))) (fCons (f2 gIx (fVar 3) (fC (.int 3))) (fNil)))))))
      (sNext))
      (sSeq (sSet 4 (f2 gMod (fB gInt (fCons (fCallS 1 q_law_cell (fCons (fVar 0) (fCons (fVar 1) (fNil)))) (fNil))) (f2 gPow (fC (.int 10)) (fC (.int 29)))))
      (sSeq (sSet 5 (fCall q_law_widened (fCons (fVar 3) (fCons (fCallS 0 q_law_take (fCons (fVar 1) (fCons (fC (.int 9)) (fNil)))) (fCons (fCallS 0 q_law_take (fCons (fVar 1) (fCons (fC (.int 2)) (fNil)))) (fNil))))))
      (sSeq (sFor (fiRg1 (fCons (fC (.int 8)) (fNil))) (tN 6)
      (sSeq (sSet 7 (fCallS 0 q_law_take (fCons (fVar 1) (fCons (fB gLen (fCons (f2 gIx (fVar 3) (fC (.int 2))) (fNil))) (fNil)))))
      (sSeq (sSet 8 (fTup (fCons (fCallS 0 q_law_take (fCons (fVar 1) (fCons (f2 gIx (fVar 3) (fC (.int 0))) (fNil)))) (fCons (fCallS 0 q_law_take (fCons (fVar 1) (fCons (f2 gIx (fVar 3) (fC (.int 1))) (fNil)))) (fNil)))))
      (sSeq (sSet 9 (f2 gIx (fFz (fLstD (fCons (f2 gSub (fCallS 0 q_law_take (fCons (fVar 1) (fCons (fC (.int 99)) (fNil)))) (fC (.int 30))) (fCons (fVar 4) (fCons (f1 gNeg (fVar 4)) (fCons (f2 gMul (fVar 2) (fCallS 0 q_law_take (fCons (fVar 1) (fCons (fC (.int 99)) (fNil))))) (fNil))))))) (fCallS 0 q_law_take (fCons (fVar 1) (fCons (fC (.int 4)) (fNil))))))
      (sSeq (sFor (fiSq (fFz (fLstD (fCons (fC (.int 0)) (fCons (fC (.int 1)) (fNil)))))) (tN 10)
      (sIf (fNot (fTru (fCall q_law_is_reading_right (fCons (fVar 3) (fCons (fVar 7) (fCons (fVar 10) (fCons (fVar 8) (fCons (fVar 9) (fNil)))))))))
      (sRet (fC (.bl false)))
      (sNext)))
      (sIf (fNot (fTru (fCall q_law_is_wide_right (fCons (fVar 3) (fCons (fVar 5) (fCons (fVar 7) (fCons (fVar 8) (fCons (fVar 9) (fNil)))))))))
      (sRet (fC (.bl false)))
      (sNext)))))))
      (sSeq (sSet 11 (fTup (fCons (fC (.int 5)) (fCons (fC (.int 5)) (fCons (fTup (fCons (fTup (fCons (fC (.int 1)) (fCons (fC (.int 1)) (fCons (fC (.int 2)) (fNil))))) (fNil))) (fCons (fTup (fCons (fTup (fCons (fC (.int 2)) (fCons (fC (.int 3)) (fNil)))) (fCons (fTup (fCons (fC (.int 4)) (fCons (fC (.int 6)) (fNil)))) (fNil)))) (fNil)))))))
      (sSeq (sIf (fOr (fNot (fTru (fCall q_law_same (fCons (fCall qallowed_times (fCons (fVar 11) (fCons (fTup (fCons (fC (.int 0)) (fCons (fC (.int 0)) (fCons (fC (.int 20)) (fNil))))) (fCons (fTup (fCons (fC (.int 3)) (fCons (fC (.int 2)) (fNil)))) (fNil))))) (fCons (fTup (fCons (fC (.int 9)) (fCons (fC (.int 16)) (fNil)))) (fNil)))))) (fNot (fTru (fCall q_law_same (fCons (fCall qdue_minutes (fCons (fVar 11) (fCons (fC (.int 0)) (fCons (fC (.int 1)) (fCons (fTup (fCons (fC (.int 3)) (fCons (fC (.int 2)) (fNil)))) (fCons (fC (.int 10)) (fNil))))))) (fCons (fTup (fCons (fC (.int 20)) (fCons (fC (.int 30)) (fNil)))) (fNil)))))))
      (sRet (fC (.bl false)))
      (sNext))
      (sRet (fAndV (fCall q_law_same (fCons (fCall qdoes_explain (fCons (fVar 11) (fCons (fTup (fCons (fTup (fCons (fC (.int 3)) (fCons (fC (.int 2)) (fNil)))) (fCons (fC (.int 9)) (fNil)))) (fCons (fTup (fCons (fC (.int 0)) (fCons (fC (.int 0)) (fCons (fC (.int 20)) (fNil))))) (fNil))))) (fCons (fC (.bl true)) (fNil)))) (fCall q_law_same (fCons (fCall qdoes_explain (fCons (fVar 11) (fCons (fTup (fCons (fTup (fCons (fC (.int 3)) (fCons (fC (.int 2)) (fNil)))) (fCons (fC (.int 17)) (fNil)))) (fCons (fTup (fCons (fC (.int 0)) (fCons (fC (.int 0)) (fCons (fC (.int 20)) (fNil))))) (fNil))))) (fCons (fC (.bl false)) (fNil))))))))))))))
def claw : FnC := runFn false 12 blaw
end LP
namespace LP
open PySem PySem.Spec PyProof.Rows L2 PF
@[simp] theorem int_argP (q : Int) (M) : argP M (.int q) = some (.int q) := rfl
@[simp] theorem bl_argP (q : Bool) (M) : argP M (.bl q) = some (.bl q) := rfl
/-- what a drawing gives -/
def tk (xs : List Int) (m : Int) : Int := match xs.getLast? with
  | none => 0
  | some v => v.fmod m
theorem tk_lt {xs : List Int} {m : Int} (h : 0 < m) : 0 ≤ tk xs m ∧ tk xs m < m := by
  unfold tk
  split
  · omega
  · rw [Int.fmod_eq_emod_of_nonneg _ (by omega)]
    exact ⟨Int.emod_nonneg _ (by omega), Int.emod_lt_of_pos _ h⟩
theorem dropLast_iL (xs : List Int) : (iL xs).dropLast = iL xs.dropLast := by
  simp [iL, List.map_dropLast]
theorem take_ev {xs : List Int} {m : Int} (hm : m ≠ 0) : c_law_take [.ref 0, .int m] [.lst (iL xs)] = some (.int (tk xs m), [.lst (iL xs.dropLast)]) := by
  cases xs with
  | nil => simp [c_law_take, b_law_take, runFn, startR, tk, fin, Mem.nr, MO.nr, D.nr, D.nrs]
  | cons x xs =>
    have hl : (iL (x :: xs))[xs.length]? = (x :: xs).getLast?.map .int := by rw [iL_at]; simp [List.getLast?_eq_getElem?]
    obtain ⟨v, hv⟩ : ∃ v, (x :: xs).getLast? = some v := ⟨_, List.getLast?_cons⟩
    rw [hv] at hl
    have hn := nrs_iL (x :: xs).dropLast
    have hd := dropLast_iL (x :: xs)
    have hz : ((iL (x :: xs)).length : Int) = xs.length + 1 := by simp
    have hz2 : ¬ ((xs.length : Int) + 1 = 0) := by omega
    have hl' : (iL (x :: xs))[(iL (x :: xs)).length - 1]? = some (.int v) := by rw [show (iL (x :: xs)).length - 1 = xs.length by simp]; exact hl
    generalize iL (x :: xs) = L at *
    simp [c_law_take, b_law_take, runFn, startR, tk, hv, hz, hz2, hl', hm, hd, fin, Mem.nr, MO.nr, D.nr, D.nrs, hn]
theorem take_call {n : Nat} {M : Mem} {xs : List Int} {m : Int} (h : M[n]? = some (.lst (iL xs))) (hm : m ≠ 0) : callS 0 c_law_take [.ref n, .int m] M = some (.int (tk xs m), M.set n (.lst (iL xs.dropLast))) := by
  have hn := nrs_iL xs
  have hn' := nrs_iL xs.dropLast
  simp [callS, h, MO.nr, hn, refIn, argsP, argP, D.nr, take_ev hm, hn', D.nl, anyRef, D.isRef]
theorem lc_map {c : Mem → Bool} {t : FG} {ft : FT} {fe : FE} {ρ : Rho} {M : Mem} (g : D → D) (hc : c M = true) : ∀ (xs acc : List D), (∀ d, d ∈ xs → ∃ ρ', t d ρ = some ρ' ∧ ft ρ' M = some (true, M) ∧ fe ρ' M = some (g d, M)) → lcLoop c t ft fe ρ xs acc M = some (acc ++ xs.map g, M)
  | [], acc, _ => by simp [lcLoop, hc]
  | d :: xs, acc, h => by
    obtain ⟨ρ', h1, h2, h3⟩ := h d (by simp)
    rw [lcLoop, if_pos hc, h1]
    simp only [Option.bind_some]
    rw [h2]
    simp only [Option.bind_some, if_true]
    rw [h3]
    simp only [Option.bind_some]
    rw [lc_map g hc xs _ fun d hd => h d (List.mem_cons_of_mem _ hd)]
    simp
theorem draws_ev (ns : List Int) (hl : ns.length ≤ 63) (many : Nat) (hm : many ≤ 1000) : ∃ xs : List Int, c_law_draws [.kst (iL ns), .int many] [] = some (.ref 0, [.lst (iL xs)]) := by
  have main : ∀ cells : List Int, 0 < cells.length → cells.length ≤ 64 → ∃ ρ' M', sLoop (chk none (rgD 0 many)) (sStep (tN 6)
      (sSeq (sSet 7 (f2 gMod (fVar 6) (fB gLen (fCons (fVar 2) (fNil)))))
      (sIf (fAnd (f2T (gCmp fun i j => decide (j ≤ i)) (f2 gIx (fVar 2) (fVar 7)) (f2 gPow (fC (.int 10)) (fC (.int 18)))) (f2T (gCmp fun i j => decide (j < i)) (f2 gIx (fVar 4) (fVar 7)) (fC (.int 0))))
      (sSeq (sDrop (fM "list" gAppend (fVar 5) (fCons (f2 gMod (fB gInt (fCons (f2 gIx (fVar 4) (fVar 7)) (fNil))) (fC (.int 1000))) (fNil))))
      (sSetIx (f2 gFdiv (f2 gIx (fVar 4) (fVar 7)) (fC (.int 1000))) (fVar 4) (fVar 7)))
      (sSeq (sSet 8 (f2 gMod (fB gInt (fCons (f2 gAdd (f2 gAdd (f2 gMul (f2 gIx (fVar 2) (fVar 7)) (fC (.int 48271))) (f2 gMul (fVar 6) (fC (.int 69621)))) (fC (.int 11))) (fNil))) (fC (.int 2147483647))))
      (sDrop (fM "list" gAppend (fVar 5) (fCons (f2 gMod (fB gInt (fCons (f2 gAdd (f2 gAdd (f2 gMul (fVar 8) (fVar 8)) (f2 gMul (fC (.int 3)) (fVar 8))) (fVar 6)) (fNil))) (fC (.int 1000003))) (fNil))))))))
      (rgD 0 many) [some (.kst (iL ns)), some (.int many), some (.ref 0), none, some (.ref 1), some (.ref 2), none, none, none] [.lst (iL cells), .lst (iL cells), .lst []] = some (.nx ρ', M') ∧
      ∃ rest draws x6 x7 x8, ρ' = [some (.kst (iL ns)), some (.int many), some (.ref 0), none, some (.ref 1), some (.ref 2), x6, x7, x8] ∧ M' = [.lst (iL cells), .lst (iL rest), .lst (iL draws)] := by
    intro cells h0 h64
    have := loop_inv (c := chk none (rgD 0 many)) (xs := rgD 0 many) (ρ := [some (.kst (iL ns)), some (.int many), some (.ref 0), none, some (.ref 1), some (.ref 2), none, none, none]) (M := [.lst (iL cells), .lst (iL cells), .lst []])
      (fun k ρ' M' => ∃ (rest draws : List Int) (x6 x7 x8 : Option D), ρ' = [some (.kst (iL ns)), some (.int many), some (.ref 0), none, some (.ref 1), some (.ref 2), x6, x7, x8] ∧ M' = [.lst (iL cells), .lst (iL rest), .lst (iL draws)] ∧ rest.length = cells.length ∧ draws.length = k) (fun _ _ _ _ => rfl)
      (step := (sStep (tN 6)
      (sSeq (sSet 7 (f2 gMod (fVar 6) (fB gLen (fCons (fVar 2) (fNil)))))
      (sIf (fAnd (f2T (gCmp fun i j => decide (j ≤ i)) (f2 gIx (fVar 2) (fVar 7)) (f2 gPow (fC (.int 10)) (fC (.int 18)))) (f2T (gCmp fun i j => decide (j < i)) (f2 gIx (fVar 4) (fVar 7)) (fC (.int 0))))
      (sSeq (sDrop (fM "list" gAppend (fVar 5) (fCons (f2 gMod (fB gInt (fCons (f2 gIx (fVar 4) (fVar 7)) (fNil))) (fC (.int 1000))) (fNil))))
      (sSetIx (f2 gFdiv (f2 gIx (fVar 4) (fVar 7)) (fC (.int 1000))) (fVar 4) (fVar 7)))
      (sSeq (sSet 8 (f2 gMod (fB gInt (fCons (f2 gAdd (f2 gAdd (f2 gMul (f2 gIx (fVar 2) (fVar 7)) (fC (.int 48271))) (f2 gMul (fVar 6) (fC (.int 69621)))) (fC (.int 11))) (fNil))) (fC (.int 2147483647))))
      (sDrop (fM "list" gAppend (fVar 5) (fCons (f2 gMod (fB gInt (fCons (f2 gAdd (f2 gAdd (f2 gMul (fVar 8) (fVar 8)) (f2 gMul (fC (.int 3)) (fVar 8))) (fVar 6)) (fNil))) (fC (.int 1000003))) (fNil)))))))))
      ?_ ⟨cells, [], none, none, none, rfl, rfl, rfl, rfl⟩
    · obtain ⟨ρ', M', e, rest, draws, x6, x7, x8, e1, e2, _⟩ := this
      exact ⟨ρ', M', e, rest, draws, x6, x7, x8, e1, e2⟩
    · rintro k d ρ M hd ⟨rest, draws, x6, x7, x8, rfl, rfl, hr, hk⟩
      obtain ⟨hk2, rfl⟩ := rgD_at hd
      have lc : (iL cells).length = cells.length := by simp
      have lr : (iL rest).length = cells.length := by simp [hr]
      have hne : ¬ ((cells.length : Int) = 0) := by omega
      have hcn : cells ≠ [] := by rintro rfl; simp at h0
      have em : ((k : Int).fmod (cells.length : Int)) = ((k % cells.length : Nat) : Int) := by rw [Int.fmod_eq_emod_of_nonneg _ (by omega)]; rfl
      have hj : k % cells.length < cells.length := Nat.mod_lt _ h0
      generalize k % cells.length = j at em hj
      obtain ⟨c, hc⟩ : ∃ c, cells[j]? = some c := ⟨_, List.getElem?_eq_getElem hj⟩
      obtain ⟨r, hrr⟩ : ∃ c, rest[j]? = some c := ⟨_, List.getElem?_eq_getElem (by omega)⟩
      have a1 : L2.atI (iL cells) (j : Int) = some (.int c) := at_nat (by rw [iL_at, hc]; rfl)
      have a2 : L2.atI (iL rest) (j : Int) = some (.int r) := at_nat (by rw [iL_at, hrr]; rfl)
      have a3 : L2.ixN (iL rest).length (j : Int) = some j := by
        unfold L2.ixN
        rw [if_pos (by omega), if_pos (by omega)]; rfl
      have ld : (iL draws).length < LINE := by rw [iL_len, hk]; show k < 16777216; omega
      have op : okPow 10 18 = true := by decide
      have m1 : okMul c 48271 = true := okMul_r (by decide)
      have m2 : okMul (k : Int) 69621 = true := okMul_r (by decide)
      have d1 : okDiv 1000 = true := okDiv_of (by decide) (Nat.lt_of_lt_of_le (by decide : (1000 : Int).natAbs < 2 ^ 10) (Nat.pow_le_pow_right (by decide) (by decide)))
      by_cases hbig : (10 : Int) ^ 18 ≤ c ∧ 0 < r
      · refine ⟨_, _, ?_, rest.set j (r.fdiv 1000), draws ++ [r.fmod 1000], some (.int k), some (.int j), x8, rfl, rfl, by simp [hr], by simp [hk]⟩
        have e1 : (iL rest).set j (.int (r.fdiv 1000)) = iL (rest.set j (r.fdiv 1000)) := by simp [iL, List.map_set]
        have e2 : iL draws ++ [.int (r.fmod 1000)] = iL (draws ++ [r.fmod 1000]) := by simp [iL]
        have hb1 := hbig.1
        simp only [← e1, ← e2]
        clear e1 e2
        generalize iL cells = L1 at *
        generalize iL rest = L2 at *
        generalize iL draws = L3 at *
        simp [lc, hne, hcn, em, a1, a2, a3, op, d1, hbig.2, ld, show (10 : Int) ^ 18 ≤ c from hb1, show (1000000000000000000 : Int) ≤ c from hb1]
      · let v := (c * 48271 + (k : Int) * 69621 + 11).fmod 2147483647
        have hv : v = (c * 48271 + (k : Int) * 69621 + 11).fmod 2147483647 := rfl
        have hv1 : 0 ≤ v ∧ v < 2147483647 := by
          rw [hv, Int.fmod_eq_emod_of_nonneg _ (by decide)]
          omega
        have m3 : okMul v v = true := okMul_r (by omega)
        have m4 : okMul 3 v = true := okMul_r (by omega)
        refine ⟨_, _, ?_, rest, draws ++ [(v * v + 3 * v + k).fmod 1000003], some (.int k), some (.int j), some (.int v), rfl, rfl, hr, by simp [hk]⟩
        have e2 : iL draws ++ [.int ((v * v + 3 * v + k).fmod 1000003)] = iL (draws ++ [(v * v + 3 * v + k).fmod 1000003]) := by simp [iL]
        simp only [← e2]
        clear e2
        have hc3 : (1000000000000000000 : Int) ≤ c → ¬ (0 < r) := fun h1 h2 => hbig ⟨h1, h2⟩
        generalize iL cells = L1 at *
        generalize iL rest = L2 at *
        generalize iL draws = L3 at *
        by_cases h18 : (1000000000000000000 : Int) ≤ c
        · simp [lc, hne, hcn, em, a1, a2, a3, op, m1, m2, ← hv, m3, m4, ld, h18, hc3 h18]
        · simp [lc, hne, hcn, em, a1, a2, a3, op, m1, m2, ← hv, m3, m4, ld, h18]
  have hcells : ∀ M, lcLoop (chk none (iL ns)) (tN 3) fYes (fB gInt (fCons (fVar 3) fNil)) [some (.kst (iL ns)), some (.int many), none, none, none, none, none, none, none] (iL ns) [] M = some (iL ns, M) := by
    intro M
    have := lc_map (c := chk none (iL ns)) (t := tN 3) (ft := fYes) (fe := fB gInt (fCons (fVar 3) fNil)) (ρ := [some (.kst (iL ns)), some (.int many), none, none, none, none, none, none, none]) (M := M) id rfl (iL ns) [] (by
      intro d hd
      obtain ⟨i, _, rfl⟩ := List.mem_map.mp hd
      exact ⟨_, rfl, rfl, by simp⟩)
    simpa using this
  obtain ⟨cells, hc0, hc1, hcells2⟩ : ∃ cells : List Int, 0 < cells.length ∧ cells.length ≤ 64 ∧ cells = if ns = [] then [0] else ns := ⟨_, by split <;> simp [List.length_pos_iff, *], by split <;> (try simp) <;> omega, rfl⟩
  obtain ⟨ρ', M', e, rest, draws, x6, x7, x8, rfl, rfl⟩ := main cells hc0 hc1
  have ok : okR 0 (many : Int) = true := okR_of (by omega) (by omega) (by omega) (by omega)
  refine ⟨draws.reverse, ?_⟩
  have er : iL draws.reverse = (iL draws).reverse := by simp [iL]
  have hn := nrs_iL cells
  have hn2 := nrs_iL draws.reverse
  have l0 : (0 : Nat) < LINE := by decide
  rw [er] at hn2 ⊢
  have hn3 : D.nrs (iL draws).reverse = true := hn2
  by_cases hz : ns = []
  · rw [if_pos hz] at hcells2
    have hL : (iL ns).length = 0 := by rw [hz]; rfl
    have hc2 : iL cells = iL ns ++ [.int 0] := by rw [hcells2, hz]; rfl
    rw [hc2] at e hn
    generalize iL ns = L at *
    generalize (iL draws) = L2 at *
    simp [c_law_draws, b_law_draws, runFn, startR, fiSq, wipeR, hcells, hL, ev_rgh1 _ ok, e, l0, fin, Mem.nr]
    exact hn3
  · rw [if_neg hz] at hcells2
    subst hcells2
    have hL : ¬ ((iL cells).length = 0) := by rw [iL_len]; omega
    generalize iL cells = L at *
    generalize (iL draws) = L2 at *
    have hL2 : L ≠ [] := by rintro rfl; simp at hL
    simp [c_law_draws, b_law_draws, runFn, startR, fiSq, wipeR, hcells, hL, hL2, ev_rgh1 _ ok, e, l0, fin, Mem.nr]
    exact hn3
/-! _law_same of a thing with itself -/
mutual
def sok : Nat → D → Bool
  | 0, _ => false
  | _ + 1, .non => true
  | _ + 1, .bl _ => true
  | _ + 1, .int _ => true
  | n + 1, .tup xs => decide (xs.length ≤ 1000) && soks n xs
  | _, _ => false
def soks : Nat → List D → Bool
  | _, [] => true
  | n, x :: xs => sok n x && soks n xs
end
theorem soks_at : ∀ {n : Nat} {xs : List D} {k : Nat} {d : D}, soks n xs = true → xs[k]? = some d → sok n d = true
  | _, [], _, _, _, h => by simp at h
  | n, x :: xs, 0, d, h, e => by
    rw [soks, Bool.and_eq_true] at h
    simp at e; subst e; exact h.1
  | n, x :: xs, k + 1, d, h, e => by
    rw [soks, Bool.and_eq_true] at h
    exact soks_at h.2 (by simpa using e)
mutual
theorem sok_nr : ∀ (n : Nat) (d : D), sok n d = true → d.nr = true ∧ d.isRef = false
  | 0, _, h => by rw [sok] at h; cases h
  | _ + 1, .non, _ => ⟨rfl, rfl⟩
  | _ + 1, .bl _, _ => ⟨rfl, rfl⟩
  | _ + 1, .int _, _ => ⟨rfl, rfl⟩
  | n + 1, .tup xs, h => by
    rw [sok, Bool.and_eq_true] at h
    exact ⟨by rw [D.nr]; exact soks_nr n xs h.2, rfl⟩
  | _ + 1, .str _, h => by simp [sok] at h
  | _ + 1, .lst _, h => by simp [sok] at h
  | _ + 1, .kst _, h => by simp [sok] at h
  | _ + 1, .ref _, h => by simp [sok] at h
theorem soks_nr : ∀ (n : Nat) (xs : List D), soks n xs = true → D.nrs xs = true
  | _, [], _ => rfl
  | n, x :: xs, h => by
    rw [soks, Bool.and_eq_true] at h
    rw [D.nrs, (sok_nr n x h.1).1, soks_nr n xs h.2]; rfl
end
theorem argP_nr {d : D} (h : d.nr = true) (hr : d.isRef = false) (M : Mem) : argP M d = some d := by
  cases d with
  | ref n => cases hr
  | non => rfl
  | bl _ => rfl
  | int _ => rfl
  | str _ => rfl
  | tup _ => exact if_pos h
  | lst _ => exact if_pos h
  | kst _ => exact if_pos h
theorem same_ev : ∀ (n : Nat) (d : D), sok n d = true → c_law_same n [d, d] [] = some (.bl true, [])
  | 0, d, h => by simp [sok] at h
  | n + 1, .non, _ => by simp [c_law_same, b_law_same, runFn, startR, isi, tyOf, isNon, fin, Mem.nr, D.nr]
  | n + 1, .bl b, _ => by cases b <;> simp [c_law_same, b_law_same, runFn, startR, isi, tyOf, isNon, fin, Mem.nr, D.nr, gEq, D.val, D.dp, D.py, PyData.eqv]
  | n + 1, .int i, _ => by simp [c_law_same, b_law_same, runFn, startR, isi, tyOf, isNon, fin, Mem.nr, D.nr]
  | n + 1, .str _, h => by simp [sok] at h
  | n + 1, .lst _, h => by simp [sok] at h
  | n + 1, .kst _, h => by simp [sok] at h
  | n + 1, .ref _, h => by simp [sok] at h
  | n + 1, .tup xs, h => by
    rw [sok, Bool.and_eq_true] at h
    have hl : xs.length ≤ 1000 := of_decide_eq_true h.1
    have ok : okR 0 (xs.length : Int) = true := okR_of (by omega) (by omega) (by omega) (by omega)
    have hloop := loop_inv (c := chk none (rgD 0 xs.length)) (xs := rgD 0 xs.length) (ρ := [some (.tup xs), some (.tup xs), none]) (M := [])
      (fun k ρ' M' => ∃ x, ρ' = [some (.tup xs), some (.tup xs), x] ∧ M' = []) (fun _ _ _ _ => rfl)
      (step := sStep (tN 2) (sIf (fNot (fTru (fCall (c_law_same n) (fCons (f2 gIx (fVar 0) (fVar 2)) (fCons (f2 gIx (fVar 1) (fVar 2)) (fNil))))))
      (sRet (fC (.bl false)))
      (sNext))) (by
        rintro k d ρ M hd ⟨x, rfl, rfl⟩
        obtain ⟨hk, rfl⟩ := rgD_at hd
        obtain ⟨e, he⟩ : ∃ e, xs[k]? = some e := ⟨_, List.getElem?_eq_getElem hk⟩
        have hs := soks_at h.2 he
        obtain ⟨n1, n2⟩ := sok_nr n e hs
        have a1 : L2.atI xs (k : Int) = some e := at_nat he
        exact ⟨_, _, by simp [a1, callP, argsP, argP_nr n1 n2, same_ev n e hs, anyRef, n2], some (.int k), rfl, rfl⟩) ⟨none, rfl, rfl⟩
    obtain ⟨ρ', M', e, x, rfl, rfl⟩ := hloop
    simp [c_law_same, b_law_same, runFn, startR, isi, tyOf, isNon, gIs, ev_rgh1 _ ok, e, fin, Mem.nr, D.nr]
theorem same_bl (b : Bool) : q_law_same [.bl b, .bl b] [] = some (.bl true, []) := same_ev 12 (.bl b) (by simp [sok])
/-! _law_cell -/
theorem cell_ev (ns : List Int) (xs : List Int) (hl : ns.length ≤ 63) : ∃ (i : Int) (ys : List Int), c_law_cell [.kst (iL ns), .ref 0] [.lst (iL xs)] = some (.int i, [.lst (iL ys)]) := by
  by_cases hz : ns = []
  · have hL : (iL ns).length = 0 := by rw [hz]; rfl
    have hn := nrs_iL xs
    refine ⟨0, xs, ?_⟩
    have hL2 : iL ns = [] := by rw [hz]; rfl
    generalize iL ns = L at *
    generalize iL xs = L' at *
    subst hL2
    simp [c_law_cell, b_law_cell, runFn, startR, fin, Mem.nr, MO.nr, D.nr, hn]
  · have h0 : 0 < ns.length := List.length_pos_iff.mpr hz
    have hm : ((ns.length : Int)) ≠ 0 := by omega
    have ht := take_call (n := 0) (M := [.lst (iL xs)]) (xs := xs) (m := ns.length) rfl hm
    obtain ⟨t1, t2⟩ := tk_lt (xs := xs) (m := ns.length) (by omega)
    obtain ⟨j, hj⟩ : ∃ j : Nat, tk xs ns.length = j := ⟨(tk xs ns.length).toNat, by omega⟩
    have hjl : j < ns.length := by omega
    obtain ⟨c, hc⟩ : ∃ c, ns[j]? = some c := ⟨_, List.getElem?_eq_getElem hjl⟩
    have a1 : L2.atI (iL ns) (j : Int) = some (.int c) := at_nat (by rw [iL_at, hc]; rfl)
    have hn := nrs_iL xs.dropLast
    have p60 : okPow 10 60 = true := by decide
    rw [hj] at ht
    have hL : (iL ns).length = ns.length := iL_len ns
    have hnil : iL ns ≠ [] := by intro z; rw [z] at hL; simp at hL; omega
    generalize iL ns = L at *
    by_cases hc0 : c < 0
    · have m1 : ∀ v, okMul v (-1) = true := fun v => okMul_r (by decide)
      refine ⟨((c.natAbs : Int).fmod (10 ^ 60)) * -1, xs.dropLast, ?_⟩
      generalize iL xs.dropLast = L' at *
      simp [c_law_cell, b_law_cell, runFn, startR, hL, hnil, hz, ht, a1, p60, hc0, m1, fin, Mem.nr, MO.nr, D.nr, hn, q_law_take]
    · have m1 : ∀ v, okMul v 1 = true := fun v => okMul_r (by decide)
      refine ⟨((c.natAbs : Int).fmod (10 ^ 60)) * 1, xs.dropLast, ?_⟩
      generalize iL xs.dropLast = L' at *
      simp [c_law_cell, b_law_cell, runFn, startR, hL, hnil, hz, ht, a1, p60, hc0, m1, fin, Mem.nr, MO.nr, D.nr, hn, q_law_take]
@[simp] theorem take_c0 (xs : List Int) (m : Int) (M : Mem) (hm : m ≠ 0) : callS 0 c_law_take [.ref 0, .int m] (.lst (iL xs) :: M) = some (.int (tk xs m), .lst (iL xs.dropLast) :: M) := by
  rw [take_call (n := 0) (xs := xs) rfl hm]; rfl
theorem at4 {α} {a b c d : α} {i : Int} (h : 0 ≤ i ∧ i < 4) : L2.atI [a, b, c, d] i = some a ∨ L2.atI [a, b, c, d] i = some b ∨ L2.atI [a, b, c, d] i = some c ∨ L2.atI [a, b, c, d] i = some d := by
  obtain h | h | h | h : i = 0 ∨ i = 1 ∨ i = 2 ∨ i = 3 := by omega
  · subst h; exact .inl (at_nat (n := 0) rfl)
  · subst h; exact .inr (.inl (at_nat (n := 1) rfl))
  · subst h; exact .inr (.inr (.inl (at_nat (n := 2) rfl)))
  · subst h; exact .inr (.inr (.inr (at_nat (n := 3) rfl)))
theorem at3 {α} {a b c : α} {i : Int} (h : 0 ≤ i ∧ i < 3) : L2.atI [a, b, c] i = some a ∨ L2.atI [a, b, c] i = some b ∨ L2.atI [a, b, c] i = some c := by
  obtain h | h | h : i = 0 ∨ i = 1 ∨ i = 2 := by omega
  · subst h; exact .inl (at_nat (n := 0) rfl)
  · subst h; exact .inr (.inl (at_nat (n := 1) rfl))
  · subst h; exact .inr (.inr (at_nat (n := 2) rfl))
theorem at5 {α} {a b c d e : α} {i : Int} (h : 0 ≤ i ∧ i < 5) : ∃ x, L2.atI [a, b, c, d, e] i = some x ∧ (x = a ∨ x = b ∨ x = c ∨ x = d ∨ x = e) := by
  obtain h | h | h | h | h : i = 0 ∨ i = 1 ∨ i = 2 ∨ i = 3 ∨ i = 4 := by omega
  · subst h; exact ⟨a, at_nat (n := 0) rfl, by simp⟩
  · subst h; exact ⟨b, at_nat (n := 1) rfl, by simp⟩
  · subst h; exact ⟨c, at_nat (n := 2) rfl, by simp⟩
  · subst h; exact ⟨d, at_nat (n := 3) rfl, by simp⟩
  · subst h; exact ⟨e, at_nat (n := 4) rfl, by simp⟩
theorem kst_argP (ns : List Int) (M) : argP M (.kst (iL ns)) = some (.kst (iL ns)) := by
  have : (D.kst (iL ns)).nr = true := by rw [D.nr]; exact nrs_iL ns
  unfold argP
  simp [this]
theorem cell_call {ns xs ys : List Int} {i : Int} (h : c_law_cell [.kst (iL ns), .ref 0] [.lst (iL xs)] = some (.int i, [.lst (iL ys)])) : callS 1 c_law_cell [.kst (iL ns), .ref 0] [.lst (iL xs)] = some (.int i, [.lst (iL ys)]) := by
  have hn := nrs_iL xs
  have hn' := nrs_iL ys
  have hk := nrs_iL ns
  generalize iL ns = L at *
  simp [callS, MO.nr, hn, hn', refIn, argsP, argP, D.nr, hk, h, anyRef, D.isRef, D.nl]
end LP
namespace LP
open PySem PySem.Spec PyProof.Rows L2 PF
/-- a field as the defs read it -/
structure Fld (F : D) (S W : List D) : Prop where
  i2 : ∀ M, gIx F (.int 2) M = some (.tup S)
  i3 : ∀ M, gIx F (.int 3) M = some (.tup W)
  nr : F.nr = true
  ir : F.isRef = false
abbrev pl (x y : Int) : D := .tup [.int x, .int y]
abbrev tr (x y z : Int) : D := .tup [.int x, .int y, .int z]
def far (x y a b : Int) : Int := ((x - a).natAbs : Int) + ((y - b).natAbs : Int)
theorem far_ge (x y a b : Int) : 0 ≤ far x y a b := by unfold far; omega
theorem far_self (x y : Int) : far x y x y = 0 := by unfold far; omega
section
variable {F : D} {S W : List D} {s k x y e lo hi a b : Int}
theorem Fld.arg (H : Fld F S W) (M) : argP M F = some F := argP_nr H.nr H.ir M
theorem how_ev : chow_far [pl x y, pl a b] [] = some (.int (far x y a b), []) := by
  simp [chow_far, bhow_far, runFn, startR, fin, Mem.nr, D.nr, far]
theorem lfar_ev : c_law_far [pl x y, pl a b] [] = some (.int (far x y a b), []) := by
  simp [c_law_far, b_law_far, runFn, startR, fin, Mem.nr, D.nr, far]
theorem cut2 (p q r : D) : cutD [p, q, r] none (some 2) = [p, q] := rfl
theorem fst_ev (H : Fld F S W) (hs : L2.atI S s = some (tr x y e)) : cfar_from_station [F, .int s, pl a b] [] = some (.int (far x y a b), []) := by
  simp [cfar_from_station, bfar_from_station, runFn, startR, H.i2, hs, gSlice, cut2, callP, argsP, D.nr, D.nrs, anyRef, qhow_far, how_ev, fin, Mem.nr]
theorem allowed_ev (H : Fld F S W) (hs : L2.atI S s = some (tr x y e)) (hk : L2.atI W k = some (pl lo hi)) (hf : far x y a b < 1000000) (m : Int) :
    callowed_times [F, tr s k m, pl a b] [] = some (pl (m - e - hi * far x y a b) (m + e - lo * far x y a b), []) := by
  have f0 := far_ge x y a b
  have m1 : ∀ v, okMul v (far x y a b) = true := fun v => okMul_r (by omega)
  have h2 := H.i2
  have h3 := H.i3
  have ha := H.arg
  have hi' := H.ir
  have hfs := fst_ev (a := a) (b := b) H hs
  simp [callowed_times, ballowed_times, runFn, startR, h2, h3, hs, hk, callP, argsP, ha, D.nr, D.nrs, anyRef, hi', qfar_from_station, hfs, m1, fin, Mem.nr]
theorem due_ev (H : Fld F S W) (hs : L2.atI S s = some (tr x y e)) (hk : L2.atI W k = some (pl lo hi)) (hf : far x y a b < 1000000) (t : Int) :
    cdue_minutes [F, .int s, .int k, pl a b, .int t] [] = some (pl (t + lo * far x y a b - e) (t + hi * far x y a b + e), []) := by
  have f0 := far_ge x y a b
  have m1 : ∀ v, okMul v (far x y a b) = true := fun v => okMul_r (by omega)
  have h2 := H.i2
  have h3 := H.i3
  have ha := H.arg
  have hi' := H.ir
  have hfs := fst_ev (a := a) (b := b) H hs
  simp [cdue_minutes, bdue_minutes, runFn, startR, h2, h3, hs, hk, callP, argsP, ha, D.nr, D.nrs, anyRef, hi', qfar_from_station, hfs, m1, fin, Mem.nr]
theorem explain_ev (H : Fld F S W) (hs : L2.atI S s = some (tr x y e)) (hk : L2.atI W k = some (pl lo hi)) (hf : far x y a b < 1000000) (m t : Int) :
    cdoes_explain [F, .tup [pl a b, .int t], tr s k m] [] = some (.bl (decide (m - e - hi * far x y a b ≤ t) && decide (t ≤ m + e - lo * far x y a b)), []) := by
  have h := allowed_ev H hs hk hf m
  have ha := H.arg
  have hi' := H.ir
  by_cases h1 : m - e - hi * far x y a b ≤ t
  · simp [cdoes_explain, bdoes_explain, runFn, startR, callP, argsP, ha, D.nr, D.nrs, anyRef, hi', qallowed_times, h, ev_chain, h1, fin, Mem.nr]
  · simp [cdoes_explain, bdoes_explain, runFn, startR, callP, argsP, ha, D.nr, D.nrs, anyRef, hi', qallowed_times, h, ev_chain, h1, fin, Mem.nr]
theorem span_ev (H : Fld F S W) (hs : L2.atI S s = some (tr x y e)) (hk : L2.atI W k = some (pl lo hi)) (hf : far x y a b < 1000000) (m : Int) :
    c_law_span [F, tr s k m, pl a b] [] = some (pl (m - e - hi * far x y a b) (m + e - lo * far x y a b), []) := by
  have f0 := far_ge x y a b
  have m1 : ∀ v, okMul v (far x y a b) = true := fun v => okMul_r (by omega)
  have h2 := H.i2
  have h3 := H.i3
  have hfs := lfar_ev (x := x) (y := y) (a := a) (b := b)
  simp [c_law_span, b_law_span, runFn, startR, h2, h3, hs, hk, callP, argsP, D.nr, D.nrs, anyRef, q_law_far, hfs, m1, fin, Mem.nr]
theorem ldue_ev (H : Fld F S W) (hs : L2.atI S s = some (tr x y e)) (hk : L2.atI W k = some (pl lo hi)) (hf : far x y a b < 1000000) (t : Int) :
    c_law_due [F, .int s, .int k, pl a b, .int t] [] = some (pl (t + lo * far x y a b - e) (t + hi * far x y a b + e), []) := by
  have f0 := far_ge x y a b
  have m1 : ∀ v, okMul v (far x y a b) = true := fun v => okMul_r (by omega)
  have h2 := H.i2
  have h3 := H.i3
  have hfs := lfar_ev (x := x) (y := y) (a := a) (b := b)
  obtain ⟨f, ef⟩ : ∃ f, far x y a b = f := ⟨_, rfl⟩
  rw [ef] at f0 m1 hfs hf ⊢
  have ok : okR 0 f = true := okR_of (by omega) (by omega) (by omega) (by omega)
  have hloop := loop_inv (c := chk none (rgD 0 f.toNat)) (xs := rgD 0 f.toNat) (ρ := [some F, some (.int s), some (.int k), some (pl a b), some (.int t), some (.int x), some (.int y), some (.int e), some (.int lo), some (.int hi), some (.int (t - e)), none]) (M := [])
    (fun n ρ' M' => ∃ x11, ρ' = [some F, some (.int s), some (.int k), some (pl a b), some (.int t), some (.int x), some (.int y), some (.int e), some (.int lo), some (.int hi), some (.int (t - e + lo * n)), x11] ∧ M' = []) (fun _ _ _ _ => rfl)
    (step := sStep (tN 11) (sSet 10 (f2 gAdd (fVar 10) (fVar 8)))) (by
      rintro n d ρ M hd ⟨x11, rfl, rfl⟩
      refine ⟨[some F, some (.int s), some (.int k), some (pl a b), some (.int t), some (.int x), some (.int y), some (.int e), some (.int lo), some (.int hi), some (.int (t - e + lo * n + lo)), some d], [], by simp, some d, ?_, rfl⟩
      rw [show t - e + lo * ((n + 1 : Nat) : Int) = t - e + lo * n + lo by grind]) ⟨none, by simp, rfl⟩
  obtain ⟨ρ', M', ev, x11, rfl, rfl⟩ := hloop
  rw [rgD_len, show ((f.toNat : Nat) : Int) = f by omega] at ev
  have e2 : t - e + lo * f = t + lo * f - e := by omega
  rw [e2] at ev
  simp [c_law_due, b_law_due, runFn, startR, h2, h3, hs, hk, callP, argsP, D.nr, D.nrs, anyRef, q_law_far, hfs, m1, ev_rgh1 _ ok, ev, fin, Mem.nr]
end
end LP
namespace LP
open PySem PySem.Spec PyProof.Rows L2 PF
theorem same_pl (u v : Int) : q_law_same [pl u v, pl u v] [] = some (.bl true, []) := same_ev 12 _ (by simp [sok, soks])
theorem od2 : okDiv 2 = true := by decide
section
variable {F : D} {S W : List D} {s k x y e lo hi a b : Int}
def readStep : FS := (sSeq (sSet 8 (fCall q_law_due (fCons (fVar 0) (fCons (fVar 1) (fCons (fVar 2) (fCons (fVar 3) (fCons (fVar 7) (fNil))))))))
      (sSeq (sIf (fNot (fTru (fCall q_law_same (fCons (fCall qdue_minutes (fCons (fVar 0) (fCons (fVar 1) (fCons (fVar 2) (fCons (fVar 3) (fCons (fVar 7) (fNil))))))) (fCons (fVar 8) (fNil))))))
      (sRet (fC (.bl false)))
      (sNext))
      (sSeq (sIf (fOr (fNot (fTru (fCall q_law_same (fCons (fCall qdoes_explain (fCons (fVar 0) (fCons (fTup (fCons (fVar 3) (fCons (fVar 7) (fNil)))) (fCons (fVar 5) (fNil))))) (fCons (fChain (gCmp fun i j => decide (i ≤ j)) (gCmp fun i j => decide (i ≤ j)) (f2 gIx (fVar 8) (fC (.int 0))) (fVar 4) (f2 gIx (fVar 8) (fC (.int 1)))) (fNil)))))) (f2T (gNe) (fChain (gCmp fun i j => decide (i ≤ j)) (gCmp fun i j => decide (i ≤ j)) (f2 gIx (fVar 8) (fC (.int 0))) (fVar 4) (f2 gIx (fVar 8) (fC (.int 1)))) (fChain (gCmp fun i j => decide (i ≤ j)) (gCmp fun i j => decide (i ≤ j)) (f2 gIx (fVar 6) (fC (.int 0))) (fVar 7) (f2 gIx (fVar 6) (fC (.int 1))))))
      (sRet (fC (.bl false)))
      (sNext))
      (sIf (f2T (gNe) (f2 gSub (f2 gIx (fVar 8) (fC (.int 1))) (f2 gIx (fVar 8) (fC (.int 0)))) (f2 gSub (f2 gIx (fVar 6) (fC (.int 1))) (f2 gIx (fVar 6) (fC (.int 0)))))
      (sRet (fC (.bl false)))
      (sNext)))))
theorem read_step (H : Fld F S W) (hs : L2.atI S s = some (tr x y e)) (hk : L2.atI W k = some (pl lo hi)) (hf : far x y a b < 1000000) (m t : Int) (x7 x8 : Option D) :
    sStep (tN 7) readStep (.int t) [some F, some (.int s), some (.int k), some (pl a b), some (.int m), some (tr s k m), some (pl (m - e - hi * far x y a b) (m + e - lo * far x y a b)), x7, x8, none] [] =
      some (.nx [some F, some (.int s), some (.int k), some (pl a b), some (.int m), some (tr s k m), some (pl (m - e - hi * far x y a b) (m + e - lo * far x y a b)), some (.int t), some (pl (t + lo * far x y a b - e) (t + hi * far x y a b + e)), none], []) := by
  have h1 := ldue_ev (a := a) (b := b) H hs hk hf t
  have h2 := due_ev (a := a) (b := b) H hs hk hf t
  have h3 := explain_ev (a := a) (b := b) H hs hk hf m t
  have ha := H.arg
  have hi' := H.ir
  obtain ⟨p, ep⟩ : ∃ p, hi * far x y a b = p := ⟨_, rfl⟩
  obtain ⟨q, eq⟩ : ∃ q, lo * far x y a b = q := ⟨_, rfl⟩
  rw [ep, eq] at h1 h2 h3 ⊢
  have e3 : t + p + e - (t + q - e) = m + e - q - (m - e - p) := by omega
  unfold readStep
  by_cases c1 : m - e - p ≤ t
  · have c1' : m ≤ t + p + e := by omega
    rw [decide_eq_true c1] at h3
    by_cases c2 : t ≤ m + e - q
    · have c2' : t + q - e ≤ m := by omega
      rw [decide_eq_true c2] at h3
      simp [callP, argsP, ha, D.nr, D.nrs, anyRef, hi', q_law_due, h1, qdue_minutes, h2, same_pl, qdoes_explain, h3, ev_chain, c1, c1', c2, c2', same_bl, e3]
    · have c2' : ¬ (t + q - e ≤ m) := by omega
      rw [decide_eq_false c2] at h3
      simp [callP, argsP, ha, D.nr, D.nrs, anyRef, hi', q_law_due, h1, qdue_minutes, h2, same_pl, qdoes_explain, h3, ev_chain, c1, c1', c2, c2', same_bl, e3]
  · have c1' : ¬ (m ≤ t + p + e) := by omega
    rw [decide_eq_false c1] at h3
    by_cases c2 : t ≤ m + e - q
    · have c2' : t + q - e ≤ m := by omega
      rw [decide_eq_true c2] at h3
      simp [callP, argsP, ha, D.nr, D.nrs, anyRef, hi', q_law_due, h1, qdue_minutes, h2, same_pl, qdoes_explain, h3, ev_chain, c1, c1', c2, c2', same_bl, e3]
    · have c2' : ¬ (t + q - e ≤ m) := by omega
      rw [decide_eq_false c2] at h3
      simp [callP, argsP, ha, D.nr, D.nrs, anyRef, hi', q_law_due, h1, qdue_minutes, h2, same_pl, qdoes_explain, h3, ev_chain, c1, c1', c2, c2', same_bl, e3]
theorem rr_ev (H : Fld F S W) (hs : L2.atI S s = some (tr x y e)) (hk : L2.atI W k = some (pl lo hi)) (hf : far x y a b < 1000000) (m : Int) :
    c_law_is_reading_right [F, .int s, .int k, pl a b, .int m] [] = some (.bl true, []) := by
  have h0 := span_ev (a := a) (b := b) H hs hk hf m
  have h1 := allowed_ev (a := a) (b := b) H hs hk hf m
  have h2 := allowed_ev (a := a) (b := b) H hs hk hf (m + 1)
  have ha := H.arg
  have hi' := H.ir
  have hst := read_step (a := a) (b := b) H hs hk hf m
  obtain ⟨p, ep⟩ : ∃ p, hi * far x y a b = p := ⟨_, rfl⟩
  obtain ⟨q, eq⟩ : ∃ q, lo * far x y a b = q := ⟨_, rfl⟩
  rw [ep, eq] at h0 h1 h2
  simp only [ep, eq] at hst
  have e1 : m + 1 - e - p = m - e - p + 1 := by omega
  have e2 : m + 1 + e - q = m + e - q + 1 := by omega
  rw [e1, e2] at h2
  obtain ⟨u, eu⟩ : ∃ u, m - e - p = u := ⟨_, rfl⟩
  obtain ⟨v, ev⟩ : ∃ v, m + e - q = v := ⟨_, rfl⟩
  rw [eu, ev] at h0 h1 h2
  simp only [eu, ev] at hst
  have hloop := loop_inv (c := chk none [.int u, .int v, .int (u - 1), .int (v + 1), .int ((u + v).fdiv 2)]) (xs := [.int u, .int v, .int (u - 1), .int (v + 1), .int ((u + v).fdiv 2)]) (ρ := [some F, some (.int s), some (.int k), some (pl a b), some (.int m), some (tr s k m), some (pl u v), none, none, none]) (M := [])
    (fun n ρ' M' => ∃ x7 x8, ρ' = [some F, some (.int s), some (.int k), some (pl a b), some (.int m), some (tr s k m), some (pl u v), x7, x8, none] ∧ M' = []) (fun _ _ _ _ => rfl)
    (step := sStep (tN 7) readStep) (by
      rintro n d ρ M hd ⟨x7, x8, rfl, rfl⟩
      obtain ⟨t, rfl⟩ : ∃ t, d = .int t := by
        have hm := List.mem_of_getElem? hd
        simp at hm
        rcases hm with h | h | h | h | h <;> exact ⟨_, h⟩
      exact ⟨_, _, hst t x7 x8, _, _, rfl, rfl⟩) ⟨none, none, rfl, rfl⟩
  obtain ⟨ρ', M', el, x7, x8, rfl, rfl⟩ := hloop
  unfold readStep at el
  simp [c_law_is_reading_right, b_law_is_reading_right, runFn, startR, callP, argsP, ha, D.nr, D.nrs, anyRef, hi', q_law_span, h0, qallowed_times, h1, same_pl, od2, fiSq, el, h2, fin, Mem.nr]
end
end LP
namespace LP
open PySem PySem.Spec PyProof.Rows L2 PF
@[simp] theorem isi_tt : isi .tup .tup = true := rfl
@[simp] theorem ty_tup (xs) : tyOf (.tup xs) = .tup := rfl
section
variable {F G : D} {S W S' W' : List D} {s k x y e er lo hi lo' hi' a b : Int}
def wideStep : FS := (sSeq (sSet 10 (fCall qallowed_times (fCons (fVar 0) (fCons (fTup (fCons (fVar 2) (fCons (fVar 9) (fCons (fVar 4) (fNil))))) (fCons (fVar 3) (fNil))))))
      (sSeq (sIf (fOr (fNot (fTru (fIsi .tup (fVar 10)))) (f2T (gNe) (fB gLen (fCons (fVar 10) (fNil))) (fC (.int 2))))
      (sRet (fC (.bl false)))
      (sNext))
      (sSeq (sIf (f2T (gNe) (f2 gSub (f2 gIx (fVar 10) (fC (.int 1))) (f2 gIx (fVar 10) (fC (.int 0)))) (f2 gAdd (f2 gMul (fC (.int 2)) (fVar 7)) (f2 gMul (f2 gSub (f2 gIx (f2 gIx (f2 gIx (fVar 0) (fC (.int 3))) (fVar 9)) (fC (.int 1))) (f2 gIx (f2 gIx (f2 gIx (fVar 0) (fC (.int 3))) (fVar 9)) (fC (.int 0)))) (fVar 8))))
      (sRet (fC (.bl false)))
      (sNext))
      (sSeq (sSet 11 (fCall qallowed_times (fCons (fVar 1) (fCons (fTup (fCons (fVar 2) (fCons (fVar 9) (fCons (fVar 4) (fNil))))) (fCons (fVar 3) (fNil))))))
      (sSeq (sIf (fOr (fNot (fTru (fIsi .tup (fVar 11)))) (fOr (f2T (gNe) (fB gLen (fCons (fVar 11) (fNil))) (fC (.int 2))) (fOr (f2T (gCmp fun i j => decide (j < i)) (f2 gIx (fVar 11) (fC (.int 0))) (f2 gIx (fVar 10) (fC (.int 0)))) (f2T (gCmp fun i j => decide (i < j)) (f2 gIx (fVar 11) (fC (.int 1))) (f2 gIx (fVar 10) (fC (.int 1)))))))
      (sRet (fC (.bl false)))
      (sNext))
      (sSeq (sSet 12 (fCall qallowed_times (fCons (fVar 0) (fCons (fTup (fCons (fVar 2) (fCons (fVar 9) (fCons (fVar 4) (fNil))))) (fCons (fTup (fCons (fVar 5) (fCons (fVar 6) (fNil)))) (fNil))))))
      (sIf (fNot (fTru (fCall q_law_same (fCons (fVar 12) (fCons (fTup (fCons (f2 gSub (fVar 4) (fVar 7)) (fCons (f2 gAdd (fVar 4) (fVar 7)) (fNil)))) (fNil))))))
      (sRet (fC (.bl false)))
      (sNext))))))))
theorem wide_step (H : Fld F S W) (hs : L2.atI S s = some (tr x y e)) (hk : L2.atI W k = some (pl lo hi)) (H' : Fld G S' W') (hs' : L2.atI S' s = some (tr x y (e + er))) (hk' : L2.atI W' k = some (pl lo' hi')) (hf : far x y a b < 1000000) (her : 0 ≤ er) (hlo : lo' ≤ lo) (hhi : hi ≤ hi') (m : Int) (x9 x10 x11 x12 : Option D) :
    ∃ y10 y11 y12, sStep (tN 9) wideStep (.int k) [some F, some G, some (.int s), some (pl a b), some (.int m), some (.int x), some (.int y), some (.int e), some (.int (far x y a b)), x9, x10, x11, x12, none, none] [] =
      some (.nx [some F, some G, some (.int s), some (pl a b), some (.int m), some (.int x), some (.int y), some (.int e), some (.int (far x y a b)), some (.int k), y10, y11, y12, none, none], []) := by
  have f0 := far_ge x y a b
  have m1 : ∀ v, okMul v (far x y a b) = true := fun v => okMul_r (by omega)
  have m2 : ∀ v, okMul 2 v = true := fun v => okMul_l (by decide)
  have h1 := allowed_ev (a := a) (b := b) H hs hk hf m
  have h2 := allowed_ev (a := a) (b := b) H' hs' hk' hf m
  have h3 := allowed_ev (a := x) (b := y) H hs hk (by rw [far_self]; decide) m
  rw [far_self] at h3
  have ha := H.arg
  have hi1 := H.ir
  have ha' := H'.arg
  have hi1' := H'.ir
  have i3 := H.i3
  have q1 : hi * far x y a b ≤ hi' * far x y a b := Int.mul_le_mul_of_nonneg_right hhi f0
  have q2 : lo' * far x y a b ≤ lo * far x y a b := Int.mul_le_mul_of_nonneg_right hlo f0
  have q3 : (hi - lo) * far x y a b = hi * far x y a b - lo * far x y a b := Int.sub_mul _ _ _
  have e1 : m + e - lo * far x y a b - (m - e - hi * far x y a b) = 2 * e + (hi - lo) * far x y a b := by omega
  have e2 : ¬ (m - e - hi * far x y a b < m - (e + er) - hi' * far x y a b) := by omega
  have e3 : ¬ (m + (e + er) - lo' * far x y a b < m + e - lo * far x y a b) := by omega
  have e4 : m - e - hi * 0 = m - e := by omega
  have e5 : m + e - lo * 0 = m + e := by omega
  rw [e4, e5] at h3
  obtain ⟨f, ef⟩ : ∃ f, far x y a b = f := ⟨_, rfl⟩
  rw [ef] at h1 h2 e1 e2 e3 m1 ⊢
  refine ⟨some (pl (m - e - hi * f) (m + e - lo * f)), some (pl (m - (e + er) - hi' * f) (m + (e + er) - lo' * f)), some (pl (m - e) (m + e)), ?_⟩
  unfold wideStep
  simp [callP, argsP, ha, ha', D.nr, D.nrs, anyRef, hi1, hi1', qallowed_times, h1, h2, h3, i3, hk, m1, m2, e1, e2, e3, same_pl]
theorem wide_ev {lo0 hi0 lo1 hi1 l0 h1' : Int} (H : Fld F S [pl lo0 hi0, pl lo1 hi1]) (hs : L2.atI S s = some (tr x y e)) (H' : Fld G S' [pl l0 hi0, pl lo1 h1']) (hs' : L2.atI S' s = some (tr x y (e + er))) (hf : far x y a b < 1000000) (her : 0 ≤ er) (c0 : l0 ≤ lo0) (c1 : hi1 ≤ h1') (c2 : lo0 ≤ lo1) (c3 : hi0 ≤ hi1) (c4 : hi0 ≤ lo1) (m : Int) :
    c_law_is_wide_right [F, G, .int s, pl a b, .int m] [] = some (.bl true, []) := by
  have f0 := far_ge x y a b
  have d1 := due_ev (a := a) (b := b) H hs (k := 0) (lo := lo0) (hi := hi0) (by simp) hf m
  have d2 := due_ev (a := a) (b := b) H hs (k := 1) (lo := lo1) (hi := hi1) (by simp) hf m
  have w0 := fun x9 x10 x11 x12 => wide_step (a := a) (b := b) H hs (k := 0) (lo := lo0) (hi := hi0) (by simp) H' hs' (lo' := l0) (hi' := hi0) (by simp) hf her c0 (by omega) m x9 x10 x11 x12
  have w1 := fun x9 x10 x11 x12 => wide_step (a := a) (b := b) H hs (k := 1) (lo := lo1) (hi := hi1) (by simp) H' hs' (lo' := lo1) (hi' := h1') (by simp) hf her (by omega) c1 m x9 x10 x11 x12
  have hl := lfar_ev (x := x) (y := y) (a := a) (b := b)
  have q1 : lo0 * far x y a b ≤ lo1 * far x y a b := Int.mul_le_mul_of_nonneg_right c2 f0
  have q2 : hi0 * far x y a b ≤ hi1 * far x y a b := Int.mul_le_mul_of_nonneg_right c3 f0
  have q3 : hi0 * far x y a b ≤ lo1 * far x y a b := Int.mul_le_mul_of_nonneg_right c4 f0
  have ha := H.arg
  have hir := H.ir
  have i2 := H.i2
  obtain ⟨f, ef⟩ : ∃ f, far x y a b = f := ⟨_, rfl⟩
  simp only [ef] at d1 d2 w0 w1 hl q1 q2 q3
  have hloop := loop_inv (c := chk none [.int 0, .int 1]) (xs := [.int 0, .int 1]) (ρ := [some F, some G, some (.int s), some (pl a b), some (.int m), some (.int x), some (.int y), some (.int e), some (.int f), none, none, none, none, none, none]) (M := [])
    (fun n ρ' M' => ∃ x9 x10 x11 x12, ρ' = [some F, some G, some (.int s), some (pl a b), some (.int m), some (.int x), some (.int y), some (.int e), some (.int f), x9, x10, x11, x12, none, none] ∧ M' = []) (fun _ _ _ _ => rfl)
    (step := sStep (tN 9) wideStep) (by
      rintro n d ρ M hd ⟨x9, x10, x11, x12, rfl, rfl⟩
      have hm := List.mem_of_getElem? hd
      simp at hm
      rcases hm with rfl | rfl
      · obtain ⟨y10, y11, y12, h⟩ := w0 x9 x10 x11 x12
        exact ⟨_, _, h, _, _, _, _, rfl, rfl⟩
      · obtain ⟨y10, y11, y12, h⟩ := w1 x9 x10 x11 x12
        exact ⟨_, _, h, _, _, _, _, rfl, rfl⟩) ⟨none, none, none, none, rfl, rfl⟩
  obtain ⟨ρ', M', el, x9, x10, x11, x12, rfl, rfl⟩ := hloop
  unfold wideStep at el
  have g1 : m + lo0 * f - e ≤ m + lo1 * f - e := by omega
  have g2 : m + hi0 * f + e ≤ m + hi1 * f + e := by omega
  have g3 : m + hi0 * f + e - e ≤ m + lo1 * f - e + e := by omega
  simp [c_law_is_wide_right, b_law_is_wide_right, runFn, startR, i2, hs, callP, argsP, ha, D.nr, D.nrs, anyRef, hir, q_law_far, hl, fiSq, el, qdue_minutes, d1, d2, g1, g2, g3, fin, Mem.nr]
  exact q3
end
end LP
namespace LP
open PySem PySem.Spec PyProof.Rows L2 PF
@[simp] theorem ev_f2N (g) (a b : FE) (ρ : Rho) (M : Mem) : f2N g a b ρ M = (a ρ M).bind fun a => (b ρ a.2).bind fun b => (g a.1 b.1 b.2).bind fun d => some (d, b.2) := rfl
theorem cat_ev {n : Nat} {M : Mem} {G L : List D} (h : M[n]? = some (.lst G)) (hl : G.length + L.length ≤ LINE) : gCat (.ref n) (.lst L) M = some (G ++ L) := by
  have e1 : ltOf (.ref n) M = some G := by
    show (match M[n]? with | some (.lst xs) => some xs | _ => none) = some G
    rw [h]
  have e2 : ltOf (.lst L) M = some L := rfl
  unfold gCat
  rw [e1, e2]
  exact if_pos hl
/-! the places -/
def PlIn (w h : Int) (d : D) : Prop := ∃ x y : Int, d = pl x y ∧ 0 ≤ x ∧ x < w ∧ 0 ≤ y ∧ y < h
def gridStep : FS := (sSet 2 (fMut (f2N gCat (fVar 2) (fFz (fLC [4] (fiRg1 (fCons (fVar 1) (fNil))) (tN 4) (fYes) (fTup (fCons (fVar 3) (fCons (fVar 4) (fNil)))))))))
theorem grid_ev {w h : Int} (hw : 1 ≤ w ∧ w ≤ 100) (hh : 1 ≤ h ∧ h ≤ 100) : ∃ G : List D, c_law_grid [.int w, .int h] [] = some (.ref 0, [.lst G]) ∧ (∀ d, d ∈ G → PlIn w h d) ∧ G.length ≤ 10000 := by
  have okw : okR 0 w = true := okR_of (by omega) (by omega) (by omega) (by omega)
  have okh : okR 0 h = true := okR_of (by omega) (by omega) (by omega) (by omega)
  have hloop := loop_inv (c := chk none (rgD 0 w.toNat)) (xs := rgD 0 w.toNat) (ρ := [some (.int w), some (.int h), some (.ref 0), none, none]) (M := [.lst []])
    (fun k ρ' M' => ∃ (j : Nat) (x3 : Option D) (G : List D), ρ' = [some (.int w), some (.int h), some (.ref j), x3, none] ∧ M'.length = j + 1 ∧ M'[j]? = some (.lst G) ∧ (∀ d, d ∈ G → PlIn w h d) ∧ G.length ≤ 100 * k) (fun _ _ _ _ => rfl)
    (step := sStep (tN 3) gridStep) (by
      rintro k d ρ M hd ⟨j, x3, G, rfl, hM, hj, hG, hl⟩
      obtain ⟨hk, rfl⟩ := rgD_at hd
      have hk2 : (k : Int) < w := by omega
      let L : List D := (rgD 0 h.toNat).map fun d => match d with | .int y => pl k y | d => d
      have hL : L = (rgD 0 h.toNat).map fun d => match d with | .int y => pl k y | d => d := rfl
      have hlc : lcLoop (chk none (rgD 0 h.toNat)) (tN 4) fYes (fTup (fCons (fVar 3) (fCons (fVar 4) fNil))) [some (.int w), some (.int h), some (.ref j), some (.int k), none] (rgD 0 h.toNat) [] M = some (L, M) := by
        have := lc_map (c := chk none (rgD 0 h.toNat)) (t := tN 4) (ft := fYes) (fe := fTup (fCons (fVar 3) (fCons (fVar 4) fNil))) (ρ := [some (.int w), some (.int h), some (.ref j), some (.int k), none]) (M := M) (fun d => match d with | .int y => pl k y | d => d) rfl (rgD 0 h.toNat) [] (by
          intro d hd
          obtain ⟨i, hi⟩ := List.mem_iff_getElem?.mp hd
          obtain ⟨_, rfl⟩ := rgD_at hi
          exact ⟨_, rfl, rfl, by simp⟩)
        rw [this, List.nil_append]
      have hLl : L.length = h.toNat := by rw [hL, List.length_map, rgD_len]
      have hLm : ∀ d, d ∈ L → PlIn w h d := by
        intro d hd
        obtain ⟨d0, hd0, rfl⟩ := List.mem_map.mp hd
        obtain ⟨i, hi⟩ := List.mem_iff_getElem?.mp hd0
        obtain ⟨hi2, rfl⟩ := rgD_at hi
        exact ⟨k, 0 + i, rfl, by omega, hk2, by omega, by omega⟩
      have hcat : gCat (.ref j) (.lst L) M = some (G ++ L) := cat_ev hj (by
        have : 100 * k ≤ 100 * 100 := Nat.mul_le_mul_left _ (by omega)
        rw [hLl]; show _ ≤ 16777216; omega)
      refine ⟨[some (.int w), some (.int h), some (.ref (j + 1)), some (.int k), none], M ++ [.lst (G ++ L)], ?_, j + 1, some (.int k), G ++ L, rfl, by simp [hM], ?_, ?_, ?_⟩
      · clear_value L
        unfold gridStep
        simp [ev_rgh1 _ okh, wipeR, hlc, hcat, hM]
      · rw [← hM]; simp
      · intro d hd
        rcases List.mem_append.mp hd with hd | hd
        · exact hG d hd
        · exact hLm d hd
      · rw [List.length_append, hLl]; omega) ⟨0, none, [], rfl, rfl, rfl, (fun d h => by simp at h), by simp⟩
  obtain ⟨ρ', M', el, j, x3, G, rfl, hM, hj, hG, hl⟩ := hloop
  unfold gridStep at el
  rw [rgD_len] at hl
  have hnr : D.nrs G = true := by
    have : ∀ G : List D, (∀ d, d ∈ G → PlIn w h d) → D.nrs G = true := by
      intro G
      induction G with
      | nil => intro _; rfl
      | cons d G ih =>
        intro hG
        obtain ⟨x, y, rfl, _⟩ := hG d (by simp)
        rw [D.nrs, ih fun d hd => hG d (List.mem_cons_of_mem _ hd)]
        simp [D.nr, D.nrs]
    exact this G hG
  refine ⟨G, ?_, hG, by have : 100 * w.toNat ≤ 100 * 100 := Nat.mul_le_mul_left _ (by omega); omega⟩
  simp [c_law_grid, b_law_grid, runFn, startR, ev_rgh1 _ okw, el, fin, Mem.nr, hj, hnr]
/-! the waves -/
theorem waves_ev (xs : List Int) (by_ : Int) : ∃ (l h t u : Int) (ys : List Int), (1 ≤ l ∧ l ≤ h ∧ h ≤ t ∧ t ≤ u ∧ u ≤ 100) ∧ c_law_waves [.ref 0, .int by_] [.lst (iL xs)] = some (.tup [pl (by_ * l) (by_ * h), pl (by_ * t) (by_ * u)], [.lst (iL ys)]) := by
  have h1 := tk_lt (xs := xs) (m := 3) (by decide)
  have h2 := tk_lt (xs := xs.dropLast) (m := 3) (by decide)
  have h3 := tk_lt (xs := xs.dropLast.dropLast) (m := 4) (by decide)
  have h4 := tk_lt (xs := xs.dropLast.dropLast.dropLast) (m := 3) (by decide)
  obtain ⟨l, el⟩ : ∃ l, 1 + tk xs 3 = l := ⟨_, rfl⟩
  obtain ⟨h, eh⟩ : ∃ h, l + tk xs.dropLast 3 = h := ⟨_, rfl⟩
  obtain ⟨t, et⟩ : ∃ t, h + tk xs.dropLast.dropLast 4 = t := ⟨_, rfl⟩
  obtain ⟨u, eu⟩ : ∃ u, t + tk xs.dropLast.dropLast.dropLast 3 = u := ⟨_, rfl⟩
  have hn := nrs_iL xs.dropLast.dropLast.dropLast.dropLast
  have m1 : okMul by_ l = true := okMul_r (by omega)
  have m2 : okMul by_ h = true := okMul_r (by omega)
  have m3 : okMul by_ t = true := okMul_r (by omega)
  have m4 : okMul by_ u = true := okMul_r (by omega)
  refine ⟨l, h, t, u, xs.dropLast.dropLast.dropLast.dropLast, by omega, ?_⟩
  unfold c_law_waves b_law_waves runFn q_law_take
  simp [startR, take_c0, el, eh, et, eu, m1, m2, m3, m4, fin, Mem.nr, MO.nr, hn, D.nr, D.nrs]
theorem waves_call {xs ys : List Int} {b : Int} {r : D} {M : Mem} (hr : r.nr = true) (h : c_law_waves [.ref 0, .int b] [.lst (iL xs)] = some (r, [.lst (iL ys)])) : callS 0 c_law_waves [.ref 0, .int b] (.lst (iL xs) :: M) = some (r, .lst (iL ys) :: M) := by
  have hn := nrs_iL xs
  have hn' := nrs_iL ys
  simp [callS, MO.nr, hn, hn', refIn, argsP, argP, D.nr, h, hr, anyRef, D.isRef]
end LP
namespace LP
open PySem PySem.Spec PyProof.Rows L2 PF
def StIn (w h : Int) (d : D) : Prop := ∃ x y e : Int, d = tr x y e ∧ 0 ≤ x ∧ x < w ∧ 0 ≤ y ∧ y < h
theorem nrs_of {P : D → Prop} (hP : ∀ d, P d → d.nr = true) : ∀ G : List D, (∀ d, d ∈ G → P d) → D.nrs G = true
  | [], _ => rfl
  | d :: G, h => by
    rw [D.nrs, nrs_of hP G fun d hd => h d (List.mem_cons_of_mem _ hd), hP d (h d (by simp))]; rfl
theorem pl_nr {w h : Int} (d : D) (hd : PlIn w h d) : d.nr = true := by
  obtain ⟨x, y, rfl, _⟩ := hd
  simp [D.nr, D.nrs]
theorem st_nr {w h : Int} (d : D) (hd : StIn w h d) : d.nr = true := by
  obtain ⟨x, y, e, rfl, _⟩ := hd
  simp [D.nr, D.nrs]
theorem ev_pop1 (n : Nat) (i : Int) (M : Mem) : gPop1 (.ref n) [.int i] M = (mlOf (.ref n) M).bind fun l => (ixN l.2.length i).bind fun k => (l.2[k]?).bind fun d => some (d, M.set l.1 (.lst (l.2.eraseIdx k))) := rfl
theorem add_tup (x y z : Int) (M : Mem) : gAdd (pl x y) (.tup [.int z]) M = some (tr x y z) := by
  unfold gAdd
  dsimp only
  rw [if_pos (by show 3 ≤ 16777216; decide)]
  rfl
def fieldStep : FS := (sSeq (sSet 9 (fM "list" gPop1 (fVar 6) (fCons (fCallS 0 q_law_take (fCons (fVar 0) (fCons (fB gLen (fCons (fVar 6) (fNil))) (fNil)))) (fNil))))
      (sDrop (fM "list" gAppend (fVar 7) (fCons (f2 gAdd (fVar 9) (fTup (fCons (f2 gMul (fVar 3) (f2 gIx (fFz (fLstD (fCons (fC (.int 0)) (fCons (fCallS 0 q_law_take (fCons (fVar 0) (fCons (fC (.int 3)) (fNil)))) (fCons (fCallS 0 q_law_take (fCons (fVar 0) (fCons (fC (.int 9)) (fNil)))) (fNil)))))) (fCallS 0 q_law_take (fCons (fVar 0) (fCons (fC (.int 3)) (fNil)))))) (fNil)))) (fNil)))))
theorem field_step {w h by_ : Int} (P S : List D) (xs : List Int) (k0 : D) (x8 x9 : Option D) (hP : ∀ d, d ∈ P → PlIn w h d) (hS : ∀ d, d ∈ S → StIn w h d) (h0 : 0 < P.length) (hl : S.length < 1000) :
    ∃ (P' S' : List D) (ys : List Int) (y9 : Option D), sStep (tN 8) fieldStep k0 [some (.ref 0), some (.int 12), some (.int 12), some (.int by_), some (.int w), some (.int h), some (.ref 1), some (.ref 2), x8, x9] [.lst (iL xs), .lst P, .lst S] =
      some (.nx [some (.ref 0), some (.int 12), some (.int 12), some (.int by_), some (.int w), some (.int h), some (.ref 1), some (.ref 2), some k0, y9], [.lst (iL ys), .lst P', .lst S']) ∧ (∀ d, d ∈ P' → PlIn w h d) ∧ (∀ d, d ∈ S' → StIn w h d) ∧ P'.length + 1 = P.length ∧ S'.length = S.length + 1 := by
  have hm : ((P.length : Int)) ≠ 0 := by omega
  have hnil : P ≠ [] := by rintro rfl; simp at h0
  have ht := tk_lt (xs := xs) (m := P.length) (by omega)
  obtain ⟨i, ei⟩ : ∃ i : Nat, tk xs P.length = i := ⟨(tk xs P.length).toNat, by omega⟩
  have hi : i < P.length := by omega
  have hix : L2.ixN P.length (i : Int) = some i := by
    unfold L2.ixN
    rw [if_pos (by omega), if_pos (by omega)]; rfl
  obtain ⟨d, hd⟩ : ∃ d, P[i]? = some d := ⟨_, List.getElem?_eq_getElem hi⟩
  obtain ⟨x, y, rfl, hx0, hx1, hy0, hy1⟩ := hP d (List.mem_of_getElem? hd)
  obtain ⟨a, ea⟩ : ∃ a, tk xs.dropLast 3 = a := ⟨_, rfl⟩
  obtain ⟨b, eb⟩ : ∃ b, tk xs.dropLast.dropLast 9 = b := ⟨_, rfl⟩
  have ha := tk_lt (xs := xs.dropLast) (m := 3) (by decide)
  have hb := tk_lt (xs := xs.dropLast.dropLast) (m := 9) (by decide)
  rw [ea] at ha
  rw [eb] at hb
  obtain ⟨v, hv, hv0⟩ : ∃ v : Int, L2.atI [D.int 0, .int a, .int b] (tk xs.dropLast.dropLast.dropLast 3) = some (.int v) ∧ (0 ≤ v ∧ v < 9) := by
    rcases at3 (a := D.int 0) (b := .int a) (c := .int b) (tk_lt (xs := xs.dropLast.dropLast.dropLast) (m := 3) (by decide)) with h | h | h
    · exact ⟨_, h, by omega⟩
    · exact ⟨_, h, by omega⟩
    · exact ⟨_, h, by omega⟩
  have m1 : okMul by_ v = true := okMul_r (by omega)
  have hlen : S.length < LINE := by show S.length < 16777216; omega
  have at_ := add_tup x y (by_ * v)
  refine ⟨P.eraseIdx i, S ++ [tr x y (by_ * v)], xs.dropLast.dropLast.dropLast.dropLast, some (pl x y), ?_, fun d hd => hP d (List.mem_of_mem_eraseIdx hd), fun d hd => ?_, ?_, by simp⟩
  · unfold fieldStep q_law_take
    simp [take_c0, hm, hnil, ei, ev_pop1, hix, hd, ea, eb, hv, m1, at_, hlen]
  · rcases List.mem_append.mp hd with hd | hd
    · exact hS d hd
    · rw [List.mem_singleton] at hd
      exact ⟨x, y, _, hd, hx0, hx1, hy0, hy1⟩
  · rw [List.length_eraseIdx_of_lt hi]; omega
theorem field_ev (xs : List Int) (by_ : Int) (hby : 1 ≤ by_) : ∃ (w h l0 h0 l1 h1 : Int) (S : List D) (ys : List Int), (1 ≤ w ∧ w ≤ 12 ∧ 1 ≤ h ∧ h ≤ 12) ∧ (1 ≤ l0 ∧ l0 ≤ h0 ∧ h0 ≤ l1 ∧ l1 ≤ h1) ∧ (∀ d, d ∈ S → StIn w h d) ∧
    c_law_field [.ref 0, .int 12, .int 12, .int by_] [.lst (iL xs)] = some (.tup [.int w, .int h, .tup S, .tup [pl l0 h0, pl l1 h1]], [.lst (iL ys)]) := by
  have t1 := tk_lt (xs := xs) (m := 12) (by decide)
  have t2 := tk_lt (xs := xs.dropLast) (m := 12) (by decide)
  obtain ⟨w, ew⟩ : ∃ w, 1 + tk xs 12 = w := ⟨_, rfl⟩
  obtain ⟨h, eh⟩ : ∃ h, 1 + tk xs.dropLast 12 = h := ⟨_, rfl⟩
  obtain ⟨G, hG, hGi, hGl⟩ := grid_ev (w := w) (h := h) (by omega) (by omega)
  have hGn := nrs_of pl_nr G hGi
  have t3 := tk_lt (xs := xs.dropLast.dropLast) (m := 13) (by decide)
  obtain ⟨q, eq⟩ : ∃ q, tk xs.dropLast.dropLast 13 = q := ⟨_, rfl⟩
  rw [eq] at t3
  obtain ⟨n, en⟩ : ∃ n : Int, (if q < (G.length : Int) then q else (G.length : Int)) = n := ⟨_, rfl⟩
  have hn : 0 ≤ n ∧ n ≤ 12 ∧ n ≤ G.length := by
    rw [← en]; split <;> omega
  have okn : okR 0 n = true := okR_of (by omega) (by omega) (by omega) (by omega)
  have hloop := loop_inv (c := chk none (rgD 0 n.toNat)) (xs := rgD 0 n.toNat) (ρ := [some (.ref 0), some (.int 12), some (.int 12), some (.int by_), some (.int w), some (.int h), some (.ref 1), some (.ref 2), none, none]) (M := [.lst (iL xs.dropLast.dropLast.dropLast), .lst G, .lst []])
    (fun k ρ' M' => ∃ (P S : List D) (ys : List Int) (x8 x9 : Option D), ρ' = [some (.ref 0), some (.int 12), some (.int 12), some (.int by_), some (.int w), some (.int h), some (.ref 1), some (.ref 2), x8, x9] ∧ M' = [.lst (iL ys), .lst P, .lst S] ∧ (∀ d, d ∈ P → PlIn w h d) ∧ (∀ d, d ∈ S → StIn w h d) ∧ P.length + k = G.length ∧ S.length = k) (fun _ _ _ _ => rfl)
    (step := sStep (tN 8) fieldStep) (by
      rintro k d ρ M hd ⟨P, S, ys, x8, x9, rfl, rfl, hP, hS, hl, hsl⟩
      obtain ⟨hk, rfl⟩ := rgD_at hd
      obtain ⟨P', S', zs, y9, e, hP', hS', hl', hsl'⟩ := field_step (w := w) (h := h) (by_ := by_) P S ys (.int (0 + k)) x8 x9 hP hS (by omega) (by omega)
      exact ⟨_, _, e, P', S', zs, _, y9, rfl, rfl, hP', hS', by omega, by omega⟩) ⟨G, [], xs.dropLast.dropLast.dropLast, none, none, rfl, rfl, hGi, (fun d h => by simp at h), by omega, rfl⟩
  obtain ⟨ρ', M', el, P, S, ys, x8, x9, rfl, rfl, hP, hS, _, hsl⟩ := hloop
  unfold fieldStep at el
  obtain ⟨a, b, c, d, zs, hab, hwv⟩ := waves_ev ys by_
  have hwc := waves_call (M := [.lst P, .lst S]) (by simp [D.nr, D.nrs]) hwv
  have hPn := nrs_of pl_nr P hP
  have hSn := nrs_of st_nr S hS
  have hzn := nrs_iL zs
  have p1 : by_ * a ≤ by_ * b := Int.mul_le_mul_of_nonneg_left (by omega) (by omega)
  have p2 : by_ * b ≤ by_ * c := Int.mul_le_mul_of_nonneg_left (by omega) (by omega)
  have p3 : by_ * c ≤ by_ * d := Int.mul_le_mul_of_nonneg_left (by omega) (by omega)
  have p0 : by_ * 1 ≤ by_ * a := Int.mul_le_mul_of_nonneg_left (by omega) (by omega)
  refine ⟨w, h, by_ * a, by_ * b, by_ * c, by_ * d, S, zs, by omega, by omega, hS, ?_⟩
  unfold c_law_field b_law_field runFn q_law_take
  simp [startR, take_c0, ew, eh, callP, argsP, anyRef, q_law_grid, hG, hGn, eq, en, ev_rgh1 _ okn, el]
  simp [q_law_waves, hwc, fin, Mem.nr, MO.nr, hzn, D.nr, D.nrs, hSn]
end LP
namespace LP
open PySem PySem.Spec PyProof.Rows L2 PF
abbrev fld (w h : Int) (S : List D) (l0 h0 l1 h1 : Int) : D := .tup [.int w, .int h, .tup S, .tup [pl l0 h0, pl l1 h1]]
theorem at_3 {α} (x y z u : α) (xs) : L2.atI (x :: y :: z :: u :: xs) 3 = some u := at_nat (n := 3) rfl
theorem fld_ok {w h l0 h0 l1 h1 : Int} {S : List D} (hS : ∀ d, d ∈ S → StIn w h d) : Fld (fld w h S l0 h0 l1 h1) S [pl l0 h0, pl l1 h1] :=
  ⟨fun M => by simp, fun M => by rw [ev_ixt, at_3], by
    have := nrs_of st_nr S hS
    simp [D.nr, D.nrs, this], rfl⟩
def wid (er : Int) : D → D
  | .tup [.int x, .int y, .int e] => tr x y (e + er)
  | d => d
theorem wid_st {w h er : Int} {d : D} (hd : StIn w h d) : StIn w h (wid er d) := by
  obtain ⟨x, y, e, rfl, h1⟩ := hd
  exact ⟨x, y, e + er, rfl, h1⟩
theorem widened_ev {w h l0 h0 l1 h1 : Int} {S : List D} (hS : ∀ d, d ∈ S → StIn w h d) (er more : Int) :
    c_law_widened [fld w h S l0 h0 l1 h1, .int er, .int more] [] = some (fld w h (S.map (wid er)) (if l0 - more > 1 then l0 - more else 1) h0 l1 (h1 + more), []) := by
  have hSn := nrs_of st_nr S hS
  have hS2 := nrs_of st_nr (S.map (wid er)) (by
    intro d hd
    obtain ⟨d0, h0, rfl⟩ := List.mem_map.mp hd
    exact wid_st (hS d0 h0))
  have H := fld_ok (l0 := l0) (h0 := h0) (l1 := l1) (h1 := h1) hS
  have i2 := H.i2
  have i3 := H.i3
  have i0 : ∀ M, gIx (fld w h S l0 h0 l1 h1) (.int 0) M = some (.int w) := fun M => by simp
  have i1 : ∀ M, gIx (fld w h S l0 h0 l1 h1) (.int 1) M = some (.int h) := fun M => by simp
  clear H
  generalize fld w h S l0 h0 l1 h1 = F at *
  have hlc : lcLoop (chk none S) (tT 3 (tsC (tN 4) (tsC (tN 5) (tsC (tN 6) (tsN))))) fYes (fTup (fCons (fVar 4) (fCons (fVar 5) (fCons (f2 gAdd (fVar 6) (fVar 1)) fNil)))) [some F, some (.int er), some (.int more), none, none, none, none, none, none] S [] [] = some (S.map (wid er), []) := by
    have := lc_map (c := chk none S) (t := tT 3 (tsC (tN 4) (tsC (tN 5) (tsC (tN 6) (tsN))))) (ft := fYes) (fe := fTup (fCons (fVar 4) (fCons (fVar 5) (fCons (f2 gAdd (fVar 6) (fVar 1)) fNil)))) (ρ := [some F, some (.int er), some (.int more), none, none, none, none, none, none]) (M := []) (wid er) rfl S [] (by
      intro d hd
      obtain ⟨x, y, e, rfl, _⟩ := hS d hd
      exact ⟨[some F, some (.int er), some (.int more), none, some (.int x), some (.int y), some (.int e), none, none], by simp, rfl, by simp [wid]⟩)
    rw [this, List.nil_append]
  simp [c_law_widened, b_law_widened, runFn, startR, i2, i3, i0, i1, fiSq, wipeR, hlc, fin, Mem.nr, D.nr, D.nrs, hS2]
theorem field_call {xs ys : List Int} {a b c : Int} {r : D} (hr : r.nr = true) (h : c_law_field [.ref 0, .int a, .int b, .int c] [.lst (iL xs)] = some (r, [.lst (iL ys)])) : callS 0 c_law_field [.ref 0, .int a, .int b, .int c] [.lst (iL xs)] = some (r, [.lst (iL ys)]) := by
  have hn := nrs_iL xs
  have hn' := nrs_iL ys
  simp [callS, MO.nr, hn, hn', refIn, argsP, argP, D.nr, h, hr, anyRef, D.isRef]
def kindStep : FS := (sIf (fNot (fTru (fCall q_law_is_reading_right (fCons (fVar 3) (fCons (fVar 7) (fCons (fVar 10) (fCons (fVar 8) (fCons (fVar 9) (fNil)))))))))
      (sRet (fC (.bl false)))
      (sNext))
def lawStep : FS := (sSeq (sSet 7 (fCallS 0 q_law_take (fCons (fVar 1) (fCons (fB gLen (fCons (f2 gIx (fVar 3) (fC (.int 2))) (fNil))) (fNil)))))
      (sSeq (sSet 8 (fTup (fCons (fCallS 0 q_law_take (fCons (fVar 1) (fCons (f2 gIx (fVar 3) (fC (.int 0))) (fNil)))) (fCons (fCallS 0 q_law_take (fCons (fVar 1) (fCons (f2 gIx (fVar 3) (fC (.int 1))) (fNil)))) (fNil)))))
      (sSeq (sSet 9 (f2 gIx (fFz (fLstD (fCons (f2 gSub (fCallS 0 q_law_take (fCons (fVar 1) (fCons (fC (.int 99)) (fNil)))) (fC (.int 30))) (fCons (fVar 4) (fCons (f1 gNeg (fVar 4)) (fCons (f2 gMul (fVar 2) (fCallS 0 q_law_take (fCons (fVar 1) (fCons (fC (.int 99)) (fNil))))) (fNil))))))) (fCallS 0 q_law_take (fCons (fVar 1) (fCons (fC (.int 4)) (fNil))))))
      (sSeq (sFor (fiSq (fFz (fLstD (fCons (fC (.int 0)) (fCons (fC (.int 1)) (fNil)))))) (tN 10)
      (sIf (fNot (fTru (fCall q_law_is_reading_right (fCons (fVar 3) (fCons (fVar 7) (fCons (fVar 10) (fCons (fVar 8) (fCons (fVar 9) (fNil)))))))))
      (sRet (fC (.bl false)))
      (sNext)))
      (sIf (fNot (fTru (fCall q_law_is_wide_right (fCons (fVar 3) (fCons (fVar 5) (fCons (fVar 7) (fCons (fVar 8) (fCons (fVar 9) (fNil)))))))))
      (sRet (fC (.bl false)))
      (sNext))))))
theorem turn_ev {w h l0 h0 l1 h1 l0' h1' er : Int} {S S' : List D} (s0 : D) (by_ cell : Int) (hw : 1 ≤ w ∧ w ≤ 12) (hh : 1 ≤ h ∧ h ≤ 12) (hb : l0 ≤ h0 ∧ h0 ≤ l1 ∧ l1 ≤ h1) (hS : ∀ d, d ∈ S → StIn w h d) (hS0 : 0 < S.length) (hS' : ∀ d, d ∈ S' → StIn w h d) (hw' : ∀ (i : Nat) x y e, S[i]? = some (tr x y e) → S'[i]? = some (tr x y (e + er))) (her : 0 ≤ er) (c0 : l0' ≤ l0) (c1 : h1 ≤ h1')
    (xs : List Int) (x6 x7 x8 x9 x10 : Option D) : ∃ (ys : List Int) (y7 y8 y9 y10 : Option D),
    lawStep [some s0, some (.ref 0), some (.int by_), some (fld w h S l0 h0 l1 h1), some (.int cell), some (fld w h S' l0' h0 l1 h1'), x6, x7, x8, x9, x10, none] [.lst (iL xs)] =
      some (.nx [some s0, some (.ref 0), some (.int by_), some (fld w h S l0 h0 l1 h1), some (.int cell), some (fld w h S' l0' h0 l1 h1'), x6, y7, y8, y9, y10, none], [.lst (iL ys)]) := by
  have H := fld_ok (l0 := l0) (h0 := h0) (l1 := l1) (h1 := h1) hS
  have H' := fld_ok (l0 := l0') (h0 := h0) (l1 := l1) (h1 := h1') hS'
  have hm : ((S.length : Int)) ≠ 0 := by omega
  have hnil : S ≠ [] := by rintro rfl; simp at hS0
  have t1 := tk_lt (xs := xs) (m := S.length) (by omega)
  obtain ⟨i, ei⟩ : ∃ i : Nat, tk xs S.length = i := ⟨(tk xs S.length).toNat, by omega⟩
  obtain ⟨d, hd⟩ : ∃ d, S[i]? = some d := ⟨_, List.getElem?_eq_getElem (by omega)⟩
  obtain ⟨x, y, e, rfl, hx0, hx1, hy0, hy1⟩ := hS d (List.mem_of_getElem? hd)
  have hs : L2.atI S (i : Int) = some (tr x y e) := at_nat hd
  have hs' : L2.atI S' (i : Int) = some (tr x y (e + er)) := at_nat (hw' i x y e hd)
  have hwz : w ≠ 0 := by omega
  have hhz : h ≠ 0 := by omega
  have ta := tk_lt (xs := xs.dropLast) (m := w) (by omega)
  have tb := tk_lt (xs := xs.dropLast.dropLast) (m := h) (by omega)
  obtain ⟨a, ea⟩ : ∃ a, tk xs.dropLast w = a := ⟨_, rfl⟩
  obtain ⟨b, eb⟩ : ∃ b, tk xs.dropLast.dropLast h = b := ⟨_, rfl⟩
  rw [ea] at ta
  rw [eb] at tb
  have hf : far x y a b < 1000000 := by unfold far; omega
  obtain ⟨u, eu⟩ : ∃ u, tk xs.dropLast.dropLast.dropLast 99 = u := ⟨_, rfl⟩
  obtain ⟨v, ev⟩ : ∃ v, tk xs.dropLast.dropLast.dropLast.dropLast 99 = v := ⟨_, rfl⟩
  have tv := tk_lt (xs := xs.dropLast.dropLast.dropLast.dropLast) (m := 99) (by decide)
  rw [ev] at tv
  have m1 : okMul by_ v = true := okMul_r (by omega)
  obtain ⟨m, hmin⟩ : ∃ m : Int, L2.atI [D.int (u - 30), .int cell, .int (-cell), .int (by_ * v)] (tk xs.dropLast.dropLast.dropLast.dropLast.dropLast 4) = some (.int m) := by
    rcases at4 (a := D.int (u - 30)) (b := .int cell) (c := .int (-cell)) (d := .int (by_ * v)) (tk_lt (xs := xs.dropLast.dropLast.dropLast.dropLast.dropLast) (m := 4) (by decide)) with h | h | h | h
    · exact ⟨_, h⟩
    · exact ⟨_, h⟩
    · exact ⟨_, h⟩
    · exact ⟨_, h⟩
  have r0 := rr_ev (a := a) (b := b) H hs (k := 0) (lo := l0) (hi := h0) (by simp) hf m
  have r1 := rr_ev (a := a) (b := b) H hs (k := 1) (lo := l1) (hi := h1) (by simp) hf m
  have ww := wide_ev (a := a) (b := b) H hs H' hs' hf her c0 c1 (by omega) (by omega) (by omega) m
  have i2 := H.i2
  have ha := H.arg
  have hir := H.ir
  have ha' := H'.arg
  have hir' := H'.ir
  have i0 : ∀ M, gIx (fld w h S l0 h0 l1 h1) (.int 0) M = some (.int w) := fun M => by simp
  have i1 : ∀ M, gIx (fld w h S l0 h0 l1 h1) (.int 1) M = some (.int h) := fun M => by simp
  clear H H'
  generalize fld w h S l0 h0 l1 h1 = F at *
  generalize fld w h S' l0' h0 l1 h1' = F' at *
  obtain ⟨zs, ez⟩ : ∃ zs, xs.dropLast.dropLast.dropLast.dropLast.dropLast.dropLast = zs := ⟨_, rfl⟩
  have hloop := loop_inv (c := chk none [.int 0, .int 1]) (xs := [.int 0, .int 1]) (ρ := [some s0, some (.ref 0), some (.int by_), some F, some (.int cell), some F', x6, some (.int i), some (pl a b), some (.int m), x10, none]) (M := [.lst (iL zs)])
    (fun n ρ' M' => ∃ x10, ρ' = [some s0, some (.ref 0), some (.int by_), some F, some (.int cell), some F', x6, some (.int i), some (pl a b), some (.int m), x10, none] ∧ M' = [.lst (iL zs)]) (fun _ _ _ _ => rfl)
    (step := sStep (tN 10) kindStep) (by
      rintro n d ρ M hd ⟨x10, rfl, rfl⟩
      have hmm := List.mem_of_getElem? hd
      simp at hmm
      refine ⟨[some s0, some (.ref 0), some (.int by_), some F, some (.int cell), some F', x6, some (.int i), some (pl a b), some (.int m), some d, none], [.lst (iL zs)], ?_, some d, rfl, rfl⟩
      unfold kindStep
      rcases hmm with rfl | rfl
      · simp [callP, argsP, ha, D.nr, D.nrs, anyRef, hir, q_law_is_reading_right, r0]
      · simp [callP, argsP, ha, D.nr, D.nrs, anyRef, hir, q_law_is_reading_right, r1]) ⟨x10, rfl, rfl⟩
  obtain ⟨ρ', M', el, y10, rfl, rfl⟩ := hloop
  unfold kindStep at el
  refine ⟨zs, some (.int i), some (pl a b), some (.int m), y10, ?_⟩
  unfold lawStep q_law_take
  simp [take_c0, i2, i0, i1, hm, hnil, ei, hwz, hhz, ea, eb, eu, ev, m1, hmin, ez, fiSq, el]
  simp [callP, argsP, ha, ha', D.nr, D.nrs, anyRef, hir, hir', q_law_is_wide_right, ww]
end LP
namespace LP
open PySem PySem.Spec PyProof.Rows L2 PF
theorem c1 : callowed_times [.tup [.int 5, .int 5, .tup [tr 1 1 2], .tup [pl 2 3, pl 4 6]], tr 0 0 20, pl 3 2] [] = some (pl 9 16, []) := by kernel_rfl
theorem c2 : cdue_minutes [.tup [.int 5, .int 5, .tup [tr 1 1 2], .tup [pl 2 3, pl 4 6]], .int 0, .int 1, pl 3 2, .int 10] [] = some (pl 20 30, []) := by kernel_rfl
theorem c3 : cdoes_explain [.tup [.int 5, .int 5, .tup [tr 1 1 2], .tup [pl 2 3, pl 4 6]], .tup [pl 3 2, .int 9], tr 0 0 20] [] = some (.bl true, []) := by kernel_rfl
theorem c4 : cdoes_explain [.tup [.int 5, .int 5, .tup [tr 1 1 2], .tup [pl 2 3, pl 4 6]], .tup [pl 3 2, .int 17], tr 0 0 20] [] = some (.bl false, []) := by kernel_rfl
theorem law_main (s : D) (b cell : Int) {w h l0 h0 l1 h1 : Int} {S : List D} (hw : 1 ≤ w ∧ w ≤ 12) (hh : 1 ≤ h ∧ h ≤ 12) (hb : 1 ≤ l0 ∧ l0 ≤ h0 ∧ h0 ≤ l1 ∧ l1 ≤ h1) (hS : ∀ d, d ∈ S → StIn w h d) (hS0 : 0 < S.length) (er more : Int) (her : 0 ≤ er) (hmore : 0 ≤ more) (xs : List Int) :
    ∃ (ys : List Int) (y6 y7 y8 y9 y10 : Option D), sLoop (chk none (rgD 0 8)) (sStep (tN 6) lawStep) (rgD 0 8) [some s, some (.ref 0), some (.int b), some (fld w h S l0 h0 l1 h1), some (.int cell), some (fld w h (S.map (wid er)) (if l0 - more > 1 then l0 - more else 1) h0 l1 (h1 + more)), none, none, none, none, none, none] [.lst (iL xs)] =
      some (.nx [some s, some (.ref 0), some (.int b), some (fld w h S l0 h0 l1 h1), some (.int cell), some (fld w h (S.map (wid er)) (if l0 - more > 1 then l0 - more else 1) h0 l1 (h1 + more)), y6, y7, y8, y9, y10, none], [.lst (iL ys)]) := by
  have hS' : ∀ d, d ∈ S.map (wid er) → StIn w h d := by
    intro d hd
    obtain ⟨d0, h0, rfl⟩ := List.mem_map.mp hd
    exact wid_st (hS d0 h0)
  obtain ⟨l0', el0⟩ : ∃ l0', (if l0 - more > 1 then l0 - more else 1) = l0' := ⟨_, rfl⟩
  have hl0 : l0' ≤ l0 := by rw [← el0]; split <;> omega
  rw [el0]
  have hloop := loop_inv (c := chk none (rgD 0 8)) (xs := rgD 0 8) (ρ := [some s, some (.ref 0), some (.int b), some (fld w h S l0 h0 l1 h1), some (.int cell), some (fld w h (S.map (wid er)) l0' h0 l1 (h1 + more)), none, none, none, none, none, none]) (M := [.lst (iL xs)])
    (fun k ρ' M' => ∃ (ys : List Int) (y6 y7 y8 y9 y10 : Option D), ρ' = [some s, some (.ref 0), some (.int b), some (fld w h S l0 h0 l1 h1), some (.int cell), some (fld w h (S.map (wid er)) l0' h0 l1 (h1 + more)), y6, y7, y8, y9, y10, none] ∧ M' = [.lst (iL ys)]) (fun _ _ _ _ => rfl)
    (step := sStep (tN 6) lawStep) (by
      rintro k d ρ M hd ⟨ys, y6, y7, y8, y9, y10, rfl, rfl⟩
      obtain ⟨zs, z7, z8, z9, z10, e⟩ := turn_ev (er := er) (l0' := l0') (h1' := h1 + more) (S' := S.map (wid er)) s b cell hw hh hb.2 hS hS0 hS' (by
        intro i x y e hi
        rw [List.getElem?_map, hi]; rfl) her hl0 (by omega) ys (some d) y7 y8 y9 y10
      refine ⟨_, _, ?_, zs, some d, z7, z8, z9, z10, rfl, rfl⟩
      rw [ev_step, ev_tN]
      exact e) ⟨xs, none, none, none, none, none, rfl, rfl⟩
  obtain ⟨ρ', M', e, ys, y6, y7, y8, y9, y10, rfl, rfl⟩ := hloop
  exact ⟨ys, y6, y7, y8, y9, y10, e⟩
theorem law_data : ∀ ns : List Int, ns.length ≤ 63 → claw [.kst (ns.map .int)] [] = some (.bl true, []) := by
  intro ns hl
  show claw [.kst (iL ns)] [] = _
  obtain ⟨xs, hd⟩ := draws_ev ns hl 260 (by decide)
  obtain ⟨i1, x1, hc1⟩ := cell_ev ns xs hl
  have hcc1 := cell_call hc1
  obtain ⟨g, eg⟩ : ∃ g, ((i1.natAbs : Int)).fmod (10 ^ 20) = g := ⟨_, rfl⟩
  have hg : 0 ≤ g := by rw [← eg]; exact Int.fmod_nonneg_of_pos _ (by decide)
  obtain ⟨b, hb, hb1⟩ : ∃ b : Int, L2.atI [D.int 1, .int 1, .int (1 + g)] (tk x1 3) = some (.int b) ∧ 1 ≤ b := by
    rcases at3 (a := D.int 1) (b := .int 1) (c := .int (1 + g)) (tk_lt (xs := x1) (m := 3) (by decide)) with h | h | h
    · exact ⟨_, h, by omega⟩
    · exact ⟨_, h, by omega⟩
    · exact ⟨_, h, by omega⟩
  obtain ⟨w, h, l0, h0, l1, h1, S0, x2, hwh, hbs, hS0, hfe⟩ := field_ev x1.dropLast b hb1
  have hfc : callS 0 c_law_field [.ref 0, .int 12, .int 12, .int b] [.lst (iL x1.dropLast)] = some (fld w h S0 l0 h0 l1 h1, [.lst (iL x2)]) := field_call (by have := nrs_of st_nr S0 hS0; simp [D.nr, D.nrs, this]) hfe
  obtain ⟨i2, x3, hc2⟩ := cell_ev ns x2 hl
  have hcc2 := cell_call hc2
  obtain ⟨cell, ecell⟩ : ∃ cell, i2.fmod (10 ^ 29) = cell := ⟨_, rfl⟩
  obtain ⟨er, eer⟩ : ∃ er, tk x3 9 = er := ⟨_, rfl⟩
  obtain ⟨more, emore⟩ : ∃ er, tk x3.dropLast 2 = er := ⟨_, rfl⟩
  have t1 := tk_lt (xs := x3) (m := 9) (by decide)
  have t2 := tk_lt (xs := x3.dropLast) (m := 2) (by decide)
  rw [eer] at t1
  rw [emore] at t2
  have ok8 : okR 0 8 = true := by decide
  have p20 : okPow 10 20 = true := by decide
  have p29 : okPow 10 29 = true := by decide
  have hd' : c_law_draws [.kst (iL ns), .int 260] [] = some (.ref 0, [.lst (iL xs)]) := hd
  have hn := nrs_iL xs
  have hk := nrs_iL ns
  have eg' : ((i1.natAbs : Int)).fmod 100000000000000000000 = g := eg
  have ec' : i2.fmod 100000000000000000000000000000 = cell := ecell
  -- the field that is used
  obtain ⟨S, hSdef⟩ : ∃ S, (if S0 = [] then [tr 0 0 2] else S0) = S := ⟨_, rfl⟩
  have hS : ∀ d, d ∈ S → StIn w h d := by
    rw [← hSdef]; split
    · intro d hd
      rw [List.mem_singleton] at hd
      exact ⟨0, 0, 2, hd, by omega, by omega, by omega, by omega⟩
    · exact hS0
  have hSl : 0 < S.length := by
    rw [← hSdef]; split
    · simp
    · rename_i hz; exact List.length_pos_iff.mpr hz
  have hwid := widened_ev (l0 := l0) (h0 := h0) (l1 := l1) (h1 := h1) hS er more
  obtain ⟨zs, y6, y7, y8, y9, y10, el⟩ := law_main (.kst (iL ns)) b cell (by omega) (by omega) hbs hS hSl er more t1.1 t2.1 x3.dropLast.dropLast
  have hF := (fld_ok (l0 := l0) (h0 := h0) (l1 := l1) (h1 := h1) hS).arg
  have hFr := (fld_ok (l0 := l0) (h0 := h0) (l1 := l1) (h1 := h1) hS).ir
  have hsel : ∀ (x0 x1 x2 x4 x5 x6 x7 x8 x9 x10 x11 : Option D) (M : Mem), sIf (f2T (gEq) (fB gLen (fCons (f2 gIx (fVar 3) (fC (.int 2))) (fNil))) (fC (.int 0)))
      (sSet 3 (fTup (fCons (f2 gIx (fVar 3) (fC (.int 0))) (fCons (f2 gIx (fVar 3) (fC (.int 1))) (fCons (fTup (fCons (fTup (fCons (fC (.int 0)) (fCons (fC (.int 0)) (fCons (fC (.int 2)) (fNil))))) (fNil))) (fCons (f2 gIx (fVar 3) (fC (.int 3))) (fNil)))))))
      (sNext) [x0, x1, x2, some (fld w h S0 l0 h0 l1 h1), x4, x5, x6, x7, x8, x9, x10, x11] M = some (.nx [x0, x1, x2, some (fld w h S l0 h0 l1 h1), x4, x5, x6, x7, x8, x9, x10, x11], M) := by
    intro x0 x1 x2 x4 x5 x6 x7 x8 x9 x10 x11 M
    by_cases hz : S0 = []
    · rw [if_pos hz] at hSdef
      rw [← hSdef, hz]
      simp [at_3]
    · rw [if_neg hz] at hSdef
      rw [← hSdef]
      simp [hz]
  unfold lawStep q_law_take at el
  generalize fld w h (S.map (wid er)) (if l0 - more > 1 then l0 - more else 1) h0 l1 (h1 + more) = F' at *
  generalize fld w h S l0 h0 l1 h1 = F at *
  generalize fld w h S0 l0 h0 l1 h1 = F0 at *
  generalize iL ns = L at *
  unfold claw blaw runFn q_law_take q_law_field q_law_draws q_law_cell
  simp [-ev_if, startR, callP, argsP, hk, hd', anyRef, hn, hcc1, p20, eg', take_c0, hb, hfc, hsel, hcc2, p29, ec', eer, emore, hF, hFr, q_law_widened, hwid, ev_rgh1 _ ok8, el]
  simp [callP, argsP, D.nr, D.nrs, D.nl, anyRef, qallowed_times, c1, qdue_minutes, c2, qdoes_explain, c3, c4, same_pl, same_bl, fin, Mem.nr]
end LP
namespace LP
open PySem PySem.Spec PyProof.Rows L2 PF
def topS (i : Nat) : Stmt := PySem.Challenge.pw_shocksknown_k02_whole_times_and_minutes.main.body.getD i (.Pass ⟨0, 0, 0, 0⟩)
section
variable {P : Program} {w : World} {K : PySem.W.Frag} {mg : Str → Option Value} {base : Heap}
abbrev sthow_far : Stmt := topS 1
theorem schow_far : FnScope ["one", "other"] ["one", "other"] (defScope sthow_far) := ⟨rfl, rfl, rfl, by decide +kernel, rfl, by decide +kernel, by decide +kernel⟩
theorem okhow_far {f : Addr} {fd : FuncData} (F : FunD K "how_far" "how_far" (defArgs sthow_far) (defBody sthow_far) (defScope sthow_far) [] [] f fd) (g : mg "how_far" = some (.ref f)) (B : Bn mg)  : Cal P w K mg base 1 "how_far" chow_far 2 := by
  have nd := schow_far.nd
  refine cal_of (ps := ["one", "other"]) g F.kp (F.bindsN fun _ _ _ _ _ _ us hl => match us, hl with | [_, _], _ => rfl) (fn_ok (k := 0) F schow_far fun cdv A outer s H E hr => ?_)
  exact pfs_one (pfs_ret (pf_bin op_addA o_add (pf_b call_abs o_i1 (by rfl) B.abs boot_abs (pfa_cons (pf_bin op_sub o_sub (pf_ix ix_seq o_ix (pf_var 0) (pf_int) (fun _ _ => rfl)) (pf_ix ix_seq o_ix (pf_var 1) (pf_int) (fun _ _ => rfl))) (pfa_nil))) (pf_b call_abs o_i1 (by rfl) B.abs boot_abs (pfa_cons (pf_bin op_sub o_sub (pf_ix ix_seq o_ix (pf_var 0) (pf_int) (fun _ _ => rfl)) (pf_ix ix_seq o_ix (pf_var 1) (pf_int) (fun _ _ => rfl))) (pfa_nil)))))
abbrev stfar_from_station : Stmt := topS 2
theorem scfar_from_station : FnScope ["field", "station", "place"] ["field", "station", "place"] (defScope stfar_from_station) := ⟨rfl, rfl, rfl, by decide +kernel, rfl, by decide +kernel, by decide +kernel⟩
theorem okfar_from_station {f : Addr} {fd : FuncData} (F : FunD K "far_from_station" "far_from_station" (defArgs stfar_from_station) (defBody stfar_from_station) (defScope stfar_from_station) [] [] f fd) (g : mg "far_from_station" = some (.ref f)) (B : Bn mg) (Chow_far : Cal P w K mg base 1 "how_far" qhow_far 2) : Cal P w K mg base 2 "far_from_station" cfar_from_station 3 := by
  have nd := scfar_from_station.nd
  refine cal_of (ps := ["field", "station", "place"]) g F.kp (F.bindsN fun _ _ _ _ _ _ us hl => match us, hl with | [_, _, _], _ => rfl) (fn_ok (k := 1) F scfar_from_station fun cdv A outer s H E hr => ?_)
  exact pfs_one (pfs_ret (pf_callC Chow_far (hr.mono (by decide)) (by rfl) (pfa_cons (pf_slice (pf_ix ix_seq o_ix (pf_ix ix_seq o_ix (pf_var 0) (pf_int) (fun _ _ => rfl)) (pf_var 1) (fun _ _ => rfl)) (pfo_none) (pfo_some (pf_int))) (pfa_cons (pf_var 2) (pfa_nil))) (len_cons (len_cons len_nil))))
abbrev stallowed_times : Stmt := topS 3
theorem scallowed_times : FnScope ["field", "reading", "place", "station", "kind", "minute", "error", "low", "high", "far"] ["field", "reading", "place"] (defScope stallowed_times) := ⟨rfl, rfl, rfl, by decide +kernel, rfl, by decide +kernel, by decide +kernel⟩
theorem okallowed_times {f : Addr} {fd : FuncData} (F : FunD K "allowed_times" "allowed_times" (defArgs stallowed_times) (defBody stallowed_times) (defScope stallowed_times) [] [] f fd) (g : mg "allowed_times" = some (.ref f)) (B : Bn mg) (Cfar_from_station : Cal P w K mg base 2 "far_from_station" qfar_from_station 3) : Cal P w K mg base 3 "allowed_times" callowed_times 3 := by
  have nd := scallowed_times.nd
  refine cal_of (ps := ["field", "reading", "place"]) g F.kp (F.bindsN fun _ _ _ _ _ _ us hl => match us, hl with | [_, _, _], _ => rfl) (fn_ok (k := 2) F scallowed_times fun cdv A outer s H E hr => ?_)
  exact pfs_cons (pfs_asg (vs := [3, 4, 5]) (pf_var 1) (pfg_tup rfl (pfgs_cons (pfg_name (i := 3) nd rfl (by first | exact Or.inl rfl | exact Or.inr rfl)) (pfgs_cons (pfg_name (i := 4) nd rfl (by first | exact Or.inl rfl | exact Or.inr rfl)) (pfgs_cons (pfg_name (i := 5) nd rfl (by first | exact Or.inl rfl | exact Or.inr rfl)) (pfgs_nil))))))
      (pfs_cons (pfs_set (i := 6) nd rfl (by first | exact Or.inl rfl | exact Or.inr rfl) (pf_ix ix_seq o_ix (pf_ix ix_seq o_ix (pf_ix ix_seq o_ix (pf_var 0) (pf_int) (fun _ _ => rfl)) (pf_var 3) (fun _ _ => rfl)) (pf_int) (fun _ _ => rfl)))
      (pfs_cons (pfs_asg (vs := [7, 8]) (pf_ix ix_seq o_ix (pf_ix ix_seq o_ix (pf_var 0) (pf_int) (fun _ _ => rfl)) (pf_var 4) (fun _ _ => rfl)) (pfg_tup rfl (pfgs_cons (pfg_name (i := 7) nd rfl (by first | exact Or.inl rfl | exact Or.inr rfl)) (pfgs_cons (pfg_name (i := 8) nd rfl (by first | exact Or.inl rfl | exact Or.inr rfl)) (pfgs_nil)))))
      (pfs_cons (pfs_set (i := 9) nd rfl (by first | exact Or.inl rfl | exact Or.inr rfl) (pf_callC Cfar_from_station (hr.mono (by decide)) (by rfl) (pfa_cons (pf_var 0) (pfa_cons (pf_var 3) (pfa_cons (pf_var 2) (pfa_nil)))) (len_cons (len_cons (len_cons len_nil)))))
      (pfs_one (pfs_ret (pf_tup (pfa_cons (pf_bin op_sub o_sub (pf_bin op_sub o_sub (pf_var 5) (pf_var 6)) (pf_bin op_mulA o_mul (pf_var 8) (pf_var 9))) (pfa_cons (pf_bin op_sub o_sub (pf_bin op_addA o_add (pf_var 5) (pf_var 6)) (pf_bin op_mulA o_mul (pf_var 7) (pf_var 9))) (pfa_nil)))))))))
abbrev stdue_minutes : Stmt := topS 4
theorem scdue_minutes : FnScope ["field", "station", "kind", "place", "time", "error", "low", "high", "far"] ["field", "station", "kind", "place", "time"] (defScope stdue_minutes) := ⟨rfl, rfl, rfl, by decide +kernel, rfl, by decide +kernel, by decide +kernel⟩
theorem okdue_minutes {f : Addr} {fd : FuncData} (F : FunD K "due_minutes" "due_minutes" (defArgs stdue_minutes) (defBody stdue_minutes) (defScope stdue_minutes) [] [] f fd) (g : mg "due_minutes" = some (.ref f)) (B : Bn mg) (Cfar_from_station : Cal P w K mg base 2 "far_from_station" qfar_from_station 3) : Cal P w K mg base 3 "due_minutes" cdue_minutes 5 := by
  have nd := scdue_minutes.nd
  refine cal_of (ps := ["field", "station", "kind", "place", "time"]) g F.kp (F.bindsN fun _ _ _ _ _ _ us hl => match us, hl with | [_, _, _, _, _], _ => rfl) (fn_ok (k := 2) F scdue_minutes fun cdv A outer s H E hr => ?_)
  exact pfs_cons (pfs_set (i := 5) nd rfl (by first | exact Or.inl rfl | exact Or.inr rfl) (pf_ix ix_seq o_ix (pf_ix ix_seq o_ix (pf_ix ix_seq o_ix (pf_var 0) (pf_int) (fun _ _ => rfl)) (pf_var 1) (fun _ _ => rfl)) (pf_int) (fun _ _ => rfl)))
      (pfs_cons (pfs_asg (vs := [6, 7]) (pf_ix ix_seq o_ix (pf_ix ix_seq o_ix (pf_var 0) (pf_int) (fun _ _ => rfl)) (pf_var 2) (fun _ _ => rfl)) (pfg_tup rfl (pfgs_cons (pfg_name (i := 6) nd rfl (by first | exact Or.inl rfl | exact Or.inr rfl)) (pfgs_cons (pfg_name (i := 7) nd rfl (by first | exact Or.inl rfl | exact Or.inr rfl)) (pfgs_nil)))))
      (pfs_cons (pfs_set (i := 8) nd rfl (by first | exact Or.inl rfl | exact Or.inr rfl) (pf_callC Cfar_from_station (hr.mono (by decide)) (by rfl) (pfa_cons (pf_var 0) (pfa_cons (pf_var 1) (pfa_cons (pf_var 3) (pfa_nil)))) (len_cons (len_cons (len_cons len_nil)))))
      (pfs_one (pfs_ret (pf_tup (pfa_cons (pf_bin op_sub o_sub (pf_bin op_addA o_add (pf_var 4) (pf_bin op_mulA o_mul (pf_var 6) (pf_var 8))) (pf_var 5)) (pfa_cons (pf_bin op_addA o_add (pf_bin op_addA o_add (pf_var 4) (pf_bin op_mulA o_mul (pf_var 7) (pf_var 8))) (pf_var 5)) (pfa_nil))))))))
abbrev stdoes_explain : Stmt := topS 6
theorem scdoes_explain : FnScope ["field", "shock", "reading", "least", "greatest"] ["field", "shock", "reading"] (defScope stdoes_explain) := ⟨rfl, rfl, rfl, by decide +kernel, rfl, by decide +kernel, by decide +kernel⟩
theorem okdoes_explain {f : Addr} {fd : FuncData} (F : FunD K "does_explain" "does_explain" (defArgs stdoes_explain) (defBody stdoes_explain) (defScope stdoes_explain) [] [] f fd) (g : mg "does_explain" = some (.ref f)) (B : Bn mg) (Callowed_times : Cal P w K mg base 3 "allowed_times" qallowed_times 3) : Cal P w K mg base 4 "does_explain" cdoes_explain 3 := by
  have nd := scdoes_explain.nd
  refine cal_of (ps := ["field", "shock", "reading"]) g F.kp (F.bindsN fun _ _ _ _ _ _ us hl => match us, hl with | [_, _, _], _ => rfl) (fn_ok (k := 3) F scdoes_explain fun cdv A outer s H E hr => ?_)
  exact pfs_cons (pfs_asg (vs := [3, 4]) (pf_callC Callowed_times (hr.mono (by decide)) (by rfl) (pfa_cons (pf_var 0) (pfa_cons (pf_var 2) (pfa_cons (pf_ix ix_seq o_ix (pf_var 1) (pf_int) (fun _ _ => rfl)) (pfa_nil)))) (len_cons (len_cons (len_cons len_nil)))) (pfg_tup rfl (pfgs_cons (pfg_name (i := 3) nd rfl (by first | exact Or.inl rfl | exact Or.inr rfl)) (pfgs_cons (pfg_name (i := 4) nd rfl (by first | exact Or.inl rfl | exact Or.inr rfl)) (pfgs_nil)))))
      (pfs_one (pfs_ret (pf_chain op_le o_cmp op_le o_cmp (pf_var 3) (pf_ix ix_seq o_ix (pf_var 1) (pf_int) (fun _ _ => rfl)) (pf_var 4))))
abbrev st_law_draws : Stmt := topS 8
theorem sc_law_draws : FnScope ["script", "many", "cells", "cell", "rest", "draws", "k", "at", "mingled"] ["script", "many"] (defScope st_law_draws) := ⟨rfl, rfl, rfl, by decide +kernel, rfl, by decide +kernel, by decide +kernel⟩
theorem ok_law_draws {f : Addr} {fd : FuncData} (F : FunD K "_law_draws" "_law_draws" (defArgs st_law_draws) (defBody st_law_draws) (defScope st_law_draws) [] [] f fd) (g : mg "_law_draws" = some (.ref f)) (B : Bn mg)  : Cal P w K mg base 1 "_law_draws" c_law_draws 2 := by
  have nd := sc_law_draws.nd
  refine cal_of (ps := ["script", "many"]) g F.kp (F.bindsN fun _ _ _ _ _ _ us hl => match us, hl with | [_, _], _ => rfl) (fn_ok (k := 0) F sc_law_draws fun cdv A outer s H E hr => ?_)
  exact pfs_cons (pfs_setLcM (own := [("cell", 3)]) (i := 2) rfl nd rfl rfl (sw_true rfl rfl rfl (by decide +kernel)) (pfi_sq (pf_var 0)) (blkOk_by (own := [("cell", 3)]) (N := ["script", "many", "cells", "cell", "rest", "draws", "k", "at", "mingled"]) (by with_unfolding_all rfl)) (fun _ _ _ _ _ => pfg_name (i := 3) nd rfl (by first | exact Or.inl rfl | exact Or.inr rfl)) (fun _ _ _ _ _ => pfts_nil) (fun _ _ _ _ _ => pf_ty call_int1 o_int (by rfl) B.int boot_int (pfa_cons (pf_var 3) (pfa_nil))))
      (pfs_cons (pfs_if (pft_cmp (op_eqD hr.units) o_eq (pf_b call_len o_len (by rfl) B.len boot_len (pfa_cons (pf_var 2) (pfa_nil))) (pf_int) (nomark _))
      (pfs_one (pfs_expr (pf_m PySem.F.plainAttrs_list PySem.F.slot_list_append PySem.F.type_list_append mt_append o_append (pf_var 2) (pfa_cons (pf_int) (pfa_nil)))))
      (pfs_nil))
      (pfs_cons (pfs_set (i := 4) nd rfl (by first | exact Or.inl rfl | exact Or.inr rfl) (pf_mut (pfn_ty call_list_of o_list (by rfl) B.list boot_list (pfa_cons (pf_var 2) (pfa_nil)))))
      (pfs_cons (pfs_set (i := 5) nd rfl (by first | exact Or.inl rfl | exact Or.inr rfl) (pf_mut (pfn_lst (pfa_nil))))
      (pfs_cons (pfs_for (vs := [6]) PassesOwn.never rfl (pfi_rg1 (by rfl) B.range (pfa_cons (pf_var 1) (pfa_nil))) (pfg_name (i := 6) nd rfl (by first | exact Or.inl rfl | exact Or.inr rfl))
      (pfs_cons (pfs_set (i := 7) nd rfl (by first | exact Or.inl rfl | exact Or.inr rfl) (pf_bin op_modN o_mod (pf_var 6) (pf_b call_len o_len (by rfl) B.len boot_len (pfa_cons (pf_var 2) (pfa_nil)))))
      (pfs_one (pfs_if (PW.pt (pfw_and (pft_cmp op_ge o_cmp (pf_ix ix_seq o_ix (pf_var 2) (pf_var 7) (fun _ _ => rfl)) (pf_bin op_pow o_pow (pf_int) (pf_int)) (nomark _)) (pfw_and1 (pft_cmp op_gt o_cmp (pf_ix ix_seq o_ix (pf_var 4) (pf_var 7) (fun _ _ => rfl)) (pf_int) (nomark _)))))
      (pfs_cons (pfs_expr (pf_m PySem.F.plainAttrs_list PySem.F.slot_list_append PySem.F.type_list_append mt_append o_append (pf_var 5) (pfa_cons (pf_bin op_modN o_mod (pf_ty call_int1 o_int (by rfl) B.int boot_int (pfa_cons (pf_ix ix_seq o_ix (pf_var 4) (pf_var 7) (fun _ _ => rfl)) (pfa_nil))) (pf_int)) (pfa_nil))))
      (pfs_one (pfs_setIx (pf_bin op_fdivA o_fdiv (pf_ix ix_seq o_ix (pf_var 4) (pf_var 7) (fun _ _ => rfl)) (pf_int)) (pf_var 4) (pf_var 7))))
      (pfs_cons (pfs_set (i := 8) nd rfl (by first | exact Or.inl rfl | exact Or.inr rfl) (pf_bin op_modN o_mod (pf_ty call_int1 o_int (by rfl) B.int boot_int (pfa_cons (pf_bin op_addA o_add (pf_bin op_addA o_add (pf_bin op_mulA o_mul (pf_ix ix_seq o_ix (pf_var 2) (pf_var 7) (fun _ _ => rfl)) (pf_int)) (pf_bin op_mulA o_mul (pf_var 6) (pf_int))) (pf_int)) (pfa_nil))) (pf_int)))
      (pfs_one (pfs_expr (pf_m PySem.F.plainAttrs_list PySem.F.slot_list_append PySem.F.type_list_append mt_append o_append (pf_var 5) (pfa_cons (pf_bin op_modN o_mod (pf_ty call_int1 o_int (by rfl) B.int boot_int (pfa_cons (pf_bin op_addA o_add (pf_bin op_addA o_add (pf_bin op_mulA o_mul (pf_var 8) (pf_var 8)) (pf_bin op_mulA o_mul (pf_int) (pf_var 8))) (pf_var 6)) (pfa_nil))) (pf_int)) (pfa_nil))))))))))
      (pfs_cons (pfs_expr (pf_m0 PySem.F.plainAttrs_list PySem.F.slot_list_reverse PySem.F.type_list_reverse mt_reverse o_reverse (pf_var 5)))
      (pfs_one (pfs_ret (pf_var 5))))))))
abbrev st_law_take : Stmt := topS 9
theorem sc_law_take : FnScope ["draws", "many"] ["draws", "many"] (defScope st_law_take) := ⟨rfl, rfl, rfl, by decide +kernel, rfl, by decide +kernel, by decide +kernel⟩
theorem ok_law_take {f : Addr} {fd : FuncData} (F : FunD K "_law_take" "_law_take" (defArgs st_law_take) (defBody st_law_take) (defScope st_law_take) [] [] f fd) (g : mg "_law_take" = some (.ref f)) (B : Bn mg)  : Cal P w K mg base 1 "_law_take" c_law_take 2 := by
  have nd := sc_law_take.nd
  refine cal_of (ps := ["draws", "many"]) g F.kp (F.bindsN fun _ _ _ _ _ _ us hl => match us, hl with | [_, _], _ => rfl) (fn_ok (k := 0) F sc_law_take fun cdv A outer s H E hr => ?_)
  exact pfs_cons (pfs_if (pft_cmp (op_eqD hr.units) o_eq (pf_b call_len o_len (by rfl) B.len boot_len (pfa_cons (pf_var 0) (pfa_nil))) (pf_int) (nomark _))
      (pfs_one (pfs_ret (pf_int)))
      (pfs_nil))
      (pfs_one (pfs_ret (pf_bin op_modN o_mod (pf_ty call_int1 o_int (by rfl) B.int boot_int (pfa_cons (pf_m0 PySem.F.plainAttrs_list PySem.F.slot_list_pop PySem.F.type_list_pop mt_pop o_pop (pf_var 0)) (pfa_nil))) (pf_var 1))))
abbrev st_law_cell : Stmt := topS 10
theorem sc_law_cell : FnScope ["script", "draws", "cell"] ["script", "draws"] (defScope st_law_cell) := ⟨rfl, rfl, rfl, by decide +kernel, rfl, by decide +kernel, by decide +kernel⟩
theorem ok_law_cell {f : Addr} {fd : FuncData} (F : FunD K "_law_cell" "_law_cell" (defArgs st_law_cell) (defBody st_law_cell) (defScope st_law_cell) [] [] f fd) (g : mg "_law_cell" = some (.ref f)) (B : Bn mg) (C_law_take : Cal P w K mg base 1 "_law_take" q_law_take 2) : Cal P w K mg base 2 "_law_cell" c_law_cell 2 := by
  have nd := sc_law_cell.nd
  refine cal_of (ps := ["script", "draws"]) g F.kp (F.bindsN fun _ _ _ _ _ _ us hl => match us, hl with | [_, _], _ => rfl) (fn_ok (k := 1) F sc_law_cell fun cdv A outer s H E hr => ?_)
  exact pfs_cons (pfs_if (pft_cmp (op_eqD hr.units) o_eq (pf_b call_len o_len (by rfl) B.len boot_len (pfa_cons (pf_var 0) (pfa_nil))) (pf_int) (nomark _))
      (pfs_one (pfs_ret (pf_int)))
      (pfs_nil))
      (pfs_cons (pfs_set (i := 2) nd rfl (by first | exact Or.inl rfl | exact Or.inr rfl) (pf_ty call_int1 o_int (by rfl) B.int boot_int (pfa_cons (pf_ix ix_seq o_ix (pf_var 0) (pf_callCS 0 C_law_take (hr.mono (by decide)) (by rfl) (pfa_cons (pf_var 1) (pfa_cons (pf_b call_len o_len (by rfl) B.len boot_len (pfa_cons (pf_var 0) (pfa_nil))) (pfa_nil))) (len_cons (len_cons len_nil))) (fun _ _ => rfl)) (pfa_nil))))
      (pfs_one (pfs_ret (pf_bin op_mulA o_mul (pf_bin op_modN o_mod (pf_b call_abs o_i1 (by rfl) B.abs boot_abs (pfa_cons (pf_var 2) (pfa_nil))) (pf_bin op_pow o_pow (pf_int) (pf_int))) (pf_ix ix_seq o_ix (pf_fz (pfn_lst (pfa_cons (pf_int) (pfa_cons (pf_un un_neg o_neg (pf_int)) (pfa_nil))))) (pf_ty call_int1 o_int (by rfl) B.int boot_int (pfa_cons (pf_cmp op_lt o_cmp (pf_var 2) (pf_int) (nomark _)) (pfa_nil))) (fun _ _ => rfl))))))
abbrev st_law_same : Stmt := topS 11
theorem sc_law_same : FnScope ["actual", "due", "k"] ["actual", "due"] (defScope st_law_same) := ⟨rfl, rfl, rfl, by decide +kernel, rfl, by decide +kernel, by decide +kernel⟩
theorem ok_law_same {f : Addr} {fd : FuncData} (F : FunD K "_law_same" "_law_same" (defArgs st_law_same) (defBody st_law_same) (defScope st_law_same) [] [] f fd) (g : mg "_law_same" = some (.ref f)) (B : Bn mg)  : ∀ n, Cal P w K mg base (1 + n) "_law_same" (c_law_same n) 2 := by
  have nd := sc_law_same.nd
  intro n
  induction n with
  | zero => exact cal_none (ps := ["actual", "due"]) g F.kp (F.bindsN fun _ _ _ _ _ _ us hl => match us, hl with | [_, _], _ => rfl) F (fun _ _ => rfl)
  | succ n ih =>
    refine cal_of (ps := ["actual", "due"]) g F.kp (F.bindsN fun _ _ _ _ _ _ us hl => match us, hl with | [_, _], _ => rfl) (fn_ok (k := 1 + n) F sc_law_same fun cdv A outer s H E hr => ?_)
    exact pfs_cons (pfs_if (pft_tru (pf_isi .bl (by decide) (by rfl) B.isinstance (pf_var 1) (by rfl) B.bool boot_bool))
      (pfs_one (pfs_ret (pf_and (pf_isi .bl (by decide) (by rfl) B.isinstance (pf_var 0) (by rfl) B.bool boot_bool) (pf_one (pf_cmp (op_eqD hr.units) o_eq (pf_var 0) (pf_var 1) (nomark _))))))
      (pfs_nil))
      (pfs_cons (pfs_if (pft_tru (pf_isi .int (by decide) (by rfl) B.isinstance (pf_var 1) (by rfl) B.int boot_int))
      (pfs_one (pfs_ret (pf_and (pf_isi .int (by decide) (by rfl) B.isinstance (pf_var 0) (by rfl) B.int boot_int) (pf_and (pf_not (pf_isi .bl (by decide) (by rfl) B.isinstance (pf_var 0) (by rfl) B.bool boot_bool)) (pf_one (pf_cmp (op_eqD hr.units) o_eq (pf_var 0) (pf_var 1) (nomark _)))))))
      (pfs_nil))
      (pfs_cons (pfs_if (pft_tru (pf_isi .str (by decide) (by rfl) B.isinstance (pf_var 1) (by rfl) B.str boot_str))
      (pfs_one (pfs_ret (pf_and (pf_isi .str (by decide) (by rfl) B.isinstance (pf_var 0) (by rfl) B.str boot_str) (pf_one (pf_cmp (op_eqD hr.units) o_eq (pf_var 0) (pf_var 1) (nomark _))))))
      (pfs_nil))
      (pfs_cons (pfs_if (pft_cmp op_isA o_is (pf_var 1) (pf_non) (nomark _))
      (pfs_one (pfs_ret (pf_cmp op_isA o_is (pf_var 0) (pf_non) (nomark _))))
      (pfs_nil))
      (pfs_cons (pfs_if (PW.pt (pfw_or (pft_not (pft_tru (pf_isi .tup (by decide) (by rfl) B.isinstance (pf_var 0) (by rfl) B.tuple boot_tuple))) (pfw_or1 (pft_cmp (op_neD hr.units) o_ne (pf_b call_len o_len (by rfl) B.len boot_len (pfa_cons (pf_var 0) (pfa_nil))) (pf_b call_len o_len (by rfl) B.len boot_len (pfa_cons (pf_var 1) (pfa_nil))) (nomark _)))))
      (pfs_one (pfs_ret (pf_bl)))
      (pfs_nil))
      (pfs_cons (pfs_for (vs := [2]) PassesOwn.never rfl (pfi_rg1 (by rfl) B.range (pfa_cons (pf_b call_len o_len (by rfl) B.len boot_len (pfa_cons (pf_var 1) (pfa_nil))) (pfa_nil))) (pfg_name (i := 2) nd rfl (by first | exact Or.inl rfl | exact Or.inr rfl))
      (pfs_one (pfs_if (pft_not (pft_tru (pf_callC ih (hr.mono (Nat.le_refl _)) (by rfl) (pfa_cons (pf_ix ix_seq o_ix (pf_var 0) (pf_var 2) (fun _ _ => rfl)) (pfa_cons (pf_ix ix_seq o_ix (pf_var 1) (pf_var 2) (fun _ _ => rfl)) (pfa_nil))) (len_cons (len_cons len_nil)))))
      (pfs_one (pfs_ret (pf_bl)))
      (pfs_nil))))
      (pfs_one (pfs_ret (pf_bl))))))))
abbrev st_law_grid : Stmt := topS 12
theorem sc_law_grid : FnScope ["width", "height", "found", "x", "y"] ["width", "height"] (defScope st_law_grid) := ⟨rfl, rfl, rfl, by decide +kernel, rfl, by decide +kernel, by decide +kernel⟩
theorem ok_law_grid {f : Addr} {fd : FuncData} (F : FunD K "_law_grid" "_law_grid" (defArgs st_law_grid) (defBody st_law_grid) (defScope st_law_grid) [] [] f fd) (g : mg "_law_grid" = some (.ref f)) (B : Bn mg)  : Cal P w K mg base 1 "_law_grid" c_law_grid 2 := by
  have nd := sc_law_grid.nd
  refine cal_of (ps := ["width", "height"]) g F.kp (F.bindsN fun _ _ _ _ _ _ us hl => match us, hl with | [_, _], _ => rfl) (fn_ok (k := 0) F sc_law_grid fun cdv A outer s H E hr => ?_)
  exact pfs_cons (pfs_set (i := 2) nd rfl (by first | exact Or.inl rfl | exact Or.inr rfl) (pf_mut (pfn_lst (pfa_nil))))
      (pfs_cons (pfs_for (vs := [3]) PassesOwn.never rfl (pfi_rg1 (by rfl) B.range (pfa_cons (pf_var 0) (pfa_nil))) (pfg_name (i := 3) nd rfl (by first | exact Or.inl rfl | exact Or.inr rfl))
      (pfs_one (pfs_set (i := 2) nd rfl (by first | exact Or.inl rfl | exact Or.inr rfl) (pf_mut (pfn_cat (pf_var 2) (pf_fz (pfn_lc (own := [("y", 4)]) rfl nd (pfi_rg1 (by rfl) B.range (pfa_cons (pf_var 1) (pfa_nil))) (blkOk_by (own := [("y", 4)]) (N := ["width", "height", "found", "x", "y"]) (by with_unfolding_all rfl)) (fun _ _ _ _ _ => pfg_name (i := 4) nd rfl (by first | exact Or.inl rfl | exact Or.inr rfl)) (fun _ _ _ _ _ => pfts_nil) (fun _ _ _ _ _ => pf_tup (pfa_cons (pf_var 3) (pfa_cons (pf_var 4) (pfa_nil)))))))))))
      (pfs_one (pfs_ret (pf_var 2))))
abbrev st_law_waves : Stmt := topS 13
theorem sc_law_waves : FnScope ["draws", "by", "low", "high", "later"] ["draws", "by"] (defScope st_law_waves) := ⟨rfl, rfl, rfl, by decide +kernel, rfl, by decide +kernel, by decide +kernel⟩
theorem ok_law_waves {f : Addr} {fd : FuncData} (F : FunD K "_law_waves" "_law_waves" (defArgs st_law_waves) (defBody st_law_waves) (defScope st_law_waves) [] [] f fd) (g : mg "_law_waves" = some (.ref f)) (B : Bn mg) (C_law_take : Cal P w K mg base 1 "_law_take" q_law_take 2) : Cal P w K mg base 2 "_law_waves" c_law_waves 2 := by
  have nd := sc_law_waves.nd
  refine cal_of (ps := ["draws", "by"]) g F.kp (F.bindsN fun _ _ _ _ _ _ us hl => match us, hl with | [_, _], _ => rfl) (fn_ok (k := 1) F sc_law_waves fun cdv A outer s H E hr => ?_)
  exact pfs_cons (pfs_set (i := 2) nd rfl (by first | exact Or.inl rfl | exact Or.inr rfl) (pf_bin op_addA o_add (pf_int) (pf_callCS 0 C_law_take (hr.mono (by decide)) (by rfl) (pfa_cons (pf_var 0) (pfa_cons (pf_int) (pfa_nil))) (len_cons (len_cons len_nil)))))
      (pfs_cons (pfs_set (i := 3) nd rfl (by first | exact Or.inl rfl | exact Or.inr rfl) (pf_bin op_addA o_add (pf_var 2) (pf_callCS 0 C_law_take (hr.mono (by decide)) (by rfl) (pfa_cons (pf_var 0) (pfa_cons (pf_int) (pfa_nil))) (len_cons (len_cons len_nil)))))
      (pfs_cons (pfs_set (i := 4) nd rfl (by first | exact Or.inl rfl | exact Or.inr rfl) (pf_bin op_addA o_add (pf_var 3) (pf_callCS 0 C_law_take (hr.mono (by decide)) (by rfl) (pfa_cons (pf_var 0) (pfa_cons (pf_int) (pfa_nil))) (len_cons (len_cons len_nil)))))
      (pfs_one (pfs_ret (pf_tup (pfa_cons (pf_tup (pfa_cons (pf_bin op_mulA o_mul (pf_var 1) (pf_var 2)) (pfa_cons (pf_bin op_mulA o_mul (pf_var 1) (pf_var 3)) (pfa_nil)))) (pfa_cons (pf_tup (pfa_cons (pf_bin op_mulA o_mul (pf_var 1) (pf_var 4)) (pfa_cons (pf_bin op_mulA o_mul (pf_var 1) (pf_bin op_addA o_add (pf_var 4) (pf_callCS 0 C_law_take (hr.mono (by decide)) (by rfl) (pfa_cons (pf_var 0) (pfa_cons (pf_int) (pfa_nil))) (len_cons (len_cons len_nil))))) (pfa_nil)))) (pfa_nil))))))))
abbrev st_law_field : Stmt := topS 14
theorem sc_law_field : FnScope ["draws", "wide", "many", "by", "width", "height", "places", "stations", "k", "place"] ["draws", "wide", "many", "by"] (defScope st_law_field) := ⟨rfl, rfl, rfl, by decide +kernel, rfl, by decide +kernel, by decide +kernel⟩
theorem ok_law_field {f : Addr} {fd : FuncData} (F : FunD K "_law_field" "_law_field" (defArgs st_law_field) (defBody st_law_field) (defScope st_law_field) [] [] f fd) (g : mg "_law_field" = some (.ref f)) (B : Bn mg) (C_law_take : Cal P w K mg base 1 "_law_take" q_law_take 2) (C_law_grid : Cal P w K mg base 1 "_law_grid" q_law_grid 2) (C_law_waves : Cal P w K mg base 2 "_law_waves" q_law_waves 2) : Cal P w K mg base 3 "_law_field" c_law_field 4 := by
  have nd := sc_law_field.nd
  refine cal_of (ps := ["draws", "wide", "many", "by"]) g F.kp (F.bindsN fun _ _ _ _ _ _ us hl => match us, hl with | [_, _, _, _], _ => rfl) (fn_ok (k := 2) F sc_law_field fun cdv A outer s H E hr => ?_)
  exact pfs_cons (pfs_set (i := 4) nd rfl (by first | exact Or.inl rfl | exact Or.inr rfl) (pf_bin op_addA o_add (pf_int) (pf_callCS 0 C_law_take (hr.mono (by decide)) (by rfl) (pfa_cons (pf_var 0) (pfa_cons (pf_var 1) (pfa_nil))) (len_cons (len_cons len_nil)))))
      (pfs_cons (pfs_set (i := 5) nd rfl (by first | exact Or.inl rfl | exact Or.inr rfl) (pf_bin op_addA o_add (pf_int) (pf_callCS 0 C_law_take (hr.mono (by decide)) (by rfl) (pfa_cons (pf_var 0) (pfa_cons (pf_var 1) (pfa_nil))) (len_cons (len_cons len_nil)))))
      (pfs_cons (pfs_set (i := 6) nd rfl (by first | exact Or.inl rfl | exact Or.inr rfl) (pf_callC C_law_grid (hr.mono (by decide)) (by rfl) (pfa_cons (pf_var 4) (pfa_cons (pf_var 5) (pfa_nil))) (len_cons (len_cons len_nil))))
      (pfs_cons (pfs_set (i := 7) nd rfl (by first | exact Or.inl rfl | exact Or.inr rfl) (pf_mut (pfn_lst (pfa_nil))))
      (pfs_cons (pfs_for (vs := [8]) PassesOwn.never rfl (pfi_rg1 (by rfl) B.range (pfa_cons (pf_b (call_min2 rfl) o_i2 (by rfl) B.min boot_min (pfa_cons (pf_b call_len o_len (by rfl) B.len boot_len (pfa_cons (pf_var 6) (pfa_nil))) (pfa_cons (pf_callCS 0 C_law_take (hr.mono (by decide)) (by rfl) (pfa_cons (pf_var 0) (pfa_cons (pf_bin op_addA o_add (pf_var 2) (pf_int)) (pfa_nil))) (len_cons (len_cons len_nil))) (pfa_nil)))) (pfa_nil))) (pfg_name (i := 8) nd rfl (by first | exact Or.inl rfl | exact Or.inr rfl))
      (pfs_cons (pfs_set (i := 9) nd rfl (by first | exact Or.inl rfl | exact Or.inr rfl) (pf_m PySem.F.plainAttrs_list PySem.F.slot_list_pop PySem.F.type_list_pop mt_popAt o_pop1 (pf_var 6) (pfa_cons (pf_callCS 0 C_law_take (hr.mono (by decide)) (by rfl) (pfa_cons (pf_var 0) (pfa_cons (pf_b call_len o_len (by rfl) B.len boot_len (pfa_cons (pf_var 6) (pfa_nil))) (pfa_nil))) (len_cons (len_cons len_nil))) (pfa_nil))))
      (pfs_one (pfs_expr (pf_m PySem.F.plainAttrs_list PySem.F.slot_list_append PySem.F.type_list_append mt_append o_append (pf_var 7) (pfa_cons (pf_bin op_addA o_add (pf_var 9) (pf_tup (pfa_cons (pf_bin op_mulA o_mul (pf_var 3) (pf_ix ix_seq o_ix (pf_fz (pfn_lst (pfa_cons (pf_int) (pfa_cons (pf_callCS 0 C_law_take (hr.mono (by decide)) (by rfl) (pfa_cons (pf_var 0) (pfa_cons (pf_int) (pfa_nil))) (len_cons (len_cons len_nil))) (pfa_cons (pf_callCS 0 C_law_take (hr.mono (by decide)) (by rfl) (pfa_cons (pf_var 0) (pfa_cons (pf_int) (pfa_nil))) (len_cons (len_cons len_nil))) (pfa_nil)))))) (pf_callCS 0 C_law_take (hr.mono (by decide)) (by rfl) (pfa_cons (pf_var 0) (pfa_cons (pf_int) (pfa_nil))) (len_cons (len_cons len_nil))) (fun _ _ => rfl))) (pfa_nil)))) (pfa_nil)))))))
      (pfs_one (pfs_ret (pf_tup (pfa_cons (pf_var 4) (pfa_cons (pf_var 5) (pfa_cons (pf_ty call_tuple_of o_tuple (by rfl) B.tuple boot_tuple (pfa_cons (pf_var 7) (pfa_nil))) (pfa_cons (pf_callCS 0 C_law_waves (hr.mono (by decide)) (by rfl) (pfa_cons (pf_var 0) (pfa_cons (pf_var 3) (pfa_nil))) (len_cons (len_cons len_nil))) (pfa_nil))))))))))))
abbrev st_law_far : Stmt := topS 15
theorem sc_law_far : FnScope ["one", "other"] ["one", "other"] (defScope st_law_far) := ⟨rfl, rfl, rfl, by decide +kernel, rfl, by decide +kernel, by decide +kernel⟩
theorem ok_law_far {f : Addr} {fd : FuncData} (F : FunD K "_law_far" "_law_far" (defArgs st_law_far) (defBody st_law_far) (defScope st_law_far) [] [] f fd) (g : mg "_law_far" = some (.ref f)) (B : Bn mg)  : Cal P w K mg base 1 "_law_far" c_law_far 2 := by
  have nd := sc_law_far.nd
  refine cal_of (ps := ["one", "other"]) g F.kp (F.bindsN fun _ _ _ _ _ _ us hl => match us, hl with | [_, _], _ => rfl) (fn_ok (k := 0) F sc_law_far fun cdv A outer s H E hr => ?_)
  exact pfs_one (pfs_ret (pf_bin op_addA o_add (pf_b call_abs o_i1 (by rfl) B.abs boot_abs (pfa_cons (pf_bin op_sub o_sub (pf_ix ix_seq o_ix (pf_var 0) (pf_int) (fun _ _ => rfl)) (pf_ix ix_seq o_ix (pf_var 1) (pf_int) (fun _ _ => rfl))) (pfa_nil))) (pf_b call_abs o_i1 (by rfl) B.abs boot_abs (pfa_cons (pf_bin op_sub o_sub (pf_ix ix_seq o_ix (pf_var 0) (pf_int) (fun _ _ => rfl)) (pf_ix ix_seq o_ix (pf_var 1) (pf_int) (fun _ _ => rfl))) (pfa_nil)))))
abbrev st_law_span : Stmt := topS 16
theorem sc_law_span : FnScope ["field", "reading", "place", "station", "kind", "minute", "x", "y", "error", "far"] ["field", "reading", "place"] (defScope st_law_span) := ⟨rfl, rfl, rfl, by decide +kernel, rfl, by decide +kernel, by decide +kernel⟩
theorem ok_law_span {f : Addr} {fd : FuncData} (F : FunD K "_law_span" "_law_span" (defArgs st_law_span) (defBody st_law_span) (defScope st_law_span) [] [] f fd) (g : mg "_law_span" = some (.ref f)) (B : Bn mg) (C_law_far : Cal P w K mg base 1 "_law_far" q_law_far 2) : Cal P w K mg base 2 "_law_span" c_law_span 3 := by
  have nd := sc_law_span.nd
  refine cal_of (ps := ["field", "reading", "place"]) g F.kp (F.bindsN fun _ _ _ _ _ _ us hl => match us, hl with | [_, _, _], _ => rfl) (fn_ok (k := 1) F sc_law_span fun cdv A outer s H E hr => ?_)
  exact pfs_cons (pfs_asg (vs := [3, 4, 5]) (pf_var 1) (pfg_tup rfl (pfgs_cons (pfg_name (i := 3) nd rfl (by first | exact Or.inl rfl | exact Or.inr rfl)) (pfgs_cons (pfg_name (i := 4) nd rfl (by first | exact Or.inl rfl | exact Or.inr rfl)) (pfgs_cons (pfg_name (i := 5) nd rfl (by first | exact Or.inl rfl | exact Or.inr rfl)) (pfgs_nil))))))
      (pfs_cons (pfs_asg (vs := [6, 7, 8]) (pf_ix ix_seq o_ix (pf_ix ix_seq o_ix (pf_var 0) (pf_int) (fun _ _ => rfl)) (pf_var 3) (fun _ _ => rfl)) (pfg_tup rfl (pfgs_cons (pfg_name (i := 6) nd rfl (by first | exact Or.inl rfl | exact Or.inr rfl)) (pfgs_cons (pfg_name (i := 7) nd rfl (by first | exact Or.inl rfl | exact Or.inr rfl)) (pfgs_cons (pfg_name (i := 8) nd rfl (by first | exact Or.inl rfl | exact Or.inr rfl)) (pfgs_nil))))))
      (pfs_cons (pfs_set (i := 9) nd rfl (by first | exact Or.inl rfl | exact Or.inr rfl) (pf_callC C_law_far (hr.mono (by decide)) (by rfl) (pfa_cons (pf_tup (pfa_cons (pf_var 6) (pfa_cons (pf_var 7) (pfa_nil)))) (pfa_cons (pf_var 2) (pfa_nil))) (len_cons (len_cons len_nil))))
      (pfs_one (pfs_ret (pf_tup (pfa_cons (pf_bin op_sub o_sub (pf_bin op_sub o_sub (pf_var 5) (pf_var 8)) (pf_bin op_mulA o_mul (pf_ix ix_seq o_ix (pf_ix ix_seq o_ix (pf_ix ix_seq o_ix (pf_var 0) (pf_int) (fun _ _ => rfl)) (pf_var 4) (fun _ _ => rfl)) (pf_int) (fun _ _ => rfl)) (pf_var 9))) (pfa_cons (pf_bin op_sub o_sub (pf_bin op_addA o_add (pf_var 5) (pf_var 8)) (pf_bin op_mulA o_mul (pf_ix ix_seq o_ix (pf_ix ix_seq o_ix (pf_ix ix_seq o_ix (pf_var 0) (pf_int) (fun _ _ => rfl)) (pf_var 4) (fun _ _ => rfl)) (pf_int) (fun _ _ => rfl)) (pf_var 9))) (pfa_nil))))))))
abbrev st_law_due : Stmt := topS 17
theorem sc_law_due : FnScope ["field", "station", "kind", "place", "time", "x", "y", "error", "low", "high", "found", "step"] ["field", "station", "kind", "place", "time"] (defScope st_law_due) := ⟨rfl, rfl, rfl, by decide +kernel, rfl, by decide +kernel, by decide +kernel⟩
theorem ok_law_due {f : Addr} {fd : FuncData} (F : FunD K "_law_due" "_law_due" (defArgs st_law_due) (defBody st_law_due) (defScope st_law_due) [] [] f fd) (g : mg "_law_due" = some (.ref f)) (B : Bn mg) (C_law_far : Cal P w K mg base 1 "_law_far" q_law_far 2) : Cal P w K mg base 2 "_law_due" c_law_due 5 := by
  have nd := sc_law_due.nd
  refine cal_of (ps := ["field", "station", "kind", "place", "time"]) g F.kp (F.bindsN fun _ _ _ _ _ _ us hl => match us, hl with | [_, _, _, _, _], _ => rfl) (fn_ok (k := 1) F sc_law_due fun cdv A outer s H E hr => ?_)
  exact pfs_cons (pfs_asg (vs := [5, 6, 7]) (pf_ix ix_seq o_ix (pf_ix ix_seq o_ix (pf_var 0) (pf_int) (fun _ _ => rfl)) (pf_var 1) (fun _ _ => rfl)) (pfg_tup rfl (pfgs_cons (pfg_name (i := 5) nd rfl (by first | exact Or.inl rfl | exact Or.inr rfl)) (pfgs_cons (pfg_name (i := 6) nd rfl (by first | exact Or.inl rfl | exact Or.inr rfl)) (pfgs_cons (pfg_name (i := 7) nd rfl (by first | exact Or.inl rfl | exact Or.inr rfl)) (pfgs_nil))))))
      (pfs_cons (pfs_asg (vs := [8, 9]) (pf_ix ix_seq o_ix (pf_ix ix_seq o_ix (pf_var 0) (pf_int) (fun _ _ => rfl)) (pf_var 2) (fun _ _ => rfl)) (pfg_tup rfl (pfgs_cons (pfg_name (i := 8) nd rfl (by first | exact Or.inl rfl | exact Or.inr rfl)) (pfgs_cons (pfg_name (i := 9) nd rfl (by first | exact Or.inl rfl | exact Or.inr rfl)) (pfgs_nil)))))
      (pfs_cons (pfs_set (i := 10) nd rfl (by first | exact Or.inl rfl | exact Or.inr rfl) (pf_bin op_sub o_sub (pf_var 4) (pf_var 7)))
      (pfs_cons (pfs_for (vs := [11]) PassesOwn.never rfl (pfi_rg1 (by rfl) B.range (pfa_cons (pf_callC C_law_far (hr.mono (by decide)) (by rfl) (pfa_cons (pf_tup (pfa_cons (pf_var 5) (pfa_cons (pf_var 6) (pfa_nil)))) (pfa_cons (pf_var 3) (pfa_nil))) (len_cons (len_cons len_nil))) (pfa_nil))) (pfg_name (i := 11) nd rfl (by first | exact Or.inl rfl | exact Or.inr rfl))
      (pfs_one (pfs_set (i := 10) nd rfl (by first | exact Or.inl rfl | exact Or.inr rfl) (pf_bin op_addA o_add (pf_var 10) (pf_var 8)))))
      (pfs_one (pfs_ret (pf_tup (pfa_cons (pf_var 10) (pfa_cons (pf_bin op_addA o_add (pf_bin op_addA o_add (pf_var 4) (pf_bin op_mulA o_mul (pf_var 9) (pf_callC C_law_far (hr.mono (by decide)) (by rfl) (pfa_cons (pf_tup (pfa_cons (pf_var 5) (pfa_cons (pf_var 6) (pfa_nil)))) (pfa_cons (pf_var 3) (pfa_nil))) (len_cons (len_cons len_nil))))) (pf_var 7)) (pfa_nil)))))))))
abbrev st_law_is_reading_right : Stmt := topS 18
theorem sc_law_is_reading_right : FnScope ["field", "station", "kind", "place", "minute", "reading", "span", "time", "due", "later"] ["field", "station", "kind", "place", "minute"] (defScope st_law_is_reading_right) := ⟨rfl, rfl, rfl, by decide +kernel, rfl, by decide +kernel, by decide +kernel⟩
theorem ok_law_is_reading_right {f : Addr} {fd : FuncData} (F : FunD K "_law_is_reading_right" "_law_is_reading_right" (defArgs st_law_is_reading_right) (defBody st_law_is_reading_right) (defScope st_law_is_reading_right) [] [] f fd) (g : mg "_law_is_reading_right" = some (.ref f)) (B : Bn mg) (C_law_span : Cal P w K mg base 2 "_law_span" q_law_span 3) (C_law_same : Cal P w K mg base 13 "_law_same" q_law_same 2) (Callowed_times : Cal P w K mg base 3 "allowed_times" qallowed_times 3) (C_law_due : Cal P w K mg base 2 "_law_due" q_law_due 5) (Cdue_minutes : Cal P w K mg base 3 "due_minutes" qdue_minutes 5) (Cdoes_explain : Cal P w K mg base 4 "does_explain" qdoes_explain 3) : Cal P w K mg base 14 "_law_is_reading_right" c_law_is_reading_right 5 := by
  have nd := sc_law_is_reading_right.nd
  refine cal_of (ps := ["field", "station", "kind", "place", "minute"]) g F.kp (F.bindsN fun _ _ _ _ _ _ us hl => match us, hl with | [_, _, _, _, _], _ => rfl) (fn_ok (k := 13) F sc_law_is_reading_right fun cdv A outer s H E hr => ?_)
  exact pfs_cons (pfs_set (i := 5) nd rfl (by first | exact Or.inl rfl | exact Or.inr rfl) (pf_tup (pfa_cons (pf_var 1) (pfa_cons (pf_var 2) (pfa_cons (pf_var 4) (pfa_nil))))))
      (pfs_cons (pfs_set (i := 6) nd rfl (by first | exact Or.inl rfl | exact Or.inr rfl) (pf_callC C_law_span (hr.mono (by decide)) (by rfl) (pfa_cons (pf_var 0) (pfa_cons (pf_var 5) (pfa_cons (pf_var 3) (pfa_nil)))) (len_cons (len_cons (len_cons len_nil)))))
      (pfs_cons (pfs_if (pft_not (pft_tru (pf_callC C_law_same (hr.mono (by decide)) (by rfl) (pfa_cons (pf_callC Callowed_times (hr.mono (by decide)) (by rfl) (pfa_cons (pf_var 0) (pfa_cons (pf_var 5) (pfa_cons (pf_var 3) (pfa_nil)))) (len_cons (len_cons (len_cons len_nil)))) (pfa_cons (pf_var 6) (pfa_nil))) (len_cons (len_cons len_nil)))))
      (pfs_one (pfs_ret (pf_bl)))
      (pfs_nil))
      (pfs_cons (pfs_for (vs := [7]) PassesOwn.never rfl (pfi_sq (pf_fz (pfn_lst (pfa_cons (pf_ix ix_seq o_ix (pf_var 6) (pf_int) (fun _ _ => rfl)) (pfa_cons (pf_ix ix_seq o_ix (pf_var 6) (pf_int) (fun _ _ => rfl)) (pfa_cons (pf_bin op_sub o_sub (pf_ix ix_seq o_ix (pf_var 6) (pf_int) (fun _ _ => rfl)) (pf_int)) (pfa_cons (pf_bin op_addA o_add (pf_ix ix_seq o_ix (pf_var 6) (pf_int) (fun _ _ => rfl)) (pf_int)) (pfa_cons (pf_bin op_fdivA o_fdiv (pf_bin op_addA o_add (pf_ix ix_seq o_ix (pf_var 6) (pf_int) (fun _ _ => rfl)) (pf_ix ix_seq o_ix (pf_var 6) (pf_int) (fun _ _ => rfl))) (pf_int)) (pfa_nil))))))))) (pfg_name (i := 7) nd rfl (by first | exact Or.inl rfl | exact Or.inr rfl))
      (pfs_cons (pfs_set (i := 8) nd rfl (by first | exact Or.inl rfl | exact Or.inr rfl) (pf_callC C_law_due (hr.mono (by decide)) (by rfl) (pfa_cons (pf_var 0) (pfa_cons (pf_var 1) (pfa_cons (pf_var 2) (pfa_cons (pf_var 3) (pfa_cons (pf_var 7) (pfa_nil)))))) (len_cons (len_cons (len_cons (len_cons (len_cons len_nil)))))))
      (pfs_cons (pfs_if (pft_not (pft_tru (pf_callC C_law_same (hr.mono (by decide)) (by rfl) (pfa_cons (pf_callC Cdue_minutes (hr.mono (by decide)) (by rfl) (pfa_cons (pf_var 0) (pfa_cons (pf_var 1) (pfa_cons (pf_var 2) (pfa_cons (pf_var 3) (pfa_cons (pf_var 7) (pfa_nil)))))) (len_cons (len_cons (len_cons (len_cons (len_cons len_nil)))))) (pfa_cons (pf_var 8) (pfa_nil))) (len_cons (len_cons len_nil)))))
      (pfs_one (pfs_ret (pf_bl)))
      (pfs_nil))
      (pfs_cons (pfs_if (PW.pt (pfw_or (pft_not (pft_tru (pf_callC C_law_same (hr.mono (by decide)) (by rfl) (pfa_cons (pf_callC Cdoes_explain (hr.mono (by decide)) (by rfl) (pfa_cons (pf_var 0) (pfa_cons (pf_tup (pfa_cons (pf_var 3) (pfa_cons (pf_var 7) (pfa_nil)))) (pfa_cons (pf_var 5) (pfa_nil)))) (len_cons (len_cons (len_cons len_nil)))) (pfa_cons (pf_chain op_le o_cmp op_le o_cmp (pf_ix ix_seq o_ix (pf_var 8) (pf_int) (fun _ _ => rfl)) (pf_var 4) (pf_ix ix_seq o_ix (pf_var 8) (pf_int) (fun _ _ => rfl))) (pfa_nil))) (len_cons (len_cons len_nil))))) (pfw_or1 (pft_cmp (op_neD hr.units) o_ne (pf_chain op_le o_cmp op_le o_cmp (pf_ix ix_seq o_ix (pf_var 8) (pf_int) (fun _ _ => rfl)) (pf_var 4) (pf_ix ix_seq o_ix (pf_var 8) (pf_int) (fun _ _ => rfl))) (pf_chain op_le o_cmp op_le o_cmp (pf_ix ix_seq o_ix (pf_var 6) (pf_int) (fun _ _ => rfl)) (pf_var 7) (pf_ix ix_seq o_ix (pf_var 6) (pf_int) (fun _ _ => rfl))) (nomark _)))))
      (pfs_one (pfs_ret (pf_bl)))
      (pfs_nil))
      (pfs_one (pfs_if (pft_cmp (op_neD hr.units) o_ne (pf_bin op_sub o_sub (pf_ix ix_seq o_ix (pf_var 8) (pf_int) (fun _ _ => rfl)) (pf_ix ix_seq o_ix (pf_var 8) (pf_int) (fun _ _ => rfl))) (pf_bin op_sub o_sub (pf_ix ix_seq o_ix (pf_var 6) (pf_int) (fun _ _ => rfl)) (pf_ix ix_seq o_ix (pf_var 6) (pf_int) (fun _ _ => rfl))) (nomark _))
      (pfs_one (pfs_ret (pf_bl)))
      (pfs_nil)))))))
      (pfs_cons (pfs_set (i := 9) nd rfl (by first | exact Or.inl rfl | exact Or.inr rfl) (pf_callC Callowed_times (hr.mono (by decide)) (by rfl) (pfa_cons (pf_var 0) (pfa_cons (pf_tup (pfa_cons (pf_var 1) (pfa_cons (pf_var 2) (pfa_cons (pf_bin op_addA o_add (pf_var 4) (pf_int)) (pfa_nil))))) (pfa_cons (pf_var 3) (pfa_nil)))) (len_cons (len_cons (len_cons len_nil)))))
      (pfs_one (pfs_ret (pf_callC C_law_same (hr.mono (by decide)) (by rfl) (pfa_cons (pf_var 9) (pfa_cons (pf_tup (pfa_cons (pf_bin op_addA o_add (pf_ix ix_seq o_ix (pf_var 6) (pf_int) (fun _ _ => rfl)) (pf_int)) (pfa_cons (pf_bin op_addA o_add (pf_ix ix_seq o_ix (pf_var 6) (pf_int) (fun _ _ => rfl)) (pf_int)) (pfa_nil)))) (pfa_nil))) (len_cons (len_cons len_nil)))))))))
abbrev st_law_widened : Stmt := topS 19
theorem sc_law_widened : FnScope ["field", "error", "more", "stations", "x", "y", "own", "first", "second"] ["field", "error", "more"] (defScope st_law_widened) := ⟨rfl, rfl, rfl, by decide +kernel, rfl, by decide +kernel, by decide +kernel⟩
theorem ok_law_widened {f : Addr} {fd : FuncData} (F : FunD K "_law_widened" "_law_widened" (defArgs st_law_widened) (defBody st_law_widened) (defScope st_law_widened) [] [] f fd) (g : mg "_law_widened" = some (.ref f)) (B : Bn mg)  : Cal P w K mg base 1 "_law_widened" c_law_widened 3 := by
  have nd := sc_law_widened.nd
  refine cal_of (ps := ["field", "error", "more"]) g F.kp (F.bindsN fun _ _ _ _ _ _ us hl => match us, hl with | [_, _, _], _ => rfl) (fn_ok (k := 0) F sc_law_widened fun cdv A outer s H E hr => ?_)
  exact pfs_cons (pfs_set (i := 3) nd rfl (by first | exact Or.inl rfl | exact Or.inr rfl) (pf_ty call_tuple_of o_tuple (by rfl) B.tuple boot_tuple (pfa_cons (pf_fz (pfn_lc (own := [("x", 4), ("y", 5), ("own", 6)]) rfl nd (pfi_sq (pf_ix ix_seq o_ix (pf_var 0) (pf_int) (fun _ _ => rfl))) (blkOk_by (own := [("x", 4), ("y", 5), ("own", 6)]) (N := ["field", "error", "more", "stations", "x", "y", "own", "first", "second"]) (by with_unfolding_all rfl)) (fun _ _ _ _ _ => pfg_tup rfl (pfgs_cons (pfg_name (i := 4) nd rfl (by first | exact Or.inl rfl | exact Or.inr rfl)) (pfgs_cons (pfg_name (i := 5) nd rfl (by first | exact Or.inl rfl | exact Or.inr rfl)) (pfgs_cons (pfg_name (i := 6) nd rfl (by first | exact Or.inl rfl | exact Or.inr rfl)) (pfgs_nil))))) (fun _ _ _ _ _ => pfts_nil) (fun _ _ _ _ _ => pf_tup (pfa_cons (pf_var 4) (pfa_cons (pf_var 5) (pfa_cons (pf_bin op_addA o_add (pf_var 6) (pf_var 1)) (pfa_nil))))))) (pfa_nil))))
      (pfs_cons (pfs_asg (vs := [7, 8]) (pf_ix ix_seq o_ix (pf_var 0) (pf_int) (fun _ _ => rfl)) (pfg_tup rfl (pfgs_cons (pfg_name (i := 7) nd rfl (by first | exact Or.inl rfl | exact Or.inr rfl)) (pfgs_cons (pfg_name (i := 8) nd rfl (by first | exact Or.inl rfl | exact Or.inr rfl)) (pfgs_nil)))))
      (pfs_one (pfs_ret (pf_tup (pfa_cons (pf_ix ix_seq o_ix (pf_var 0) (pf_int) (fun _ _ => rfl)) (pfa_cons (pf_ix ix_seq o_ix (pf_var 0) (pf_int) (fun _ _ => rfl)) (pfa_cons (pf_var 3) (pfa_cons (pf_tup (pfa_cons (pf_tup (pfa_cons (pf_b (call_max2 rfl) o_i2 (by rfl) B.max boot_max (pfa_cons (pf_int) (pfa_cons (pf_bin op_sub o_sub (pf_ix ix_seq o_ix (pf_var 7) (pf_int) (fun _ _ => rfl)) (pf_var 2)) (pfa_nil)))) (pfa_cons (pf_ix ix_seq o_ix (pf_var 7) (pf_int) (fun _ _ => rfl)) (pfa_nil)))) (pfa_cons (pf_tup (pfa_cons (pf_ix ix_seq o_ix (pf_var 8) (pf_int) (fun _ _ => rfl)) (pfa_cons (pf_bin op_addA o_add (pf_ix ix_seq o_ix (pf_var 8) (pf_int) (fun _ _ => rfl)) (pf_var 2)) (pfa_nil)))) (pfa_nil)))) (pfa_nil)))))))))
abbrev st_law_is_wide_right : Stmt := topS 20
theorem sc_law_is_wide_right : FnScope ["field", "wider", "station", "place", "minute", "x", "y", "error", "far", "kind", "span", "outer", "home", "first", "second"] ["field", "wider", "station", "place", "minute"] (defScope st_law_is_wide_right) := ⟨rfl, rfl, rfl, by decide +kernel, rfl, by decide +kernel, by decide +kernel⟩
theorem ok_law_is_wide_right {f : Addr} {fd : FuncData} (F : FunD K "_law_is_wide_right" "_law_is_wide_right" (defArgs st_law_is_wide_right) (defBody st_law_is_wide_right) (defScope st_law_is_wide_right) [] [] f fd) (g : mg "_law_is_wide_right" = some (.ref f)) (B : Bn mg) (C_law_far : Cal P w K mg base 1 "_law_far" q_law_far 2) (Callowed_times : Cal P w K mg base 3 "allowed_times" qallowed_times 3) (C_law_same : Cal P w K mg base 13 "_law_same" q_law_same 2) (Cdue_minutes : Cal P w K mg base 3 "due_minutes" qdue_minutes 5) : Cal P w K mg base 14 "_law_is_wide_right" c_law_is_wide_right 5 := by
  have nd := sc_law_is_wide_right.nd
  refine cal_of (ps := ["field", "wider", "station", "place", "minute"]) g F.kp (F.bindsN fun _ _ _ _ _ _ us hl => match us, hl with | [_, _, _, _, _], _ => rfl) (fn_ok (k := 13) F sc_law_is_wide_right fun cdv A outer s H E hr => ?_)
  exact pfs_cons (pfs_asg (vs := [5, 6, 7]) (pf_ix ix_seq o_ix (pf_ix ix_seq o_ix (pf_var 0) (pf_int) (fun _ _ => rfl)) (pf_var 2) (fun _ _ => rfl)) (pfg_tup rfl (pfgs_cons (pfg_name (i := 5) nd rfl (by first | exact Or.inl rfl | exact Or.inr rfl)) (pfgs_cons (pfg_name (i := 6) nd rfl (by first | exact Or.inl rfl | exact Or.inr rfl)) (pfgs_cons (pfg_name (i := 7) nd rfl (by first | exact Or.inl rfl | exact Or.inr rfl)) (pfgs_nil))))))
      (pfs_cons (pfs_set (i := 8) nd rfl (by first | exact Or.inl rfl | exact Or.inr rfl) (pf_callC C_law_far (hr.mono (by decide)) (by rfl) (pfa_cons (pf_tup (pfa_cons (pf_var 5) (pfa_cons (pf_var 6) (pfa_nil)))) (pfa_cons (pf_var 3) (pfa_nil))) (len_cons (len_cons len_nil))))
      (pfs_cons (pfs_for (vs := [9]) PassesOwn.never rfl (pfi_sq (pf_fz (pfn_lst (pfa_cons (pf_int) (pfa_cons (pf_int) (pfa_nil)))))) (pfg_name (i := 9) nd rfl (by first | exact Or.inl rfl | exact Or.inr rfl))
      (pfs_cons (pfs_set (i := 10) nd rfl (by first | exact Or.inl rfl | exact Or.inr rfl) (pf_callC Callowed_times (hr.mono (by decide)) (by rfl) (pfa_cons (pf_var 0) (pfa_cons (pf_tup (pfa_cons (pf_var 2) (pfa_cons (pf_var 9) (pfa_cons (pf_var 4) (pfa_nil))))) (pfa_cons (pf_var 3) (pfa_nil)))) (len_cons (len_cons (len_cons len_nil)))))
      (pfs_cons (pfs_if (PW.pt (pfw_or (pft_not (pft_tru (pf_isi .tup (by decide) (by rfl) B.isinstance (pf_var 10) (by rfl) B.tuple boot_tuple))) (pfw_or1 (pft_cmp (op_neD hr.units) o_ne (pf_b call_len o_len (by rfl) B.len boot_len (pfa_cons (pf_var 10) (pfa_nil))) (pf_int) (nomark _)))))
      (pfs_one (pfs_ret (pf_bl)))
      (pfs_nil))
      (pfs_cons (pfs_if (pft_cmp (op_neD hr.units) o_ne (pf_bin op_sub o_sub (pf_ix ix_seq o_ix (pf_var 10) (pf_int) (fun _ _ => rfl)) (pf_ix ix_seq o_ix (pf_var 10) (pf_int) (fun _ _ => rfl))) (pf_bin op_addA o_add (pf_bin op_mulA o_mul (pf_int) (pf_var 7)) (pf_bin op_mulA o_mul (pf_bin op_sub o_sub (pf_ix ix_seq o_ix (pf_ix ix_seq o_ix (pf_ix ix_seq o_ix (pf_var 0) (pf_int) (fun _ _ => rfl)) (pf_var 9) (fun _ _ => rfl)) (pf_int) (fun _ _ => rfl)) (pf_ix ix_seq o_ix (pf_ix ix_seq o_ix (pf_ix ix_seq o_ix (pf_var 0) (pf_int) (fun _ _ => rfl)) (pf_var 9) (fun _ _ => rfl)) (pf_int) (fun _ _ => rfl))) (pf_var 8))) (nomark _))
      (pfs_one (pfs_ret (pf_bl)))
      (pfs_nil))
      (pfs_cons (pfs_set (i := 11) nd rfl (by first | exact Or.inl rfl | exact Or.inr rfl) (pf_callC Callowed_times (hr.mono (by decide)) (by rfl) (pfa_cons (pf_var 1) (pfa_cons (pf_tup (pfa_cons (pf_var 2) (pfa_cons (pf_var 9) (pfa_cons (pf_var 4) (pfa_nil))))) (pfa_cons (pf_var 3) (pfa_nil)))) (len_cons (len_cons (len_cons len_nil)))))
      (pfs_cons (pfs_if (PW.pt (pfw_or (pft_not (pft_tru (pf_isi .tup (by decide) (by rfl) B.isinstance (pf_var 11) (by rfl) B.tuple boot_tuple))) (pfw_or (pft_cmp (op_neD hr.units) o_ne (pf_b call_len o_len (by rfl) B.len boot_len (pfa_cons (pf_var 11) (pfa_nil))) (pf_int) (nomark _)) (pfw_or (pft_cmp op_gt o_cmp (pf_ix ix_seq o_ix (pf_var 11) (pf_int) (fun _ _ => rfl)) (pf_ix ix_seq o_ix (pf_var 10) (pf_int) (fun _ _ => rfl)) (nomark _)) (pfw_or1 (pft_cmp op_lt o_cmp (pf_ix ix_seq o_ix (pf_var 11) (pf_int) (fun _ _ => rfl)) (pf_ix ix_seq o_ix (pf_var 10) (pf_int) (fun _ _ => rfl)) (nomark _)))))))
      (pfs_one (pfs_ret (pf_bl)))
      (pfs_nil))
      (pfs_cons (pfs_set (i := 12) nd rfl (by first | exact Or.inl rfl | exact Or.inr rfl) (pf_callC Callowed_times (hr.mono (by decide)) (by rfl) (pfa_cons (pf_var 0) (pfa_cons (pf_tup (pfa_cons (pf_var 2) (pfa_cons (pf_var 9) (pfa_cons (pf_var 4) (pfa_nil))))) (pfa_cons (pf_tup (pfa_cons (pf_var 5) (pfa_cons (pf_var 6) (pfa_nil)))) (pfa_nil)))) (len_cons (len_cons (len_cons len_nil)))))
      (pfs_one (pfs_if (pft_not (pft_tru (pf_callC C_law_same (hr.mono (by decide)) (by rfl) (pfa_cons (pf_var 12) (pfa_cons (pf_tup (pfa_cons (pf_bin op_sub o_sub (pf_var 4) (pf_var 7)) (pfa_cons (pf_bin op_addA o_add (pf_var 4) (pf_var 7)) (pfa_nil)))) (pfa_nil))) (len_cons (len_cons len_nil)))))
      (pfs_one (pfs_ret (pf_bl)))
      (pfs_nil))))))))))
      (pfs_cons (pfs_set (i := 13) nd rfl (by first | exact Or.inl rfl | exact Or.inr rfl) (pf_callC Cdue_minutes (hr.mono (by decide)) (by rfl) (pfa_cons (pf_var 0) (pfa_cons (pf_var 2) (pfa_cons (pf_int) (pfa_cons (pf_var 3) (pfa_cons (pf_var 4) (pfa_nil)))))) (len_cons (len_cons (len_cons (len_cons (len_cons len_nil)))))))
      (pfs_cons (pfs_set (i := 14) nd rfl (by first | exact Or.inl rfl | exact Or.inr rfl) (pf_callC Cdue_minutes (hr.mono (by decide)) (by rfl) (pfa_cons (pf_var 0) (pfa_cons (pf_var 2) (pfa_cons (pf_int) (pfa_cons (pf_var 3) (pfa_cons (pf_var 4) (pfa_nil)))))) (len_cons (len_cons (len_cons (len_cons (len_cons len_nil)))))))
      (pfs_one (pfs_ret (pf_and (pf_cmp op_le o_cmp (pf_ix ix_seq o_ix (pf_var 13) (pf_int) (fun _ _ => rfl)) (pf_ix ix_seq o_ix (pf_var 14) (pf_int) (fun _ _ => rfl)) (nomark _)) (pf_and (pf_cmp op_le o_cmp (pf_ix ix_seq o_ix (pf_var 13) (pf_int) (fun _ _ => rfl)) (pf_ix ix_seq o_ix (pf_var 14) (pf_int) (fun _ _ => rfl)) (nomark _)) (pf_one (pf_cmp op_le o_cmp (pf_bin op_sub o_sub (pf_ix ix_seq o_ix (pf_var 13) (pf_int) (fun _ _ => rfl)) (pf_var 7)) (pf_bin op_addA o_add (pf_ix ix_seq o_ix (pf_var 14) (pf_int) (fun _ _ => rfl)) (pf_var 7)) (nomark _)))))))))))
abbrev stlaw : Stmt := topS 21
theorem sclaw : FnScope ["script", "draws", "by", "field", "cell", "wider", "k", "station", "place", "minute", "kind", "some"] ["script"] (defScope stlaw) := ⟨rfl, rfl, rfl, by decide +kernel, rfl, by decide +kernel, by decide +kernel⟩
theorem oklaw {f : Addr} {fd : FuncData} (F : FunD K "law" "law" (defArgs stlaw) (defBody stlaw) (defScope stlaw) [] [] f fd) (g : mg "law" = some (.ref f)) (B : Bn mg) (C_law_draws : Cal P w K mg base 1 "_law_draws" q_law_draws 2) (C_law_cell : Cal P w K mg base 2 "_law_cell" q_law_cell 2) (C_law_take : Cal P w K mg base 1 "_law_take" q_law_take 2) (C_law_field : Cal P w K mg base 3 "_law_field" q_law_field 4) (C_law_widened : Cal P w K mg base 1 "_law_widened" q_law_widened 3) (C_law_is_reading_right : Cal P w K mg base 14 "_law_is_reading_right" q_law_is_reading_right 5) (C_law_is_wide_right : Cal P w K mg base 14 "_law_is_wide_right" q_law_is_wide_right 5) (C_law_same : Cal P w K mg base 13 "_law_same" q_law_same 2) (Callowed_times : Cal P w K mg base 3 "allowed_times" qallowed_times 3) (Cdue_minutes : Cal P w K mg base 3 "due_minutes" qdue_minutes 5) (Cdoes_explain : Cal P w K mg base 4 "does_explain" qdoes_explain 3) : FnOk P w K mg base CX0 15 f fd ["script"] (spOf K claw 1) := by
  have nd := sclaw.nd
  refine (fn_ok (k := 14) F sclaw fun cdv A outer s H E hr => ?_)
  exact pfs_cons (pfs_set (i := 1) nd rfl (by first | exact Or.inl rfl | exact Or.inr rfl) (pf_callC C_law_draws (hr.mono (by decide)) (by rfl) (pfa_cons (pf_var 0) (pfa_cons (pf_int) (pfa_nil))) (len_cons (len_cons len_nil))))
      (pfs_cons (pfs_set (i := 2) nd rfl (by first | exact Or.inl rfl | exact Or.inr rfl) (pf_ix ix_seq o_ix (pf_fz (pfn_lst (pfa_cons (pf_int) (pfa_cons (pf_int) (pfa_cons (pf_bin op_addA o_add (pf_int) (pf_bin op_modN o_mod (pf_b call_abs o_i1 (by rfl) B.abs boot_abs (pfa_cons (pf_callCS 1 C_law_cell (hr.mono (by decide)) (by rfl) (pfa_cons (pf_var 0) (pfa_cons (pf_var 1) (pfa_nil))) (len_cons (len_cons len_nil))) (pfa_nil))) (pf_bin op_pow o_pow (pf_int) (pf_int)))) (pfa_nil)))))) (pf_callCS 0 C_law_take (hr.mono (by decide)) (by rfl) (pfa_cons (pf_var 1) (pfa_cons (pf_int) (pfa_nil))) (len_cons (len_cons len_nil))) (fun _ _ => rfl)))
      (pfs_cons (pfs_set (i := 3) nd rfl (by first | exact Or.inl rfl | exact Or.inr rfl) (pf_callCS 0 C_law_field (hr.mono (by decide)) (by rfl) (pfa_cons (pf_var 1) (pfa_cons (pf_int) (pfa_cons (pf_int) (pfa_cons (pf_var 2) (pfa_nil))))) (len_cons (len_cons (len_cons (len_cons len_nil))))))
      (pfs_cons (pfs_if (pft_cmp (op_eqD hr.units) o_eq (pf_b call_len o_len (by rfl) B.len boot_len (pfa_cons (pf_ix ix_seq o_ix (pf_var 3) (pf_int) (fun _ _ => rfl)) (pfa_nil))) (pf_int) (nomark _))
      (pfs_one (pfs_set (i := 3) nd rfl (by first | exact Or.inl rfl | exact Or.inr rfl) (pf_tup (pfa_cons (pf_ix ix_seq o_ix (pf_var 3) (pf_int) (fun _ _ => rfl)) (pfa_cons (pf_ix ix_seq o_ix (pf_var 3) (pf_int) (fun _ _ => rfl)) (pfa_cons (pf_tup (pfa_cons (pf_tup (pfa_cons (pf_int) (pfa_cons (pf_int) (pfa_cons (pf_int) (pfa_nil))))) (pfa_nil))) (pfa_cons (pf_ix ix_seq o_ix (pf_var 3) (pf_int) (fun _ _ => rfl)) (pfa_nil))))))))
      (pfs_nil))
      (pfs_cons (pfs_set (i := 4) nd rfl (by first | exact Or.inl rfl | exact Or.inr rfl) (pf_bin op_modN o_mod (pf_ty call_int1 o_int (by rfl) B.int boot_int (pfa_cons (pf_callCS 1 C_law_cell (hr.mono (by decide)) (by rfl) (pfa_cons (pf_var 0) (pfa_cons (pf_var 1) (pfa_nil))) (len_cons (len_cons len_nil))) (pfa_nil))) (pf_bin op_pow o_pow (pf_int) (pf_int))))
      (pfs_cons (pfs_set (i := 5) nd rfl (by first | exact Or.inl rfl | exact Or.inr rfl) (pf_callC C_law_widened (hr.mono (by decide)) (by rfl) (pfa_cons (pf_var 3) (pfa_cons (pf_callCS 0 C_law_take (hr.mono (by decide)) (by rfl) (pfa_cons (pf_var 1) (pfa_cons (pf_int) (pfa_nil))) (len_cons (len_cons len_nil))) (pfa_cons (pf_callCS 0 C_law_take (hr.mono (by decide)) (by rfl) (pfa_cons (pf_var 1) (pfa_cons (pf_int) (pfa_nil))) (len_cons (len_cons len_nil))) (pfa_nil)))) (len_cons (len_cons (len_cons len_nil)))))
      (pfs_cons (pfs_for (vs := [6]) PassesOwn.never rfl (pfi_rg1 (by rfl) B.range (pfa_cons (pf_int) (pfa_nil))) (pfg_name (i := 6) nd rfl (by first | exact Or.inl rfl | exact Or.inr rfl))
      (pfs_cons (pfs_set (i := 7) nd rfl (by first | exact Or.inl rfl | exact Or.inr rfl) (pf_callCS 0 C_law_take (hr.mono (by decide)) (by rfl) (pfa_cons (pf_var 1) (pfa_cons (pf_b call_len o_len (by rfl) B.len boot_len (pfa_cons (pf_ix ix_seq o_ix (pf_var 3) (pf_int) (fun _ _ => rfl)) (pfa_nil))) (pfa_nil))) (len_cons (len_cons len_nil))))
      (pfs_cons (pfs_set (i := 8) nd rfl (by first | exact Or.inl rfl | exact Or.inr rfl) (pf_tup (pfa_cons (pf_callCS 0 C_law_take (hr.mono (by decide)) (by rfl) (pfa_cons (pf_var 1) (pfa_cons (pf_ix ix_seq o_ix (pf_var 3) (pf_int) (fun _ _ => rfl)) (pfa_nil))) (len_cons (len_cons len_nil))) (pfa_cons (pf_callCS 0 C_law_take (hr.mono (by decide)) (by rfl) (pfa_cons (pf_var 1) (pfa_cons (pf_ix ix_seq o_ix (pf_var 3) (pf_int) (fun _ _ => rfl)) (pfa_nil))) (len_cons (len_cons len_nil))) (pfa_nil)))))
      (pfs_cons (pfs_set (i := 9) nd rfl (by first | exact Or.inl rfl | exact Or.inr rfl) (pf_ix ix_seq o_ix (pf_fz (pfn_lst (pfa_cons (pf_bin op_sub o_sub (pf_callCS 0 C_law_take (hr.mono (by decide)) (by rfl) (pfa_cons (pf_var 1) (pfa_cons (pf_int) (pfa_nil))) (len_cons (len_cons len_nil))) (pf_int)) (pfa_cons (pf_var 4) (pfa_cons (pf_un un_neg o_neg (pf_var 4)) (pfa_cons (pf_bin op_mulA o_mul (pf_var 2) (pf_callCS 0 C_law_take (hr.mono (by decide)) (by rfl) (pfa_cons (pf_var 1) (pfa_cons (pf_int) (pfa_nil))) (len_cons (len_cons len_nil)))) (pfa_nil))))))) (pf_callCS 0 C_law_take (hr.mono (by decide)) (by rfl) (pfa_cons (pf_var 1) (pfa_cons (pf_int) (pfa_nil))) (len_cons (len_cons len_nil))) (fun _ _ => rfl)))
      (pfs_cons (pfs_for (vs := [10]) PassesOwn.never rfl (pfi_sq (pf_fz (pfn_lst (pfa_cons (pf_int) (pfa_cons (pf_int) (pfa_nil)))))) (pfg_name (i := 10) nd rfl (by first | exact Or.inl rfl | exact Or.inr rfl))
      (pfs_one (pfs_if (pft_not (pft_tru (pf_callC C_law_is_reading_right (hr.mono (by decide)) (by rfl) (pfa_cons (pf_var 3) (pfa_cons (pf_var 7) (pfa_cons (pf_var 10) (pfa_cons (pf_var 8) (pfa_cons (pf_var 9) (pfa_nil)))))) (len_cons (len_cons (len_cons (len_cons (len_cons len_nil))))))))
      (pfs_one (pfs_ret (pf_bl)))
      (pfs_nil))))
      (pfs_one (pfs_if (pft_not (pft_tru (pf_callC C_law_is_wide_right (hr.mono (by decide)) (by rfl) (pfa_cons (pf_var 3) (pfa_cons (pf_var 5) (pfa_cons (pf_var 7) (pfa_cons (pf_var 8) (pfa_cons (pf_var 9) (pfa_nil)))))) (len_cons (len_cons (len_cons (len_cons (len_cons len_nil))))))))
      (pfs_one (pfs_ret (pf_bl)))
      (pfs_nil))))))))
      (pfs_cons (pfs_set (i := 11) nd rfl (by first | exact Or.inl rfl | exact Or.inr rfl) (pf_tup (pfa_cons (pf_int) (pfa_cons (pf_int) (pfa_cons (pf_tup (pfa_cons (pf_tup (pfa_cons (pf_int) (pfa_cons (pf_int) (pfa_cons (pf_int) (pfa_nil))))) (pfa_nil))) (pfa_cons (pf_tup (pfa_cons (pf_tup (pfa_cons (pf_int) (pfa_cons (pf_int) (pfa_nil)))) (pfa_cons (pf_tup (pfa_cons (pf_int) (pfa_cons (pf_int) (pfa_nil)))) (pfa_nil)))) (pfa_nil)))))))
      (pfs_cons (pfs_if (PW.pt (pfw_or (pft_not (pft_tru (pf_callC C_law_same (hr.mono (by decide)) (by rfl) (pfa_cons (pf_callC Callowed_times (hr.mono (by decide)) (by rfl) (pfa_cons (pf_var 11) (pfa_cons (pf_tup (pfa_cons (pf_int) (pfa_cons (pf_int) (pfa_cons (pf_int) (pfa_nil))))) (pfa_cons (pf_tup (pfa_cons (pf_int) (pfa_cons (pf_int) (pfa_nil)))) (pfa_nil)))) (len_cons (len_cons (len_cons len_nil)))) (pfa_cons (pf_tup (pfa_cons (pf_int) (pfa_cons (pf_int) (pfa_nil)))) (pfa_nil))) (len_cons (len_cons len_nil))))) (pfw_or1 (pft_not (pft_tru (pf_callC C_law_same (hr.mono (by decide)) (by rfl) (pfa_cons (pf_callC Cdue_minutes (hr.mono (by decide)) (by rfl) (pfa_cons (pf_var 11) (pfa_cons (pf_int) (pfa_cons (pf_int) (pfa_cons (pf_tup (pfa_cons (pf_int) (pfa_cons (pf_int) (pfa_nil)))) (pfa_cons (pf_int) (pfa_nil)))))) (len_cons (len_cons (len_cons (len_cons (len_cons len_nil)))))) (pfa_cons (pf_tup (pfa_cons (pf_int) (pfa_cons (pf_int) (pfa_nil)))) (pfa_nil))) (len_cons (len_cons len_nil))))))))
      (pfs_one (pfs_ret (pf_bl)))
      (pfs_nil))
      (pfs_one (pfs_ret (pf_and (pf_callC C_law_same (hr.mono (by decide)) (by rfl) (pfa_cons (pf_callC Cdoes_explain (hr.mono (by decide)) (by rfl) (pfa_cons (pf_var 11) (pfa_cons (pf_tup (pfa_cons (pf_tup (pfa_cons (pf_int) (pfa_cons (pf_int) (pfa_nil)))) (pfa_cons (pf_int) (pfa_nil)))) (pfa_cons (pf_tup (pfa_cons (pf_int) (pfa_cons (pf_int) (pfa_cons (pf_int) (pfa_nil))))) (pfa_nil)))) (len_cons (len_cons (len_cons len_nil)))) (pfa_cons (pf_bl) (pfa_nil))) (len_cons (len_cons len_nil))) (pf_one (pf_callC C_law_same (hr.mono (by decide)) (by rfl) (pfa_cons (pf_callC Cdoes_explain (hr.mono (by decide)) (by rfl) (pfa_cons (pf_var 11) (pfa_cons (pf_tup (pfa_cons (pf_tup (pfa_cons (pf_int) (pfa_cons (pf_int) (pfa_nil)))) (pfa_cons (pf_int) (pfa_nil)))) (pfa_cons (pf_tup (pfa_cons (pf_int) (pfa_cons (pf_int) (pfa_cons (pf_int) (pfa_nil))))) (pfa_nil)))) (len_cons (len_cons (len_cons len_nil)))) (pfa_cons (pf_bl) (pfa_nil))) (len_cons (len_cons len_nil)))))))))))))))
end
end LP
namespace LP
open PySem PySem.Spec PyProof.Rows L2 PF
section
open L2
def imL : List (Str × String) := []
def fnL : List He.DefD := [⟨("how_far", none), "how_far", "how_far", defArgs sthow_far, defBody sthow_far, defScope sthow_far, [], []⟩,
  ⟨("far_from_station", none), "far_from_station", "far_from_station", defArgs stfar_from_station, defBody stfar_from_station, defScope stfar_from_station, [], []⟩,
  ⟨("allowed_times", none), "allowed_times", "allowed_times", defArgs stallowed_times, defBody stallowed_times, defScope stallowed_times, [], []⟩,
  ⟨("due_minutes", none), "due_minutes", "due_minutes", defArgs stdue_minutes, defBody stdue_minutes, defScope stdue_minutes, [], []⟩,
  ⟨("does_explain", none), "does_explain", "does_explain", defArgs stdoes_explain, defBody stdoes_explain, defScope stdoes_explain, [], []⟩,
  ⟨("_law_draws", none), "_law_draws", "_law_draws", defArgs st_law_draws, defBody st_law_draws, defScope st_law_draws, [], []⟩,
  ⟨("_law_take", none), "_law_take", "_law_take", defArgs st_law_take, defBody st_law_take, defScope st_law_take, [], []⟩,
  ⟨("_law_cell", none), "_law_cell", "_law_cell", defArgs st_law_cell, defBody st_law_cell, defScope st_law_cell, [], []⟩,
  ⟨("_law_same", none), "_law_same", "_law_same", defArgs st_law_same, defBody st_law_same, defScope st_law_same, [], []⟩,
  ⟨("_law_grid", none), "_law_grid", "_law_grid", defArgs st_law_grid, defBody st_law_grid, defScope st_law_grid, [], []⟩,
  ⟨("_law_waves", none), "_law_waves", "_law_waves", defArgs st_law_waves, defBody st_law_waves, defScope st_law_waves, [], []⟩,
  ⟨("_law_field", none), "_law_field", "_law_field", defArgs st_law_field, defBody st_law_field, defScope st_law_field, [], []⟩,
  ⟨("_law_far", none), "_law_far", "_law_far", defArgs st_law_far, defBody st_law_far, defScope st_law_far, [], []⟩,
  ⟨("_law_span", none), "_law_span", "_law_span", defArgs st_law_span, defBody st_law_span, defScope st_law_span, [], []⟩,
  ⟨("_law_due", none), "_law_due", "_law_due", defArgs st_law_due, defBody st_law_due, defScope st_law_due, [], []⟩,
  ⟨("_law_is_reading_right", none), "_law_is_reading_right", "_law_is_reading_right", defArgs st_law_is_reading_right, defBody st_law_is_reading_right, defScope st_law_is_reading_right, [], []⟩,
  ⟨("_law_widened", none), "_law_widened", "_law_widened", defArgs st_law_widened, defBody st_law_widened, defScope st_law_widened, [], []⟩,
  ⟨("_law_is_wide_right", none), "_law_is_wide_right", "_law_is_wide_right", defArgs st_law_is_wide_right, defBody st_law_is_wide_right, defScope st_law_is_wide_right, [], []⟩,
  ⟨("law", none), "law", "law", defArgs stlaw, defBody stlaw, defScope stlaw, [], []⟩]
def faL : List He.Fa := [.free "len", .free "int", .free "abs", .free "tuple", .free "list", .free "range", .free "isinstance", .free "bool", .free "str", .free "min", .free "max", .free "sum", .free "sorted", .free "any", .free "all", .free "set", .free "dict", .free "type", .glo "how_far", .glo "far_from_station", .glo "allowed_times", .glo "due_minutes", .glo "does_explain", .glo "_law_draws", .glo "_law_take", .glo "_law_cell", .glo "_law_same", .glo "_law_grid", .glo "_law_waves", .glo "_law_field", .glo "_law_far", .glo "_law_span", .glo "_law_due", .glo "_law_is_reading_right", .glo "_law_widened", .glo "_law_is_wide_right", .glo "law"]
abbrev LR : PySem.W.OpenRow := PySem.W.OpenLaw.row PySem.Challenge.rw_shocksknown_k02_whole_times_and_minutes
abbrev hkL : PySem.W.Hook := hkX 4 imL faL fnL
def obL (s : PySem.W.SharedT) : Bool × He.AlD := obX 4 imL faL fnL (HandSHeadRun.getT s)
theorem obL_eq (s : PySem.W.SharedT) : obL s = hkL.obs s.abs := obX_eq (HandSHeadRun.getT_eq s)
theorem runL (w : World) : HandSHeadRun.RunEq LR (PySem.W.view LR.prog [21]) hkL obL 3000 ["how_far", "far_from_station", "allowed_times", "due_minutes", "does_explain", "_law_draws", "_law_take", "_law_cell", "_law_same", "_law_grid", "_law_waves", "_law_field", "_law_far", "_law_span", "_law_due", "_law_is_reading_right", "_law_widened", "_law_is_wide_right"] w := by
  intro os
  kernel_rfl
theorem bnL : ∀ (i : Nat) (x : Str), bnNames[i]? = some x → faL[i]? = some (He.Fa.free x) := by
  intro i x h
  match i, h with
  | 0, h => cases h; rfl
  | 1, h => cases h; rfl
  | 2, h => cases h; rfl
  | 3, h => cases h; rfl
  | 4, h => cases h; rfl
  | 5, h => cases h; rfl
  | 6, h => cases h; rfl
  | 7, h => cases h; rfl
  | 8, h => cases h; rfl
  | 9, h => cases h; rfl
  | 10, h => cases h; rfl
  | 11, h => cases h; rfl
  | 12, h => cases h; rfl
  | 13, h => cases h; rfl
  | 14, h => cases h; rfl
  | 15, h => cases h; rfl
  | 16, h => cases h; rfl
  | 17, h => cases h; rfl
  | n + 18, h => cases (show (none : Option Str) = _ from h)
theorem factsL {P : Program} {w : World} {K : PySem.W.Frag} {h : Heap} {mg : Str → Option Value} {f : Addr} (X : K.In h) (G : h.Ns mainGlobals mg) (hfa : mg ("law" : Str) = some (.ref f)) (c : SaysX imL faL fnL K) :
    ∃ fd : FuncData, (∀ (s : Shared) (v : Value), BindsTo s fd ⟨[v], []⟩ [("script", v)]) ∧ ∀ base : Heap, K.In base → base.Ns mainGlobals mg → FnOk P w K mg base CX0 15 f fd ["script"] (spLaw K) := by
  have B : Bn mg := bn_at X G c bnL
  obtain ⟨fd, F⟩ := c.d.def_ 18 rfl
  have e := hfa.symm.trans (fun_at X G c (x := "law") 36 rfl)
  cases e
  have b := FunD.bindsA (ps := ["script"]) F fun _ _ _ _ _ _ us hl => match us, hl with | [_], _ => rfl
  refine ⟨fd, fun s v => b s [v] rfl, fun base _ _ => ?_⟩
  obtain ⟨_, Fhow_far⟩ := c.d.def_ 0 rfl
  have Chow_far : Cal P w K mg base 1 "how_far" qhow_far 2 := (okhow_far Fhow_far (fun_at X G c (x := "how_far") 18 rfl) B).as hqhow_far
  obtain ⟨_, Ffar_from_station⟩ := c.d.def_ 1 rfl
  have Cfar_from_station : Cal P w K mg base 2 "far_from_station" qfar_from_station 3 := (okfar_from_station Ffar_from_station (fun_at X G c (x := "far_from_station") 19 rfl) B Chow_far).as hqfar_from_station
  obtain ⟨_, Fallowed_times⟩ := c.d.def_ 2 rfl
  have Callowed_times : Cal P w K mg base 3 "allowed_times" qallowed_times 3 := (okallowed_times Fallowed_times (fun_at X G c (x := "allowed_times") 20 rfl) B Cfar_from_station).as hqallowed_times
  obtain ⟨_, Fdue_minutes⟩ := c.d.def_ 3 rfl
  have Cdue_minutes : Cal P w K mg base 3 "due_minutes" qdue_minutes 5 := (okdue_minutes Fdue_minutes (fun_at X G c (x := "due_minutes") 21 rfl) B Cfar_from_station).as hqdue_minutes
  obtain ⟨_, Fdoes_explain⟩ := c.d.def_ 4 rfl
  have Cdoes_explain : Cal P w K mg base 4 "does_explain" qdoes_explain 3 := (okdoes_explain Fdoes_explain (fun_at X G c (x := "does_explain") 22 rfl) B Callowed_times).as hqdoes_explain
  obtain ⟨_, F_law_draws⟩ := c.d.def_ 5 rfl
  have C_law_draws : Cal P w K mg base 1 "_law_draws" q_law_draws 2 := (ok_law_draws F_law_draws (fun_at X G c (x := "_law_draws") 23 rfl) B).as hq_law_draws
  obtain ⟨_, F_law_take⟩ := c.d.def_ 6 rfl
  have C_law_take : Cal P w K mg base 1 "_law_take" q_law_take 2 := (ok_law_take F_law_take (fun_at X G c (x := "_law_take") 24 rfl) B).as hq_law_take
  obtain ⟨_, F_law_cell⟩ := c.d.def_ 7 rfl
  have C_law_cell : Cal P w K mg base 2 "_law_cell" q_law_cell 2 := (ok_law_cell F_law_cell (fun_at X G c (x := "_law_cell") 25 rfl) B C_law_take).as hq_law_cell
  obtain ⟨_, F_law_same⟩ := c.d.def_ 8 rfl
  have C_law_same : Cal P w K mg base 13 "_law_same" q_law_same 2 := (ok_law_same F_law_same (fun_at X G c (x := "_law_same") 26 rfl) B 12).as hq_law_same
  obtain ⟨_, F_law_grid⟩ := c.d.def_ 9 rfl
  have C_law_grid : Cal P w K mg base 1 "_law_grid" q_law_grid 2 := (ok_law_grid F_law_grid (fun_at X G c (x := "_law_grid") 27 rfl) B).as hq_law_grid
  obtain ⟨_, F_law_waves⟩ := c.d.def_ 10 rfl
  have C_law_waves : Cal P w K mg base 2 "_law_waves" q_law_waves 2 := (ok_law_waves F_law_waves (fun_at X G c (x := "_law_waves") 28 rfl) B C_law_take).as hq_law_waves
  obtain ⟨_, F_law_field⟩ := c.d.def_ 11 rfl
  have C_law_field : Cal P w K mg base 3 "_law_field" q_law_field 4 := (ok_law_field F_law_field (fun_at X G c (x := "_law_field") 29 rfl) B C_law_take C_law_grid C_law_waves).as hq_law_field
  obtain ⟨_, F_law_far⟩ := c.d.def_ 12 rfl
  have C_law_far : Cal P w K mg base 1 "_law_far" q_law_far 2 := (ok_law_far F_law_far (fun_at X G c (x := "_law_far") 30 rfl) B).as hq_law_far
  obtain ⟨_, F_law_span⟩ := c.d.def_ 13 rfl
  have C_law_span : Cal P w K mg base 2 "_law_span" q_law_span 3 := (ok_law_span F_law_span (fun_at X G c (x := "_law_span") 31 rfl) B C_law_far).as hq_law_span
  obtain ⟨_, F_law_due⟩ := c.d.def_ 14 rfl
  have C_law_due : Cal P w K mg base 2 "_law_due" q_law_due 5 := (ok_law_due F_law_due (fun_at X G c (x := "_law_due") 32 rfl) B C_law_far).as hq_law_due
  obtain ⟨_, F_law_is_reading_right⟩ := c.d.def_ 15 rfl
  have C_law_is_reading_right : Cal P w K mg base 14 "_law_is_reading_right" q_law_is_reading_right 5 := (ok_law_is_reading_right F_law_is_reading_right (fun_at X G c (x := "_law_is_reading_right") 33 rfl) B C_law_span C_law_same Callowed_times C_law_due Cdue_minutes Cdoes_explain).as hq_law_is_reading_right
  obtain ⟨_, F_law_widened⟩ := c.d.def_ 16 rfl
  have C_law_widened : Cal P w K mg base 1 "_law_widened" q_law_widened 3 := (ok_law_widened F_law_widened (fun_at X G c (x := "_law_widened") 34 rfl) B).as hq_law_widened
  obtain ⟨_, F_law_is_wide_right⟩ := c.d.def_ 17 rfl
  have C_law_is_wide_right : Cal P w K mg base 14 "_law_is_wide_right" q_law_is_wide_right 5 := (ok_law_is_wide_right F_law_is_wide_right (fun_at X G c (x := "_law_is_wide_right") 35 rfl) B C_law_far Callowed_times C_law_same Cdue_minutes).as hq_law_is_wide_right
  exact (oklaw F (fun_at X G c (x := "law") 36 rfl) B C_law_draws C_law_cell C_law_take C_law_field C_law_widened C_law_is_reading_right C_law_is_wide_right C_law_same Callowed_times Cdue_minutes Cdoes_explain).imp (law_sp law_data)
end
end LP
open PySem PySem.W PySem.Calls PyProof.Rows
theorem PySem.Challenge.cw_shocksknown_k02_whole_times_and_minutes_holds : PySem.Challenge.rw_shocksknown_k02_whole_times_and_minutes.Holds := by
  w_on; o_law
  refine HandSHeadRun.head_any (r := LP.LR) (q := view LP.LR.prog [21]) (H := LP.hkL) (ob := LP.obL) (M := 3000) (loose := ["how_far", "far_from_station", "allowed_times", "due_minutes", "does_explain", "_law_draws", "_law_take", "_law_cell", "_law_same", "_law_grid", "_law_waves", "_law_field", "_law_far", "_law_span", "_law_due", "_law_is_reading_right", "_law_widened", "_law_is_wide_right"]) (d := HandSHeadRun.topDef LP.LR.prog 21) (kwd := []) LP.obL_eq
    (by kernel_rfl) (fun s => by kernel_rfl) LP.runL (by kernel_rfl) (by kernel_rfl) (by kernel_rfl) (by rfl) (by first | assumption | decide +kernel) (by decide +kernel) ⟨rfl, rfl, rfl, rfl, rfl, by decide +kernel⟩ ?hw ?hc
  case hw => w_witness2
  case hc =>
    refine L2.walk_ofE (l := PySem.Challenge.rw_shocksknown_k02_whole_times_and_minutes) (n := 63) (k := 15) (x := "script") (CX := L2.CX0) rfl (by decide) (by kernel_rfl) ⟨rfl, by decide, by decide⟩ ?F (fun _ _ _ _ z => z)
    intro w mg fa h Y G hmg0
    obtain ⟨K, KX, c⟩ := Y
    have hmg : mg ("law" : PySem.Str) = some (.ref fa) := by
      have e : (HandSHeadRun.topDef LP.LR.prog 21).name = ("law" : PySem.Str) := by kernel_rfl
      rw [← e]
      exact hmg0
    obtain ⟨fd, hb, hF⟩ := LP.factsL (P := (PySem.Challenge.rw_shocksknown_k02_whole_times_and_minutes).prog) (w := w) KX G hmg c
    exact ⟨K, fd, PF.spLaw K, KX, hb, fun H a ns hl hO hS => ⟨a, ns, rfl, hS, hO, hl, fun _ => rfl⟩, hF⟩
