import PyProof.Rows.All
import Wide.All
import OpenK.AllK
import Wide.FinOn
import KE.KStateDown
import HandS.ForMost
import HandS.IsInst
import HandS.Wide
import HandS.Gcd
import HandS.Style
import HandS.Flow
import HandS.TupAny
import HandS.Conv
import HandS.Comp
import HandS.HeadHook2
import HandS.HeadEnd
import HandS.Head0
import HandS.Head1
import HandS.Head2
import HandS.HeadHook1
import HandS.Head3
import HandS.Deep
import KE.DataMinMax
import HandS.TupMul
import PySem.Challenge.RW_shocksknown_k61_whole_packing_and_back
set_option Elab.async false
set_option linter.all false
set_option maxRecDepth 100000
set_option maxHeartbeats 0
namespace PF
open PySem PySem.Spec PyProof.Rows L2
/-- data as the proofs see it: ref n is the n-th changeable list of the state; lst: a list that nobody changes any more; kst: a list that stood before (the script) -/
inductive D where
  | non | bl (b : Bool) | int (i : Int) | str (x : Str) | tup (xs : List D) | lst (xs : List D) | kst (xs : List D) | ref (n : Nat)
inductive MO where
  | lst (xs : List D)
abbrev Mem := List MO
abbrev Rho := List (Option D)
structure Wo where
  as : List Addr
  bad : Addr → Prop
  H : Hp
abbrev LINE : Nat := 16777216
theorem line_eq : sizeLine = LINE := sizeLine_eq
section
variable (K : PySem.W.Frag) (W : Wo)
def FzL (a : Addr) (vs : List V) : Prop := (W.H a = some (.lst vs) ∧ ¬ W.bad a) ∧ vs.length ≤ LINE
def FzK (a : Addr) (vs : List V) : Prop := (((∃ o, W.H a = some (.frz o (.lst vs))) ∧ ¬ W.bad a) ∨ SqL K (fun _ => none) a vs) ∧ vs.length ≤ LINE
def FzT (a : Addr) (vs : List V) : Prop := ((W.H a = some (.tup vs) ∧ ¬ W.bad a) ∨ SqT K (fun _ => none) a vs) ∧ vs.length ≤ LINE
mutual
def Rp : D → V → Prop
  | .non, v => v = .non
  | .bl b, v => v = .bl b
  | .int i, v => v = .int i
  | .str x, v => v = .str x
  | .tup ds, v => ∃ a vs, v = .ref a ∧ FzT K W a vs ∧ RpL ds vs
  | .lst ds, v => ∃ a vs, v = .ref a ∧ FzL W a vs ∧ RpL ds vs
  | .kst ds, v => ∃ a vs, v = .ref a ∧ FzK K W a vs ∧ RpL ds vs
  | .ref n, v => ∃ a, W.as[n]? = some a ∧ v = .ref a
def RpL : List D → List V → Prop
  | [], vs => vs = []
  | d :: ds, vs => ∃ v r, vs = v :: r ∧ Rp d v ∧ RpL ds r
end
def MoOk (a : Addr) : MO → Prop
  | .lst ds => ∃ vs, (W.H a = some (.lst vs) ∧ vs.length ≤ LINE) ∧ RpL K W ds vs
structure SR (M : Mem) : Prop where
  len : W.as.length = M.length
  nd : W.as.Nodup
  sub : ∀ a ∈ W.as, W.bad a
  bt : ∀ a, W.bad a → ∃ o, W.H a = some o
  obj : ∀ (n : Nat) (a : Addr) (mo : MO), W.as[n]? = some a → M[n]? = some mo → MoOk K W a mo
structure Sl (ρ : Rho) (σ : L2.St) : Prop where
  len : ρ.length = σ.length
  at_ : ∀ (i : Nat) (d : D), ρ[i]? = some (some d) → ∃ v, σ[i]? = some (some v) ∧ Rp K W d v
end
/-- one state behind another -/
structure Ext (W W' : Wo) : Prop where
  as : ∃ new, W'.as = W.as ++ new ∧ ∀ a ∈ new, W.H a = none
  bad : ∀ a, W.bad a → W'.bad a
  new : ∀ a, W'.bad a → W.bad a ∨ W.H a = none
  keep : ∀ a o, a ∉ W.as → W.H a = some o → W'.H a = some o
  live : ∀ a o, W.H a = some o → ∃ o', W'.H a = some o'
theorem Ext.refl (W : Wo) : Ext W W := ⟨⟨[], by simp, fun _ h => by simp at h⟩, fun _ h => h, fun _ h => .inl h, fun _ _ _ h => h, fun _ o h => ⟨o, h⟩⟩
theorem none_of_live {W W' : Wo} (e : Ext W W') {a : Addr} (h : W'.H a = none) : W.H a = none := by
  cases q : W.H a with
  | none => rfl
  | some o => obtain ⟨o', h'⟩ := e.live a o q; rw [h] at h'; cases h'
theorem Ext.trans {W W1 W2 : Wo} (e : Ext W W1) (e' : Ext W1 W2) : Ext W W2 := by
  obtain ⟨n1, h1, f1⟩ := e.as
  obtain ⟨n2, h2, f2⟩ := e'.as
  refine ⟨⟨n1 ++ n2, by rw [h2, h1, List.append_assoc], fun a ha => ?_⟩, fun a h => e'.bad a (e.bad a h), fun a h => ?_, fun a o ha h => ?_, fun a o h => ?_⟩
  · rcases List.mem_append.mp ha with h | h
    · exact f1 a h
    · exact none_of_live e (f2 a h)
  · rcases e'.new a h with h | h
    · exact e.new a h
    · exact .inr (none_of_live e h)
  · refine e'.keep a o (fun z => ?_) (e.keep a o ha h)
    rw [h1] at z
    rcases List.mem_append.mp z with z | z
    · exact ha z
    · rw [f1 a z] at h; cases h
  · obtain ⟨o', h'⟩ := e.live a o h
    exact e'.live a o' h'
section
variable {K : PySem.W.Frag} {W W' : Wo}
theorem Ext.frz {a : Addr} {u : HO} (e : Ext W W') (hs : ∀ a ∈ W.as, W.bad a) (h : W.H a = some u ∧ ¬ W.bad a) : W'.H a = some u ∧ ¬ W'.bad a := by
  obtain ⟨h, nb⟩ := h
  have na : a ∉ W.as := fun z => nb (hs a z)
  refine ⟨e.keep a _ na h, fun z => ?_⟩
  rcases e.new a z with z | z
  · exact nb z
  · rw [h] at z; cases z
mutual
theorem Rp.ext (e : Ext W W') (hs : ∀ a ∈ W.as, W.bad a) : ∀ (d : D) (v : V), Rp K W d v → Rp K W' d v
  | .non, _, h => h
  | .bl _, _, h => h
  | .int _, _, h => h
  | .str _, _, h => h
  | .tup ds, v, h => by
    obtain ⟨a, vs, e1, f, r⟩ := h
    exact ⟨a, vs, e1, ⟨f.1.imp (fun q => e.frz hs q) fun q => q, f.2⟩, RpL.ext e hs ds vs r⟩
  | .lst ds, v, h => by
    obtain ⟨a, vs, e1, f, r⟩ := h
    exact ⟨a, vs, e1, ⟨e.frz hs f.1, f.2⟩, RpL.ext e hs ds vs r⟩
  | .kst ds, v, h => by
    obtain ⟨a, vs, e1, f, r⟩ := h
    refine ⟨a, vs, e1, ⟨f.1.imp (fun q => ?_) fun q => q, f.2⟩, RpL.ext e hs ds vs r⟩
    obtain ⟨⟨o, q⟩, nb⟩ := q
    obtain ⟨q', nb'⟩ := e.frz hs ⟨q, nb⟩
    exact ⟨⟨o, q'⟩, nb'⟩
  | .ref n, v, h => by
    obtain ⟨a, h1, h2⟩ := h
    obtain ⟨new, h3, _⟩ := e.as
    refine ⟨a, ?_, h2⟩
    rw [h3]
    exact (List.getElem?_append_left (List.getElem?_eq_some_iff.mp h1).1).trans h1
theorem RpL.ext (e : Ext W W') (hs : ∀ a ∈ W.as, W.bad a) : ∀ (ds : List D) (vs : List V), RpL K W ds vs → RpL K W' ds vs
  | [], _, h => h
  | d :: ds, vs, h => by
    obtain ⟨v, r, e1, h1, h2⟩ := h
    exact ⟨v, r, e1, Rp.ext e hs d v h1, RpL.ext e hs ds r h2⟩
end
theorem Sl.ext {ρ : Rho} {σ : L2.St} (e : Ext W W') (hs : ∀ a ∈ W.as, W.bad a) (h : Sl K W ρ σ) : Sl K W' ρ σ :=
  ⟨h.len, fun i d hd => let ⟨v, h1, h2⟩ := h.at_ i d hd; ⟨v, h1, h2.ext e hs⟩⟩
theorem RpL.len : ∀ {ds : List D} {vs : List V}, RpL K W ds vs → ds.length = vs.length
  | [], _, h => by cases (show _ = _ from h); rfl
  | _ :: _, _, h => by
    obtain ⟨v, r, rfl, _, h2⟩ := h
    simp [RpL.len h2]
theorem RpL.get : ∀ {ds : List D} {vs : List V} {i : Nat} {d : D}, RpL K W ds vs → ds[i]? = some d → ∃ v, vs[i]? = some v ∧ Rp K W d v
  | [], _, _, _, _, h => by simp at h
  | x :: _, _, 0, d, h, e => by
    obtain ⟨v, r, rfl, h1, _⟩ := h
    simp at e; subst e
    exact ⟨v, rfl, h1⟩
  | _ :: _, _, i + 1, d, h, e => by
    obtain ⟨v, r, rfl, _, h2⟩ := h
    obtain ⟨u, a, b⟩ := RpL.get (i := i) (d := d) h2 (by simpa using e)
    exact ⟨u, by simpa using a, b⟩
theorem RpL.append : ∀ {ds es : List D} {vs us : List V}, RpL K W ds vs → RpL K W es us → RpL K W (ds ++ es) (vs ++ us)
  | [], _, _, _, h, h' => by cases (show _ = _ from h); exact h'
  | _ :: _, _, _, _, h, h' => by
    obtain ⟨v, r, rfl, h1, h2⟩ := h
    exact ⟨v, r ++ _, rfl, h1, RpL.append h2 h'⟩
theorem RpL.one {d : D} {v : V} (h : Rp K W d v) : RpL K W [d] [v] := ⟨v, [], rfl, h, rfl⟩
theorem RpL.take : ∀ {ds : List D} {vs : List V} (n : Nat), RpL K W ds vs → RpL K W (ds.take n) (vs.take n)
  | _, _, 0, _ => rfl
  | [], _, _ + 1, h => by cases (show _ = _ from h); rfl
  | _ :: _, _, n + 1, h => by
    obtain ⟨v, r, rfl, h1, h2⟩ := h
    exact ⟨v, _, rfl, h1, RpL.take n h2⟩
theorem RpL.drop : ∀ {ds : List D} {vs : List V} (n : Nat), RpL K W ds vs → RpL K W (ds.drop n) (vs.drop n)
  | _, _, 0, h => h
  | [], _, _ + 1, h => by cases (show _ = _ from h); rfl
  | _ :: _, _, n + 1, h => by
    obtain ⟨v, r, rfl, h1, h2⟩ := h
    exact RpL.drop n h2
theorem RpL.set : ∀ {ds : List D} {vs : List V} {d : D} {v : V} (n : Nat), RpL K W ds vs → Rp K W d v → RpL K W (ds.set n d) (vs.set n v)
  | [], _, _, _, _, h, _ => by cases (show _ = _ from h); exact rfl
  | _ :: _, _, _, _, 0, h, q => by
    obtain ⟨v, r, rfl, h1, h2⟩ := h
    exact ⟨_, _, rfl, q, h2⟩
  | _ :: _, _, _, _, n + 1, h, q => by
    obtain ⟨v, r, rfl, h1, h2⟩ := h
    exact ⟨_, _, rfl, h1, RpL.set n h2 q⟩
theorem RpL.reverse : ∀ {ds : List D} {vs : List V}, RpL K W ds vs → RpL K W ds.reverse vs.reverse
  | [], _, h => by cases (show _ = _ from h); exact rfl
  | d :: ds, _, h => by
    obtain ⟨v, r, rfl, h1, h2⟩ := h
    rw [List.reverse_cons, List.reverse_cons]
    exact (RpL.reverse h2).append (.one h1)
end
/-! ### what a piece of code computes -/
inductive Out where
  | nx (ρ : Rho) | ret (d : D) | bk (ρ : Rho) | ct (ρ : Rho)
abbrev FE := Rho → Mem → Option (D × Mem)
abbrev FT := Rho → Mem → Option (Bool × Mem)
abbrev FA := Rho → Mem → Option (List D × Mem)
abbrev FS := Rho → Mem → Option (Out × Mem)
def liftE (K : PySem.W.Frag) (f : FE) : TE := fun σ H Q => ∃ W ρ M, W.H = H ∧ SR K W M ∧ Sl K W ρ σ ∧ ∃ d M', f ρ M = some (d, M') ∧
  ∀ W' v, Ext W W' → SR K W' M' → Rp K W' d v → Q v W'.H
def liftT (K : PySem.W.Frag) (f : FT) : TT := fun σ H Q => ∃ W ρ M, W.H = H ∧ SR K W M ∧ Sl K W ρ σ ∧ ∃ d M', f ρ M = some (d, M') ∧
  ∀ W', Ext W W' → SR K W' M' → Q d W'.H
def liftA (K : PySem.W.Frag) (f : FA) : TA := fun σ H Q => ∃ W ρ M, W.H = H ∧ SR K W M ∧ Sl K W ρ σ ∧ ∃ d M', f ρ M = some (d, M') ∧
  ∀ W' v, Ext W W' → SR K W' M' → RpL K W' d v → Q v W'.H
/-- a new list comes last, nothing else knows it -/
def liftN (K : PySem.W.Frag) (f : FA) : TE := fun σ H Q => ∃ W ρ M, W.H = H ∧ SR K W M ∧ Sl K W ρ σ ∧ ∃ d M', f ρ M = some (d, M') ∧
  ∀ W' p vs, Ext W W' → SR K W' M' → W'.H p = none → RpL K W' d vs → vs.length ≤ LINE → Q (.ref p) (upd W'.H p (.lst vs))
def liftS (K : PySem.W.Frag) (f : FS) : TS := fun E σ H => ∃ W ρ M, W.H = H ∧ SR K W M ∧ Sl K W ρ σ ∧ ∃ o M', f ρ M = some (o, M') ∧
  match o with
  | .nx ρ' => ∀ W' σ', Ext W W' → SR K W' M' → Sl K W' ρ' σ' → E.nx σ' W'.H
  | .bk ρ' => ∀ W' σ', Ext W W' → SR K W' M' → Sl K W' ρ' σ' → E.bk σ' W'.H
  | .ct ρ' => ∀ W' σ', Ext W W' → SR K W' M' → Sl K W' ρ' σ' → E.ct σ' W'.H
  | .ret d => ∀ W' v, Ext W W' → SR K W' M' → Rp K W' d v → E.rt v W'.H
/-! ### weakening -/
section
variable {X : Cx}
theorem pe_weak {e : Expr} {t t' : TE} (h : PE X e t) (i : ∀ σ H Q, t' σ H Q → t σ H Q) : PE X e t' := ⟨fun pins s σ H Q I q => h.run pins s σ H Q I (i σ H Q q)⟩
theorem pt_weak {e : Expr} {t t' : TT} (h : PT X e t) (i : ∀ σ H Q, t' σ H Q → t σ H Q) : PT X e t' := ⟨fun pins s σ H Q I q => h.run pins s σ H Q I (i σ H Q q)⟩
theorem pw_weak {e : Expr} {t t' : TT} (h : PW X e t) (i : ∀ σ H Q, t' σ H Q → t σ H Q) : PW X e t' := ⟨fun wh pins s σ H Q I q => h.run wh pins s σ H Q I (i σ H Q q)⟩
theorem pa_weak {e : List Expr} {t t' : TA} (h : PA X e t) (i : ∀ σ H Q, t' σ H Q → t σ H Q) : PA X e t' := ⟨fun pos pins s σ H Q I q => h.run pos pins s σ H Q I (i σ H Q q)⟩
theorem ps_weak {e : Stmt} {t t' : TS} (h : PS X e t) (i : ∀ σ H Q, t' σ H Q → t σ H Q) : PS X e t' := ⟨fun pins s σ H D I q => h.run pins s σ H D I (i D σ H q)⟩
theorem pss_weak {e : List Stmt} {t t' : TS} (h : PSs X e t) (i : ∀ σ H Q, t' σ H Q → t σ H Q) : PSs X e t' := ⟨fun pins s σ H D I q => h.run pins s σ H D I (i D σ H q)⟩
abbrev PFE (X : Cx) (e : Expr) (f : FE) : Prop := PE X e (liftE X.K f)
abbrev PFN (X : Cx) (e : Expr) (f : FA) : Prop := PE X e (liftN X.K f)
abbrev PFT (X : Cx) (e : Expr) (f : FT) : Prop := PT X e (liftT X.K f)
abbrev PFW (X : Cx) (e : Expr) (f : FT) : Prop := PW X e (liftT X.K f)
abbrev PFA (X : Cx) (e : List Expr) (f : FA) : Prop := PA X e (liftA X.K f)
abbrev PFS (X : Cx) (e : Stmt) (f : FS) : Prop := PS X e (liftS X.K f)
abbrev PFSs (X : Cx) (e : List Stmt) (f : FS) : Prop := PSs X e (liftS X.K f)
end
end PF
namespace PF
open PySem PySem.Spec PyProof.Rows L2
/-! ### the state's steps -/
section
variable {K : PySem.W.Frag} {W W' : Wo} {M : Mem}
def Wo.put (W : Wo) (p : Addr) (o : HO) : Wo := { W with H := upd W.H p o }
theorem Ext.put {p : Addr} {o : HO} (hp : W.H p = none) : Ext W (W.put p o) :=
  ⟨⟨[], by simp [Wo.put], fun _ h => by simp at h⟩, fun _ h => h, fun _ h => .inl h, fun a u _ h => (upd_ne (ne_of_none h hp)).trans h, fun a u h => ⟨u, (upd_ne (ne_of_none h hp)).trans h⟩⟩
theorem MoOk.ext {a : Addr} {mo : MO} (e : Ext W W') (hs : ∀ a ∈ W.as, W.bad a) (h : MoOk K W a mo) (ha : W'.H a = W.H a) : MoOk K W' a mo := by
  cases mo with
  | lst ds => obtain ⟨vs, h1, h2⟩ := h; exact ⟨vs, ⟨ha.trans h1.1, h1.2⟩, h2.ext e hs⟩
theorem MoOk.there {a : Addr} {mo : MO} (h : MoOk K W a mo) : ∃ o, W.H a = some o := by
  cases mo with
  | lst ds => obtain ⟨vs, h1, h2⟩ := h; exact ⟨_, h1.1⟩
theorem SR.at_ (sr : SR K W M) {n : Nat} {a : Addr} (h : W.as[n]? = some a) : ∃ mo, M[n]? = some mo ∧ MoOk K W a mo := by
  have hn : n < M.length := by rw [← sr.len]; exact (List.getElem?_eq_some_iff.mp h).1
  exact ⟨M[n], by simp [hn], sr.obj n a _ h (by simp [hn])⟩
theorem SR.addr (sr : SR K W M) {n : Nat} {mo : MO} (h : M[n]? = some mo) : ∃ a, W.as[n]? = some a ∧ MoOk K W a mo := by
  have hn : n < W.as.length := by rw [sr.len]; exact (List.getElem?_eq_some_iff.mp h).1
  exact ⟨W.as[n], by simp [hn], sr.obj n _ mo (by simp [hn]) h⟩
theorem SR.put {p : Addr} {o : HO} (sr : SR K W M) (hp : W.H p = none) : SR K (W.put p o) M := by
  refine ⟨sr.len, sr.nd, sr.sub, fun a h => ?_, fun n a mo h1 h2 => ?_⟩
  · obtain ⟨o, q⟩ := sr.bt a h
    exact (Ext.put hp).live a o q
  · have m := sr.obj n a mo h1 h2
    obtain ⟨o', q⟩ := m.there
    exact m.ext (Ext.put hp) sr.sub (upd_ne (ne_of_none q hp))
theorem SR.nb {p : Addr} (sr : SR K W M) (hp : W.H p = none) : ¬ W.bad p := fun z => by
  obtain ⟨o, q⟩ := sr.bt p z
  rw [hp] at q; cases q
theorem Rp.newTup {p : Addr} {ds : List D} {vs : List V} (sr : SR K W M) (hp : W.H p = none) (h : RpL K W ds vs) (hl : vs.length ≤ LINE) : Rp K (W.put p (.tup vs)) (.tup ds) (.ref p) :=
  ⟨p, vs, rfl, ⟨.inl ⟨upd_same, sr.nb hp⟩, hl⟩, h.ext (Ext.put hp) sr.sub⟩
theorem Rp.newLst {p : Addr} {ds : List D} {vs : List V} (sr : SR K W M) (hp : W.H p = none) (h : RpL K W ds vs) (hl : vs.length ≤ LINE) : Rp K (W.put p (.lst vs)) (.lst ds) (.ref p) :=
  ⟨p, vs, rfl, ⟨⟨upd_same, sr.nb hp⟩, hl⟩, h.ext (Ext.put hp) sr.sub⟩
/-- a new changeable list -/
def Wo.mk2 (W : Wo) (p : Addr) (o : HO) : Wo := ⟨W.as ++ [p], fun a => W.bad a ∨ a = p, upd W.H p o⟩
theorem Ext.mk2 {p : Addr} {o : HO} (hp : W.H p = none) : Ext W (W.mk2 p o) := by
  refine ⟨⟨[p], rfl, fun a h => ?_⟩, fun _ h => .inl h, fun a h => ?_, fun a u _ h => (upd_ne (ne_of_none h hp)).trans h, fun a u h => ⟨u, (upd_ne (ne_of_none h hp)).trans h⟩⟩
  · have e : a = p := by simpa using h
    rw [e]; exact hp
  · rcases h with h | h
    · exact .inl h
    · rw [h]; exact .inr hp
theorem SR.mk2 {p : Addr} {ds : List D} {vs : List V} (sr : SR K W M) (hp : W.H p = none) (h : RpL K W ds vs) (hl : vs.length ≤ LINE) : SR K (W.mk2 p (.lst vs)) (M ++ [.lst ds]) := by
  have npa : p ∉ W.as := fun z => sr.nb hp (sr.sub p z)
  have E := Ext.mk2 (W := W) (o := .lst vs) hp
  refine ⟨by simp [Wo.mk2, sr.len], ?_, fun a h => ?_, fun a h => ?_, fun n a mo h1 h2 => ?_⟩
  · show (W.as ++ [p]).Nodup
    rw [List.nodup_append]
    refine ⟨sr.nd, by simp, fun a ha b hb => ?_⟩
    have e : b = p := by simpa using hb
    rw [e]; rintro rfl; exact npa ha
  · rcases List.mem_append.mp h with h | h
    · exact .inl (sr.sub a h)
    · exact .inr (by simpa using h)
  · rcases h with h | h
    · obtain ⟨o, q⟩ := sr.bt a h
      exact E.live a o q
    · rw [h]; exact ⟨_, upd_same⟩
  · have h1' : (W.as ++ [p])[n]? = some a := h1
    by_cases hn : n < W.as.length
    · rw [List.getElem?_append_left hn] at h1'
      rw [List.getElem?_append_left (by rw [← sr.len]; exact hn)] at h2
      have m := sr.obj n a mo h1' h2
      obtain ⟨o', q⟩ := m.there
      exact m.ext E sr.sub (upd_ne (ne_of_none q hp))
    · have e : n = W.as.length := by
        have := (List.getElem?_eq_some_iff.mp h1').1
        simp at this; omega
      subst e
      have ea : p = a := by simpa using h1'
      have em : MO.lst ds = mo := by
        rw [sr.len] at h2
        simpa using h2
      subst ea em
      exact ⟨vs, ⟨upd_same, hl⟩, h.ext E sr.sub⟩
theorem Rp.mk2 {p : Addr} {o : HO} (sr : SR K W M) : Rp K (W.mk2 p o) (.ref M.length) (.ref p) := ⟨p, by show (W.as ++ [p])[M.length]? = _; rw [← sr.len]; simp, rfl⟩
/-- a changeable list is written -/
theorem Ext.wr {a : Addr} {o : HO} (ha : a ∈ W.as) : Ext W (W.put a o) := by
  refine ⟨⟨[], by simp [Wo.put], fun _ h => by simp at h⟩, fun _ h => h, fun _ h => .inl h, fun b u hb h => (upd_ne fun z => hb (by rw [z]; exact ha)).trans h, fun b u h => ?_⟩
  by_cases hb : b = a
  · subst hb; exact ⟨_, upd_same⟩
  · exact ⟨u, (upd_ne hb).trans h⟩
theorem SR.wr {n : Nat} {a : Addr} {ds : List D} {vs : List V} (sr : SR K W M) (hn : W.as[n]? = some a) (h : RpL K W ds vs) (hl : vs.length ≤ LINE) : SR K (W.put a (.lst vs)) (M.set n (.lst ds)) := by
  have ha : a ∈ W.as := List.mem_of_getElem? hn
  have E := Ext.wr (W := W) (o := .lst vs) ha
  refine ⟨by rw [List.length_set]; exact sr.len, sr.nd, sr.sub, fun b hb => ?_, fun m b mo h1 h2 => ?_⟩
  · obtain ⟨o, q⟩ := sr.bt b hb
    exact E.live b o q
  · have h1' : W.as[m]? = some b := h1
    by_cases e : m = n
    · subst e
      rw [hn] at h1'; cases h1'
      have hm : m < M.length := by rw [← sr.len]; exact (List.getElem?_eq_some_iff.mp hn).1
      rw [List.getElem?_set_self hm] at h2
      cases h2
      exact ⟨vs, ⟨upd_same, hl⟩, h.ext E sr.sub⟩
    · rw [List.getElem?_set_ne (Ne.symm e)] at h2
      refine (sr.obj m b mo h1' h2).ext E sr.sub (upd_ne fun z => e ?_)
      subst z
      obtain ⟨q1, q2⟩ := List.getElem?_eq_some_iff.mp h1'
      obtain ⟨q3, q4⟩ := List.getElem?_eq_some_iff.mp hn
      exact (List.getElem_inj sr.nd).mp (q2.trans q4.symm)
end
/-! ### lists and tuples, read -/
def lsOf : D → Mem → Option (List D)
  | .lst xs, _ => some xs
  | .kst xs, _ => some xs
  | .ref n, M => match M[n]? with | some (.lst xs) => some xs | _ => none
  | _, _ => none
def sqOf : D → Mem → Option (List D)
  | .tup xs, _ => some xs
  | d, M => lsOf d M
section
variable {K : PySem.W.Frag} {W W' : Wo} {M : Mem} {d : D} {v : V} {xs : List D}
theorem SqL.any {H : Hp} {a : Addr} {vs : List V} (h : SqL K (fun _ => none) a vs) : SqL K H a vs := by
  rcases h with (h | ⟨o, h⟩) | h
  · cases (show (none : Option HO) = _ from h)
  · cases (show (none : Option HO) = _ from h)
  · exact .inr h
theorem SqT.any {H : Hp} {a : Addr} {vs : List V} (h : SqT K (fun _ => none) a vs) : SqT K H a vs := by
  rcases h with (h | ⟨o, h⟩) | h
  · cases (show (none : Option HO) = _ from h)
  · cases (show (none : Option HO) = _ from h)
  · exact .inr h
theorem ls_sq (sr : SR K W M) (h : Rp K W d v) (e : lsOf d M = some xs) : ∃ a vs, v = .ref a ∧ SqL K W.H a vs ∧ RpL K W xs vs := by
  cases d with
  | lst ds =>
    cases e
    obtain ⟨a, vs, e1, f, r⟩ := h
    exact ⟨a, vs, e1, .of f.1.1, r⟩
  | kst ds =>
    cases e
    obtain ⟨a, vs, e1, f, r⟩ := h
    refine ⟨a, vs, e1, ?_, r⟩
    rcases f.1 with ⟨⟨o, f⟩, _⟩ | f
    · exact .inl (.inr ⟨o, f⟩)
    · exact SqL.any f
  | ref n =>
    obtain ⟨a, h1, e1⟩ := h
    obtain ⟨mo, h2, m⟩ := sr.at_ h1
    have e' : (match M[n]? with | some (.lst xs) => some xs | _ => none) = some xs := e
    rw [h2] at e'
    cases mo with
    | lst ds =>
      cases e'
      obtain ⟨vs, q1, q2⟩ := m
      exact ⟨a, vs, e1, .of q1.1, q2⟩
  | _ => cases e
theorem ls_len (sr : SR K W M) (h : Rp K W d v) (e : lsOf d M = some xs) : xs.length ≤ LINE := by
  cases d with
  | lst ds =>
    cases e
    obtain ⟨a, vs, e1, f, r⟩ := h
    rw [r.len]; exact f.2
  | kst ds =>
    cases e
    obtain ⟨a, vs, e1, f, r⟩ := h
    rw [r.len]; exact f.2
  | ref n =>
    obtain ⟨a, h1, e1⟩ := h
    obtain ⟨mo, h2, m⟩ := sr.at_ h1
    have e' : (match M[n]? with | some (.lst xs) => some xs | _ => none) = some xs := e
    rw [h2] at e'
    cases mo with
    | lst ds =>
      cases e'
      obtain ⟨vs, q1, q2⟩ := m
      rw [q2.len]; exact q1.2
  | _ => cases e
theorem tp_sq (h : Rp K W (.tup xs) v) : ∃ a vs, v = .ref a ∧ SqT K W.H a vs ∧ RpL K W xs vs := by
  obtain ⟨a, vs, e1, f, r⟩ := h
  refine ⟨a, vs, e1, ?_, r⟩
  rcases f.1 with ⟨f, _⟩ | f
  · exact .of f
  · exact SqT.any f
theorem sq_len (sr : SR K W M) (h : Rp K W d v) (e : sqOf d M = some xs) : xs.length ≤ LINE := by
  cases d with
  | tup ds =>
    cases e
    obtain ⟨a, vs, e1, f, r⟩ := h
    rw [r.len]; exact f.2
  | lst ds => exact ls_len sr h e
  | kst ds => exact ls_len sr h e
  | ref n => exact ls_len sr h e
  | _ => cases e
theorem sq_sq (sr : SR K W M) (h : Rp K W d v) (e : sqOf d M = some xs) : ∃ a vs, v = .ref a ∧ (SqL K W.H a vs ∨ SqT K W.H a vs) ∧ RpL K W xs vs := by
  have l : lsOf d M = some xs → ∃ a vs, v = .ref a ∧ (SqL K W.H a vs ∨ SqT K W.H a vs) ∧ RpL K W xs vs := fun e => by
    obtain ⟨a, vs, h1, h2, h3⟩ := ls_sq sr h e
    exact ⟨a, vs, h1, .inl h2, h3⟩
  cases d with
  | tup ds =>
    cases e
    obtain ⟨a, vs, h1, h2, h3⟩ := tp_sq h
    exact ⟨a, vs, h1, .inr h2, h3⟩
  | _ => exact l e
end
/-! ### names, constants, two-place operations -/
def fVar (i : Nat) : FE := fun ρ M => match ρ[i]? with | some (some d) => some (d, M) | _ => none
def fC (d : D) : FE := fun _ M => some (d, M)
abbrev G1 := D → Mem → Option D
abbrev G2 := D → D → Mem → Option D
abbrev G2B := D → D → Mem → Option Bool
def f1 (g : G1) (fa : FE) : FE := fun ρ M => (fa ρ M).bind fun a => (g a.1 a.2).bind fun d => some (d, a.2)
def f2 (g : G2) (fa fb : FE) : FE := fun ρ M => (fa ρ M).bind fun a => (fb ρ a.2).bind fun b => (g a.1 b.1 b.2).bind fun d => some (d, b.2)
def gB (g : G2B) : G2 := fun x y M => (g x y M).map .bl
def f2T (g : G2B) (fa fb : FE) : FT := fun ρ M => (fa ρ M).bind fun a => (fb ρ a.2).bind fun b => (g a.1 b.1 b.2).bind fun d => some (d, b.2)
/-- the operation's reading follows from what it computes -/
def Op1 (K : PySem.W.Frag) (r : V → Hp → VK → Prop) (g : G1) : Prop := ∀ (W : Wo) (M : Mem) (x d : D) (v : V) (Q : VK), SR K W M → Rp K W x v → g x M = some d →
  (∀ W' v', Ext W W' → SR K W' M → Rp K W' d v' → Q v' W'.H) → r v W.H Q
def Op2 (K : PySem.W.Frag) (r : R2) (g : G2) : Prop := ∀ (W : Wo) (M : Mem) (x y d : D) (v u : V) (Q : VK), SR K W M → Rp K W x v → Rp K W y u → g x y M = some d →
  (∀ W' v', Ext W W' → SR K W' M → Rp K W' d v' → Q v' W'.H) → r v u W.H Q
section
variable {K : PySem.W.Frag}
theorem lift1 {r : V → Hp → VK → Prop} {g : G1} {fa : FE} (op : Op1 K r g) : ∀ σ H Q, liftE K (f1 g fa) σ H Q → tUn r (liftE K fa) σ H Q := by
  rintro σ H Q ⟨W, ρ, M, rfl, sr, sl, d, M', hf, k⟩
  obtain ⟨⟨x, M1⟩, hx, hf⟩ := Option.bind_eq_some_iff.mp hf
  obtain ⟨d', hg, hf⟩ := Option.bind_eq_some_iff.mp hf
  cases hf
  exact ⟨W, ρ, M, rfl, sr, sl, x, M1, hx, fun W1 v e1 s1 r1 => op W1 _ x d v Q s1 r1 hg fun W2 v' e2 s2 r2 => k W2 v' (e1.trans e2) s2 r2⟩
theorem lift2 {r : R2} {g : G2} {fa fb : FE} (op : Op2 K r g) : ∀ σ H Q, liftE K (f2 g fa fb) σ H Q → tOp r (liftE K fa) (liftE K fb) σ H Q := by
  rintro σ H Q ⟨W, ρ, M, rfl, sr, sl, d, M', hf, k⟩
  obtain ⟨⟨x, M1⟩, hx, hf⟩ := Option.bind_eq_some_iff.mp hf
  obtain ⟨⟨y, M2⟩, hy, hf⟩ := Option.bind_eq_some_iff.mp hf
  obtain ⟨d', hg, hf⟩ := Option.bind_eq_some_iff.mp hf
  cases hf
  exact ⟨W, ρ, M, rfl, sr, sl, x, M1, hx, fun W1 v e1 s1 r1 => ⟨W1, ρ, M1, rfl, s1, sl.ext e1 sr.sub, y, M2, hy, fun W2 u e2 s2 r2 =>
    op W2 _ x y d v u Q s2 (r1.ext e2 s1.sub) r2 hg fun W3 v' e3 s3 r3 => k W3 v' ((e1.trans e2).trans e3) s3 r3⟩⟩
theorem lift2T {r : R2} {g : G2B} {fa fb : FE} (op : Op2 K r (gB g)) : ∀ σ H Q, liftT K (f2T g fa fb) σ H Q → tTest (tOp r (liftE K fa) (liftE K fb)) σ H Q := by
  rintro σ H Q ⟨W, ρ, M, rfl, sr, sl, d, M', hf, k⟩
  obtain ⟨⟨x, M1⟩, hx, hf⟩ := Option.bind_eq_some_iff.mp hf
  obtain ⟨⟨y, M2⟩, hy, hf⟩ := Option.bind_eq_some_iff.mp hf
  obtain ⟨d', hg, hf⟩ := Option.bind_eq_some_iff.mp hf
  cases hf
  exact ⟨W, ρ, M, rfl, sr, sl, x, M1, hx, fun W1 v e1 s1 r1 => ⟨W1, ρ, M1, rfl, s1, sl.ext e1 sr.sub, y, M2, hy, fun W2 u e2 s2 r2 =>
    op W2 _ x y (.bl d) v u _ s2 (r1.ext e2 s1.sub) r2 (by rw [gB, hg]; rfl) fun W3 v' e3 s3 r3 => ⟨d, r3, k W3 ((e1.trans e2).trans e3) s3⟩⟩⟩
theorem Op2.or {r r' : R2} {g g' : G2} (h : Op2 K r g) (h' : Op2 K r' g') : Op2 K (fun x y H Q => r x y H Q ∨ r' x y H Q) (fun x y M => (g x y M).orElse fun _ => g' x y M) := by
  intro W M x y d v u Q sr rx ry hg k
  cases q : g x y M with
  | some z =>
    simp only [q, Option.orElse_some, Option.some.injEq] at hg
    subst hg
    exact .inl (h W M x y z v u Q sr rx ry q k)
  | none =>
    simp only [q, Option.orElse_none] at hg
    exact .inr (h' W M x y d v u Q sr rx ry hg k)
theorem Op2.sum {r r' : R2} {g : G2} (h : ∀ (W : Wo) (M : Mem) (x y d : D) (v u : V) (Q : VK), SR K W M → Rp K W x v → Rp K W y u → g x y M = some d →
  (∀ W' v', Ext W W' → SR K W' M → Rp K W' d v' → Q v' W'.H) → r v u W.H Q ∨ r' v u W.H Q) : Op2 K (fun x y H Q => r x y H Q ∨ r' x y H Q) g := h
end
section
variable {X : Cx} {a b c : Expr} {fa fb fc : FE} {pos : Pos}
theorem pf_var (i : Nat) {x : Str} {pos : Pos} (hN : X.N[i]? = some x := by rfl) (hv : Vis X.env.scope x := by first | exact Or.inl rfl | exact Or.inr (Or.inl rfl) | exact Or.inr (Or.inr rfl)) (hd : (x == ("__debug__" : Str)) = false := by decide)
    (hcd : (x == ("__classdict__" : Str)) = false := by decide) : PFE X (.Name x pos) (fVar i) := pe_weak (pe_var hN hv hd hcd) fun σ H Q ⟨W, ρ, M, hW, sr, sl, d, M', hf, k⟩ => by
  subst hW
  unfold fVar at hf
  split at hf
  · rename_i d' hd'
    cases hf
    obtain ⟨v, h1, h2⟩ := sl.at_ i _ hd'
    exact ⟨v, h1, k W v (.refl W) sr h2⟩
  · cases hf
theorem pf_c {d : D} {v : V} {e : Expr} (h : PE X e (tC v)) (r : ∀ W, Rp X.K W d v) : PFE X e (fC d) := pe_weak h fun σ H Q ⟨W, ρ, M, hW, sr, sl, d, M', hf, k⟩ => by
  subst hW
  cases hf
  exact k W v (.refl W) sr (r W)
theorem pf_int {i : Int} {j pos} : PFE X (.Constant (.int i) j pos) (fC (.int i)) := pf_c pe_int fun _ => rfl
theorem pf_bl {i : Bool} {j pos} : PFE X (.Constant (.bool i) j pos) (fC (.bl i)) := pf_c pe_bl fun _ => rfl
theorem pf_non {j pos} : PFE X (.Constant .none j pos) (fC .non) := pf_c pe_non fun _ => rfl
theorem pf_str {i : Str} {j pos} : PFE X (.Constant (.str i) j pos) (fC (.str i)) := pf_c pe_str fun _ => rfl
theorem pf_un {op : UnaryOp} {r : V → Hp → VK → Prop} {g : G1} (ho : UnR X (unaryOp op) r) (o : Op1 X.K r g) (ha : PFE X a fa) : PFE X (.UnaryOp op a pos) (f1 g fa) := pe_weak (pe_un ho ha) (lift1 o)
theorem pf_bin {op : Operator} {r : R2} {g : G2} (ho : OpR X (binaryOp op) r) (o : Op2 X.K r g) (ha : PFE X a fa) (hb : PFE X b fb) : PFE X (.BinOp a op b pos) (f2 g fa fb) := pe_weak (pe_op ho ha hb) (lift2 o)
theorem pf_cmp {op : CmpOp} {r : R2} {g : G2B} (ho : OpR X (compareOp op) r) (o : Op2 X.K r (gB g)) (ha : PFE X a fa) (hb : PFE X b fb) (hm : behindInMarks op b = false) : PFE X (.Compare a [op] [b] pos) (f2 (gB g) fa fb) := pe_weak (pe_cmpR ho ha hb hm) (lift2 o)
theorem pft_cmp {op : CmpOp} {r : R2} {g : G2B} (ho : OpR X (compareOp op) r) (o : Op2 X.K r (gB g)) (ha : PFE X a fa) (hb : PFE X b fb) (hm : behindInMarks op b = false) : PFT X (.Compare a [op] [b] pos) (f2T g fa fb) := pt_weak (pt_cmpR ho ha hb hm) (lift2T o)
theorem pf_ix {r : R2} {g : G2} (hr : IxR X r) (o : Op2 X.K r g) (ha : PFE X a fa) (hb : PFE X b fb) (hs : PlainIx b) : PFE X (.Subscript a b pos) (f2 g fa fb) := pe_weak (pe_ix hr ha hb hs) (lift2 o)
end
end PF
namespace PF
open PySem PySem.Spec PyProof.Rows L2
/-! ### arithmetic -/
/-- lists that are tracked as they are -/
def ltOf : D → Mem → Option (List D)
  | .lst xs, _ => some xs
  | .ref n, M => match M[n]? with | some (.lst xs) => some xs | _ => none
  | _, _ => none
theorem lt_sq {K : PySem.W.Frag} {W : Wo} {M : Mem} {d : D} {v : V} {xs : List D} (sr : SR K W M) (h : Rp K W d v) (e : ltOf d M = some xs) : ∃ a vs, v = .ref a ∧ W.H a = some (.lst vs) ∧ RpL K W xs vs := by
  cases d with
  | lst ds =>
    cases e
    obtain ⟨a, vs, e1, f, r⟩ := h
    exact ⟨a, vs, e1, f.1.1, r⟩
  | ref n =>
    obtain ⟨a, h1, e1⟩ := h
    obtain ⟨mo, h2, m⟩ := sr.at_ h1
    have e' : (match M[n]? with | some (.lst xs) => some xs | _ => none) = some xs := e
    rw [h2] at e'
    cases mo with
    | lst ds =>
      cases e'
      obtain ⟨vs, q1, q2⟩ := m
      exact ⟨a, vs, e1, q1.1, q2⟩
  | _ => cases e
def gAdd : G2 := fun x y M => match x, y with
  | .int i, .int j => some (.int (i + j))
  | .str a, .str b => if a.length + b.length ≤ LINE then some (.str (a ++ b)) else none
  | .tup a, .tup b => if a.length + b.length ≤ LINE then some (.tup (a ++ b)) else none
  | x, y => match ltOf x M, ltOf y M with
    | some a, some b => if a.length + b.length ≤ LINE then some (.lst (a ++ b)) else none
    | _, _ => none
def rAddA (K : PySem.W.Frag) : R2 := fun x y H Q => rI0 (fun i j => .int (i + j)) x y H Q ∨ (∃ i j, x = .str i ∧ y = .str j ∧ i.length + j.length ≤ sizeLine ∧ Q (.str (i ++ j)) H) ∨ rCatA K x y H Q ∨ rCat x y H Q
theorem op_addA {X : Cx} : OpR X (binaryOp .Add) (rAddA X.K) := op_add.or (op_add_str.or (op_catA.or op_cat))
theorem o_add {K : PySem.W.Frag} : Op2 K (rAddA K) gAdd := by
  intro W M x y d v u Q sr rx ry hg k
  have lists : (match ltOf x M, ltOf y M with
    | some a, some b => if a.length + b.length ≤ LINE then some (D.lst (a ++ b)) else none
    | _, _ => none) = some d → rCat v u W.H Q := fun e => by
    split at e
    · rename_i a b ha hb
      split at e
      · rename_i hl
        cases e
        obtain ⟨p, vs, rfl, h1, r1⟩ := lt_sq sr rx ha
        obtain ⟨q, us, rfl, h2, r2⟩ := lt_sq sr ry hb
        exact ⟨p, q, vs, us, rfl, rfl, h1, h2, by rw [line_eq, ← r1.len, ← r2.len]; exact hl, fun t nt => k _ _ (Ext.put nt) (sr.put nt) (.newLst sr nt (r1.append r2) (by rw [List.length_append, ← r1.len, ← r2.len]; exact hl))⟩
      · cases e
    · cases e
  unfold gAdd at hg
  split at hg
  · cases hg
    cases rx; cases ry
    exact .inl ⟨_, _, rfl, rfl, k W _ (.refl W) sr rfl⟩
  · split at hg
    · rename_i hl
      cases hg
      cases rx; cases ry
      exact .inr (.inl ⟨_, _, rfl, rfl, by rw [line_eq]; exact hl, k W _ (.refl W) sr rfl⟩)
    · cases hg
  · split at hg
    · rename_i a b hl
      cases hg
      obtain ⟨p, vs, rfl, h1, r1⟩ := tp_sq rx
      obtain ⟨q, us, rfl, h2, r2⟩ := tp_sq ry
      refine .inr (.inr (.inl ⟨p, q, vs, us, rfl, rfl, h1, h2, by rw [line_eq, ← r1.len, ← r2.len]; exact hl, fun e => ?_, fun _ e => ?_, fun _ _ t nt => k _ _ (Ext.put nt) (sr.put nt) (.newTup sr nt (r1.append r2) (by rw [List.length_append, ← r1.len, ← r2.len]; exact hl))⟩))
      · subst e
        have : a = [] := List.eq_nil_of_length_eq_zero r1.len
        subst this
        exact k W _ (.refl W) sr ry
      · subst e
        have : b = [] := List.eq_nil_of_length_eq_zero r2.len
        subst this
        exact k W _ (.refl W) sr (by rw [List.append_nil]; exact rx)
    · cases hg
  · exact .inr (.inr (.inr (lists hg)))
def rInts (f : Int → Int → Int) : G2 := fun x y _ => match x, y with | .int i, .int j => some (.int (f i j)) | _, _ => none
def gInts (c : Int → Int → Bool) (f : Int → Int → Int) : G2 := fun x y _ => match x, y with | .int i, .int j => if c i j then some (.int (f i j)) else none | _, _ => none
theorem o_ints0 {K : PySem.W.Frag} {f : Int → Int → Int} : Op2 K (rI0 fun i j => .int (f i j)) (rInts f) := by
  intro W M x y d v u Q sr rx ry hg k
  unfold rInts at hg
  split at hg
  · cases hg
    cases rx; cases ry
    exact ⟨_, _, rfl, rfl, k W _ (.refl W) sr rfl⟩
  · cases hg
theorem o_ints {K : PySem.W.Frag} {C : Int → Int → Prop} {c : Int → Int → Bool} {f : Int → Int → Int} (hc : ∀ i j, c i j = true → C i j) : Op2 K (rI C fun i j => .int (f i j)) (gInts c f) := by
  intro W M x y d v u Q sr rx ry hg k
  unfold gInts at hg
  split at hg
  · split at hg
    · rename_i h
      cases hg
      cases rx; cases ry
      exact ⟨_, _, rfl, rfl, hc _ _ h, k W _ (.refl W) sr rfl⟩
    · cases hg
  · cases hg
def gSub : G2 := rInts fun i j => i - j
def okMul (i j : Int) : Bool := decide (i.natAbs < 18446744073709551616) || (decide (j.natAbs < 18446744073709551616) || decide (i.natAbs.log2 + j.natAbs.log2 < 1000000))
def okDiv (j : Int) : Bool := decide (j ≠ 0) && decide (j.natAbs.log2 < 9000)
def okPow (i j : Int) : Bool := decide (0 ≤ j) && (decide (j ≤ 1000000) && decide (i.natAbs < 18446744073709551616))
def gMul : G2 := fun x y M => match x, y with
  | .int i, .int j => if okMul i j then some (.int (i * j)) else none
  | x, .int j => match ltOf x M with
    | some xs => if decide (-(9223372036854775808) ≤ j) && (decide (j < 9223372036854775808) && decide (xs.length * j.toNat ≤ LINE)) then some (.lst (List.replicate j.toNat xs).flatten) else none
    | none => none
  | _, _ => none
def gFdiv : G2 := gInts (fun _ j => okDiv j) Int.fdiv
def gMod : G2 := gInts (fun _ j => decide (j ≠ 0)) Int.fmod
def gPow : G2 := gInts okPow fun i j => i ^ j.toNat
theorem op_fdivA {X : Cx} : OpR X (binaryOp .FloorDiv) (rI (fun _ j => j ≠ 0 ∧ j.natAbs.log2 < 9000) fun i j => .int (i.fdiv j)) := opI fun _ _ _ _ _ _ _ hc q => floordiv_int hc.1 q (.inl (PyProof.noPylong_of_log2 hc.2))
theorem o_sub {K : PySem.W.Frag} : Op2 K (rI0 fun i j => .int (i - j)) gSub := o_ints0
theorem RpL.rep {K : PySem.W.Frag} {W : Wo} {xs : List D} {vs : List V} (h : RpL K W xs vs) : ∀ n : Nat, RpL K W (List.replicate n xs).flatten (List.replicate n vs).flatten
  | 0 => rfl
  | n + 1 => by
    rw [List.replicate_succ, List.replicate_succ, List.flatten_cons, List.flatten_cons]
    exact h.append (RpL.rep h n)
theorem okMul_ok {i j : Int} (h : okMul i j = true) : IntMulOk i j := by
  unfold okMul at h
  simp only [Bool.or_eq_true, decide_eq_true_eq] at h
  rcases h with h | h | h
  · exact CMul.ok (.inl ⟨by omega, by omega⟩)
  · exact CMul.ok (.inr ⟨by omega, by omega⟩)
  · exact CMulW.ok h
def rMulA : R2 := fun x y H Q => rI IntMulOk (fun i j => .int (i * j)) x y H Q ∨ rRep x y H Q
theorem op_mulA {X : Cx} : OpR X (binaryOp .Mult) rMulA := OpR.or (opI fun _ _ _ _ _ _ _ hc q => mul_int q hc) op_rep
theorem o_mul {K : PySem.W.Frag} : Op2 K rMulA gMul := by
  intro W M x y d v u Q sr rx ry hg k
  unfold gMul at hg
  split at hg
  · split at hg
    · rename_i h
      cases hg
      cases rx; cases ry
      exact .inl ⟨_, _, rfl, rfl, okMul_ok h, k W _ (.refl W) sr rfl⟩
    · cases hg
  · split at hg
    · rename_i xs hx
      split at hg
      · rename_i h
        cases hg
        simp only [Bool.and_eq_true, decide_eq_true_eq] at h
        obtain ⟨p, vs, rfl, h1, r1⟩ := lt_sq sr rx hx
        cases ry
        exact .inr ⟨p, _, vs, rfl, rfl, h1, h.1, h.2.1, by rw [line_eq, ← r1.len]; exact h.2.2, fun t nt => k _ _ (Ext.put nt) (sr.put nt) (.newLst sr nt (r1.rep _) (by rw [← (r1.rep _).len, PyProof.Rows.lm_len_rep_flat, Nat.mul_comm]; exact h.2.2))⟩
      · cases hg
    · cases hg
  · cases hg
theorem o_fdiv {K : PySem.W.Frag} : Op2 K (rI (fun _ j => j ≠ 0 ∧ j.natAbs.log2 < 9000) fun i j => .int (i.fdiv j)) gFdiv := o_ints fun i j h => by
  unfold okDiv at h
  simp only [Bool.and_eq_true, decide_eq_true_eq] at h
  exact h
theorem o_mod {K : PySem.W.Frag} : Op2 K (rI (fun _ j => j ≠ 0) fun i j => .int (i.fmod j)) gMod := o_ints fun i j h => of_decide_eq_true h
theorem o_pow {K : PySem.W.Frag} : Op2 K (rI CPow fun i j => .int (i ^ j.toNat)) gPow := o_ints fun i j h => by
  unfold okPow at h
  simp only [Bool.and_eq_true, decide_eq_true_eq] at h
  exact ⟨h.1, h.2.1, h.2.2⟩
def gNeg : G1 := fun x _ => match x with | .int i => some (.int (-i)) | _ => none
theorem o_neg {K : PySem.W.Frag} : Op1 K (rU fun i => .int (-i)) gNeg := by
  intro W M x d v Q sr rx hg k
  unfold gNeg at hg
  split at hg
  · cases hg
    cases rx
    exact ⟨_, rfl, k W _ (.refl W) sr rfl⟩
  · cases hg
/-! ### comparisons -/
def gCmp (c : Int → Int → Bool) : G2B := fun x y _ => match x, y with | .int i, .int j => some (c i j) | _, _ => none
theorem o_cmp {K : PySem.W.Frag} {c : Int → Int → Bool} : Op2 K (rI0 fun i j => .bl (c i j)) (gB (gCmp c)) := by
  intro W M x y d v u Q sr rx ry hg k
  unfold gB gCmp at hg
  split at hg
  · cases hg
    cases rx; cases ry
    exact ⟨_, _, rfl, rfl, k W _ (.refl W) sr rfl⟩
  · cases hg
/-! Python's == -/
mutual
def D.py : D → PyData
  | .non => .none
  | .bl b => .bool b
  | .int i => .int i
  | .str x => .str x
  | .tup xs => .tuple (D.pys xs)
  | .lst xs => .list (D.pys xs)
  | .kst xs => .list (D.pys xs)
  | .ref _ => .none
def D.pys : List D → List PyData
  | [] => []
  | x :: xs => x.py :: D.pys xs
end
mutual
/-- without references, at most n deep -/
def D.dp : Nat → D → Bool
  | _, .non => true
  | _, .bl _ => true
  | _, .int _ => true
  | _, .str x => PyData.strOk x
  | n, .tup xs => decide (0 < n) && D.dps (n - 1) xs
  | n, .lst xs => decide (0 < n) && D.dps (n - 1) xs
  | n, .kst xs => decide (0 < n) && D.dps (n - 1) xs
  | _, .ref _ => false
def D.dps : Nat → List D → Bool
  | _, [] => true
  | n, x :: xs => D.dp n x && D.dps n xs
end
/-- a list that is referred to, as a list -/
def D.val (d : D) (M : Mem) : Option D := match d with
  | .ref n => match M[n]? with | some (.lst xs) => some (.lst xs) | _ => none
  | d => some d
def gEq : G2B := fun x y M => match x.val M, y.val M with
  | some a, some b => if a.dp 60 && b.dp 60 then some (PyData.eqv a.py b.py) else none
  | _, _ => none
def gNe : G2B := fun x y M => (gEq x y M).map (! ·)
section
variable {K : PySem.W.Frag} {W : Wo} {M : Mem}
mutual
theorem dp_Dp : ∀ (n : Nat) (d : D) (v : V), d.dp n = true → Rp K W d v → Dp K W.H v d.py
  | _, .non, v, _, h => by cases (show _ = _ from h); exact .non
  | _, .bl b, v, _, h => by cases (show _ = _ from h); exact .bl b
  | _, .int b, v, _, h => by cases (show _ = _ from h); exact .int b
  | _, .str b, v, _, h => by cases (show _ = _ from h); exact .str b
  | n, .tup xs, v, hd, h => by
    obtain ⟨a, vs, e, h1, r⟩ := tp_sq h
    subst e
    rw [D.dp, Bool.and_eq_true] at hd
    rw [D.py]
    exact .tup h1 (dp_Dps (n - 1) xs vs hd.2 r)
  | n, .lst xs, v, hd, h => by
    obtain ⟨a, vs, e, f, r⟩ := h
    subst e
    rw [D.dp, Bool.and_eq_true] at hd
    rw [D.py]
    exact .lst (.of f.1.1) (dp_Dps (n - 1) xs vs hd.2 r)
  | n, .kst xs, v, hd, h => by
    obtain ⟨a, vs, e, f, r⟩ := h
    subst e
    rw [D.dp, Bool.and_eq_true] at hd
    rw [D.py]
    refine .lst ?_ (dp_Dps (n - 1) xs vs hd.2 r)
    rcases f.1 with ⟨⟨o, f⟩, _⟩ | f
    · exact .inl (.inr ⟨o, f⟩)
    · exact SqL.any f
  | _, .ref _, _, hd, _ => by rw [D.dp] at hd; cases hd
theorem dp_Dps : ∀ (n : Nat) (ds : List D) (vs : List V), D.dps n ds = true → RpL K W ds vs → DpAll K W.H vs (D.pys ds)
  | _, [], vs, _, h => by cases (show _ = _ from h); rw [D.pys]; exact .nil
  | n, d :: ds, vs, hd, h => by
    obtain ⟨v, r, e, h1, h2⟩ := h
    subst e
    rw [D.dps, Bool.and_eq_true] at hd
    rw [D.pys]
    exact .cons (dp_Dp n d v hd.1 h1) (dp_Dps n ds r hd.2 h2)
end
mutual
theorem dp_can : ∀ (n : Nat) (d : D), d.dp n = true → d.py.canLay0 = true ∧ d.py.depth ≤ n
  | n, .non, _ => by rw [D.py]; exact ⟨by simp [PyData.canLay0], by simp [PyData.depth]⟩
  | n, .bl _, _ => by rw [D.py]; exact ⟨by simp [PyData.canLay0], by simp [PyData.depth]⟩
  | n, .int _, _ => by rw [D.py]; exact ⟨by simp [PyData.canLay0], by simp [PyData.depth]⟩
  | n, .str _, h => by rw [D.py]; rw [D.dp] at h; exact ⟨by simpa [PyData.canLay0] using h, by simp [PyData.depth]⟩
  | n, .tup xs, h => by
    rw [D.dp, Bool.and_eq_true, decide_eq_true_eq] at h
    obtain ⟨h1, h2⟩ := dps_can (n - 1) xs h.2
    rw [D.py]
    exact ⟨by simpa [PyData.canLay0] using h1, by simp only [PyData.depth]; omega⟩
  | n, .lst xs, h => by
    rw [D.dp, Bool.and_eq_true, decide_eq_true_eq] at h
    obtain ⟨h1, h2⟩ := dps_can (n - 1) xs h.2
    rw [D.py]
    exact ⟨by simpa [PyData.canLay0] using h1, by simp only [PyData.depth]; omega⟩
  | n, .kst xs, h => by
    rw [D.dp, Bool.and_eq_true, decide_eq_true_eq] at h
    obtain ⟨h1, h2⟩ := dps_can (n - 1) xs h.2
    rw [D.py]
    exact ⟨by simpa [PyData.canLay0] using h1, by simp only [PyData.depth]; omega⟩
  | _, .ref _, h => by rw [D.dp] at h; cases h
theorem dps_can : ∀ (n : Nat) (ds : List D), D.dps n ds = true → PyData.canLayAll0 (D.pys ds) = true ∧ PyData.depthAll (D.pys ds) ≤ n
  | n, [], _ => by rw [D.pys]; exact ⟨by simp [PyData.canLayAll0], by simp [PyData.depthAll]⟩
  | n, d :: ds, h => by
    rw [D.dps, Bool.and_eq_true] at h
    obtain ⟨h1, h2⟩ := dp_can n d h.1
    obtain ⟨h3, h4⟩ := dps_can n ds h.2
    rw [D.pys]
    exact ⟨by simp [PyData.canLayAll0, h1, h3], by simp only [PyData.depthAll]; omega⟩
end
theorem val_Rp {d d' : D} {v : V} (sr : SR K W M) (h : Rp K W d v) (e : d.val M = some d') (hp : d'.dp 60 = true) : Dp K W.H v d'.py := by
  cases d with
  | ref n =>
    obtain ⟨a, h1, e1⟩ := h
    obtain ⟨mo, h2, m⟩ := sr.at_ h1
    have e' : (match M[n]? with | some (.lst xs) => some (D.lst xs) | _ => none) = some d' := e
    rw [h2] at e'
    cases mo with
    | lst ds =>
      cases e'
      obtain ⟨vs, q1, q2⟩ := m
      subst e1
      rw [D.dp, Bool.and_eq_true] at hp
      rw [D.py]
      exact .lst (.of q1.1) (dp_Dps _ ds vs hp.2 q2)
  | _ => cases e; exact dp_Dp 60 _ v hp h
theorem shaped_of {d : D} (h : d.dp 60 = true) : SeqAt.shaped d.py = true := by
  obtain ⟨h1, h2⟩ := dp_can 60 d h
  unfold SeqAt.shaped
  rw [h1, decide_eq_true (Nat.le_trans h2 (by decide))]
  rfl
theorem o_eq : Op2 K (rEqD K) (gB gEq) := by
  intro W M x y d v u Q sr rx ry hg k
  unfold gB gEq at hg
  split at hg
  · rename_i a b ha hb
    split at hg
    · rename_i h
      cases hg
      rw [Bool.and_eq_true] at h
      exact ⟨_, _, val_Rp sr rx ha h.1, val_Rp sr ry hb h.2, shaped_of h.1, shaped_of h.2, k W _ (.refl W) sr rfl⟩
    · cases hg
  · cases hg
theorem o_ne : Op2 K (rNeD K) (gB gNe) := by
  intro W M x y d v u Q sr rx ry hg k
  unfold gB gNe gEq at hg
  split at hg
  · rename_i a b ha hb
    split at hg
    · rename_i h
      cases hg
      rw [Bool.and_eq_true] at h
      exact ⟨_, _, val_Rp sr rx ha h.1, val_Rp sr ry hb h.2, shaped_of h.1, shaped_of h.2, k W _ (.refl W) sr rfl⟩
    · cases hg
  · cases hg
/-- is None; is True, is False of a bool -/
def isNon : D → Bool
  | .non => true
  | _ => false
def gIs : G2B := fun x y _ => match y with
  | .non => some (isNon x)
  | .bl b => match x with | .bl a => some (decide (a = b)) | _ => none
  | _ => none
def gIsNot : G2B := fun x y M => (gIs x y M).map (! ·)
theorem isNon_rel {d : D} {v : V} (h : Rp K W d v) : decide (v = .non) = isNon d := by
  cases d with
  | non => cases (show _ = _ from h); rfl
  | bl _ => cases (show _ = _ from h); rfl
  | int _ => cases (show _ = _ from h); rfl
  | str _ => cases (show _ = _ from h); rfl
  | tup _ => obtain ⟨a, vs, e, _⟩ := h; subst e; rfl
  | lst _ => obtain ⟨a, vs, e, _⟩ := h; subst e; rfl
  | kst _ => obtain ⟨a, vs, e, _⟩ := h; subst e; rfl
  | ref _ => obtain ⟨a, _, e⟩ := h; subst e; rfl
end
def rIsA : R2 := fun x y H Q => (y = .non ∧ Q (.bl (decide (x = .non))) H) ∨ rIsB x y H Q
def rIsNotA : R2 := fun x y H Q => (y = .non ∧ Q (.bl (!decide (x = .non))) H) ∨ rNotB x y H Q
theorem op_isA {X : Cx} : OpR X (compareOp .Is) rIsA := op_isN.or op_isBl
theorem op_isNotA {X : Cx} : OpR X (compareOp .IsNot) rIsNotA := op_notN.or op_notBl
theorem o_is {K : PySem.W.Frag} : Op2 K rIsA (gB gIs) := by
  intro W M x y d v u Q sr rx ry hg k
  unfold gB gIs at hg
  split at hg
  · cases hg
    cases (show _ = _ from ry)
    exact .inl ⟨rfl, k W _ (.refl W) sr (by rw [isNon_rel rx]; rfl)⟩
  · split at hg
    · cases hg
      cases (show _ = _ from ry); cases (show _ = _ from rx)
      exact .inr ⟨_, _, rfl, rfl, k W _ (.refl W) sr rfl⟩
    · cases hg
  · cases hg
theorem o_isNot {K : PySem.W.Frag} : Op2 K rIsNotA (gB gIsNot) := by
  intro W M x y d v u Q sr rx ry hg k
  unfold gB gIsNot gIs at hg
  split at hg
  · cases hg
    cases (show _ = _ from ry)
    exact .inl ⟨rfl, k W _ (.refl W) sr (by rw [isNon_rel rx]; rfl)⟩
  · split at hg
    · cases hg
      cases (show _ = _ from ry); cases (show _ = _ from rx)
      exact .inr ⟨_, _, rfl, rfl, k W _ (.refl W) sr rfl⟩
    · cases hg
  · cases hg
/-! ### subscripts -/
def ixD (xs : List D) (i : Int) : Option D := atI xs i
def gIx : G2 := fun x y M => match y with
  | .int i => match x with
    | .str z => if z.length ≤ LINE then (atI z.cps.toList i).map fun c => .str ⟨#[c]⟩ else none
    | x => (sqOf x M).bind fun xs => atI xs i
  | _ => none
theorem RpL.atI {K : PySem.W.Frag} {W : Wo} {xs : List D} {vs : List V} {i : Int} {d : D} (h : RpL K W xs vs) (e : atI xs i = some d) : ∃ v, L2.atI vs i = some v ∧ Rp K W d v := by
  unfold L2.atI at e ⊢
  rw [← h.len]
  obtain ⟨j, hj, e⟩ := Option.bind_eq_some_iff.mp e
  obtain ⟨v, h1, h2⟩ := h.get e
  exact ⟨v, by rw [hj]; exact h1, h2⟩
theorem o_ix {K : PySem.W.Frag} : Op2 K (rIx K) gIx := by
  intro W M x y d v u Q sr rx ry hg k
  unfold gIx at hg
  split at hg
  · cases (show _ = _ from ry)
    split at hg
    · split at hg
      · rename_i h
        cases (show _ = _ from rx)
        obtain ⟨c, hc, hg⟩ := Option.map_eq_some_iff.mp hg
        subst hg
        exact .inr (.inr ⟨_, _, c, rfl, rfl, by rw [line_eq]; exact h, hc, k W _ (.refl W) sr rfl⟩)
      · cases hg
    · obtain ⟨xs, hx, hg⟩ := Option.bind_eq_some_iff.mp hg
      obtain ⟨p, vs, rfl, h1, r1⟩ := sq_sq sr rx hx
      obtain ⟨z, h2, r2⟩ := r1.atI hg
      rcases h1 with h1 | h1
      · exact .inl ⟨p, vs, _, z, rfl, rfl, h1, h2, k W _ (.refl W) sr r2⟩
      · exact .inr (.inl ⟨p, vs, _, z, rfl, rfl, h1, h2, k W _ (.refl W) sr r2⟩)
  · cases hg
end PF
namespace PF
open PySem PySem.Spec PyProof.Rows L2
/-! ### truth, and, or, not -/
def gTru (d : D) (M : Mem) : Option Bool := match d with
  | .non => some false
  | .bl b => some b
  | .int i => some (i != 0)
  | .str x => if x.length ≤ LINE then some ((x.length : Int) != 0) else none
  | d => (sqOf d M).map fun xs => !xs.isEmpty
section
variable {K : PySem.W.Frag} {W : Wo} {M : Mem}
theorem RpL.emp {xs : List D} {vs : List V} (h : RpL K W xs vs) : (!xs.isEmpty) = !vs.isEmpty := by
  cases xs with
  | nil => cases (show _ = _ from h); rfl
  | cons d ds => obtain ⟨v, r, e, _⟩ := h; subst e; rfl
theorem tru_of {d : D} {v : V} {k : Bool} (sr : SR K W M) (h : Rp K W d v) (e : gTru d M = some k) : TruV K v W.H k := by
  have seq : (sqOf d M).map (fun xs => !xs.isEmpty) = some k → TruV K v W.H k := fun e => by
    obtain ⟨xs, hx, e⟩ := Option.map_eq_some_iff.mp e
    obtain ⟨a, vs, e1, h1, r⟩ := sq_sq sr h hx
    subst e1
    rcases h1 with h1 | h1
    · exact .inl ⟨vs, h1, by rw [← e]; exact r.emp⟩
    · exact .inr (.inl ⟨vs, h1, by rw [← e]; exact r.emp⟩)
  cases d with
  | non => cases (show _ = _ from h); cases e; exact rfl
  | bl b => cases (show _ = _ from h); cases e; exact rfl
  | int i => cases (show _ = _ from h); cases e; exact rfl
  | str x =>
    cases (show _ = _ from h)
    have e' : (if x.length ≤ LINE then some ((x.length : Int) != 0) else none) = some k := e
    split at e'
    · rename_i hl
      cases e'
      exact ⟨by rw [line_eq]; exact hl, rfl⟩
    · cases e'
  | _ => exact seq e
end
def fTru (fa : FE) : FT := fun ρ M => (fa ρ M).bind fun a => (gTru a.1 a.2).bind fun k => some (k, a.2)
def fNot (fa : FT) : FT := fun ρ M => (fa ρ M).bind fun a => some (!a.1, a.2)
def fAnd (fa fb : FT) : FT := fun ρ M => (fa ρ M).bind fun a => if a.1 = true then fb ρ a.2 else some (false, a.2)
def fOr (fa fb : FT) : FT := fun ρ M => (fa ρ M).bind fun a => if a.1 = true then some (true, a.2) else fb ρ a.2
def fAndV (fa fb : FE) : FE := fun ρ M => (fa ρ M).bind fun a => (gTru a.1 a.2).bind fun k => if k = true then fb ρ a.2 else some a
def fOrV (fa fb : FE) : FE := fun ρ M => (fa ρ M).bind fun a => (gTru a.1 a.2).bind fun k => if k = true then some a else fb ρ a.2
def fNotV (fa : FE) : FE := fun ρ M => (fa ρ M).bind fun a => (gTru a.1 a.2).bind fun k => some (.bl (!k), a.2)
def fIfE (fc : FT) (fa fb : FE) : FE := fun ρ M => (fc ρ M).bind fun c => if c.1 = true then fa ρ c.2 else fb ρ c.2
def fChain (g g' : G2B) (fa fb fc : FE) : FE := fun ρ M => (fa ρ M).bind fun a => (fb ρ a.2).bind fun b => (g a.1 b.1 b.2).bind fun k =>
  if k = true then (fc ρ b.2).bind fun c => (g' b.1 c.1 c.2).bind fun z => some (.bl z, c.2) else some (.bl false, b.2)
def fChainT (g g' : G2B) (fa fb fc : FE) : FT := fun ρ M => (fa ρ M).bind fun a => (fb ρ a.2).bind fun b => (g a.1 b.1 b.2).bind fun k =>
  if k = true then (fc ρ b.2).bind fun c => (g' b.1 c.1 c.2).bind fun z => some (z, c.2) else some (false, b.2)
section
variable {X : Cx} {a b c : Expr} {rest : List Expr} {fa fb fc : FE} {ta tb : FT} {pos : Pos}
theorem pft_tru (ha : PFE X a fa) (he : ∀ whole, isTrue a X.env whole = (do let v ← whole; standAt a.pos; holding [v] (truthy v)) := by intro _; rfl) : PFT X a (fTru fa) := pt_weak (pt_truth ha he) fun σ H Q => by
  rintro ⟨W, ρ, M, rfl, sr, sl, d, M', hf, k⟩
  obtain ⟨⟨x, M1⟩, hx, hf⟩ := Option.bind_eq_some_iff.mp hf
  obtain ⟨t, ht, hf⟩ := Option.bind_eq_some_iff.mp hf
  cases hf
  exact ⟨W, ρ, M, rfl, sr, sl, x, _, hx, fun W1 v e1 s1 r1 => ⟨_, tru_of s1 r1 ht, k W1 e1 s1⟩⟩
theorem pft_not (ha : PFT X a ta) : PFT X (.UnaryOp .Not a pos) (fNot ta) := pt_weak (pt_not ha) fun σ H Q => by
  rintro ⟨W, ρ, M, rfl, sr, sl, d, M', hf, k⟩
  obtain ⟨⟨x, M1⟩, hx, hf⟩ := Option.bind_eq_some_iff.mp hf
  cases hf
  exact ⟨W, ρ, M, rfl, sr, sl, x, _, hx, fun W1 e1 s1 => k W1 e1 s1⟩
theorem pfw_and1 (ha : PFT X a ta) : PFW X (.BoolOp .And [a] pos) ta := pw_and1 ha
theorem pfw_or1 (ha : PFT X a ta) : PFW X (.BoolOp .Or [a] pos) ta := pw_or1 ha
theorem pfw_and (ha : PFT X a ta) (hb : PFW X (.BoolOp .And (b :: rest) pos) tb) : PFW X (.BoolOp .And (a :: b :: rest) pos) (fAnd ta tb) := pw_weak (pw_and ha hb) fun σ H Q => by
  rintro ⟨W, ρ, M, rfl, sr, sl, d, M', hf, k⟩
  obtain ⟨⟨x, M1⟩, hx, hf⟩ := Option.bind_eq_some_iff.mp hf
  refine ⟨W, ρ, M, rfl, sr, sl, x, M1, hx, fun W1 e1 s1 => ?_⟩
  cases x with
  | true =>
    rw [if_pos rfl] at hf ⊢
    exact ⟨W1, ρ, M1, rfl, s1, sl.ext e1 sr.sub, d, M', hf, fun W2 e2 s2 => k W2 (e1.trans e2) s2⟩
  | false =>
    rw [if_neg Bool.false_ne_true] at hf ⊢
    cases hf
    exact k W1 e1 s1
theorem pfw_or (ha : PFT X a ta) (hb : PFW X (.BoolOp .Or (b :: rest) pos) tb) : PFW X (.BoolOp .Or (a :: b :: rest) pos) (fOr ta tb) := pw_weak (pw_or ha hb) fun σ H Q => by
  rintro ⟨W, ρ, M, rfl, sr, sl, d, M', hf, k⟩
  obtain ⟨⟨x, M1⟩, hx, hf⟩ := Option.bind_eq_some_iff.mp hf
  refine ⟨W, ρ, M, rfl, sr, sl, x, M1, hx, fun W1 e1 s1 => ?_⟩
  cases x with
  | false =>
    rw [if_neg Bool.false_ne_true] at hf ⊢
    exact ⟨W1, ρ, M1, rfl, s1, sl.ext e1 sr.sub, d, M', hf, fun W2 e2 s2 => k W2 (e1.trans e2) s2⟩
  | true =>
    rw [if_pos rfl] at hf ⊢
    cases hf
    exact k W1 e1 s1
theorem pf_one {op} (h : PFE X a fa) : PFE X (.BoolOp op [a] pos) fa := pe_one h
theorem pf_and (ha : PFE X a fa) (hb : PFE X (.BoolOp .And (b :: rest) pos) fb) : PFE X (.BoolOp .And (a :: b :: rest) pos) (fAndV fa fb) := pe_weak (pe_andT ha hb) fun σ H Q => by
  rintro ⟨W, ρ, M, rfl, sr, sl, d, M', hf, k⟩
  obtain ⟨⟨x, M1⟩, hx, hf⟩ := Option.bind_eq_some_iff.mp hf
  obtain ⟨t, ht, hf⟩ := Option.bind_eq_some_iff.mp hf
  refine ⟨W, ρ, M, rfl, sr, sl, x, M1, hx, fun W1 v e1 s1 r1 => ⟨t, tru_of s1 r1 ht, ?_⟩⟩
  cases t with
  | true =>
    rw [if_pos rfl] at hf ⊢
    exact ⟨W1, ρ, M1, rfl, s1, sl.ext e1 sr.sub, d, M', hf, fun W2 v e2 s2 r2 => k W2 v (e1.trans e2) s2 r2⟩
  | false =>
    rw [if_neg Bool.false_ne_true] at hf ⊢
    cases hf
    exact k W1 v e1 s1 r1
theorem pf_or (ha : PFE X a fa) (hb : PFE X (.BoolOp .Or (b :: rest) pos) fb) : PFE X (.BoolOp .Or (a :: b :: rest) pos) (fOrV fa fb) := pe_weak (pe_orT ha hb) fun σ H Q => by
  rintro ⟨W, ρ, M, rfl, sr, sl, d, M', hf, k⟩
  obtain ⟨⟨x, M1⟩, hx, hf⟩ := Option.bind_eq_some_iff.mp hf
  obtain ⟨t, ht, hf⟩ := Option.bind_eq_some_iff.mp hf
  refine ⟨W, ρ, M, rfl, sr, sl, x, M1, hx, fun W1 v e1 s1 r1 => ⟨t, tru_of s1 r1 ht, ?_⟩⟩
  cases t with
  | false =>
    rw [if_neg Bool.false_ne_true] at hf ⊢
    exact ⟨W1, ρ, M1, rfl, s1, sl.ext e1 sr.sub, d, M', hf, fun W2 v e2 s2 r2 => k W2 v (e1.trans e2) s2 r2⟩
  | true =>
    rw [if_pos rfl] at hf ⊢
    cases hf
    exact k W1 v e1 s1 r1
theorem pf_not (ha : PFE X a fa) : PFE X (.UnaryOp .Not a pos) (fNotV fa) := pe_weak (pe_notT ha) fun σ H Q => by
  rintro ⟨W, ρ, M, rfl, sr, sl, d, M', hf, k⟩
  obtain ⟨⟨x, M1⟩, hx, hf⟩ := Option.bind_eq_some_iff.mp hf
  obtain ⟨t, ht, hf⟩ := Option.bind_eq_some_iff.mp hf
  cases hf
  exact ⟨W, ρ, M, rfl, sr, sl, x, _, hx, fun W1 v e1 s1 r1 => ⟨t, tru_of s1 r1 ht, k W1 _ e1 s1 rfl⟩⟩
theorem pf_if (hc : PFT X c ta) (ha : PFE X a fa) (hb : PFE X b fb) : PFE X (.IfExp c a b pos) (fIfE ta fa fb) := pe_weak (pe_ifExp hc ha hb) fun σ H Q => by
  rintro ⟨W, ρ, M, rfl, sr, sl, d, M', hf, k⟩
  obtain ⟨⟨x, M1⟩, hx, hf⟩ := Option.bind_eq_some_iff.mp hf
  refine ⟨W, ρ, M, rfl, sr, sl, x, M1, hx, fun W1 e1 s1 => ?_⟩
  cases x with
  | false =>
    rw [if_neg Bool.false_ne_true] at hf ⊢
    exact ⟨W1, ρ, M1, rfl, s1, sl.ext e1 sr.sub, d, M', hf, fun W2 v e2 s2 r2 => k W2 v (e1.trans e2) s2 r2⟩
  | true =>
    rw [if_pos rfl] at hf ⊢
    exact ⟨W1, ρ, M1, rfl, s1, sl.ext e1 sr.sub, d, M', hf, fun W2 v e2 s2 r2 => k W2 v (e1.trans e2) s2 r2⟩
theorem pf_chain {op op' : CmpOp} {r r' : R2} {g g' : G2B} (ho : OpR X (compareOp op) r) (o : Op2 X.K r (gB g)) (ho' : OpR X (compareOp op') r') (o' : Op2 X.K r' (gB g')) (ha : PFE X a fa) (hb : PFE X b fb) (hc : PFE X c fc)
    (hm : lastMarks [op, op'] [b, c] = false := by with_unfolding_all rfl) : PFE X (.Compare a [op, op'] [b, c] pos) (fChain g g' fa fb fc) := pe_weak (pe_chain ho ho' ha hb hc hm) fun σ H Q => by
  rintro ⟨W, ρ, M, rfl, sr, sl, d, M', hf, k⟩
  obtain ⟨⟨x, M1⟩, hx, hf⟩ := Option.bind_eq_some_iff.mp hf
  obtain ⟨⟨y, M2⟩, hy, hf⟩ := Option.bind_eq_some_iff.mp hf
  obtain ⟨t, ht, hf⟩ := Option.bind_eq_some_iff.mp hf
  refine ⟨W, ρ, M, rfl, sr, sl, x, M1, hx, fun W1 v e1 s1 r1 => ⟨W1, ρ, M1, rfl, s1, sl.ext e1 sr.sub, y, M2, hy, fun W2 u e2 s2 r2 => ?_⟩⟩
  refine o W2 M2 x y (.bl t) v u _ s2 (r1.ext e2 s1.sub) r2 (by rw [gB, ht]; rfl) fun W3 z e3 s3 r3 => ⟨t, r3, ?_⟩
  cases t with
  | false =>
    rw [if_neg Bool.false_ne_true] at hf ⊢
    cases hf
    exact k W3 _ ((e1.trans e2).trans e3) s3 rfl
  | true =>
    rw [if_pos rfl] at hf ⊢
    obtain ⟨⟨z', M3⟩, hz, hf⟩ := Option.bind_eq_some_iff.mp hf
    obtain ⟨t', ht', hf⟩ := Option.bind_eq_some_iff.mp hf
    cases hf
    exact ⟨W3, ρ, M2, rfl, s3, sl.ext ((e1.trans e2).trans e3) sr.sub, z', _, hz, fun W4 q e4 s4 r4 => o' W4 _ y z' (.bl t') u q _ s4 (r2.ext (e3.trans e4) s2.sub) r4 (by rw [gB, ht']; rfl) fun W5 q' e5 s5 r5 => k W5 q' (((e1.trans e2).trans e3).trans (e4.trans e5)) s5 r5⟩
theorem pft_chain {op op' : CmpOp} {r r' : R2} {g g' : G2B} (ho : OpR X (compareOp op) r) (o : Op2 X.K r (gB g)) (ho' : OpR X (compareOp op') r') (o' : Op2 X.K r' (gB g')) (ha : PFE X a fa) (hb : PFE X b fb) (hc : PFE X c fc)
    (hm : lastMarks [op, op'] [b, c] = false := by with_unfolding_all rfl) : PFT X (.Compare a [op, op'] [b, c] pos) (fChainT g g' fa fb fc) := pt_weak (pt_chain ho ho' ha hb hc hm) fun σ H Q => by
  rintro ⟨W, ρ, M, rfl, sr, sl, d, M', hf, k⟩
  obtain ⟨⟨x, M1⟩, hx, hf⟩ := Option.bind_eq_some_iff.mp hf
  obtain ⟨⟨y, M2⟩, hy, hf⟩ := Option.bind_eq_some_iff.mp hf
  obtain ⟨t, ht, hf⟩ := Option.bind_eq_some_iff.mp hf
  refine ⟨W, ρ, M, rfl, sr, sl, x, M1, hx, fun W1 v e1 s1 r1 => ⟨W1, ρ, M1, rfl, s1, sl.ext e1 sr.sub, y, M2, hy, fun W2 u e2 s2 r2 => ?_⟩⟩
  refine o W2 M2 x y (.bl t) v u _ s2 (r1.ext e2 s1.sub) r2 (by rw [gB, ht]; rfl) fun W3 z e3 s3 r3 => ⟨t, r3, ?_⟩
  cases t with
  | false =>
    rw [if_neg Bool.false_ne_true] at hf ⊢
    cases hf
    exact ⟨false, rfl, k W3 ((e1.trans e2).trans e3) s3⟩
  | true =>
    rw [if_pos rfl] at hf ⊢
    obtain ⟨⟨z', M3⟩, hz, hf⟩ := Option.bind_eq_some_iff.mp hf
    obtain ⟨t', ht', hf⟩ := Option.bind_eq_some_iff.mp hf
    cases hf
    exact ⟨W3, ρ, M2, rfl, s3, sl.ext ((e1.trans e2).trans e3) sr.sub, z', _, hz, fun W4 q e4 s4 r4 => o' W4 _ y z' (.bl _) u q _ s4 (r2.ext (e3.trans e4) s2.sub) r4 (by rw [gB, ht']; rfl) fun W5 q' e5 s5 r5 => ⟨_, r5, k W5 (((e1.trans e2).trans e3).trans (e4.trans e5)) s5⟩⟩
end
/-! ### argument lists, displays, slices -/
def fNil : FA := fun _ M => some ([], M)
def fCons (fa : FE) (fr : FA) : FA := fun ρ M => (fa ρ M).bind fun a => (fr ρ a.2).bind fun r => some (a.1 :: r.1, r.2)
def fTup (f : FA) : FE := fun ρ M => (f ρ M).bind fun a => if a.1.length ≤ LINE then some (.tup a.1, a.2) else none
def fLstD (f : FA) : FA := fun ρ M => (f ρ M).bind fun a => if a.1.length ≤ LINE then some a else none
def fFz (f : FA) : FE := fun ρ M => (f ρ M).bind fun a => some (.lst a.1, a.2)
def fMut (f : FA) : FE := fun ρ M => (f ρ M).bind fun a => some (.ref a.2.length, a.2 ++ [.lst a.1])
abbrev FO := Rho → Mem → Option (Option Int × Mem)
def liftO (K : PySem.W.Frag) (f : FO) : TO := fun σ H Q => ∃ W ρ M, W.H = H ∧ SR K W M ∧ Sl K W ρ σ ∧ ∃ d M', f ρ M = some (d, M') ∧ ∀ W', Ext W W' → SR K W' M' → Q d W'.H
abbrev PFO (X : Cx) (e : Option Expr) (f : FO) : Prop := PO X e (liftO X.K f)
def fNoPart : FO := fun _ M => some (none, M)
def fPart (fa : FE) : FO := fun ρ M => (fa ρ M).bind fun a => match a.1 with | .int i => some (some i, a.2) | _ => none
def cutD (xs : List D) (lo hi : Option Int) : List D := (xs.drop (HT.sIx xs.length 0 lo)).take (HT.sIx xs.length xs.length hi - HT.sIx xs.length 0 lo)
def gSlice (x : D) (lo hi : Option Int) (M : Mem) : Option D := match x with
  | .tup xs => some (.tup (cutD xs lo hi))
  | x => (lsOf x M).map fun xs => .lst (cutD xs lo hi)
def fSlice (fa : FE) (fl fh : FO) : FE := fun ρ M => (fa ρ M).bind fun a => (fl ρ a.2).bind fun l => (fh ρ l.2).bind fun h => (gSlice a.1 l.1 h.1 h.2).bind fun d => some (d, h.2)
def fSliceN (fa : FE) (fl fh : FO) : FA := fun ρ M => (fa ρ M).bind fun a => (fl ρ a.2).bind fun l => (fh ρ l.2).bind fun h => (lsOf a.1 h.2).bind fun d => some (cutD d l.1 h.1, h.2)
section
variable {X : Cx} {a b c : Expr} {es : List Expr} {fa fb fc : FE} {f : FA} {pos : Pos}
theorem pfa_nil : PFA X [] fNil := pa_weak pa_nil fun σ H Q => by
  rintro ⟨W, ρ, M, rfl, sr, sl, d, M', hf, k⟩
  cases hf
  exact k W [] (.refl W) sr rfl
theorem pfa_cons (ha : PFE X a fa) (hr : PFA X es f) (hs : starEach (a :: es) X.env = (false, eval a X.env) :: starEach es X.env := by rfl) : PFA X (a :: es) (fCons fa f) := pa_weak (pa_cons ha hr hs) fun σ H Q => by
  rintro ⟨W, ρ, M, rfl, sr, sl, d, M', hf, k⟩
  obtain ⟨⟨x, M1⟩, hx, hf⟩ := Option.bind_eq_some_iff.mp hf
  obtain ⟨⟨r, M2⟩, hr, hf⟩ := Option.bind_eq_some_iff.mp hf
  cases hf
  exact ⟨W, ρ, M, rfl, sr, sl, x, M1, hx, fun W1 v e1 s1 r1 => ⟨W1, ρ, M1, rfl, s1, sl.ext e1 sr.sub, r, _, hr, fun W2 vs e2 s2 r2 => k W2 (v :: vs) (e1.trans e2) s2 ⟨v, vs, rfl, r1.ext e2 s1.sub, r2⟩⟩⟩
theorem pf_tup {x1} (h : PFA X es f) : PFE X (.Tuple es x1 pos) (fTup f) := pe_weak (pe_tup h) fun σ H Q => by
  rintro ⟨W, ρ, M, rfl, sr, sl, d, M', hf, k⟩
  obtain ⟨⟨x, M1⟩, hx, hf⟩ := Option.bind_eq_some_iff.mp hf
  split at hf
  · rename_i hl
    cases hf
    exact ⟨W, ρ, M, rfl, sr, sl, x, _, hx, fun W1 vs e1 s1 r1 => ⟨by rw [line_eq, ← r1.len]; exact hl, fun p hp => k _ _ (e1.trans (Ext.put hp)) (s1.put hp) (.newTup s1 hp r1 (by rw [← r1.len]; exact hl))⟩⟩
  · cases hf
theorem pfn_lst (h : PFA X es f) : PFN X (.List es pos) (fLstD f) := pe_weak (pe_lst h) fun σ H Q => by
  rintro ⟨W, ρ, M, rfl, sr, sl, d, M', hf, k⟩
  obtain ⟨⟨x, M1⟩, hx, hf⟩ := Option.bind_eq_some_iff.mp hf
  split at hf
  · rename_i hl
    cases hf
    exact ⟨W, ρ, M, rfl, sr, sl, d, _, hx, fun W1 vs e1 s1 r1 => ⟨by rw [line_eq, ← r1.len]; exact hl, fun p hp => k W1 p vs e1 s1 hp r1 (by rw [← r1.len]; exact hl)⟩⟩
  · cases hf
theorem pf_fz (h : PFN X a f) : PFE X a (fFz f) := pe_weak h fun σ H Q => by
  rintro ⟨W, ρ, M, rfl, sr, sl, d, M', hf, k⟩
  obtain ⟨⟨x, M1⟩, hx, hf⟩ := Option.bind_eq_some_iff.mp hf
  cases hf
  exact ⟨W, ρ, M, rfl, sr, sl, x, _, hx, fun W1 p vs e1 s1 hp r1 hl => k _ _ (e1.trans (Ext.put hp)) (s1.put hp) (.newLst s1 hp r1 hl)⟩
theorem pf_mut (h : PFN X a f) : PFE X a (fMut f) := pe_weak h fun σ H Q => by
  rintro ⟨W, ρ, M, rfl, sr, sl, d, M', hf, k⟩
  obtain ⟨⟨x, M1⟩, hx, hf⟩ := Option.bind_eq_some_iff.mp hf
  cases hf
  exact ⟨W, ρ, M, rfl, sr, sl, x, _, hx, fun W1 p vs e1 s1 hp r1 hl => k _ _ (e1.trans (Ext.mk2 hp)) (s1.mk2 hp r1 hl) (.mk2 s1)⟩
theorem po_weak {e : Option Expr} {t t' : TO} (h : PO X e t) (i : ∀ σ H Q, t' σ H Q → t σ H Q) : PO X e t' := ⟨fun pins s σ H Q I q => h.run pins s σ H Q I (i σ H Q q)⟩
theorem pfo_none : PFO X none fNoPart := po_weak po_none fun σ H Q => by
  rintro ⟨W, ρ, M, rfl, sr, sl, d, M', hf, k⟩
  cases hf
  exact k W (.refl W) sr
theorem pfo_some (ha : PFE X a fa) : PFO X (some a) (fPart fa) := po_weak (po_some ha) fun σ H Q => by
  rintro ⟨W, ρ, M, rfl, sr, sl, d, M', hf, k⟩
  obtain ⟨⟨x, M1⟩, hx, hf⟩ := Option.bind_eq_some_iff.mp hf
  dsimp only at hf
  split at hf
  · cases hf
    exact ⟨W, ρ, M, rfl, sr, sl, _, _, hx, fun W1 v e1 s1 r1 => ⟨_, r1, k W1 e1 s1⟩⟩
  · cases hf
theorem RpL.cut {K : PySem.W.Frag} {W : Wo} {xs : List D} {vs : List V} (h : RpL K W xs vs) (lo hi : Option Int) : RpL K W (cutD xs lo hi) (cutV vs lo hi) := by
  unfold cutD cutV
  rw [h.len]
  exact (h.drop _).take _
theorem cut_len (vs : List V) (lo hi : Option Int) (h : vs.length ≤ LINE) : (cutV vs lo hi).length ≤ LINE := Nat.le_trans (cutV_length vs lo hi) h
def rSlice (K : PySem.W.Frag) : V → Option Int → Option Int → Hp → VK → Prop := fun x lo hi H Q => rSlA K x lo hi H Q ∨ rSlL K x lo hi H Q
theorem sl_any : SlR X (rSlice X.K) := sl_tupA.or sl_list
theorem pf_slice {lo hi : Option Expr} {fl fh : FO} {p2 : Pos} (ha : PFE X a fa) (hl : PFO X lo fl) (hh : PFO X hi fh) : PFE X (.Subscript a (.Slice lo hi none p2) pos) (fSlice fa fl fh) := pe_weak (pe_slice sl_any ha hl hh) fun σ H Q => by
  rintro ⟨W, ρ, M, rfl, sr, sl, d, M', hf, k⟩
  obtain ⟨⟨x, M1⟩, hx, hf⟩ := Option.bind_eq_some_iff.mp hf
  obtain ⟨⟨l, M2⟩, hl, hf⟩ := Option.bind_eq_some_iff.mp hf
  obtain ⟨⟨h, M3⟩, hh, hf⟩ := Option.bind_eq_some_iff.mp hf
  obtain ⟨d', hd, hf⟩ := Option.bind_eq_some_iff.mp hf
  cases hf
  refine ⟨W, ρ, M, rfl, sr, sl, x, M1, hx, fun W1 v e1 s1 r1 => ⟨W1, ρ, M1, rfl, s1, sl.ext e1 sr.sub, l, M2, hl, fun W2 e2 s2 => ⟨W2, ρ, M2, rfl, s2, sl.ext (e1.trans e2) sr.sub, h, _, hh, fun W3 e3 s3 => ?_⟩⟩⟩
  have r3 := r1.ext (e2.trans e3) s1.sub
  have e123 := e1.trans (e2.trans e3)
  have lists : (lsOf x M3).map (fun xs => D.lst (cutD xs l h)) = some d → rSlice X.K v l h W3.H Q := fun e => by
    obtain ⟨xs, hx, e⟩ := Option.map_eq_some_iff.mp e
    subst e
    obtain ⟨p, vs, rfl, h1, q1⟩ := ls_sq s3 r3 hx
    exact .inr ⟨p, vs, rfl, h1, fun t nt => k _ _ (e123.trans (Ext.put nt)) (s3.put nt) (.newLst s3 nt (q1.cut l h) (cut_len _ _ _ (by rw [← q1.len]; exact ls_len s3 r3 hx)))⟩
  cases x with
  | tup xs =>
    cases hd
    obtain ⟨p, vs, rfl, h1, q1⟩ := tp_sq r3
    refine .inl ⟨p, vs, rfl, h1, fun e => ?_, fun _ t nt => k _ _ (e123.trans (Ext.put nt)) (s3.put nt) (.newTup s3 nt (q1.cut l h) (cut_len _ _ _ (by rw [← q1.len]; exact sq_len s3 r3 rfl)))⟩
    have ec : cutD xs l h = xs := by
      unfold cutD
      rw [q1.len, e.1, e.2, ← q1.len]
      simp
    exact k W3 _ e123 s3 (by rw [ec]; exact r3)
  | _ => exact lists hd
theorem pfn_slice {lo hi : Option Expr} {fl fh : FO} {p2 : Pos} (ha : PFE X a fa) (hl : PFO X lo fl) (hh : PFO X hi fh) : PFN X (.Subscript a (.Slice lo hi none p2) pos) (fSliceN fa fl fh) := pe_weak (pe_slice sl_list ha hl hh) fun σ H Q => by
  rintro ⟨W, ρ, M, rfl, sr, sl, d, M', hf, k⟩
  obtain ⟨⟨x, M1⟩, hx, hf⟩ := Option.bind_eq_some_iff.mp hf
  obtain ⟨⟨l, M2⟩, hl, hf⟩ := Option.bind_eq_some_iff.mp hf
  obtain ⟨⟨h, M3⟩, hh, hf⟩ := Option.bind_eq_some_iff.mp hf
  obtain ⟨d', hd, hf⟩ := Option.bind_eq_some_iff.mp hf
  cases hf
  refine ⟨W, ρ, M, rfl, sr, sl, x, M1, hx, fun W1 v e1 s1 r1 => ⟨W1, ρ, M1, rfl, s1, sl.ext e1 sr.sub, l, M2, hl, fun W2 e2 s2 => ⟨W2, ρ, M2, rfl, s2, sl.ext (e1.trans e2) sr.sub, h, _, hh, fun W3 e3 s3 => ?_⟩⟩⟩
  have r3 := r1.ext (e2.trans e3) s1.sub
  have hl := ls_len s3 r3 hd
  obtain ⟨p, vs, rfl, h1, q1⟩ := ls_sq s3 r3 hd
  exact ⟨p, vs, rfl, h1, fun t nt => k W3 t _ (e1.trans (e2.trans e3)) s3 nt (q1.cut l h) (cut_len _ _ _ (by rw [← q1.len]; exact hl))⟩
/-- xs[::-1] of a list -/
def fRevN (fa : FE) : FA := fun ρ M => (fa ρ M).bind fun a => (lsOf a.1 a.2).bind fun xs => some (xs.reverse, a.2)
theorem pfn_rev {k : Nat} {p1 p2 p3 pos : Pos} (ha : PFE X a fa) : PFN X (.Subscript a (.Slice none none (some (.UnaryOp .USub (.Constant (.int 1) k p1) p2)) p3) pos) (fRevN fa) := pe_weak (pe_revL ha) fun σ H Q => by
  rintro ⟨W, ρ, M, rfl, sr, sl, d, M', hf, k⟩
  obtain ⟨⟨x, M1⟩, hx, hf⟩ := Option.bind_eq_some_iff.mp hf
  obtain ⟨xs, hl, hf⟩ := Option.bind_eq_some_iff.mp hf
  cases hf
  refine ⟨W, ρ, M, rfl, sr, sl, x, _, hx, fun W1 v e1 s1 r1 => ?_⟩
  have hz := ls_len s1 r1 hl
  obtain ⟨p, vs, rfl, h1, q1⟩ := ls_sq s1 r1 hl
  exact ⟨p, vs, rfl, h1, fun t nt => k W1 t _ e1 s1 nt q1.reverse (by rw [List.length_reverse, ← q1.len]; exact hz)⟩
end
end PF
namespace PF
open PySem PySem.Spec PyProof.Rows L2
/-! ### equality of data, as a Bool -/
mutual
def D.beq : D → D → Bool
  | .non, .non => true
  | .bl a, .bl b => a == b
  | .int a, .int b => a == b
  | .str a, .str b => decide (a = b)
  | .tup a, .tup b => D.beqs a b
  | .lst a, .lst b => D.beqs a b
  | .kst a, .kst b => D.beqs a b
  | .ref a, .ref b => a == b
  | _, _ => false
def D.beqs : List D → List D → Bool
  | [], [] => true
  | a :: as, b :: bs => D.beq a b && D.beqs as bs
  | _, _ => false
end
mutual
theorem D.beq_refl : ∀ a : D, D.beq a a = true
  | .non => by simp [D.beq]
  | .bl _ => by simp [D.beq]
  | .int _ => by simp [D.beq]
  | .str _ => by simp [D.beq]
  | .ref _ => by simp [D.beq]
  | .tup xs => by rw [D.beq]; exact D.beqs_refl xs
  | .lst xs => by rw [D.beq]; exact D.beqs_refl xs
  | .kst xs => by rw [D.beq]; exact D.beqs_refl xs
theorem D.beqs_refl : ∀ a : List D, D.beqs a a = true
  | [] => by simp [D.beqs]
  | x :: xs => by rw [D.beqs, D.beq_refl x, D.beqs_refl xs]; rfl
end
mutual
theorem D.eq_of_beq : ∀ a b : D, D.beq a b = true → a = b
  | .non, b, h => by cases b <;> simp [D.beq] at h ⊢
  | .bl _, b, h => by cases b <;> simp [D.beq] at h ⊢ <;> exact h
  | .int _, b, h => by cases b <;> simp [D.beq] at h ⊢ <;> exact h
  | .str _, b, h => by cases b <;> simp [D.beq] at h ⊢ <;> exact h
  | .ref _, b, h => by cases b <;> simp [D.beq] at h ⊢ <;> exact h
  | .tup xs, b, h => by
    cases b with
    | tup ys => rw [D.beq] at h; rw [D.eqs_of_beqs xs ys h]
    | _ => simp [D.beq] at h
  | .lst xs, b, h => by
    cases b with
    | lst ys => rw [D.beq] at h; rw [D.eqs_of_beqs xs ys h]
    | _ => simp [D.beq] at h
  | .kst xs, b, h => by
    cases b with
    | kst ys => rw [D.beq] at h; rw [D.eqs_of_beqs xs ys h]
    | _ => simp [D.beq] at h
theorem D.eqs_of_beqs : ∀ a b : List D, D.beqs a b = true → a = b
  | [], [], _ => rfl
  | [], _ :: _, h => by simp [D.beqs] at h
  | _ :: _, [], h => by simp [D.beqs] at h
  | x :: xs, y :: ys, h => by
    rw [D.beqs, Bool.and_eq_true] at h
    rw [D.eq_of_beq x y h.1, D.eqs_of_beqs xs ys h.2]
end
/-! ### what statements compute, wanted at an end -/
def OutK (K : PySem.W.Frag) (E : Ends) (W : Wo) (M' : Mem) : Out → Prop
  | .nx ρ' => ∀ W' σ', Ext W W' → SR K W' M' → Sl K W' ρ' σ' → E.nx σ' W'.H
  | .bk ρ' => ∀ W' σ', Ext W W' → SR K W' M' → Sl K W' ρ' σ' → E.bk σ' W'.H
  | .ct ρ' => ∀ W' σ', Ext W W' → SR K W' M' → Sl K W' ρ' σ' → E.ct σ' W'.H
  | .ret d => ∀ W' v, Ext W W' → SR K W' M' → Rp K W' d v → E.rt v W'.H
theorem OutK.ext {K : PySem.W.Frag} {E : Ends} {W W1 : Wo} {M' : Mem} {o : Out} (e : Ext W W1) (h : OutK K E W M' o) : OutK K E W1 M' o := by
  cases o with
  | nx ρ => exact fun W' σ' e' => h W' σ' (e.trans e')
  | bk ρ => exact fun W' σ' e' => h W' σ' (e.trans e')
  | ct ρ => exact fun W' σ' e' => h W' σ' (e.trans e')
  | ret d => exact fun W' v e' => h W' v (e.trans e')
theorem liftS_iff {K : PySem.W.Frag} {f : FS} {E : Ends} {σ : L2.St} {H : Hp} : liftS K f E σ H ↔ ∃ W ρ M, W.H = H ∧ SR K W M ∧ Sl K W ρ σ ∧ ∃ o M', f ρ M = some (o, M') ∧ OutK K E W M' o := by
  constructor
  · rintro ⟨W, ρ, M, h1, h2, h3, o, M', hf, k⟩
    refine ⟨W, ρ, M, h1, h2, h3, o, M', hf, ?_⟩
    cases o <;> exact k
  · rintro ⟨W, ρ, M, h1, h2, h3, o, M', hf, k⟩
    refine ⟨W, ρ, M, h1, h2, h3, o, M', hf, ?_⟩
    cases o <;> exact k
theorem sl_set {K : PySem.W.Frag} {W : Wo} {ρ : Rho} {σ : L2.St} {i : Nat} {d : D} {v : V} (h : Sl K W ρ σ) (r : Rp K W d v) : Sl K W (ρ.set i (some d)) (σ.set i (some v)) := by
  refine ⟨by rw [List.length_set, List.length_set]; exact h.len, fun j e hj => ?_⟩
  by_cases hji : j = i
  · subst hji
    have hl : j < ρ.length := by
      have := (List.getElem?_eq_some_iff.mp hj).1
      rw [List.length_set] at this; exact this
    rw [List.getElem?_set_self hl] at hj
    cases hj
    exact ⟨v, by rw [List.getElem?_set_self (by rw [← h.len]; exact hl)], r⟩
  · rw [List.getElem?_set_ne (Ne.symm hji)] at hj ⊢
    exact h.at_ j e hj
/-! ### targets -/
abbrev FG := D → Rho → Option Rho
abbrev FGs := List D → Rho → Option Rho
/-- vs: the slots that the target may change -/
def liftG (K : PySem.W.Frag) (vs : List Nat) (t : FG) : TG := fun v σ H Q => ∃ W ρ M d, W.H = H ∧ SR K W M ∧ Sl K W ρ σ ∧ Rp K W d v ∧ ∃ ρ', t d ρ = some ρ' ∧ ∀ W' σ', Ext W W' → SR K W' M → Sl K W' ρ' σ' → wipe σ' vs = wipe σ vs → Q σ' W'.H
def liftGs (K : PySem.W.Frag) (vs : List Nat) (t : FGs) : TGs := fun v σ H Q => ∃ W ρ M d, W.H = H ∧ SR K W M ∧ Sl K W ρ σ ∧ RpL K W d v ∧ ∃ ρ', t d ρ = some ρ' ∧ ∀ W' σ', Ext W W' → SR K W' M → Sl K W' ρ' σ' → wipe σ' vs = wipe σ vs → Q σ' W'.H
abbrev PFG (X : Cx) (vs : List Nat) (e : Expr) (t : FG) : Prop := PG X e (liftG X.K vs t)
abbrev PFGs (X : Cx) (vs : List Nat) (e : List Expr) (t : FGs) : Prop := PGs X e (liftGs X.K vs t)
def tN (i : Nat) : FG := fun d ρ => some (ρ.set i (some d))
def tT (n : Nat) (t : FGs) : FG := fun d ρ => match d with | .tup xs => if xs.length = n then t xs ρ else none | _ => none
def tsN : FGs := fun ds ρ => match ds with | [] => some ρ | _ => none
def tsC (t : FG) (u : FGs) : FGs := fun ds ρ => match ds with | d :: r => (t d ρ).bind fun ρ' => u r ρ' | [] => none
theorem wipe_set_in {i : Nat} {v : Option V} : ∀ {vs : List Nat} {σ : L2.St}, i ∈ vs → wipe (σ.set i v) vs = wipe σ vs
  | [], _, h => by simp at h
  | w :: vs, σ, h => by
    unfold wipe
    by_cases hw : i ∈ vs
    · rw [wipe_set_in hw]
    · have e : i = w := by
        rcases List.mem_cons.mp h with e | h
        · exact e
        · exact absurd h hw
      subst e
      have out : ∀ (ws : List Nat) (σ : L2.St), i ∉ ws → wipe (σ.set i v) ws = (wipe σ ws).set i v := by
        intro ws
        induction ws with
        | nil => intro σ _; rfl
        | cons z zs ih =>
          intro σ hz
          unfold wipe
          rw [ih σ fun q => hz (List.mem_cons_of_mem _ q), List.set_comm _ _ (fun q => hz (by rw [q]; exact List.mem_cons_self))]
      rw [out vs σ hw, List.set_set]
section
variable {X : Cx} {pos : Pos} {vs : List Nat}
theorem pg_weak {e : Expr} {t t' : TG} (h : PG X e t) (i : ∀ v σ H Q, t' v σ H Q → t v σ H Q) : PG X e t' := ⟨fun pins s σ H v u Q I r q => h.run pins s σ H v u Q I r (i v σ H Q q)⟩
theorem pgs_weak {e : List Expr} {t t' : TGs} (h : PGs X e t) (i : ∀ v σ H Q, t' v σ H Q → t v σ H Q) : PGs X e t' := ⟨fun pins s σ H v u Q I r q => h.run pins s σ H v u Q I r (i v σ H Q q)⟩
theorem pfg_name {i : Nat} {x : Str} (hN : X.N.Nodup) (hi : X.N[i]? = some x) (hx : Loc X.env.scope x) (hv : i ∈ vs := by decide) (hf : X.fn x = true ∨ X.env.scope.names.lookup x = some .local := by first | exact .inl rfl | exact .inr rfl | assumption) : PFG X vs (.Name x pos) (tN i) := pg_weak (pg_name hN hi hx hf) fun v σ H Q => by
  rintro ⟨W, ρ, M, d, rfl, sr, sl, r, ρ', ht, k⟩
  cases ht
  exact k W _ (.refl W) sr (sl_set sl r) (wipe_set_in hv)
theorem pfgs_nil : PFGs X vs [] tsN := pgs_weak pgs_nil fun v σ H Q => by
  rintro ⟨W, ρ, M, d, rfl, sr, sl, r, ρ', ht, k⟩
  unfold tsN at ht
  split at ht
  · cases ht
    cases (show _ = _ from r)
    exact ⟨rfl, k W _ (.refl W) sr sl rfl⟩
  · cases ht
theorem pfgs_cons {e : Expr} {es : List Expr} {t : FG} {u : FGs} (h1 : PFG X vs e t) (h2 : PFGs X vs es u) (hs : (assignEach (e :: es) X.env).map (·.2) = assign e X.env :: (assignEach es X.env).map (·.2) := by rfl) : PFGs X vs (e :: es) (tsC t u) := pgs_weak (pgs_cons h1 h2 hs) fun v σ H Q => by
  rintro ⟨W, ρ, M, d, rfl, sr, sl, r, ρ', ht, k⟩
  unfold tsC at ht
  split at ht
  · obtain ⟨ρ1, h1, h2⟩ := Option.bind_eq_some_iff.mp ht
    obtain ⟨v1, vr, rfl, q1, q2⟩ := r
    exact ⟨v1, vr, rfl, W, ρ, M, _, rfl, sr, sl, q1, ρ1, h1, fun W1 σ1 e1 s1 l1 w1 => ⟨W1, ρ1, M, _, rfl, s1, l1, q2.ext e1 sr.sub, ρ', h2, fun W2 σ2 e2 s2 l2 w2 => k W2 σ2 (e1.trans e2) s2 l2 (w2.trans w1)⟩⟩
  · cases ht
theorem pfg_tup {es : List Expr} {k : Nat} {t : FGs} {n : Nat} (hc : X.calm = true) (h : PFGs X vs es t) (hn : (assignEach es X.env).length = n := by rfl) (hst : (assignEach es X.env).findIdx? (·.1) = none := by rfl) : PFG X vs (.Tuple es k pos) (tT n t) := pg_weak (pg_tup hc h hn hst) fun v σ H Q => by
  rintro ⟨W, ρ, M, d, rfl, sr, sl, r, ρ', ht, k⟩
  unfold tT at ht
  split at ht
  · split at ht
    · rename_i hl
      obtain ⟨a, vs, rfl, h1, q1⟩ := tp_sq r
      exact ⟨a, vs, rfl, h1, by rw [← q1.len]; exact hl, W, ρ, M, _, rfl, sr, sl, q1, ρ', ht, k⟩
    · cases ht
  · cases ht
end
/-! ### statements -/
def sNext : FS := fun ρ M => some (.nx ρ, M)
def sSeq (f g : FS) : FS := fun ρ M => (f ρ M).bind fun o => match o.1 with | .nx ρ' => g ρ' o.2 | _ => some o
def sBreak : FS := fun ρ M => some (.bk ρ, M)
def sCont : FS := fun ρ M => some (.ct ρ, M)
def sDrop (f : FE) : FS := fun ρ M => (f ρ M).bind fun a => some (.nx ρ, a.2)
def sRet (f : FE) : FS := fun ρ M => (f ρ M).bind fun a => some (.ret a.1, a.2)
def sRetN : FS := fun _ M => some (.ret .non, M)
def sIf (c : FT) (f g : FS) : FS := fun ρ M => (c ρ M).bind fun a => if a.1 = true then f ρ a.2 else g ρ a.2
def sSet (i : Nat) (f : FE) : FS := fun ρ M => (f ρ M).bind fun a => some (.nx (ρ.set i (some a.1)), a.2)
def sAsg (f : FE) (t : FG) : FS := fun ρ M => (f ρ M).bind fun a => (t a.1 ρ).bind fun ρ' => some (.nx ρ', a.2)
def sPar (i j : Nat) (f : FA) : FS := fun ρ M => (f ρ M).bind fun a => match a.1 with | [x, y] => some (.nx ((ρ.set i (some x)).set j (some y)), a.2) | _ => none
def sPar3 (i j l : Nat) (f : FA) : FS := fun ρ M => (f ρ M).bind fun a => match a.1 with | [x, y, z] => some (.nx (((ρ.set i (some x)).set j (some y)).set l (some z)), a.2) | _ => none
abbrev G2M := D → D → Mem → Option (D × Mem)
def sAug (i : Nat) (g : G2M) (f : FE) : FS := fun ρ M => match ρ[i]? with | some (some x) => (f ρ M).bind fun a => (g x a.1 a.2).bind fun z => some (.nx (ρ.set i (some z.1)), z.2) | _ => none
def Op2M (K : PySem.W.Frag) (r : R2) (g : G2M) : Prop := ∀ (W : Wo) (M M' : Mem) (x y d : D) (v u : V) (Q : VK), SR K W M → Rp K W x v → Rp K W y u → g x y M = some (d, M') →
  (∀ W' v', Ext W W' → SR K W' M' → Rp K W' d v' → Q v' W'.H) → r v u W.H Q
section
variable {X : Cx} {st : Stmt} {rest : List Stmt} {f g : FS} {e : Expr} {fe : FE} {pos : Pos}
theorem pfs_nil : PFSs X [] sNext := pss_weak pss_nil fun E σ H => by
  rw [liftS_iff]
  rintro ⟨W, ρ, M, rfl, sr, sl, o, M', hf, k⟩
  cases hf
  exact k W σ (.refl W) sr sl
theorem pfs_cons (h1 : PFS X st f) (h2 : PFSs X rest g) : PFSs X (st :: rest) (sSeq f g) := pss_weak (pss_cons h1 h2) fun E σ H => by
  rw [liftS_iff]
  rintro ⟨W, ρ, M, rfl, sr, sl, o, M', hf, k⟩
  obtain ⟨⟨o1, M1⟩, h1, hf⟩ := Option.bind_eq_some_iff.mp hf
  show liftS X.K f _ σ W.H
  rw [liftS_iff]
  refine ⟨W, ρ, M, rfl, sr, sl, o1, M1, h1, ?_⟩
  cases o1 with
  | nx ρ1 =>
    intro W1 σ1 e1 s1 l1
    exact liftS_iff.mpr ⟨W1, ρ1, M1, rfl, s1, l1, o, M', hf, k.ext e1⟩
  | ret d => cases hf; exact k
  | bk d => cases hf; exact k
  | ct d => cases hf; exact k
theorem pfs_one (h1 : PFS X st f) : PFSs X [st] f := pss_one h1
theorem pfs_pass : PFS X (.Pass pos) sNext := ps_weak ps_pass fun E σ H => by
  rw [liftS_iff]
  rintro ⟨W, ρ, M, rfl, sr, sl, o, M', hf, k⟩
  cases hf
  exact k W σ (.refl W) sr sl
theorem pfs_break : PFS X (.Break pos) sBreak := ps_weak ps_break fun E σ H => by
  rw [liftS_iff]
  rintro ⟨W, ρ, M, rfl, sr, sl, o, M', hf, k⟩
  cases hf
  exact k W σ (.refl W) sr sl
theorem pfs_continue : PFS X (.Continue pos) sCont := ps_weak ps_continue fun E σ H => by
  rw [liftS_iff]
  rintro ⟨W, ρ, M, rfl, sr, sl, o, M', hf, k⟩
  cases hf
  exact k W σ (.refl W) sr sl
theorem pfs_doc {x j pos pos'} : PFS X (.Expr (.Constant (.str x) j pos) pos') sNext := ps_weak ps_doc fun E σ H => by
  rw [liftS_iff]
  rintro ⟨W, ρ, M, rfl, sr, sl, o, M', hf, k⟩
  cases hf
  exact k W σ (.refl W) sr sl
theorem pfs_expr (he : PFE X e fe) (hs : swapsWith e none pos.line X.env = pure false := by rfl) : PFS X (.Expr e pos) (sDrop fe) := ps_weak (ps_expr he hs) fun E σ H => by
  rw [liftS_iff]
  rintro ⟨W, ρ, M, rfl, sr, sl, o, M', hf, k⟩
  obtain ⟨⟨x, M1⟩, hx, hf⟩ := Option.bind_eq_some_iff.mp hf
  cases hf
  exact ⟨W, ρ, M, rfl, sr, sl, x, _, hx, fun W1 v e1 s1 r1 => k W1 σ e1 s1 (sl.ext e1 sr.sub)⟩
theorem pfs_ret (he : PFE X e fe) : PFS X (.Return (some e) pos) (sRet fe) := ps_weak (ps_ret he) fun E σ H => by
  rw [liftS_iff]
  rintro ⟨W, ρ, M, rfl, sr, sl, o, M', hf, k⟩
  obtain ⟨⟨x, M1⟩, hx, hf⟩ := Option.bind_eq_some_iff.mp hf
  cases hf
  exact ⟨W, ρ, M, rfl, sr, sl, x, _, hx, fun W1 v e1 s1 r1 => k W1 v e1 s1 r1⟩
theorem pfs_retN : PFS X (.Return none pos) sRetN := ps_weak ps_retN fun E σ H => by
  rw [liftS_iff]
  rintro ⟨W, ρ, M, rfl, sr, sl, o, M', hf, k⟩
  cases hf
  exact k W .non (.refl W) sr rfl
theorem pfs_if {c : Expr} {a b : List Stmt} {fc : FT} (hc : PFT X c fc) (ha : PFSs X a f) (hb : PFSs X b g) : PFS X (.If c a b pos) (sIf fc f g) := ps_weak (ps_if hc ha hb) fun E σ H => by
  rw [liftS_iff]
  rintro ⟨W, ρ, M, rfl, sr, sl, o, M', hf, k⟩
  obtain ⟨⟨x, M1⟩, hx, hf⟩ := Option.bind_eq_some_iff.mp hf
  refine ⟨W, ρ, M, rfl, sr, sl, x, M1, hx, fun W1 e1 s1 => ?_⟩
  cases x with
  | true =>
    rw [if_pos rfl] at hf ⊢
    exact liftS_iff.mpr ⟨W1, ρ, M1, rfl, s1, sl.ext e1 sr.sub, o, M', hf, k.ext e1⟩
  | false =>
    rw [if_neg Bool.false_ne_true] at hf ⊢
    exact liftS_iff.mpr ⟨W1, ρ, M1, rfl, s1, sl.ext e1 sr.sub, o, M', hf, k.ext e1⟩
theorem pfs_set {i : Nat} {x : Str} {pos' : Pos} (hN : X.N.Nodup) (hi : X.N[i]? = some x) (hx : Loc X.env.scope x) (he : PFE X e fe) (hs : swapsWith e (some (.Name x pos')) pos.line X.env = pure false := by rfl) (hf : X.fn x = true ∨ X.env.scope.names.lookup x = some .local := by first | exact .inl rfl | exact .inr rfl | assumption) :
    PFS X (.Assign [.Name x pos'] e pos) (sSet i fe) := ps_weak (ps_set hN hi hx he hs hf) fun E σ H => by
  rw [liftS_iff]
  rintro ⟨W, ρ, M, rfl, sr, sl, o, M', hf, k⟩
  obtain ⟨⟨x, M1⟩, hx, hf⟩ := Option.bind_eq_some_iff.mp hf
  cases hf
  exact ⟨W, ρ, M, rfl, sr, sl, x, _, hx, fun W1 v e1 s1 r1 => k W1 _ e1 s1 (sl_set (sl.ext e1 sr.sub) r1)⟩
theorem pfs_asg {tg : Expr} {t : FG} {vs : List Nat} (he : PFE X e fe) (hg : PFG X vs tg t) (hs : swapsWithSole [tg] e pos.line X.env = pure false := by rfl) (hw : swappedStores [tg] e X.env = pure none := by rfl)
    (h1 : (assignEach [tg] X.env).map (·.2) = [assign tg X.env] := by rfl) : PFS X (.Assign [tg] e pos) (sAsg fe t) := ps_weak (ps_asg he hg hs hw h1) fun E σ H => by
  rw [liftS_iff]
  rintro ⟨W, ρ, M, rfl, sr, sl, o, M', hf, k⟩
  obtain ⟨⟨x, M1⟩, hx, hf⟩ := Option.bind_eq_some_iff.mp hf
  obtain ⟨ρ', ht, hf⟩ := Option.bind_eq_some_iff.mp hf
  cases hf
  exact ⟨W, ρ, M, rfl, sr, sl, x, _, hx, fun W1 v e1 s1 r1 => ⟨W1, ρ, _, x, rfl, s1, sl.ext e1 sr.sub, r1, ρ', ht, fun W2 σ2 e2 s2 l2 _ => k W2 σ2 (e1.trans e2) s2 l2⟩⟩
theorem pfs_par {i j : Nat} {x y : Str} {a b : Expr} {fa : FA} {px py pt : Pos} {kt k2 pt2} (hc : X.calm = true) (hN : X.N.Nodup) (hi : X.N[i]? = some x) (hj : X.N[j]? = some y) (hij : i ≠ j)
    (hx : X.env.scope.names.lookup x = some .local) (hy : X.env.scope.names.lookup y = some .local) (ha : PFA X [a, b] fa)
    (hw : swappedStores [.Tuple [.Name x px, .Name y py] kt pt] (.Tuple [a, b] k2 pt2) X.env = pure (some [x, y]))
    (hs : swapsWithSole [.Tuple [.Name x px, .Name y py] kt pt] (.Tuple [a, b] k2 pt2) pos.line X.env = pure false := by rfl) :
    PFS X (.Assign [.Tuple [.Name x px, .Name y py] kt pt] (.Tuple [a, b] k2 pt2) pos) (sPar i j fa) := ps_weak (ps_par hc hN hi hj hij hx hy ha hw hs) fun E σ H => by
  rw [liftS_iff]
  rintro ⟨W, ρ, M, rfl, sr, sl, o, M', hf, k⟩
  obtain ⟨⟨x, M1⟩, hx, hf⟩ := Option.bind_eq_some_iff.mp hf
  dsimp only at hf
  split at hf
  · cases hf
    refine ⟨W, ρ, M, rfl, sr, sl, _, _, hx, fun W1 v e1 s1 r1 => ?_⟩
    obtain ⟨v1, r, rfl, q1, v2, r', rfl, q2, q3⟩ := r1
    cases (show _ = _ from q3)
    exact ⟨v1, v2, rfl, k W1 _ e1 s1 (sl_set (sl_set (sl.ext e1 sr.sub) q1) q2)⟩
  · cases hf
theorem pfs_par3 {i j l : Nat} {x y z : Str} {a b c : Expr} {fa : FA} {px py pz pt : Pos} {kt k2 pt2} (hc : X.calm = true) (hN : X.N.Nodup) (hi : X.N[i]? = some x) (hj : X.N[j]? = some y) (hl : X.N[l]? = some z) (hij : i ≠ j) (hil : i ≠ l) (hjl : j ≠ l)
    (hx : X.env.scope.names.lookup x = some .local) (hy : X.env.scope.names.lookup y = some .local) (hz : X.env.scope.names.lookup z = some .local) (ha : PFA X [a, b, c] fa)
    (hw : swappedStores [.Tuple [.Name x px, .Name y py, .Name z pz] kt pt] (.Tuple [a, b, c] k2 pt2) X.env = pure (some [x, y, z]))
    (hs : swapsWithSole [.Tuple [.Name x px, .Name y py, .Name z pz] kt pt] (.Tuple [a, b, c] k2 pt2) pos.line X.env = pure false := by rfl) :
    PFS X (.Assign [.Tuple [.Name x px, .Name y py, .Name z pz] kt pt] (.Tuple [a, b, c] k2 pt2) pos) (sPar3 i j l fa) := ps_weak (ps_par3 hc hN hi hj hl hij hil hjl hx hy hz ha hw hs) fun E σ H => by
  rw [liftS_iff]
  rintro ⟨W, ρ, M, rfl, sr, sl, o, M', hf, k⟩
  obtain ⟨⟨x, M1⟩, hx, hf⟩ := Option.bind_eq_some_iff.mp hf
  dsimp only at hf
  split at hf
  · cases hf
    refine ⟨W, ρ, M, rfl, sr, sl, _, _, hx, fun W1 v e1 s1 r1 => ?_⟩
    obtain ⟨v1, r, rfl, q1, v2, r', rfl, q2, v3, r'', rfl, q3, q4⟩ := r1
    cases (show _ = _ from q4)
    exact ⟨v1, v2, v3, rfl, k W1 _ e1 s1 (sl_set (sl_set (sl_set (sl.ext e1 sr.sub) q1) q2) q3)⟩
  · cases hf
theorem pfs_aug {i : Nat} {x : Str} {op : Operator} {r : R2} {gm : G2M} {pos' : Pos} (hN : X.N.Nodup) (hi : X.N[i]? = some x) (hx : Loc X.env.scope x) (he : PFE X e fe) (ho : OpR X (inplaceOp op) r) (o : Op2M X.K r gm) (hf : X.fn x = true ∨ X.env.scope.names.lookup x = some .local := by first | exact .inl rfl | exact .inr rfl | assumption) :
    PFS X (.AugAssign (.Name x pos') op e pos) (sAug i gm fe) := ps_weak (ps_aug (ti := r) hN hi hx he ho hf) fun E σ H => by
  rw [liftS_iff]
  rintro ⟨W, ρ, M, rfl, sr, sl, o', M', hf, k⟩
  unfold sAug at hf
  split at hf
  · rename_i d hd
    obtain ⟨⟨y, M1⟩, hy, hf⟩ := Option.bind_eq_some_iff.mp hf
    obtain ⟨⟨z, M2⟩, hz, hf⟩ := Option.bind_eq_some_iff.mp hf
    cases hf
    obtain ⟨v, h1, h2⟩ := sl.at_ i d hd
    exact ⟨v, h1, W, ρ, M, rfl, sr, sl, y, M1, hy, fun W1 u e1 s1 r1 => o W1 M1 _ d y z v u _ s1 (h2.ext e1 sr.sub) r1 hz fun W2 w e2 s2 r2 => k W2 _ (e1.trans e2) s2 (sl_set (sl.ext (e1.trans e2) sr.sub) r2)⟩
  · cases hf
end
/-! ### while -/
def sWhileN (fc : FT) (fb : FS) : Nat → FS
  | 0, _, _ => none
  | n + 1, ρ, M => (fc ρ M).bind fun c => if c.1 = true then (fb ρ c.2).bind fun o => match o.1 with
      | .nx ρ' => sWhileN fc fb n ρ' o.2
      | .ct ρ' => sWhileN fc fb n ρ' o.2
      | .bk ρ' => some (.nx ρ', o.2)
      | .ret d => some (.ret d, o.2)
    else some (.nx ρ, c.2)
def fuel (ρ : Rho) (M : Mem) : Nat := ρ.foldl (fun n d => n + match d with | some (.int i) => i.natAbs | _ => 0) 1000000
def sWhile (fc : FT) (fb : FS) : FS := fun ρ M => sWhileN fc fb (fuel ρ M) ρ M
theorem pfs_while {X : Cx} {pos : Pos} {c : Expr} {body : List Stmt} {fc : FT} {fb : FS} (hp : PassesOwn (model X.prog X.w) X.A X.env X.xe) (hc : PFT X c fc) (hb : PFSs X body fb) : PFS X (.While c body [] pos) (sWhile fc fb) := ps_weak (ps_while hp hc hb) fun E σ H => by
  rw [liftS_iff]
  rintro ⟨W, ρ, M, rfl, sr, sl, o, M', hf, k⟩
  refine ⟨fun n σ' H' => ∃ W1 ρ1 M1, W1.H = H' ∧ Ext W W1 ∧ SR X.K W1 M1 ∧ Sl X.K W1 ρ1 σ' ∧ sWhileN fc fb n ρ1 M1 = some (o, M'), ⟨_, W, ρ, M, rfl, .refl W, sr, sl, hf⟩, ?_⟩
  rintro n σ1 H1 ⟨W1, ρ1, M1, rfl, e1, s1, l1, hw⟩
  cases n with
  | zero => cases hw
  | succ n =>
    obtain ⟨⟨b, M2⟩, hcx, hw⟩ := Option.bind_eq_some_iff.mp hw
    refine ⟨W1, ρ1, M1, rfl, s1, l1, b, M2, hcx, fun W2 e2 s2 => ?_⟩
    cases b with
    | false =>
      rw [if_neg Bool.false_ne_true] at hw ⊢
      cases hw
      exact k W2 σ1 (e1.trans e2) s2 (l1.ext e2 s1.sub)
    | true =>
      rw [if_pos rfl] at hw ⊢
      obtain ⟨⟨o3, M3⟩, ho, hw⟩ := Option.bind_eq_some_iff.mp hw
      refine ⟨fun σ' H' => ∃ W3 ρ3, W3.H = H' ∧ Ext W W3 ∧ SR X.K W3 M3 ∧ Sl X.K W3 ρ3 σ' ∧ sWhileN fc fb n ρ3 M3 = some (o, M'), ?_, liftS_iff.mpr ⟨W2, ρ1, M2, rfl, s2, l1.ext e2 s1.sub, o3, M3, ho, ?_⟩⟩
      · rintro σ' H' ⟨W3, ρ3, h1, h2, h3, h4, h5⟩
        exact ⟨n, Nat.lt_succ_self n, W3, ρ3, M3, h1, h2, h3, h4, h5⟩
      · cases o3 with
        | nx ρ3 => exact fun W3 σ3 e3 s3 l3 => ⟨W3, ρ3, rfl, (e1.trans e2).trans e3, s3, l3, hw⟩
        | ct ρ3 => exact fun W3 σ3 e3 s3 l3 => ⟨W3, ρ3, rfl, (e1.trans e2).trans e3, s3, l3, hw⟩
        | bk ρ3 => cases hw; exact fun W3 σ3 e3 s3 l3 => k W3 σ3 ((e1.trans e2).trans e3) s3 l3
        | ret d => cases hw; exact fun W3 v e3 s3 r3 => k W3 v ((e1.trans e2).trans e3) s3 r3
/-! ### for -/
/-- the items, and the changeable list that they are read from, if it is one -/
abbrev FI := Rho → Mem → Option ((List D × Option Nat) × Mem)
def chk (k : Option Nat) (xs : List D) (M : Mem) : Bool := match k with
  | none => true
  | some n => match M[n]? with | some (.lst ys) => D.beqs ys xs | _ => false
def JOk (K : PySem.W.Frag) (W : Wo) (J : It) (xs : List D) (k : Option Nat) : Prop := xs.length ≤ LINE ∧ ∀ W' M', Ext W W' → SR K W' M' → chk k xs M' = true → ∀ i,
  (∀ d, xs[i]? = some d → J.go i W'.H ∧ ∀ x H', J.yld i W'.H x H' → H' = W'.H ∧ Rp K W' d x) ∧ (xs.length ≤ i → J.stop i W'.H)
def liftI (K : PySem.W.Frag) (f : FI) : TI := fun σ H R => ∃ W ρ M, W.H = H ∧ SR K W M ∧ Sl K W ρ σ ∧ ∃ xs k M', f ρ M = some ((xs, k), M') ∧
  ∀ W' J, Ext W W' → SR K W' M' → JOk K W' J xs k → R J W'.H
abbrev PFI (X : Cx) (tg e : Expr) (f : FI) : Prop := PI X tg e (liftI X.K f)
def sLoop (c : Mem → Bool) (step : D → FS) : List D → FS
  | [], ρ, M => if c M = true then some (.nx ρ, M) else none
  | d :: ds, ρ, M => if c M = true then (step d ρ M).bind fun o => match o.1 with
      | .nx ρ' => sLoop c step ds ρ' o.2
      | .ct ρ' => sLoop c step ds ρ' o.2
      | .bk ρ' => some (.nx ρ', o.2)
      | .ret d => some (.ret d, o.2)
    else none
def sStep (t : FG) (fb : FS) (d : D) : FS := fun ρ M => (t d ρ).bind fun ρ' => fb ρ' M
def sFor (fi : FI) (t : FG) (fb : FS) : FS := fun ρ M => (fi ρ M).bind fun a => sLoop (chk a.1.2 a.1.1) (sStep t fb) a.1.1 ρ a.2
theorem pfs_for {X : Cx} {pos : Pos} {tg iter : Expr} {body : List Stmt} {fi : FI} {t : FG} {vs : List Nat} {fb : FS} (hp : PassesOwn (model X.prog X.w) X.A X.env X.xe) (hc : X.calm = true) (hi : PFI X tg iter fi) (hg : PFG X vs tg t) (hb : PFSs X body fb)
    (hs : ∀ x, foldedSetIterable iter X.env x = pure x := by intro _; rfl) : PFS X (.For tg iter body [] pos) (sFor fi t fb) := ps_weak (ps_for hp hc hi hg hb hs) fun E σ H => by
  rw [liftS_iff]
  rintro ⟨W, ρ, M, rfl, sr, sl, o, M', hf, k⟩
  obtain ⟨⟨⟨xs, kk⟩, M1⟩, hi, hf⟩ := Option.bind_eq_some_iff.mp hf
  refine ⟨W, ρ, M, rfl, sr, sl, xs, kk, M1, hi, fun W1 J e1 s1 jo => ?_⟩
  refine ⟨fun i m σ' H' => ∃ W2 ρ2 M2, W2.H = H' ∧ Ext W1 W2 ∧ SR X.K W2 M2 ∧ Sl X.K W2 ρ2 σ' ∧ i ≤ xs.length ∧ m = xs.length - i ∧ sLoop (chk kk xs) (sStep t fb) (xs.drop i) ρ2 M2 = some (o, M'), ⟨xs.length, W1, ρ, M1, rfl, .refl W1, s1, sl.ext e1 sr.sub, Nat.zero_le _, rfl, hf⟩, ?_⟩
  rintro i m σ2 H2 ⟨W2, ρ2, Mt, rfl, e2, s2, l2, hil, rfl, hw⟩
  by_cases hlt : i < xs.length
  · right
    have hd : xs.drop i = xs[i] :: xs.drop (i + 1) := List.drop_eq_getElem_cons hlt
    rw [hd] at hw
    unfold sLoop at hw
    split at hw
    · rename_i hck
      obtain ⟨⟨o3, M3⟩, ho, hw⟩ := Option.bind_eq_some_iff.mp hw
      obtain ⟨hgo, hy⟩ := (jo.2 W2 Mt e2 s2 hck i).1 xs[i] (by simp [hlt])
      refine ⟨hgo, fun σ' H' => ∃ W3 ρ3, W3.H = H' ∧ Ext W1 W3 ∧ SR X.K W3 M3 ∧ Sl X.K W3 ρ3 σ' ∧ sLoop (chk kk xs) (sStep t fb) (xs.drop (i + 1)) ρ3 M3 = some (o, M'), ?_, fun x H' hx => ?_⟩
      · rintro σ' H' ⟨W3, ρ3, h1, h2, h3, h4, h5⟩
        exact ⟨xs.length - (i + 1), by omega, W3, ρ3, M3, h1, h2, h3, h4, hlt, rfl, h5⟩
      · obtain ⟨rfl, rx⟩ := hy x H' hx
        obtain ⟨ρ3, ht, ho⟩ := Option.bind_eq_some_iff.mp ho
        refine ⟨W2, ρ2, Mt, xs[i], rfl, s2, l2, rx, ρ3, ht, fun W3 σ3 e3 s3 l3 _ => liftS_iff.mpr ⟨W3, ρ3, Mt, rfl, s3, l3, o3, M3, ho, ?_⟩⟩
        cases o3 with
        | nx ρ4 => exact fun W4 σ4 e4 s4 l4 => ⟨W4, ρ4, rfl, e2.trans (e3.trans e4), s4, l4, hw⟩
        | ct ρ4 => exact fun W4 σ4 e4 s4 l4 => ⟨W4, ρ4, rfl, e2.trans (e3.trans e4), s4, l4, hw⟩
        | bk ρ4 => cases hw; exact fun W4 σ4 e4 s4 l4 => k W4 σ4 (e1.trans (e2.trans (e3.trans e4))) s4 l4
        | ret d => cases hw; exact fun W4 v e4 s4 r4 => k W4 v (e1.trans (e2.trans (e3.trans e4))) s4 r4
    · cases hw
  · left
    have e : i = xs.length := by omega
    subst e
    rw [List.drop_length] at hw
    unfold sLoop at hw
    split at hw
    · rename_i hck
      cases hw
      exact ⟨(jo.2 W2 _ e2 s2 hck xs.length).2 (Nat.le_refl _), k W2 σ2 (e1.trans e2) s2 l2⟩
    · cases hw
/-! ### what a for walks -/
def fiSq (fa : FE) : FI := fun ρ M => (fa ρ M).bind fun a => match a.1 with
  | .ref n => (lsOf a.1 a.2).bind fun xs => some ((xs, some n), a.2)
  | d => (sqOf d a.2).bind fun xs => some ((xs, none), a.2)
def rgD (lo : Int) (n : Nat) : List D := (List.range n).map fun (i : Nat) => D.int (lo + i)
def okR (i j : Int) : Bool := Nat.ble i.natAbs 1000000000 && (Nat.ble j.natAbs 1000000000 && Nat.ble (j - i).toNat 16777216)
theorem okR_ok {i j : Int} (h : okR i j = true) : (-(4611686018427387904) ≤ i ∧ i < 4611686018427387904) ∧ (-(4611686018427387904) ≤ j ∧ j < 4611686018427387904) ∧ j - i ≤ 16777216 := by
  unfold okR at h
  rw [Bool.and_eq_true, Bool.and_eq_true] at h
  have h1 := Nat.le_of_ble_eq_true h.1
  have h2 := Nat.le_of_ble_eq_true h.2.1
  have h3 := Nat.le_of_ble_eq_true h.2.2
  omega
def fiRg1 (f : FA) : FI := fun ρ M => (f ρ M).bind fun a => match a.1 with | [.int j] => if okR 0 j then some ((rgD 0 j.toNat, none), a.2) else none | _ => none
def fiRg2 (f : FA) : FI := fun ρ M => (f ρ M).bind fun a => match a.1 with | [.int i, .int j] => if okR i j then some ((rgD i (j - i).toNat, none), a.2) else none | _ => none
section
variable {X : Cx} {tg a : Expr} {fa : FE}
theorem pi_weak {e : Expr} {t t' : TI} (h : PI X tg e t) (i : ∀ σ H Q, t' σ H Q → t σ H Q) : PI X tg e t' := ⟨fun pins s σ H Q I q => h.run pins s σ H Q I (i σ H Q q)⟩
def iSeq (K : PySem.W.Frag) (tl : TE) : TI := fun σ H R => tl σ H fun x H1 => ∃ a, x = .ref a ∧ (((∃ xs, SqL K H1 a xs) ∧ R (Itl K a) H1) ∨ ((∃ xs, SqT K H1 a xs) ∧ R (Itt K a) H1))
/-- a list or a tuple is walked -/
theorem pi_seq {l : Expr} {tl : TE} (hl : PE X l tl) : PI X tg l (iSeq X.K tl) := by
  refine ⟨fun pins s σ H R I h => ?_⟩
  refine thn (hl.run pins s σ H _ I h) fun vv s1 ⟨x, H1, I1, r1, p, ex, q⟩ => ?_
  subst ex
  cases r1
  have fresh : ∀ b ∈ [s1.heap.objs.size], FpOk X pins H1 b := fun b hb => by
    obtain rfl : b = s1.heap.objs.size := by simpa using hb
    exact I1.fpOk (Nat.le_refl _) (I1.hok.fresh (Nat.le_refl _))
  rcases q with ⟨⟨xs, hq⟩, q⟩ | ⟨⟨xs, hq⟩, q⟩
  · obtain ⟨its, rv, pl, _⟩ := I1.list hq
    exact wpAny_pyIter_list pl.isList ⟨s1.heap.objs.size, [s1.heap.objs.size], _, _, H1, rfl, I1.kept (t' := s1.toks) fun b u eb => Heap.get?_push_of_some _ eb, turn_list p _, ⟨_, Heap.get?_push_size _ rfl, rfl, rfl⟩, fresh, q⟩
  · obtain ⟨its, rv, pt, _⟩ := I1.tuple hq
    exact wpAny_pyIter_tuple (show s1.heap.IsTuple p its.toArray from pt) ⟨s1.heap.objs.size, [s1.heap.objs.size], _, _, H1, rfl, I1.kept (t' := s1.toks) fun b u eb => Heap.get?_push_of_some _ eb, turn_tuple p _, ⟨_, Heap.get?_push_size _ rfl, rfl, rfl⟩, fresh, q⟩
theorem jok_of {K : PySem.W.Frag} {W : Wo} {J : It} {xs : List D} {kk : Option Nat} (hz : xs.length ≤ LINE) (h : ∀ W' M', Ext W W' → SR K W' M' → chk kk xs M' = true → ∃ vs, RpL K W' xs vs ∧ (∀ i x, vs[i]? = some x → J.go i W'.H ∧ ∀ y H', J.yld i W'.H y H' → H' = W'.H ∧ y = x) ∧ ∀ i, vs.length ≤ i → J.stop i W'.H) : JOk K W J xs kk := by
  refine ⟨hz, fun W' M' e s c i => ?_⟩
  obtain ⟨vs, r, h1, h2⟩ := h W' M' e s c
  refine ⟨fun d hd => ?_, fun hl => h2 i (by rw [← r.len]; exact hl)⟩
  obtain ⟨v, hv, rv⟩ := r.get hd
  obtain ⟨g, y⟩ := h1 i v hv
  exact ⟨g, fun x H' hx => ⟨(y x H' hx).1, by rw [(y x H' hx).2]; exact rv⟩⟩
theorem walk_l {K : PySem.W.Frag} {H : Hp} {p : Addr} {vs : List V} (h : SqL K H p vs) : (∀ i x, vs[i]? = some x → (Itl K p).go i H ∧ ∀ y H', (Itl K p).yld i H y H' → H' = H ∧ y = x) ∧ ∀ i, vs.length ≤ i → (Itl K p).stop i H :=
  ⟨fun i x hx => ⟨⟨vs, x, h, hx⟩, fun y H' q => ⟨q.1, Option.some.inj ((q.2 vs h).symm.trans hx)⟩⟩, fun i hi => ⟨vs, h, hi⟩⟩
theorem walk_t {K : PySem.W.Frag} {H : Hp} {p : Addr} {vs : List V} (h : SqT K H p vs) : (∀ i x, vs[i]? = some x → (Itt K p).go i H ∧ ∀ y H', (Itt K p).yld i H y H' → H' = H ∧ y = x) ∧ ∀ i, vs.length ≤ i → (Itt K p).stop i H :=
  ⟨fun i x hx => ⟨⟨vs, x, h, hx⟩, fun y H' q => ⟨q.1, Option.some.inj ((q.2 vs h).symm.trans hx)⟩⟩, fun i hi => ⟨vs, h, hi⟩⟩
theorem jok_sq {K : PySem.W.Frag} {W : Wo} {M : Mem} {d : D} {v : V} {xs : List D} (sr : SR K W M) (h : Rp K W d v) (hn : ∀ n, d ≠ .ref n) (e : sqOf d M = some xs) :
    ∃ p, v = .ref p ∧ (((∃ vs, SqL K W.H p vs) ∧ JOk K W (Itl K p) xs none) ∨ ((∃ vs, SqT K W.H p vs) ∧ JOk K W (Itt K p) xs none)) := by
  obtain ⟨p, vs, rfl, h1, r⟩ := sq_sq sr h e
  refine ⟨p, rfl, ?_⟩
  cases d with
  | tup ds =>
    have hz := sq_len sr h e
    cases e
    obtain ⟨p', vs', e', q, r'⟩ := tp_sq h
    cases e'
    refine .inr ⟨⟨_, q⟩, jok_of hz fun W' M' ex s _ => ?_⟩
    obtain ⟨p2, vs2, e2, q2, r2⟩ := tp_sq (h.ext ex sr.sub)
    cases e2
    exact ⟨vs2, r2, walk_t q2⟩
  | ref n => exact absurd rfl (hn n)
  | lst ds =>
    have e' : lsOf (.lst ds) M = some xs := e
    obtain ⟨p', vs', e2, q, r'⟩ := ls_sq sr h e'
    cases e2
    refine .inl ⟨⟨_, q⟩, jok_of (sq_len sr h e) fun W' M' ex s _ => ?_⟩
    obtain ⟨p2, vs2, e2, q2, r2⟩ := ls_sq s (h.ext ex sr.sub) (show lsOf (.lst ds) M' = some xs from e')
    cases e2
    exact ⟨vs2, r2, walk_l q2⟩
  | kst ds =>
    have e' : lsOf (.kst ds) M = some xs := e
    obtain ⟨p', vs', e2, q, r'⟩ := ls_sq sr h e'
    cases e2
    refine .inl ⟨⟨_, q⟩, jok_of (sq_len sr h e) fun W' M' ex s _ => ?_⟩
    obtain ⟨p2, vs2, e2, q2, r2⟩ := ls_sq s (h.ext ex sr.sub) (show lsOf (.kst ds) M' = some xs from e')
    cases e2
    exact ⟨vs2, r2, walk_l q2⟩
  | _ => cases e
theorem pfi_sq (ha : PFE X a fa) : PFI X tg a (fiSq fa) := pi_weak (pi_seq ha) fun σ H R => by
  rintro ⟨W, ρ, M, rfl, sr, sl, xs, kk, M', hf, k⟩
  obtain ⟨⟨x, M1⟩, hx, hf⟩ := Option.bind_eq_some_iff.mp hf
  refine ⟨W, ρ, M, rfl, sr, sl, x, M1, hx, fun W1 v e1 s1 r1 => ?_⟩
  have other : (∀ n, x ≠ .ref n) → (sqOf x M1).bind (fun xs => some ((xs, (none : Option Nat)), M1)) = some ((xs, kk), M') → ∃ p, v = .ref p ∧ (((∃ xs, SqL X.K W1.H p xs) ∧ R (Itl X.K p) W1.H) ∨ ((∃ xs, SqT X.K W1.H p xs) ∧ R (Itt X.K p) W1.H)) := fun hn e => by
    obtain ⟨ys, hy, e⟩ := Option.bind_eq_some_iff.mp e
    cases e
    obtain ⟨p, rfl, q⟩ := jok_sq s1 r1 hn hy
    exact ⟨p, rfl, q.imp (fun z => ⟨z.1, k W1 _ e1 s1 z.2⟩) fun z => ⟨z.1, k W1 _ e1 s1 z.2⟩⟩
  cases x with
  | ref n =>
    obtain ⟨ys, hy, hf⟩ := Option.bind_eq_some_iff.mp hf
    cases hf
    obtain ⟨p, vs, rfl, q, r⟩ := ls_sq s1 r1 hy
    refine ⟨p, rfl, .inl ⟨⟨_, q⟩, k W1 _ e1 s1 (jok_of (ls_len s1 r1 hy) fun W' M' ex s c => ?_)⟩⟩
    unfold chk at c
    dsimp only at c
    split at c
    · rename_i zs hz
      have ez := D.eqs_of_beqs _ _ c
      subst ez
      obtain ⟨p2, vs2, e2, q2, r2⟩ := ls_sq s (r1.ext ex s1.sub) (show lsOf (.ref n) M' = some zs by simp only [lsOf, hz])
      cases e2
      exact ⟨vs2, r2, walk_l q2⟩
    · cases c
  | tup _ => exact other (fun n z => nomatch z) hf
  | lst _ => exact other (fun n z => nomatch z) hf
  | kst _ => exact other (fun n z => nomatch z) hf
  | non => exact other (fun n z => nomatch z) hf
  | bl _ => exact other (fun n z => nomatch z) hf
  | int _ => exact other (fun n z => nomatch z) hf
  | str _ => exact other (fun n z => nomatch z) hf
theorem jok_rg {K : PySem.W.Frag} {W : Wo} {lo : Int} {n : Nat} (hn : n ≤ LINE) : JOk K W (Itr lo n) (rgD lo n) none := by
  have hl : (rgD lo n).length = n := by unfold rgD; simp
  refine ⟨by rw [hl]; exact hn, fun W' M' e s c i => ?_⟩
  refine ⟨fun d hd => ?_, fun h => by rw [hl] at h; exact h⟩
  have hi : i < n := by rw [← hl]; exact (List.getElem?_eq_some_iff.mp hd).1
  have hd' : d = D.int (lo + i) := by
    unfold rgD at hd
    rw [List.getElem?_map, List.getElem?_range hi] at hd
    cases hd; rfl
  subst hd'
  exact ⟨hi, fun x H' hx => ⟨hx.1, hx.2⟩⟩
theorem pfi_rg1 {f : FA} {p pos : Pos} (hg : Gl X "range") (hm : X.mg "range" = none) (ha : PFA X [a] f) (hs : starEach [a] X.env = [(false, eval a X.env)] := by rfl) : PFI X tg (.Call (.Name "range" p) [a] [] pos) (fiRg1 f) := pi_weak (pi_range1 hg hm ha hs) fun σ H R => by
  rintro ⟨W, ρ, M, rfl, sr, sl, xs, kk, M', hf, k⟩
  obtain ⟨⟨x, M1⟩, hx, hf⟩ := Option.bind_eq_some_iff.mp hf
  dsimp only at hf
  split at hf
  · split at hf
    · rename_i hr
      cases hf
      replace hr := okR_ok hr
      refine ⟨W, ρ, M, rfl, sr, sl, _, _, hx, fun W1 v e1 s1 r1 => ?_⟩
      obtain ⟨v1, r, rfl, q1, q2⟩ := r1
      cases (show _ = _ from q1); cases (show _ = _ from q2)
      exact ⟨_, rfl, hr.2.1.1, hr.2.1.2, k W1 _ e1 s1 (jok_rg (by show _ ≤ 16777216; omega))⟩
    · cases hf
  · cases hf
theorem pfi_rg2 {b : Expr} {f : FA} {p pos : Pos} (hg : Gl X "range") (hm : X.mg "range" = none) (ha : PFA X [a, b] f) (hs : starEach [a, b] X.env = [(false, eval a X.env), (false, eval b X.env)] := by rfl) (hs2 : starEach [b] X.env = [(false, eval b X.env)] := by rfl) :
    PFI X tg (.Call (.Name "range" p) [a, b] [] pos) (fiRg2 f) := pi_weak (pi_range2 hg hm ha hs hs2) fun σ H R => by
  rintro ⟨W, ρ, M, rfl, sr, sl, xs, kk, M', hf, k⟩
  obtain ⟨⟨x, M1⟩, hx, hf⟩ := Option.bind_eq_some_iff.mp hf
  dsimp only at hf
  split at hf
  · split at hf
    · rename_i hr
      cases hf
      replace hr := okR_ok hr
      refine ⟨W, ρ, M, rfl, sr, sl, _, _, hx, fun W1 v e1 s1 r1 => ?_⟩
      obtain ⟨v1, r, rfl, q1, v2, r', rfl, q2, q3⟩ := r1
      cases (show _ = _ from q1); cases (show _ = _ from q2); cases (show _ = _ from q3)
      exact ⟨_, _, rfl, ⟨hr.1.1, hr.1.2, hr.2.1.1, hr.2.1.2⟩, k W1 _ e1 s1 (jok_rg (by show _ ≤ 16777216; omega))⟩
    · cases hf
  · cases hf
end
end PF
namespace PF
open PySem PySem.Spec PyProof.Rows L2
/-! ### list comprehensions -/
/-- the state without the list that grows -/
def Wo.minus (W : Wo) (p : Addr) : Wo := ⟨W.as, fun a => W.bad a ∧ a ≠ p, fun a => if a = p then none else W.H a⟩
def Wo.plus (W : Wo) (p : Addr) (o : HO) : Wo := ⟨W.as, fun a => W.bad a ∨ a = p, upd W.H p o⟩
section
variable {K : PySem.W.Frag} {W W' W3 : Wo} {M : Mem} {p : Addr} {o : HO}
theorem minus_H {a : Addr} (h : a ≠ p) : (W.minus p).H a = W.H a := if_neg h
theorem minus_self : (W.minus p).H p = none := if_pos rfl
mutual
theorem Rp.minus (hb : W.bad p) (hn : p ∉ W.as) : ∀ (d : D) (v : V), Rp K W d v → Rp K (W.minus p) d v
  | .non, _, h => h
  | .bl _, _, h => h
  | .int _, _, h => h
  | .str _, _, h => h
  | .tup ds, v, h => by
    obtain ⟨a, vs, e1, f, r⟩ := h
    refine ⟨a, vs, e1, ⟨f.1.imp (fun q => ?_) fun q => q, f.2⟩, RpL.minus hb hn ds vs r⟩
    exact ⟨(minus_H fun z => q.2 (by rw [z]; exact hb)).trans q.1, fun z => q.2 z.1⟩
  | .lst ds, v, h => by
    obtain ⟨a, vs, e1, f, r⟩ := h
    exact ⟨a, vs, e1, ⟨⟨(minus_H fun z => f.1.2 (by rw [z]; exact hb)).trans f.1.1, fun z => f.1.2 z.1⟩, f.2⟩, RpL.minus hb hn ds vs r⟩
  | .kst ds, v, h => by
    obtain ⟨a, vs, e1, f, r⟩ := h
    refine ⟨a, vs, e1, ⟨f.1.imp (fun q => ?_) fun q => q, f.2⟩, RpL.minus hb hn ds vs r⟩
    obtain ⟨⟨o, q1⟩, q2⟩ := q
    exact ⟨⟨o, (minus_H fun z => q2 (by rw [z]; exact hb)).trans q1⟩, fun z => q2 z.1⟩
  | .ref n, v, h => h
theorem RpL.minus (hb : W.bad p) (hn : p ∉ W.as) : ∀ (ds : List D) (vs : List V), RpL K W ds vs → RpL K (W.minus p) ds vs
  | [], _, h => h
  | d :: ds, vs, h => by
    obtain ⟨v, r, e1, h1, h2⟩ := h
    exact ⟨v, r, e1, Rp.minus hb hn d v h1, RpL.minus hb hn ds r h2⟩
end
theorem SR.minus (hb : W.bad p) (hn : p ∉ W.as) (sr : SR K W M) : SR K (W.minus p) M := by
  have ne : ∀ a, a ∈ W.as → a ≠ p := fun a h z => hn (by rw [← z]; exact h)
  refine ⟨sr.len, sr.nd, fun a h => ⟨sr.sub a h, ne a h⟩, fun a h => ?_, fun n a mo h1 h2 => ?_⟩
  · obtain ⟨o, q⟩ := sr.bt a h.1
    exact ⟨o, (minus_H h.2).trans q⟩
  · have m := sr.obj n a mo h1 h2
    have na := ne a (List.mem_of_getElem? h1)
    cases mo with
    | lst ds =>
      obtain ⟨vs, q1, q2⟩ := m
      exact ⟨vs, ⟨(minus_H na).trans q1.1, q1.2⟩, q2.minus hb hn⟩
theorem Ext.plus (hp : W.H p = none) : Ext W (W.plus p o) := by
  refine ⟨⟨[], by simp [Wo.plus], fun _ h => by simp at h⟩, fun _ h => .inl h, fun a h => ?_, fun a u _ h => (upd_ne (ne_of_none h hp)).trans h, fun a u h => ⟨u, (upd_ne (ne_of_none h hp)).trans h⟩⟩
  rcases h with h | h
  · exact .inl h
  · rw [h]; exact .inr hp
theorem SR.plus (sr : SR K W M) (hp : W.H p = none) : SR K (W.plus p o) M := by
  have E := Ext.plus (W := W) (o := o) hp
  refine ⟨sr.len, sr.nd, fun a h => .inl (sr.sub a h), fun a h => ?_, fun n a mo h1 h2 => ?_⟩
  · rcases h with h | h
    · obtain ⟨u, q⟩ := sr.bt a h
      exact E.live a u q
    · rw [h]; exact ⟨o, upd_same⟩
  · have m := sr.obj n a mo h1 h2
    obtain ⟨o', q⟩ := m.there
    exact m.ext E sr.sub (upd_ne (ne_of_none q hp))
/-- behind a step from W with the list at p: W without it, and the list as it was -/
theorem Ext.unplus (sr : SR K W M) (hp : W.H p = none) (e : Ext (W.plus p o) W3) : Ext W (W3.minus p) ∧ W3.bad p ∧ p ∉ W3.as ∧ W3.H p = some o := by
  have npa : p ∉ W.as := fun z => sr.nb hp (sr.sub p z)
  have h3 : W3.H p = some o := e.keep p o npa upd_same
  have hb : W3.bad p := e.bad p (.inr rfl)
  obtain ⟨new, ea, fr⟩ := e.as
  have frW : ∀ a ∈ new, W.H a = none ∧ a ≠ p := fun a ha => by
    have q : upd W.H p o a = none := fr a ha
    by_cases z : a = p
    · rw [z, upd_same] at q; cases q
    · rw [upd_ne z] at q; exact ⟨q, z⟩
  refine ⟨⟨⟨new, ea, fun a ha => (frW a ha).1⟩, fun a h => ⟨e.bad a (.inl h), fun z => sr.nb hp (by rw [← z]; exact h)⟩, fun a h => ?_, fun a u ha hu => ?_, fun a u hu => ?_⟩, hb, fun z => ?_, h3⟩
  · rcases e.new a h.1 with q | q
    · rcases q with q | q
      · exact .inl q
      · exact absurd q h.2
    · have q' : upd W.H p o a = none := q
      rw [upd_ne h.2] at q'
      exact .inr q'
  · have na : a ≠ p := ne_of_none hu hp
    exact (minus_H na).trans (e.keep a u ha ((upd_ne na).trans hu))
  · have na : a ≠ p := ne_of_none hu hp
    obtain ⟨u', q⟩ := e.live a u ((upd_ne na).trans hu)
    exact ⟨u', (minus_H na).trans q⟩
  · have z' : p ∈ W.as ++ new := by
      have q := z
      rw [ea] at q
      exact q
    rcases List.mem_append.mp z' with z | z
    · exact npa z
    · exact (frW p z).2 rfl
end
def wipeR (ρ : Rho) : List Nat → Rho
  | [] => ρ
  | v :: vs => (wipeR ρ vs).set v none
theorem wipeR_len (ρ : Rho) : ∀ vs : List Nat, (wipeR ρ vs).length = ρ.length
  | [] => rfl
  | v :: vs => by unfold wipeR; rw [List.length_set, wipeR_len ρ vs]
theorem Sl.wipe {K : PySem.W.Frag} {W : Wo} {ρ : Rho} {σ : L2.St} (h : Sl K W ρ σ) : ∀ vs : List Nat, Sl K W (wipeR ρ vs) (L2.wipe σ vs)
  | [] => h
  | v :: vs => by
    have ih := Sl.wipe h vs
    refine ⟨by unfold wipeR L2.wipe; rw [List.length_set, List.length_set]; exact ih.len, fun i d hi => ?_⟩
    unfold wipeR at hi
    unfold L2.wipe
    by_cases e : v = i
    · subst e
      by_cases hl : v < (wipeR ρ vs).length
      · rw [List.getElem?_set_self hl] at hi; cases hi
      · rw [List.getElem?_eq_none (by rw [List.length_set]; omega)] at hi; cases hi
    · rw [List.getElem?_set_ne e] at hi ⊢
      exact ih.at_ i d hi
theorem wipe_idem (σ : L2.St) (vs : List Nat) : L2.wipe (L2.wipe σ vs) vs = L2.wipe σ vs := by
  have at_ : ∀ (vs ws : List Nat) (σ : L2.St) (i : Nat), i ∈ vs → (L2.wipe σ vs)[i]? = (if i < σ.length then some none else none) := by
    intro vs
    induction vs with
    | nil => intro ws σ i h; simp at h
    | cons v vs ih =>
      intro ws σ i h
      unfold L2.wipe
      by_cases e : v = i
      · subst e
        by_cases hl : v < σ.length
        · rw [List.getElem?_set_self (by rw [wipe_length]; exact hl), if_pos hl]
        · rw [List.getElem?_eq_none (by rw [List.length_set, wipe_length]; omega), if_neg hl]
      · rw [List.getElem?_set_ne e]
        rcases List.mem_cons.mp h with q | q
        · exact absurd q.symm e
        · exact ih ws σ i q
  apply List.ext_getElem?
  intro i
  by_cases h : i ∈ vs
  · rw [at_ vs [] _ i h, at_ vs [] _ i h, wipe_length]
  · rw [wipe_out h, wipe_out h]
def lcLoop (c : Mem → Bool) (t : FG) (ft : FT) (fe : FE) (ρ : Rho) : List D → List D → Mem → Option (List D × Mem)
  | [], acc, M => if c M = true then some (acc, M) else none
  | d :: ds, acc, M => if c M = true then (t d ρ).bind fun ρ' => (ft ρ' M).bind fun b =>
      if b.1 = true then (fe ρ' b.2).bind fun y => lcLoop c t ft fe ρ ds (acc ++ [y.1]) y.2 else lcLoop c t ft fe ρ ds acc b.2
    else none
/-- [elt for t in fi if ft] -/
def fLC (vs : List Nat) (fi : FI) (t : FG) (ft : FT) (fe : FE) : FA := fun ρ M => (fi ρ M).bind fun a => lcLoop (chk a.1.2 a.1.1) t ft fe (wipeR ρ vs) a.1.1 [] a.2
def fYes : FT := fun _ M => some (true, M)
abbrev PFTs (X : Cx) (ifs : List Expr) (f : FT) : Prop := PTs X ifs (liftT X.K f)
theorem pts_weak {X : Cx} {e : List Expr} {t t' : TT} (h : PTs X e t) (i : ∀ σ H Q, t' σ H Q → t σ H Q) : PTs X e t' := ⟨fun pins s σ H Q I q => h.run pins s σ H Q I (i σ H Q q)⟩
theorem pfts_nil {X : Cx} : PFTs X [] fYes := pts_weak pts_nil fun σ H Q => by
  rintro ⟨W, ρ, M, rfl, sr, sl, d, M', hf, k⟩
  cases hf
  exact k W (.refl W) sr
theorem pfts_one {X : Cx} {c : Expr} {f : FT} (h : PFT X c f) : PFTs X [c] f := pts_one h
theorem lc_lift {K : PySem.W.Frag} {fi : FI} {t : FG} {ft : FT} {fe : FE} {vs : List Nat} : ∀ σ H Q, liftN K (fLC vs fi t ft fe) σ H Q → tLc (liftI K fi) (liftG K vs t) (liftT K ft) (liftE K fe) vs σ H Q := by
  rintro σ H Q ⟨W, ρ, M, rfl, sr, sl, out, M', hf, k⟩
  obtain ⟨⟨⟨xs, kk⟩, M1⟩, hi, hf⟩ := Option.bind_eq_some_iff.mp hf
  refine ⟨W, ρ, M, rfl, sr, sl, xs, kk, M1, hi, fun W1 J e1 s1 jo D hD => ?_⟩
  -- the loop: W2 is the state without the growing list
  refine ⟨fun i m H' => ∃ W2 Mt acc ws, H' = upd W2.H D (.lst ws) ∧ W2.H D = none ∧ Ext W1 W2 ∧ SR K W2 Mt ∧ RpL K W2 acc ws ∧ ws.length ≤ i ∧ i ≤ xs.length ∧ m = xs.length - i ∧
    lcLoop (chk kk xs) t ft fe (wipeR ρ vs) (xs.drop i) acc Mt = some (out, M'), ⟨xs.length, W1, M1, [], [], rfl, hD, .refl W1, s1, rfl, Nat.le_refl _, Nat.zero_le _, rfl, hf⟩, ?_⟩
  rintro i m H' ⟨W2, Mt, acc, ws, rfl, hD2, e2, s2, racc, hws, hil, rfl, hw⟩
  have eP : Ext W2 (W2.plus D (.lst ws)) := Ext.plus hD2
  have sP : SR K (W2.plus D (.lst ws)) Mt := s2.plus hD2
  by_cases hlt : i < xs.length
  · right
    have hd : xs.drop i = xs[i] :: xs.drop (i + 1) := List.drop_eq_getElem_cons hlt
    rw [hd] at hw
    unfold lcLoop at hw
    split at hw
    · rename_i hck
      obtain ⟨ρ', ht, hw⟩ := Option.bind_eq_some_iff.mp hw
      obtain ⟨⟨b, M3⟩, hb, hw⟩ := Option.bind_eq_some_iff.mp hw
      obtain ⟨hgo, hy⟩ := (jo.2 _ Mt (e2.trans eP) sP hck i).1 xs[i] (by simp [hlt])
      refine ⟨hgo, fun H' => ∃ W4 Mt acc ws, H' = upd W4.H D (.lst ws) ∧ W4.H D = none ∧ Ext W1 W4 ∧ SR K W4 Mt ∧ RpL K W4 acc ws ∧ ws.length ≤ i + 1 ∧
        lcLoop (chk kk xs) t ft fe (wipeR ρ vs) (xs.drop (i + 1)) acc Mt = some (out, M'), ?_, fun x H' hx => ?_⟩
      · rintro H' ⟨W4, Mt', acc', ws', h1, h2, h3, h4, h5, h6, h7⟩
        exact ⟨xs.length - (i + 1), by omega, W4, Mt', acc', ws', h1, h2, h3, h4, h5, h6, hlt, rfl, h7⟩
      · obtain ⟨rfl, rx⟩ := hy x H' hx
        have slW : Sl K (W2.plus D (.lst ws)) (wipeR ρ vs) (L2.wipe σ vs) := (sl.ext (e1.trans (e2.trans eP)) sr.sub).wipe vs
        refine ⟨_, wipeR ρ vs, Mt, xs[i], rfl, sP, slW, rx, ρ', ht, fun W3 σ3 e3 s3 l3 w3 => ⟨by rw [w3, wipe_idem], ?_⟩⟩
        refine ⟨W3, ρ', Mt, rfl, s3, l3, b, M3, hb, fun W4 e4 s4 => ?_⟩
        cases b with
        | false =>
          rw [if_neg Bool.false_ne_true] at hw ⊢
          obtain ⟨e5, b5, n5, h5⟩ := Ext.unplus s2 hD2 (e3.trans e4)
          refine ⟨W4.minus D, M3, acc, ws, ?_, minus_self, e2.trans e5, s4.minus b5 n5, (racc.ext e5 s2.sub), by omega, hw⟩
          funext a
          by_cases z : a = D
          · subst z; rw [upd_same]; exact h5
          · rw [upd_ne z]; exact (minus_H z).symm
        | true =>
          rw [if_pos rfl] at hw ⊢
          obtain ⟨⟨y, M5⟩, hye, hw⟩ := Option.bind_eq_some_iff.mp hw
          refine ⟨W4, ρ', M3, rfl, s4, l3.ext e4 s3.sub, y, M5, hye, fun W5 v e5 s5 r5 => ?_⟩
          obtain ⟨e6, b6, n6, h6⟩ := Ext.unplus s2 hD2 ((e3.trans e4).trans e5)
          have hz : ws.length < LINE := by have := jo.1; omega
          refine ⟨ws, h6, by rw [line_eq]; exact hz, W5.minus D, M5, acc ++ [y], ws ++ [v], ?_, minus_self, e2.trans e6, s5.minus b6 n6, (racc.ext e6 s2.sub).append (.one (r5.minus b6 n6)), by rw [List.length_append, List.length_singleton]; omega, hw⟩
          funext a
          by_cases z : a = D
          · subst z; rw [upd_same, upd_same]
          · rw [upd_ne z, upd_ne z]; exact (minus_H z).symm
    · cases hw
  · left
    have e : i = xs.length := by omega
    subst e
    rw [List.drop_length] at hw
    unfold lcLoop at hw
    split at hw
    · rename_i hck
      cases hw
      refine ⟨(jo.2 _ _ (e2.trans eP) sP hck xs.length).2 (Nat.le_refl _), ?_⟩
      exact k W2 D ws (e1.trans e2) s2 hD2 racc (by have := jo.1; omega)
    · cases hw
section
variable {X : Cx} {elt tg iter : Expr} {ifs : List Expr} {scope : Scope} {own : List (Str × Nat)} {pos : Pos} {fi : FI} {t : FG} {ft : FT} {fe : FE}
theorem pfn_lc (hc : X.calm = true) (hN : X.N.Nodup) (hi : PFI X tg iter fi) (ok : BlkOk X.N X.env.scope scope own)
    (hg : ∀ (s : Shared) (H : Hp) (C : Addr) (cl : List (Str × Addr)) (fp : List Addr), PFG (X.blk s H scope (compEnvC scope cl C X.env) fp) (own.map (·.2)) tg t) (ht : ∀ (s : Shared) (H : Hp) (C : Addr) (cl : List (Str × Addr)) (fp : List Addr), PFTs (X.blk s H scope (compEnvC scope cl C X.env) fp) ifs ft)
    (he : ∀ (s : Shared) (H : Hp) (C : Addr) (cl : List (Str × Addr)) (fp : List Addr), PFE (X.blk s H scope (compEnvC scope cl C X.env) fp) elt fe) (hs : ∀ x, foldedSetIterable iter X.env x = pure x := by intro _; rfl) :
    PFN X (.ListComp elt [⟨tg, iter, ifs, 0⟩] scope pos) (fLC (own.map (·.2)) fi t ft fe) := pe_weak (pe_lc hc hN hi ok hg ht he hs) lc_lift
theorem set_fz {K : PySem.W.Frag} {i : Nat} {f : FA} : ∀ E σ H, liftS K (sSet i (fFz f)) E σ H → liftN K f σ H fun x H1 => gName i x σ H1 E.nx := fun E σ H => by
  rw [liftS_iff]
  rintro ⟨W, ρ, M, rfl, sr, sl, o, M', hf, k⟩
  obtain ⟨⟨x, M1⟩, hx, hf⟩ := Option.bind_eq_some_iff.mp hf
  obtain ⟨⟨y, M2⟩, hy, hx⟩ := Option.bind_eq_some_iff.mp hx
  cases hx; cases hf
  exact ⟨W, ρ, M, rfl, sr, sl, y, _, hy, fun W1 p vs e1 s1 hp r1 hl => k _ _ (e1.trans (Ext.put hp)) (s1.put hp) (sl_set (sl.ext (e1.trans (Ext.put hp)) sr.sub) (.newLst s1 hp r1 hl))⟩
theorem set_mut {K : PySem.W.Frag} {i : Nat} {f : FA} : ∀ E σ H, liftS K (sSet i (fMut f)) E σ H → liftN K f σ H fun x H1 => gName i x σ H1 E.nx := fun E σ H => by
  rw [liftS_iff]
  rintro ⟨W, ρ, M, rfl, sr, sl, o, M', hf, k⟩
  obtain ⟨⟨x, M1⟩, hx, hf⟩ := Option.bind_eq_some_iff.mp hf
  obtain ⟨⟨y, M2⟩, hy, hx⟩ := Option.bind_eq_some_iff.mp hx
  cases hx; cases hf
  exact ⟨W, ρ, M, rfl, sr, sl, y, _, hy, fun W1 p vs e1 s1 hp r1 hl => k _ _ (e1.trans (Ext.mk2 hp)) (s1.mk2 hp r1 hl) (sl_set (sl.ext (e1.trans (Ext.mk2 hp)) sr.sub) (.mk2 s1))⟩
theorem pfs_setLcF {i : Nat} {y : Str} {py spos : Pos} (hc : X.calm = true) (hN : X.N.Nodup) (hy : X.N[i]? = some y) (hyl : X.env.scope.names.lookup y = some .local)
    (hsw : swapsWith (.ListComp elt [⟨tg, iter, ifs, 0⟩] scope pos) (some (.Name y py)) spos.line X.env = pure true) (hi : PFI X tg iter fi) (ok : BlkOk X.N X.env.scope scope own)
    (hg : ∀ (s : Shared) (H : Hp) (C : Addr) (cl : List (Str × Addr)) (fp : List Addr), PFG (X.blk s H scope (compEnvC scope cl C X.env) fp) (own.map (·.2)) tg t) (ht : ∀ (s : Shared) (H : Hp) (C : Addr) (cl : List (Str × Addr)) (fp : List Addr), PFTs (X.blk s H scope (compEnvC scope cl C X.env) fp) ifs ft)
    (he : ∀ (s : Shared) (H : Hp) (C : Addr) (cl : List (Str × Addr)) (fp : List Addr), PFE (X.blk s H scope (compEnvC scope cl C X.env) fp) elt fe) (hs : ∀ x, foldedSetIterable iter X.env x = pure x := by intro _; rfl) :
    PFS X (.Assign [.Name y py] (.ListComp elt [⟨tg, iter, ifs, 0⟩] scope pos) spos) (sSet i (fFz (fLC (own.map (·.2)) fi t ft fe))) := ps_weak (ps_setLc hc hN hy hyl hsw hi ok hg ht he hs) fun E σ H h => lc_lift _ _ _ (set_fz E σ H h)
theorem pfs_setLcM {i : Nat} {y : Str} {py spos : Pos} (hc : X.calm = true) (hN : X.N.Nodup) (hy : X.N[i]? = some y) (hyl : X.env.scope.names.lookup y = some .local)
    (hsw : swapsWith (.ListComp elt [⟨tg, iter, ifs, 0⟩] scope pos) (some (.Name y py)) spos.line X.env = pure true) (hi : PFI X tg iter fi) (ok : BlkOk X.N X.env.scope scope own)
    (hg : ∀ (s : Shared) (H : Hp) (C : Addr) (cl : List (Str × Addr)) (fp : List Addr), PFG (X.blk s H scope (compEnvC scope cl C X.env) fp) (own.map (·.2)) tg t) (ht : ∀ (s : Shared) (H : Hp) (C : Addr) (cl : List (Str × Addr)) (fp : List Addr), PFTs (X.blk s H scope (compEnvC scope cl C X.env) fp) ifs ft)
    (he : ∀ (s : Shared) (H : Hp) (C : Addr) (cl : List (Str × Addr)) (fp : List Addr), PFE (X.blk s H scope (compEnvC scope cl C X.env) fp) elt fe) (hs : ∀ x, foldedSetIterable iter X.env x = pure x := by intro _; rfl) :
    PFS X (.Assign [.Name y py] (.ListComp elt [⟨tg, iter, ifs, 0⟩] scope pos) spos) (sSet i (fMut (fLC (own.map (·.2)) fi t ft fe))) := ps_weak (ps_setLc hc hN hy hyl hsw hi ok hg ht he hs) fun E σ H h => lc_lift _ _ _ (set_mut E σ H h)
end
end PF
namespace PF
open PySem PySem.Spec PyProof.Rows L2
/-! ### data without references; without lists -/
mutual
def D.nr : D → Bool
  | .ref _ => false
  | .tup xs => D.nrs xs
  | .lst xs => D.nrs xs
  | .kst xs => D.nrs xs
  | _ => true
def D.nrs : List D → Bool
  | [] => true
  | x :: xs => D.nr x && D.nrs xs
end
mutual
def D.nl : D → Bool
  | .ref _ => false
  | .tup xs => D.nls xs
  | .lst _ => false
  | .kst _ => false
  | _ => true
def D.nls : List D → Bool
  | [] => true
  | x :: xs => D.nl x && D.nls xs
end
section
variable {K : PySem.W.Frag} {W W' : Wo}
mutual
theorem Rp.nr (hH : W'.H = W.H) (hb : ∀ a, W'.bad a → W.bad a) : ∀ (d : D) (v : V), d.nr = true → Rp K W d v → Rp K W' d v
  | .non, _, _, h => h
  | .bl _, _, _, h => h
  | .int _, _, _, h => h
  | .str _, _, _, h => h
  | .ref _, _, hn, _ => by rw [D.nr] at hn; cases hn
  | .tup ds, v, hn, h => by
    rw [D.nr] at hn
    obtain ⟨a, vs, e1, f, r⟩ := h
    exact ⟨a, vs, e1, ⟨f.1.imp (fun q => ⟨by rw [hH]; exact q.1, fun z => q.2 (hb a z)⟩) fun q => q, f.2⟩, RpL.nr hH hb ds vs hn r⟩
  | .lst ds, v, hn, h => by
    rw [D.nr] at hn
    obtain ⟨a, vs, e1, f, r⟩ := h
    exact ⟨a, vs, e1, ⟨⟨by rw [hH]; exact f.1.1, fun z => f.1.2 (hb a z)⟩, f.2⟩, RpL.nr hH hb ds vs hn r⟩
  | .kst ds, v, hn, h => by
    rw [D.nr] at hn
    obtain ⟨a, vs, e1, f, r⟩ := h
    refine ⟨a, vs, e1, ⟨f.1.imp (fun q => ?_) fun q => q, f.2⟩, RpL.nr hH hb ds vs hn r⟩
    obtain ⟨⟨o, q1⟩, q2⟩ := q
    exact ⟨⟨o, by rw [hH]; exact q1⟩, fun z => q2 (hb a z)⟩
theorem RpL.nr (hH : W'.H = W.H) (hb : ∀ a, W'.bad a → W.bad a) : ∀ (ds : List D) (vs : List V), D.nrs ds = true → RpL K W ds vs → RpL K W' ds vs
  | [], _, _, h => h
  | d :: ds, vs, hn, h => by
    rw [D.nrs, Bool.and_eq_true] at hn
    obtain ⟨v, r, e1, h1, h2⟩ := h
    exact ⟨v, r, e1, Rp.nr hH hb d v hn.1 h1, RpL.nr hH hb ds r hn.2 h2⟩
end
/-- tuples alone: what is wrongly shut away is a list -/
def LstAt (H : Hp) (a : Addr) : Prop := ∃ vs, H a = some (.lst vs)
mutual
theorem Rp.nl (hH : W'.H = W.H) (hb : ∀ a, W'.bad a → W.bad a ∨ LstAt W.H a) : ∀ (d : D) (v : V), d.nl = true → Rp K W d v → Rp K W' d v
  | .non, _, _, h => h
  | .bl _, _, _, h => h
  | .int _, _, _, h => h
  | .str _, _, _, h => h
  | .ref _, _, hn, _ => by rw [D.nl] at hn; cases hn
  | .lst _, _, hn, _ => by rw [D.nl] at hn; cases hn
  | .kst _, _, hn, _ => by rw [D.nl] at hn; cases hn
  | .tup ds, v, hn, h => by
    rw [D.nl] at hn
    obtain ⟨a, vs, e1, f, r⟩ := h
    refine ⟨a, vs, e1, ⟨f.1.imp (fun q => ⟨by rw [hH]; exact q.1, fun z => ?_⟩) fun q => q, f.2⟩, RpL.nl hH hb ds vs hn r⟩
    rcases hb a z with z | ⟨us, z⟩
    · exact q.2 z
    · rw [q.1] at z; cases z
theorem RpL.nl (hH : W'.H = W.H) (hb : ∀ a, W'.bad a → W.bad a ∨ LstAt W.H a) : ∀ (ds : List D) (vs : List V), D.nls ds = true → RpL K W ds vs → RpL K W' ds vs
  | [], _, _, h => h
  | d :: ds, vs, hn, h => by
    rw [D.nls, Bool.and_eq_true] at hn
    obtain ⟨v, r, e1, h1, h2⟩ := h
    exact ⟨v, r, e1, Rp.nl hH hb d v hn.1 h1, RpL.nl hH hb ds r hn.2 h2⟩
end
end
/-! ### a def's promise by a function on data -/
abbrev FnC := List D → Mem → Option (D × Mem)
def spOf (K : PySem.W.Frag) (c : FnC) (n : Nat) : Sp := fun vs H Q _ => vs.length = n ∧ ∃ W M ds, W.H = H ∧ SR K W M ∧ RpL K W ds vs ∧ ∃ d M', c ds M = some (d, M') ∧
  ∀ W' v, Ext W W' → SR K W' M' → Rp K W' d v → Q v W'.H
def MO.nr : MO → Bool
  | .lst xs => D.nrs xs
def Mem.nr : Mem → Bool
  | [] => true
  | m :: ms => m.nr && Mem.nr ms
/-- what is handed back; mu: a new list stays changeable -/
def fin (mu : Bool) (k : Nat) (d : D) (M : Mem) : Option (D × Mem) :=
  if Mem.nr (M.take k) = true then (match d with
    | .ref j => if j < k then none else match M[j]? with
      | some (.lst xs) => if D.nrs xs = true then (if mu = true then some (.ref k, M.take k ++ [.lst xs]) else some (.lst xs, M.take k)) else none
      | none => none
    | d => if d.nr = true then some (d, M.take k) else none) else none
def startR (n : Nat) (ds : List D) : Rho := ds.map some ++ List.replicate (n - ds.length) none
def runFn (mu : Bool) (n : Nat) (f : FS) : FnC := fun ds M => (f (startR n ds) M).bind fun o => match o.1 with
  | .ret d => fin mu M.length d o.2
  | .nx _ => fin mu M.length .non o.2
  | _ => none
section
variable {K : PySem.W.Frag} {W W' : Wo} {M M' : Mem}
theorem sl_start {ds : List D} {vs : List V} {N : List Str} (h : RpL K W ds vs) : Sl K W (startR N.length ds) (L2.start N vs) := by
  have hl := h.len
  refine ⟨by unfold startR L2.start; simp [hl], fun i d hi => ?_⟩
  unfold startR at hi
  unfold L2.start
  by_cases hlt : i < ds.length
  · rw [List.getElem?_append_left (by rw [List.length_map]; exact hlt), List.getElem?_map, List.getElem?_eq_getElem hlt] at hi
    have e : ds[i] = d := by simpa using hi
    obtain ⟨v, h1, h2⟩ := h.get (i := i) (d := d) (by rw [List.getElem?_eq_getElem hlt, e])
    refine ⟨v, ?_, h2⟩
    rw [List.getElem?_append_left (by rw [List.length_map, ← hl]; exact hlt), List.getElem?_map, h1]
    rfl
  · rw [List.getElem?_append_right (by rw [List.length_map]; omega)] at hi
    have := List.mem_of_getElem? hi
    simp at this
theorem Mem.nr_at : ∀ {M : Mem} {n : Nat} {mo : MO}, Mem.nr M = true → M[n]? = some mo → mo.nr = true
  | [], _, _, _, h => by simp at h
  | m :: ms, 0, mo, hn, h => by
    rw [Mem.nr, Bool.and_eq_true] at hn
    simp at h; subst h; exact hn.1
  | m :: ms, n + 1, mo, hn, h => by
    rw [Mem.nr, Bool.and_eq_true] at hn
    exact Mem.nr_at hn.2 (by simpa using h)
theorem MoOk.nr {a : Addr} {mo : MO} (hH : W'.H = W.H) (hb : ∀ a, W'.bad a → W.bad a) (hn : mo.nr = true) (h : MoOk K W a mo) : MoOk K W' a mo := by
  cases mo with
  | lst xs =>
    obtain ⟨vs, h1, h2⟩ := h
    exact ⟨vs, ⟨by rw [hH]; exact h1.1, h1.2⟩, h2.nr hH hb _ _ hn⟩
theorem take_as {new : List Addr} (e : W'.as = W.as ++ new) (hl : W.as.length = M.length) : W'.as.take M.length = W.as := by
  rw [e, ← hl, List.take_left]
/-- the state when a def has come back, but for its own lists -/
theorem fin_ok {mu : Bool} {d d' : D} {v : V} {M2 : Mem} (sr : SR K W M) (ex : Ext W W') (s : SR K W' M') (r : Rp K W' d v) (e : fin mu M.length d M' = some (d', M2)) :
    ∃ W2, W2.H = W'.H ∧ Ext W W2 ∧ SR K W2 M2 ∧ Rp K W2 d' v := by
  obtain ⟨new, ea, fr⟩ := ex.as
  have hl := sr.len
  have hat : ∀ n a, W.as[n]? = some a → W'.as[n]? = some a := fun n a h => by
    rw [ea]; exact (List.getElem?_append_left (List.getElem?_eq_some_iff.mp h).1).trans h
  unfold fin at e
  split at e
  · rename_i hnr
    -- the plain end
    have plain : ∀ bad' : Addr → Prop, (∀ a, bad' a → W'.bad a) → (∀ a, W.bad a → bad' a) → SR K ⟨W.as, bad', W'.H⟩ (M'.take M.length) ∧ Ext W ⟨W.as, bad', W'.H⟩ := fun bad' hb1 hb2 => by
      refine ⟨⟨?_, sr.nd, fun a h => hb2 a (sr.sub a h), fun a h => s.bt a (hb1 a h), fun n a mo h1 h2 => ?_⟩, ⟨⟨[], by simp, fun _ h => by simp at h⟩, hb2, fun a h => ex.new a (hb1 a h), ex.keep, ex.live⟩⟩
      · rw [List.length_take, ← s.len, ea, List.length_append]
        show W.as.length = _
        omega
      · have hn : n < M.length := by rw [← hl]; exact (List.getElem?_eq_some_iff.mp h1).1
        have h2' : M'[n]? = some mo := by rw [List.getElem?_take_of_lt hn] at h2; exact h2
        exact MoOk.nr (W := W') (W' := ⟨W.as, bad', W'.H⟩) rfl hb1 (Mem.nr_at hnr h2) (s.obj n a mo (hat n a h1) h2')
    have other : (∀ j, d ≠ .ref j) → (if d.nr = true then some (d, M'.take M.length) else none) = some (d', M2) → ∃ W2, W2.H = W'.H ∧ Ext W W2 ∧ SR K W2 M2 ∧ Rp K W2 d' v := fun _ e => by
      split at e
      · rename_i hn
        cases e
        obtain ⟨p1, p2⟩ := plain W'.bad (fun _ h => h) ex.bad
        exact ⟨⟨W.as, W'.bad, W'.H⟩, rfl, p2, p1, Rp.nr (W := W') (W' := ⟨W.as, W'.bad, W'.H⟩) rfl (fun _ h => h) _ _ hn r⟩
      · cases e
    cases d with
    | ref j =>
      dsimp only at e
      split at e
      · cases e
      · rename_i hj
        split at e
        · rename_i xs hx
          split at e
          · rename_i hn
            obtain ⟨a, h1, e1⟩ := r
            obtain ⟨vs, q1, q2⟩ := s.obj j a _ h1 hx
            have haN : a ∈ new := by
              rw [ea, List.getElem?_append_right (by omega)] at h1
              exact List.mem_of_getElem? h1
            have hWa : W.H a = none := fr a haN
            have nb : ¬ W.bad a := sr.nb hWa
            split at e
            · cases e
              obtain ⟨p1, p2⟩ := plain W'.bad (fun _ h => h) ex.bad
              have naW : a ∉ W.as := fun z => nb (sr.sub a z)
              refine ⟨⟨W.as ++ [a], W'.bad, W'.H⟩, rfl, ⟨⟨[a], rfl, fun b hb => by rw [show b = a by simpa using hb]; exact hWa⟩, ex.bad, ex.new, ex.keep, ex.live⟩, ?_, ⟨a, ?_, e1⟩⟩
              · refine ⟨?_, ?_, fun b hb => ?_, s.bt, fun n b mo h1' h2' => ?_⟩
                · have := p1.len
                  simp only [List.length_append, List.length_singleton]
                  show W.as.length + 1 = _
                  rw [show W.as.length = (M'.take M.length).length from this]
                · show (W.as ++ [a]).Nodup
                  rw [List.nodup_append]
                  refine ⟨sr.nd, by simp, fun b hb c hc => ?_⟩
                  rw [show c = a by simpa using hc]
                  rintro rfl; exact naW hb
                · rcases List.mem_append.mp hb with hb | hb
                  · exact ex.bad b (sr.sub b hb)
                  · rw [show b = a by simpa using hb]; exact s.sub a (List.mem_of_getElem? h1)
                · have h1'' : (W.as ++ [a])[n]? = some b := h1'
                  have hk : (M'.take M.length).length = W.as.length := p1.len.symm
                  by_cases hlt : n < W.as.length
                  · rw [List.getElem?_append_left hlt] at h1''
                    rw [List.getElem?_append_left (by rw [hk]; exact hlt)] at h2'
                    exact MoOk.nr (W := ⟨W.as, W'.bad, W'.H⟩) (W' := ⟨W.as ++ [a], W'.bad, W'.H⟩) rfl (fun _ h => h) (Mem.nr_at hnr h2') (p1.obj n b mo h1'' h2')
                  · have en : n = W.as.length := by
                      have := (List.getElem?_eq_some_iff.mp h1'').1
                      simp at this; omega
                    subst en
                    have eb : a = b := by simpa using h1''
                    have em : MO.lst xs = mo := by
                      rw [← hk] at h2'
                      simpa using h2'
                    subst eb em
                    exact ⟨vs, q1, RpL.nr (W := W') (W' := ⟨W.as ++ [a], W'.bad, W'.H⟩) rfl (fun _ h => h) _ _ hn q2⟩
              · show (W.as ++ [a])[M.length]? = some a
                rw [← hl]; simp
            · cases e
              obtain ⟨p1, p2⟩ := plain (fun b => W'.bad b ∧ b ≠ a) (fun _ h => h.1) fun b hb => ⟨ex.bad b hb, fun z => nb (by rw [← z]; exact hb)⟩
              exact ⟨⟨W.as, fun b => W'.bad b ∧ b ≠ a, W'.H⟩, rfl, p2, p1, a, vs, e1, ⟨⟨q1.1, fun z => z.2 rfl⟩, q1.2⟩, RpL.nr (W := W') (W' := ⟨W.as, fun b => W'.bad b ∧ b ≠ a, W'.H⟩) rfl (fun _ h => h.1) _ _ hn q2⟩
          · cases e
        · cases e
    | non => exact other (fun _ z => nomatch z) e
    | bl _ => exact other (fun _ z => nomatch z) e
    | int _ => exact other (fun _ z => nomatch z) e
    | str _ => exact other (fun _ z => nomatch z) e
    | tup _ => exact other (fun _ z => nomatch z) e
    | lst _ => exact other (fun _ z => nomatch z) e
    | kst _ => exact other (fun _ z => nomatch z) e
  · cases e
end
/-- THE RULE for a def: what its body computes, from its arguments to what is handed back -/
theorem fn_ok {P : Program} {w : World} {K : PySem.W.Frag} {mg : Str → Option Value} {base : Heap} {x qual : Str} {params : Arguments} {body : List Stmt} {scope : Scope} {f : Addr} {fd : FuncData} {N ps : List Str} {k : Nat} {mu : Bool} {g : FS}
    (F : FunD K x qual params body scope [] [] f fd) (S : FnScope N ps scope)
    (hb : ∀ (cdv : Value) (A : Around) (outer : List Env) (s : Shared) (H : Hp) (E : XK), Room k (A.deeper (envOfC qual scope s.heap.objs.size f cdv)) →
      PFSs (cxOf CX0 P w K mg base N qual scope f cdv A outer s H E).nox body g) : FnOk P w K mg base CX0 (k + 1) f fd ps (spOf K (runFn mu N.length g) ps.length) := by
  refine F.ok S (fun vs H Q E h => h.1) fun cdv A outer s H vs Q E hr h => ⟨_, (hb cdv A outer s H E hr).nox, ?_⟩
  obtain ⟨_, W, M, ds, rfl, sr, r, d, M', hc, k⟩ := h
  obtain ⟨⟨o, M1⟩, hg, hc⟩ := Option.bind_eq_some_iff.mp hc
  refine liftS_iff.mpr ⟨W, _, M, rfl, sr, sl_start r, o, M1, hg, ?_⟩
  cases o with
  | ret d1 =>
    intro W1 v e1 s1 r1
    obtain ⟨W2, hH, e2, s2, r2⟩ := fin_ok sr e1 s1 r1 hc
    show Q v W1.H
    rw [← hH]
    exact k W2 v e2 s2 r2
  | nx ρ1 =>
    intro W1 σ1 e1 s1 l1
    obtain ⟨W2, hH, e2, s2, r2⟩ := fin_ok (d := .non) (v := .non) sr e1 s1 rfl hc
    show Q .non W1.H
    rw [← hH]
    exact k W2 .non e2 s2 r2
  | bk ρ1 => cases hc
  | ct ρ1 => cases hc
/-- another function that says the same (where it says something) -/
theorem fn_as {P : Program} {w : World} {K : PySem.W.Frag} {mg : Str → Option Value} {base : Heap} {f : Addr} {fd : FuncData} {ps : List Str} {k n : Nat} {c c' : FnC} (F : FnOk P w K mg base CX0 k f fd ps (spOf K c n))
    (h : ∀ ds M r, c' ds M = some r → c ds M = some r) : FnOk P w K mg base CX0 k f fd ps (spOf K c' n) := F.imp fun vs H Q E ⟨hl, W, M, ds, h1, h2, h3, d, M', hc, k⟩ => ⟨hl, W, M, ds, h1, h2, h3, d, M', h ds M _ hc, k⟩
/-! ### the call of a def -/
/-- an argument that is only read: a changeable list stands as a list -/
def argP (M : Mem) : D → Option D
  | .ref n => match M[n]? with | some (.lst xs) => if D.nrs xs = true then some (.lst xs) else none | none => none
  | d => if d.nr = true then some d else none
def argsP (M : Mem) : List D → Option (List D)
  | [] => some []
  | d :: ds => (argP M d).bind fun e => (argsP M ds).bind fun es => some (e :: es)
def D.isRef : D → Bool
  | .ref _ => true
  | _ => false
def anyRef : List D → Bool
  | [] => false
  | d :: ds => d.isRef || anyRef ds
/-- nothing is changed by the callee -/
def callP (c : FnC) (ds : List D) (M : Mem) : Option (D × Mem) := (argsP M ds).bind fun es => (c es []).bind fun r => match r.2 with
  | [] => if anyRef ds && !r.1.nl then none else some (r.1, M)
  | [.lst xs] => match r.1 with
    | .ref 0 => if anyRef ds && !D.nls xs then none else if D.nrs xs = true then some (.ref M.length, M ++ [.lst xs]) else none
    | _ => none
  | _ => none
def fCall (c : FnC) (fa : FA) : FE := fun ρ M => (fa ρ M).bind fun a => callP c a.1 a.2
section
variable {K : PySem.W.Frag} {W : Wo} {M : Mem}
/-- the state as a callee sees it that changes nothing: the lists that are handed in are free -/
def Wo.lend (W : Wo) (as : List Addr) (free : Addr → Prop) : Wo := ⟨as, fun a => W.bad a ∧ ¬ free a, W.H⟩
theorem args_ok {as : List Addr} {free : Addr → Prop} (sr : SR K W M) : ∀ {ds es : List D} {vs : List V}, argsP M ds = some es → RpL K W ds vs → (∀ n a, D.ref n ∈ ds → W.as[n]? = some a → free a) →
    RpL K (W.lend as free) es vs
  | [], es, vs, e, r, _ => by cases e; exact r
  | d :: ds, es, vs, e, r, hf => by
    obtain ⟨d', hd, e⟩ := Option.bind_eq_some_iff.mp e
    obtain ⟨es', hes, e⟩ := Option.bind_eq_some_iff.mp e
    cases e
    obtain ⟨v, vr, rfl, r1, r2⟩ := r
    refine ⟨v, vr, rfl, ?_, args_ok sr hes r2 fun n a hm ha => hf n a (List.mem_cons_of_mem _ hm) ha⟩
    have other : (if d.nr = true then some d else none) = some d' → Rp K (W.lend as free) d' v := fun q => by
      split at q
      · rename_i hn
        cases q
        exact Rp.nr (W := W) (W' := W.lend as free) rfl (fun _ z => z.1) _ _ hn r1
      · cases q
    cases d with
    | ref n =>
      obtain ⟨a, h1, e1⟩ := r1
      obtain ⟨mo, hmo, m⟩ := sr.at_ h1
      cases mo with
      | lst xs =>
        simp only [argP, hmo] at hd
        split at hd
        · rename_i hn
          cases hd
          obtain ⟨us, q1, q2⟩ := m
          exact ⟨a, us, e1, ⟨⟨q1.1, fun z => z.2 (hf n a List.mem_cons_self h1)⟩, q1.2⟩, RpL.nr (W := W) (W' := W.lend as free) rfl (fun _ z => z.1) _ _ hn q2⟩
        · cases hd
    | non => exact other hd
    | bl _ => exact other hd
    | int _ => exact other hd
    | str _ => exact other hd
    | tup _ => exact other hd
    | lst _ => exact other hd
    | kst _ => exact other hd
theorem noRef : ∀ {ds : List D}, anyRef ds = false → ∀ n, D.ref n ∉ ds
  | [], _, _ => by simp
  | d :: ds, h, n => by
    rw [anyRef, Bool.or_eq_false_iff] at h
    intro z
    rcases List.mem_cons.mp z with z | z
    · rw [← z] at h; exact absurd h.1 (by simp [D.isRef])
    · exact noRef h.2 n z
/-- which lists are handed in -/
def Lent (W : Wo) (ds : List D) (a : Addr) : Prop := ∃ n, D.ref n ∈ ds ∧ W.as[n]? = some a
theorem lent_lst (sr : SR K W M) {ds : List D} {a : Addr} (h : Lent W ds a) : LstAt W.H a ∧ a ∈ W.as := by
  obtain ⟨n, _, h2⟩ := h
  obtain ⟨mo, _, m⟩ := sr.at_ h2
  cases mo with
  | lst xs => obtain ⟨vs, q, _⟩ := m; exact ⟨⟨vs, q.1⟩, List.mem_of_getElem? h2⟩
theorem callP_ok {c : FnC} {n : Nat} {ds : List D} {vs : List V} {d : D} {M' : Mem} {Q : VK} {E : XK} (sr : SR K W M) (r : RpL K W ds vs) (hn : vs.length = n) (e : callP c ds M = some (d, M'))
    (k : ∀ W' v, Ext W W' → SR K W' M' → Rp K W' d v → Q v W'.H) : spOf K c n vs W.H Q E := by
  obtain ⟨es, he, e⟩ := Option.bind_eq_some_iff.mp e
  obtain ⟨⟨d1, M1⟩, hc, e⟩ := Option.bind_eq_some_iff.mp e
  have sL : SR K (W.lend [] (Lent W ds)) [] := ⟨rfl, List.nodup_nil, fun a h => by simp [Wo.lend] at h, fun a h => sr.bt a h.1, fun n a mo h => by simp [Wo.lend] at h⟩
  refine ⟨hn, W.lend [] (Lent W ds), [], es, rfl, sL, args_ok sr he r fun n a h1 h2 => ⟨n, h1, h2⟩, d1, M1, hc, fun W1 v e1 s1 r1 => ?_⟩
  have keepAll : ∀ a o, W.H a = some o → W1.H a = some o := fun a o h => e1.keep a o (by simp [Wo.lend]) h
  have newb : ∀ a, W1.bad a → W.bad a ∨ W.H a = none := fun a h => (e1.new a h).imp (fun z => z.1) fun z => z
  -- the caller's state behind it
  have sr2 : ∀ (as' : List Addr), (∀ a ∈ as', W.H a = none ∧ W1.bad a) → Ext W ⟨W.as ++ as', fun a => W.bad a ∨ W1.bad a, W1.H⟩ := fun as' h =>
    ⟨⟨as', rfl, fun a ha => (h a ha).1⟩, fun a z => .inl z, fun a z => z.elim .inl (newb a), fun a o _ q => keepAll a o q, fun a o q => ⟨o, keepAll a o q⟩⟩
  have old : ∀ {W2 : Wo}, W2.H = W1.H → Ext W W2 → ∀ n a mo, W.as[n]? = some a → M[n]? = some mo → MoOk K W2 a mo := fun hH ex n a mo h1 h2 => by
    have m := sr.obj n a mo h1 h2
    obtain ⟨o, q⟩ := m.there
    exact m.ext ex sr.sub (by rw [hH, keepAll a o q, q])
  have badLst : ∀ a, (W.bad a ∨ W1.bad a) → W1.bad a ∨ (Lent W ds a ∧ LstAt W1.H a) := fun a z => by
    rcases z with z | z
    · by_cases q : Lent W ds a
      · obtain ⟨us, q2⟩ := (lent_lst sr q).1
        exact .inr ⟨q, us, keepAll a _ q2⟩
      · exact .inl (e1.bad a ⟨z, q⟩)
    · exact .inl z
  have badLst' : ∀ a, (W.bad a ∨ W1.bad a) → W1.bad a ∨ LstAt W1.H a := fun a z => (badLst a z).imp (fun q => q) fun q => q.2
  have noB : anyRef ds = false → ∀ a, (W.bad a ∨ W1.bad a) → W1.bad a := fun hr a z => by
    rcases badLst a z with q | ⟨⟨n, q, _⟩, _⟩
    · exact q
    · exact absurd q (noRef hr n)
  have toW2 : ∀ (as' : List Addr) (d : D) (v : V), d.nr = true → (anyRef ds && !d.nl) = false → Rp K W1 d v → Rp K ⟨W.as ++ as', fun a => W.bad a ∨ W1.bad a, W1.H⟩ d v := fun as' d v hnr h r => by
    cases hr : anyRef ds with
    | false => exact Rp.nr (W := W1) (W' := ⟨W.as ++ as', fun a => W.bad a ∨ W1.bad a, W1.H⟩) rfl (noB hr) _ _ hnr r
    | true => exact Rp.nl (W := W1) (W' := ⟨W.as ++ as', fun a => W.bad a ∨ W1.bad a, W1.H⟩) rfl badLst' _ _ (by rw [hr] at h; simpa using h) r
  have as1 : W1.as.length = M1.length := s1.len
  dsimp only at e
  split at e
  · -- nothing new
    have e0 : W1.as = [] := List.eq_nil_of_length_eq_zero as1
    split at e
    · cases e
    · rename_i h
      cases e
      have hnr : ∀ (d : D) (v : V), Rp K W1 d v → d.nr = true := by
        have both : (∀ (d : D) (v : V), Rp K W1 d v → d.nr = true) ∧ True := by
          refine ⟨fun d => ?_, trivial⟩
          refine D.rec (motive_1 := fun d => ∀ v, Rp K W1 d v → d.nr = true) (motive_2 := fun ds => ∀ vs, RpL K W1 ds vs → D.nrs ds = true) ?_ ?_ ?_ ?_ ?_ ?_ ?_ ?_ ?_ ?_ d
          · intro v _; rw [D.nr] <;> simp
          · intro b v _; rw [D.nr] <;> simp
          · intro i v _; rw [D.nr] <;> simp
          · intro x v _; rw [D.nr] <;> simp
          · intro xs ih v h; obtain ⟨a, vs, _, _, r⟩ := h; rw [D.nr]; exact ih vs r
          · intro xs ih v h; obtain ⟨a, vs, _, _, r⟩ := h; rw [D.nr]; exact ih vs r
          · intro xs ih v h; obtain ⟨a, vs, _, _, r⟩ := h; rw [D.nr]; exact ih vs r
          · intro n v h; obtain ⟨a, q, _⟩ := h; rw [e0] at q; simp at q
          · intro vs _; rw [D.nrs]
          · intro d ds i1 i2 vs h; obtain ⟨v, r, _, h1, h2⟩ := h; rw [D.nrs, i1 v h1, i2 r h2]; rfl
        exact both.1
      have ex := sr2 [] fun a h => by simp at h
      rw [List.append_nil] at ex
      have rd := toW2 [] d v (hnr d v r1) (by simpa using h) r1
      rw [List.append_nil] at rd
      exact k ⟨W.as, fun a => W.bad a ∨ W1.bad a, W1.H⟩ v ex ⟨sr.len, sr.nd, fun a q => .inl (sr.sub a q), fun a q => q.elim (fun z => let ⟨o, hq⟩ := sr.bt a z; ⟨o, keepAll a o hq⟩) (s1.bt a), fun n a mo h1 h2 => old (W2 := ⟨W.as, fun a => W.bad a ∨ W1.bad a, W1.H⟩) rfl ex n a mo h1 h2⟩ rd
  · -- a new list
    rename_i xs
    split at e
    · rename_i hd
      split at e
      · cases e
      · rename_i h
        split at e
        · rename_i hnr
          cases e
          obtain ⟨p, hp, ev⟩ := r1
          have e1' : W1.as = [p] := by
            have hl : W1.as.length = 1 := as1
            match hW : W1.as, hl with
            | [q], _ => rw [hW] at hp; simp at hp; rw [hp]
          obtain ⟨vs1, q1, q2⟩ := s1.obj 0 p (.lst xs) hp rfl
          have hpn : W.H p = none := by
            obtain ⟨new, ea, fr⟩ := e1.as
            refine fr p ?_
            have ea' : W1.as = new := by rw [ea]; rfl
            rw [← ea', e1']; simp
          have pb : W1.bad p := s1.sub p (by rw [e1']; simp)
          have npW : p ∉ W.as := fun z => sr.nb hpn (sr.sub p z)
          have ex := sr2 [p] fun a h => by rw [show a = p by simpa using h]; exact ⟨hpn, pb⟩
          have rxs : RpL K ⟨W.as ++ [p], fun a => W.bad a ∨ W1.bad a, W1.H⟩ xs vs1 := by
            cases hr : anyRef ds with
            | false => exact RpL.nr (W := W1) (W' := ⟨W.as ++ [p], fun a => W.bad a ∨ W1.bad a, W1.H⟩) rfl (noB hr) _ _ hnr q2
            | true => exact RpL.nl (W := W1) (W' := ⟨W.as ++ [p], fun a => W.bad a ∨ W1.bad a, W1.H⟩) rfl badLst' _ _ (by rw [hr] at h; simpa using h) q2
          refine k ⟨W.as ++ [p], fun a => W.bad a ∨ W1.bad a, W1.H⟩ v ex ⟨by simp [sr.len], ?_, fun a q => ?_, fun a q => q.elim (fun z => let ⟨o, hq⟩ := sr.bt a z; ⟨o, keepAll a o hq⟩) (s1.bt a), fun n a mo h1 h2 => ?_⟩ ⟨p, by show (W.as ++ [p])[M.length]? = some p; rw [← sr.len]; simp, ev⟩
          · show (W.as ++ [p]).Nodup
            rw [List.nodup_append]
            refine ⟨sr.nd, by simp, fun a ha b hb => ?_⟩
            rw [show b = p by simpa using hb]
            rintro rfl; exact npW ha
          · rcases List.mem_append.mp q with q | q
            · exact .inl (sr.sub a q)
            · rw [show a = p by simpa using q]; exact .inr pb
          · have h1' : (W.as ++ [p])[n]? = some a := h1
            by_cases hlt : n < W.as.length
            · rw [List.getElem?_append_left hlt] at h1'
              rw [List.getElem?_append_left (by rw [← sr.len]; exact hlt)] at h2
              exact old (W2 := ⟨W.as ++ [p], fun a => W.bad a ∨ W1.bad a, W1.H⟩) rfl ex n a mo h1' h2
            · have en : n = W.as.length := by
                have := (List.getElem?_eq_some_iff.mp h1').1
                simp at this; omega
              subst en
              have eb : p = a := by simpa using h1'
              have em : MO.lst xs = mo := by
                rw [sr.len] at h2
                simpa using h2
              subst eb em
              exact ⟨vs1, q1, rxs⟩
        · cases e
    · cases e
  · cases e
end
section
variable {X : Cx} {k n : Nat} {f : Addr} {fd : FuncData} {ps : List Str} {c : FnC} {x : Str} {p pos : Pos} {e : Expr} {es : List Expr} {fa : FA}
theorem pf_call (F : FnOk X.prog X.w X.K X.mg X.base CX0 k f fd ps (spOf X.K c n)) (hr : Room k X.A) (hg : Gl X x) (hm : X.mg x = some (.ref f)) (hk : PySem.W.keepIn X.K (.ref f) = true) (hb : Binds X.K fd ps []) (ha : PFA X (e :: es) fa) (hn : n = es.length + 1 := by rfl)
    (hlen : ∀ ρ M r, fa ρ M = some r → r.1.length = es.length + 1) (hdb : (x == ("__debug__" : Str)) = false := by decide) (he : starEach (e :: es) X.env = (false, eval e X.env) :: starEach es X.env := by rfl) (hpl : (backTo pos (starEach es X.env)).any (·.1) = false := by rfl) :
    PFE X (.Call (.Name x p) (e :: es) [] pos) (fCall c fa) := pe_weak (pe_call F hr hg hm hk hb .nil pass0 ha hdb he hpl) fun σ H Q => by
  rintro ⟨W, ρ, M, rfl, sr, sl, d, M', hf, k⟩
  obtain ⟨⟨ds, M1⟩, hx, hf⟩ := Option.bind_eq_some_iff.mp hf
  refine ⟨W, ρ, M, rfl, sr, sl, ds, M1, hx, fun W1 vs e1 s1 r1 => ?_⟩
  show spOf X.K c n (vs ++ []) W1.H Q E0
  rw [List.append_nil]
  exact callP_ok s1 r1 (by rw [← r1.len, hn]; exact hlen _ _ _ hx) hf fun W2 v e2 s2 r2 => k W2 v (e1.trans e2) s2 r2
theorem pf_call0 (F : FnOk X.prog X.w X.K X.mg X.base CX0 k f fd ps (spOf X.K c 0)) (hr : Room k X.A) (hg : Gl X x) (hm : X.mg x = some (.ref f)) (hk : PySem.W.keepIn X.K (.ref f) = true) (hb : Binds X.K fd ps []) (hdb : (x == ("__debug__" : Str)) = false := by decide) :
    PFE X (.Call (.Name x p) [] [] pos) (fCall c fNil) := pe_weak (pe_call0 F hr hg hm hk hb .nil pass0 hdb) fun σ H Q => by
  rintro ⟨W, ρ, M, rfl, sr, sl, d, M', hf, k⟩
  show spOf X.K c 0 ([] ++ []) W.H Q E0
  exact callP_ok (ds := []) sr rfl rfl hf fun W2 v e2 s2 r2 => k W2 v e2 s2 r2
end
theorem len_nil : ∀ ρ M (r : List D × Mem), fNil ρ M = some r → r.1.length = 0 := fun ρ M r h => by cases h; rfl
theorem len_cons {fa : FE} {f : FA} {n : Nat} (h : ∀ ρ M r, f ρ M = some r → r.1.length = n) : ∀ ρ M (r : List D × Mem), fCons fa f ρ M = some r → r.1.length = n + 1 := fun ρ M r e => by
  obtain ⟨a, ha, e⟩ := Option.bind_eq_some_iff.mp e
  obtain ⟨b, hb, e⟩ := Option.bind_eq_some_iff.mp e
  cases e
  simp [h _ _ _ hb]
end PF
namespace PF
open PySem PySem.Spec PyProof.Rows L2
/-! ### a call that changes one list -/
def refIn (n : Nat) : List D → Bool
  | [] => false
  | .ref m :: ds => decide (m = n) || refIn n ds
  | _ :: ds => refIn n ds
theorem refIn_no {n : Nat} : ∀ {ds : List D}, refIn n ds = false → D.ref n ∉ ds
  | [], _ => by simp
  | d :: ds, h => by
    intro z
    rcases List.mem_cons.mp z with z | z
    · subst z
      simp [refIn] at h
    · refine refIn_no (ds := ds) ?_ z
      cases d with
      | ref m => rw [refIn, Bool.or_eq_false_iff] at h; exact h.2
      | _ => exact h
def callS (i : Nat) (c : FnC) (ds : List D) (M : Mem) : Option (D × Mem) := match ds[i]? with
  | some (.ref n) => match M[n]? with
    | some mo => if mo.nr && !refIn n (ds.set i .non) then (argsP M (ds.set i .non)).bind fun es => (c (es.set i (.ref 0)) [mo]).bind fun r => match r.2 with
        | [.lst xs] => if (D.nrs xs && r.1.nr) && !(anyRef (ds.set i .non) && !(r.1.nl && D.nls xs)) then some (r.1, M.set n (.lst xs)) else none
        | _ => none
      else none
    | none => none
  | _ => none
def fCallS (i : Nat) (c : FnC) (fa : FA) : FE := fun ρ M => (fa ρ M).bind fun a => callS i c a.1 a.2
section
variable {K : PySem.W.Frag} {W : Wo} {M : Mem}
theorem callS_ok {i : Nat} {c : FnC} {n : Nat} {ds : List D} {vs : List V} {d : D} {M' : Mem} {Q : VK} {E : XK} (sr : SR K W M) (r : RpL K W ds vs) (hn : vs.length = n) (e : callS i c ds M = some (d, M'))
    (k : ∀ W' v, Ext W W' → SR K W' M' → Rp K W' d v → Q v W'.H) : spOf K c n vs W.H Q E := by
  unfold callS at e
  split at e
  · rename_i m hm
    split at e
    · rename_i mo hmo
      split at e
      · rename_i hc0
        rw [Bool.and_eq_true, Bool.not_eq_true'] at hc0
        obtain ⟨hnr, hri⟩ := hc0
        obtain ⟨es, he, e⟩ := Option.bind_eq_some_iff.mp e
        obtain ⟨⟨d1, M1⟩, hc, e⟩ := Option.bind_eq_some_iff.mp e
        obtain ⟨a, ha, mok⟩ := sr.addr hmo
        obtain ⟨vi, hvi, ri⟩ := r.get hm
        obtain ⟨a', ha', ev⟩ := ri
        obtain rfl : a = a' := Option.some.inj (ha.symm.trans ha')
        have haW : a ∈ W.as := List.mem_of_getElem? ha
        have nl : ¬ Lent W (ds.set i .non) a := fun ⟨j, h1, h2⟩ => by
          obtain ⟨q1, q2⟩ := List.getElem?_eq_some_iff.mp h2
          obtain ⟨q3, q4⟩ := List.getElem?_eq_some_iff.mp ha
          have : j = m := (List.getElem_inj sr.nd).mp (q2.trans q4.symm)
          subst this
          exact refIn_no hri h1
        have sL : SR K (W.lend [a] (Lent W (ds.set i .non))) [mo] := by
          refine ⟨rfl, by simp [Wo.lend], fun b h => ?_, fun b h => sr.bt b h.1, fun j b mo' h1 h2 => ?_⟩
          · rw [show b = a by simpa [Wo.lend] using h]
            exact ⟨sr.sub a haW, nl⟩
          · cases j with
            | zero =>
              have eb : a = b := by simpa [Wo.lend] using h1
              have em : mo = mo' := by simpa using h2
              subst eb em
              exact MoOk.nr (W := W) (W' := W.lend [a] (Lent W (ds.set i .non))) rfl (fun _ z => z.1) hnr mok
            | succ j => simp at h2
        have r' : RpL K W (ds.set i .non) (vs.set i .non) := r.set i rfl
        have rE := args_ok (as := [a]) sr he r' (free := Lent W (ds.set i .non)) fun j b h1 h2 => ⟨j, h1, h2⟩
        have rE2 : RpL K (W.lend [a] (Lent W (ds.set i .non))) (es.set i (.ref 0)) vs := by
          have q := rE.set (d := .ref 0) (v := .ref a) i ⟨a, rfl, rfl⟩
          rw [List.set_set] at q
          have ev' : vs.set i (.ref a) = vs := by
            rw [← ev]
            obtain ⟨h1, h2⟩ := List.getElem?_eq_some_iff.mp hvi
            rw [← h2]; exact List.set_getElem_self h1
          rw [ev'] at q
          exact q
        refine ⟨hn, W.lend [a] (Lent W (ds.set i .non)), [mo], _, rfl, sL, rE2, d1, M1, hc, fun W1 v e1 s1 r1 => ?_⟩
        have keepAll : ∀ b o, b ≠ a → W.H b = some o → W1.H b = some o := fun b o hb h => e1.keep b o (by simpa [Wo.lend] using hb) h
        dsimp only at e
        split at e
        · rename_i xs
          split at e
          · rename_i hcond
            rw [Bool.and_eq_true, Bool.and_eq_true, Bool.not_eq_true'] at hcond
            obtain ⟨⟨hxs, hd⟩, hl⟩ := hcond
            cases e
            obtain ⟨new, ea, fr⟩ := e1.as
            have enew : new = [] := by
              have h1 := s1.len
              rw [ea] at h1
              simp [Wo.lend] at h1
              exact h1
            subst enew
            have ea1 : W1.as = [a] := by rw [ea]; rfl
            obtain ⟨us, q1, q2⟩ := s1.obj 0 a (.lst xs) (by rw [ea1]; rfl) rfl
            have ex : Ext W ⟨W.as, fun b => W.bad b ∨ W1.bad b, W1.H⟩ := by
              refine ⟨⟨[], by simp, fun _ h => by simp at h⟩, fun b h => .inl h, fun b h => h.elim .inl fun z => (e1.new b z).imp (fun q => q.1) fun q => q, fun b o hb h => keepAll b o (fun z => hb (by rw [z]; exact haW)) h, fun b o h => ?_⟩
              by_cases z : b = a
              · subst z; exact ⟨_, q1.1⟩
              · exact ⟨o, keepAll b o z h⟩
            have badLst : ∀ b, (W.bad b ∨ W1.bad b) → W1.bad b ∨ (Lent W (ds.set i .non) b ∧ LstAt W1.H b) := fun b z => by
              rcases z with z | z
              · by_cases q : Lent W (ds.set i .non) b
                · have nb : b ≠ a := fun z => nl (by rw [← z]; exact q)
                  obtain ⟨us, q2⟩ := (lent_lst sr q).1
                  exact .inr ⟨q, us, keepAll b _ nb q2⟩
                · exact .inl (e1.bad b ⟨z, q⟩)
              · exact .inl z
            have noB : anyRef (ds.set i .non) = false → ∀ b, (W.bad b ∨ W1.bad b) → W1.bad b := fun hr b z => by
              rcases badLst b z with q | ⟨⟨j, q, _⟩, _⟩
              · exact q
              · exact absurd q (noRef hr j)
            have toD : ∀ (d : D) (v : V), d.nr = true → (anyRef (ds.set i .non) = true → d.nl = true) → Rp K W1 d v → Rp K ⟨W.as, fun b => W.bad b ∨ W1.bad b, W1.H⟩ d v := fun d v h1 h2 r => by
              cases hr : anyRef (ds.set i .non) with
              | false => exact Rp.nr (W := W1) (W' := ⟨W.as, fun b => W.bad b ∨ W1.bad b, W1.H⟩) rfl (noB hr) _ _ h1 r
              | true => exact Rp.nl (W := W1) (W' := ⟨W.as, fun b => W.bad b ∨ W1.bad b, W1.H⟩) rfl (fun b z => (badLst b z).imp (fun q => q) fun q => q.2) _ _ (h2 hr) r
            have toL : RpL K ⟨W.as, fun b => W.bad b ∨ W1.bad b, W1.H⟩ xs us := by
              cases hr : anyRef (ds.set i .non) with
              | false => exact RpL.nr (W := W1) (W' := ⟨W.as, fun b => W.bad b ∨ W1.bad b, W1.H⟩) rfl (noB hr) _ _ hxs q2
              | true =>
                rw [hr, Bool.true_and, Bool.not_eq_false', Bool.and_eq_true] at hl
                exact RpL.nl (W := W1) (W' := ⟨W.as, fun b => W.bad b ∨ W1.bad b, W1.H⟩) rfl (fun b z => (badLst b z).imp (fun q => q) fun q => q.2) _ _ hl.2 q2
            refine k ⟨W.as, fun b => W.bad b ∨ W1.bad b, W1.H⟩ v ex ⟨by rw [List.length_set]; exact sr.len, sr.nd, fun b h => .inl (sr.sub b h), fun b h => h.elim (fun z => let ⟨o, q⟩ := sr.bt b z; ex.live b o q) (s1.bt b), fun j b mo' h1 h2 => ?_⟩ (toD _ _ hd (fun hr => ?_) r1)
            · have h1' : W.as[j]? = some b := h1
              by_cases z : j = m
              · subst z
                obtain rfl : a = b := Option.some.inj (ha.symm.trans h1')
                have hl : j < M.length := by rw [← sr.len]; exact (List.getElem?_eq_some_iff.mp ha).1
                rw [List.getElem?_set_self hl] at h2
                cases h2
                exact ⟨us, q1, toL⟩
              · rw [List.getElem?_set_ne (Ne.symm z)] at h2
                have nb : b ≠ a := fun q => z (by
                  subst q
                  obtain ⟨q1, q2⟩ := List.getElem?_eq_some_iff.mp h1'
                  obtain ⟨q3, q4⟩ := List.getElem?_eq_some_iff.mp ha
                  exact (List.getElem_inj sr.nd).mp (q2.trans q4.symm))
                have mk := sr.obj j b mo' h1' h2
                obtain ⟨o, q⟩ := mk.there
                exact mk.ext ex sr.sub (by rw [q]; exact keepAll b o nb q)
            · rw [hr, Bool.true_and, Bool.not_eq_false', Bool.and_eq_true] at hl
              exact hl.1
          · cases e
        · cases e
      · cases e
    · cases e
  · cases e
end
section
variable {X : Cx} {k n : Nat} {f : Addr} {fd : FuncData} {ps : List Str} {c : FnC} {x : Str} {p pos : Pos} {e : Expr} {es : List Expr} {fa : FA}
theorem pf_callS (i : Nat) (F : FnOk X.prog X.w X.K X.mg X.base CX0 k f fd ps (spOf X.K c n)) (hr : Room k X.A) (hg : Gl X x) (hm : X.mg x = some (.ref f)) (hk : PySem.W.keepIn X.K (.ref f) = true) (hb : Binds X.K fd ps []) (ha : PFA X (e :: es) fa) (hn : n = es.length + 1 := by rfl)
    (hlen : ∀ ρ M r, fa ρ M = some r → r.1.length = es.length + 1) (hdb : (x == ("__debug__" : Str)) = false := by decide) (he : starEach (e :: es) X.env = (false, eval e X.env) :: starEach es X.env := by rfl) (hpl : (backTo pos (starEach es X.env)).any (·.1) = false := by rfl) :
    PFE X (.Call (.Name x p) (e :: es) [] pos) (fCallS i c fa) := pe_weak (pe_call F hr hg hm hk hb .nil pass0 ha hdb he hpl) fun σ H Q => by
  rintro ⟨W, ρ, M, rfl, sr, sl, d, M', hf, k⟩
  obtain ⟨⟨ds, M1⟩, hx, hf⟩ := Option.bind_eq_some_iff.mp hf
  refine ⟨W, ρ, M, rfl, sr, sl, ds, M1, hx, fun W1 vs e1 s1 r1 => ?_⟩
  show spOf X.K c n (vs ++ []) W1.H Q E0
  rw [List.append_nil]
  exact callS_ok s1 r1 (by rw [← r1.len, hn]; exact hlen _ _ _ hx) hf fun W2 v e2 s2 r2 => k W2 v (e1.trans e2) s2 r2
end
/-! ### calls of built-ins -/
abbrev GN := List D → Mem → Option D
def fB (g : GN) (fa : FA) : FE := fun ρ M => (fa ρ M).bind fun a => (g a.1 a.2).bind fun d => some (d, a.2)
def OpN (K : PySem.W.Frag) (r : List V → Hp → VK → Prop) (g : GN) : Prop := ∀ (W : Wo) (M : Mem) (ds : List D) (d : D) (vs : List V) (Q : VK), SR K W M → RpL K W ds vs → g ds M = some d →
  (∀ W' v', Ext W W' → SR K W' M → Rp K W' d v' → Q v' W'.H) → r vs W.H Q
/-- .. that make a new list -/
abbrev GNN := List D → Mem → Option (List D)
def fBN (g : GNN) (fa : FA) : FA := fun ρ M => (fa ρ M).bind fun a => (g a.1 a.2).bind fun d => some (d, a.2)
def OpNN (K : PySem.W.Frag) (r : List V → Hp → VK → Prop) (g : GNN) : Prop := ∀ (W : Wo) (M : Mem) (ds xs : List D) (vs : List V) (Q : VK), SR K W M → RpL K W ds vs → g ds M = some xs →
  (∀ p us, W.H p = none → RpL K W xs us → us.length ≤ LINE → Q (.ref p) (upd W.H p (.lst us))) → r vs W.H Q
section
variable {X : Cx} {e : Expr} {es : List Expr} {fa : FA} {x : Str} {p pos : Pos} {r : List V → Hp → VK → Prop} {g : GN} {gn : GNN} {id T : String}
theorem lB (o : OpN X.K r g) : ∀ σ H Q, liftE X.K (fB g fa) σ H Q → tCB r (liftA X.K fa) σ H Q := by
  rintro σ H Q ⟨W, ρ, M, rfl, sr, sl, d, M', hf, k⟩
  obtain ⟨⟨ds, M1⟩, hx, hf⟩ := Option.bind_eq_some_iff.mp hf
  obtain ⟨d', hg, hf⟩ := Option.bind_eq_some_iff.mp hf
  cases hf
  exact ⟨W, ρ, M, rfl, sr, sl, ds, _, hx, fun W1 vs e1 s1 r1 => o W1 _ ds d vs Q s1 r1 hg fun W2 v e2 s2 r2 => k W2 v (e1.trans e2) s2 r2⟩
theorem lBN (o : OpNN X.K r gn) : ∀ σ H Q, liftN X.K (fBN gn fa) σ H Q → tCB r (liftA X.K fa) σ H Q := by
  rintro σ H Q ⟨W, ρ, M, rfl, sr, sl, d, M', hf, k⟩
  obtain ⟨⟨ds, M1⟩, hx, hf⟩ := Option.bind_eq_some_iff.mp hf
  obtain ⟨d', hg, hf⟩ := Option.bind_eq_some_iff.mp hf
  cases hf
  exact ⟨W, ρ, M, rfl, sr, sl, ds, _, hx, fun W1 vs e1 s1 r1 => o W1 _ ds d vs Q s1 r1 hg fun q us hq ru hl => k W1 q us e1 s1 hq ru hl⟩
theorem pf_b (hc : CallR X (.builtin id) r) (o : OpN X.K r g) (hg : Gl X x) (hm : X.mg x = none) (hv : bootBuiltins x = some (.builtin id)) (ha : PFA X (e :: es) fa) (hn : x ≠ "__name__" := by decide) (hdb : (x == ("__debug__" : Str)) = false := by decide)
    (he : starEach (e :: es) X.env = (false, eval e X.env) :: starEach es X.env := by rfl) (hpl : (backTo pos (starEach es X.env)).any (·.1) = false := by rfl) : PFE X (.Call (.Name x p) (e :: es) [] pos) (fB g fa) := pe_weak (pe_callB hc hg hm hv ha hn hdb he hpl) (lB o)
theorem pf_ty (hc : CallR X (.type T) r) (o : OpN X.K r g) (hg : Gl X x) (hm : X.mg x = none) (hv : bootBuiltins x = some (.type T)) (ha : PFA X (e :: es) fa) (hn : x ≠ "__name__" := by decide) (hdb : (x == ("__debug__" : Str)) = false := by decide)
    (he : starEach (e :: es) X.env = (false, eval e X.env) :: starEach es X.env := by rfl) (hpl : (backTo pos (starEach es X.env)).any (·.1) = false := by rfl) : PFE X (.Call (.Name x p) (e :: es) [] pos) (fB g fa) := pe_weak (pe_callTy hc hg hm hv ha hn hdb he hpl) (lB o)
theorem pfn_b (hc : CallR X (.builtin id) r) (o : OpNN X.K r gn) (hg : Gl X x) (hm : X.mg x = none) (hv : bootBuiltins x = some (.builtin id)) (ha : PFA X (e :: es) fa) (hn : x ≠ "__name__" := by decide) (hdb : (x == ("__debug__" : Str)) = false := by decide)
    (he : starEach (e :: es) X.env = (false, eval e X.env) :: starEach es X.env := by rfl) (hpl : (backTo pos (starEach es X.env)).any (·.1) = false := by rfl) : PFN X (.Call (.Name x p) (e :: es) [] pos) (fBN gn fa) := pe_weak (pe_callB hc hg hm hv ha hn hdb he hpl) (lBN o)
theorem pfn_ty (hc : CallR X (.type T) r) (o : OpNN X.K r gn) (hg : Gl X x) (hm : X.mg x = none) (hv : bootBuiltins x = some (.type T)) (ha : PFA X (e :: es) fa) (hn : x ≠ "__name__" := by decide) (hdb : (x == ("__debug__" : Str)) = false := by decide)
    (he : starEach (e :: es) X.env = (false, eval e X.env) :: starEach es X.env := by rfl) (hpl : (backTo pos (starEach es X.env)).any (·.1) = false := by rfl) : PFN X (.Call (.Name x p) (e :: es) [] pos) (fBN gn fa) := pe_weak (pe_callTy hc hg hm hv ha hn hdb he hpl) (lBN o)
/-- a built-in function that the module has under a name (math.gcd) -/
theorem pf_bfun (hc : CallR X (.builtin id) r) (o : OpN X.K r g) (hg : Gl X x) (hm : X.mg x = some (.builtin id)) (ha : PFA X (e :: es) fa) (hdb : (x == ("__debug__" : Str)) = false := by decide)
    (he : starEach (e :: es) X.env = (false, eval e X.env) :: starEach es X.env := by rfl) (hpl : (backTo pos (starEach es X.env)).any (·.1) = false := by rfl) : PFE X (.Call (.Name x p) (e :: es) [] pos) (fB g fa) := pe_weak (pe_callBfun hc hg hm ha hdb he hpl) (lB o)
end
section
variable {K : PySem.W.Frag}
theorem rl1 {W : Wo} {d : D} {vs : List V} (h : RpL K W [d] vs) : ∃ v, vs = [v] ∧ Rp K W d v := by
  obtain ⟨v, r, rfl, h1, h2⟩ := h
  cases (show _ = _ from h2)
  exact ⟨v, rfl, h1⟩
theorem rl2 {W : Wo} {d e : D} {vs : List V} (h : RpL K W [d, e] vs) : ∃ v u, vs = [v, u] ∧ Rp K W d v ∧ Rp K W e u := by
  obtain ⟨v, r, rfl, h1, h2⟩ := h
  obtain ⟨u, rfl, h3⟩ := rl1 h2
  exact ⟨v, u, rfl, h1, h3⟩
def gLen : GN := fun ds M => match ds with
  | [.str x] => if x.length ≤ LINE then some (.int x.length) else none
  | [d] => (sqOf d M).map fun xs => .int xs.length
  | _ => none
theorem o_len : OpN K (fun xs H Q => ∃ x n, xs = [x] ∧ LenV K x H n ∧ Q (.int n) H) gLen := by
  intro W M ds d vs Q sr r hg k
  unfold gLen at hg
  split at hg
  · split at hg
    · rename_i h
      cases hg
      obtain ⟨v, rfl, r1⟩ := rl1 r
      cases (show _ = _ from r1)
      exact ⟨_, _, rfl, ⟨by rw [line_eq]; exact h, rfl⟩, k W _ (.refl W) sr rfl⟩
    · cases hg
  · obtain ⟨xs, hx, hg⟩ := Option.map_eq_some_iff.mp hg
    subst hg
    obtain ⟨v, rfl, r1⟩ := rl1 r
    obtain ⟨p, us, rfl, h1, r2⟩ := sq_sq sr r1 hx
    refine ⟨_, us.length, rfl, h1.imp (fun z => ⟨us, z, rfl⟩) fun z => ⟨us, z, rfl⟩, k W _ (.refl W) sr ?_⟩
    rw [r2.len]; exact rfl
  · cases hg
def gInt : GN := fun ds _ => match ds with
  | [.int i] => some (.int i)
  | [.bl b] => some (.int (if b then 1 else 0))
  | _ => none
theorem o_int : OpN K (fun xs H Q => (∃ i, xs = [.int i] ∧ Q (.int i) H) ∨ ∃ k, xs = [.bl k] ∧ Q (.int (if k then 1 else 0)) H) gInt := by
  intro W M ds d vs Q sr r hg k
  unfold gInt at hg
  split at hg
  · cases hg
    obtain ⟨v, rfl, r1⟩ := rl1 r
    cases (show _ = _ from r1)
    exact .inl ⟨_, rfl, k W _ (.refl W) sr rfl⟩
  · cases hg
    obtain ⟨v, rfl, r1⟩ := rl1 r
    cases (show _ = _ from r1)
    exact .inr ⟨_, rfl, k W _ (.refl W) sr rfl⟩
  · cases hg
def gI1 (f : Int → Int) : GN := fun ds _ => match ds with | [.int i] => some (.int (f i)) | _ => none
def gI2 (f : Int → Int → Int) : GN := fun ds _ => match ds with | [.int i, .int j] => some (.int (f i j)) | _ => none
theorem o_i1 {f : Int → Int} : OpN K (fun xs H Q => ∃ i, xs = [.int i] ∧ Q (.int (f i)) H) (gI1 f) := by
  intro W M ds d vs Q sr r hg k
  unfold gI1 at hg
  split at hg
  · cases hg
    obtain ⟨v, rfl, r1⟩ := rl1 r
    cases (show _ = _ from r1)
    exact ⟨_, rfl, k W _ (.refl W) sr rfl⟩
  · cases hg
theorem o_i2 {f : Int → Int → Int} : OpN K (fun xs H Q => ∃ i j, xs = [.int i, .int j] ∧ Q (.int (f i j)) H) (gI2 f) := by
  intro W M ds d vs Q sr r hg k
  unfold gI2 at hg
  split at hg
  · cases hg
    obtain ⟨v, u, rfl, r1, r2⟩ := rl2 r
    cases (show _ = _ from r1); cases (show _ = _ from r2)
    exact ⟨_, _, rfl, k W _ (.refl W) sr rfl⟩
  · cases hg
def gAbs : GN := gI1 fun i => if i < 0 then -i else i
def gMax2 : GN := gI2 fun i j => if j > i then j else i
def gMin2 : GN := gI2 fun i j => if j < i then j else i
def gGcd : GN := gI2 fun a b => ((Nat.gcd a.natAbs b.natAbs : Nat) : Int)
def gTuple : GN := fun ds M => match ds with
  | [d] => (sqOf d M).map .tup
  | _ => none
theorem o_tuple : OpN K (fun xs H Q => ∃ p ys, xs = [.ref p] ∧ ((SqL K H p ys ∧ ∀ l, H l = none → Q (.ref l) (upd H l (.tup ys))) ∨ (SqT K H p ys ∧ Q (.ref p) H))) gTuple := by
  intro W M ds d vs Q sr r hg k
  unfold gTuple at hg
  split at hg
  · rename_i d0
    obtain ⟨xs, hx, hg⟩ := Option.map_eq_some_iff.mp hg
    subst hg
    obtain ⟨v, rfl, r1⟩ := rl1 r
    have hl := sq_len sr r1 hx
    have lists : lsOf d0 M = some xs → ∃ p ys, [v] = [V.ref p] ∧ ((SqL K W.H p ys ∧ ∀ l, W.H l = none → Q (.ref l) (upd W.H l (.tup ys))) ∨ (SqT K W.H p ys ∧ Q (.ref p) W.H)) := fun e => by
      obtain ⟨p, us, rfl, h1, r2⟩ := ls_sq sr r1 e
      exact ⟨p, us, rfl, .inl ⟨h1, fun l nl => k _ _ (Ext.put nl) (sr.put nl) (.newTup sr nl r2 (by rw [← r2.len]; exact hl))⟩⟩
    cases d0 with
    | tup ys =>
      cases hx
      obtain ⟨p, us, rfl, h1, r2⟩ := tp_sq r1
      exact ⟨p, us, rfl, .inr ⟨h1, k W _ (.refl W) sr r1⟩⟩
    | _ => exact lists hx
  · cases hg
def gList : GNN := fun ds M => match ds with
  | [d] => sqOf d M
  | _ => none
theorem o_list : OpNN K (fun xs H Q => ∃ p ys, xs = [.ref p] ∧ (SqL K H p ys ∨ SqT K H p ys) ∧ ∀ l, H l = none → Q (.ref l) (upd H l (.lst ys))) gList := by
  intro W M ds xs vs Q sr r hg k
  unfold gList at hg
  split at hg
  · obtain ⟨v, rfl, r1⟩ := rl1 r
    have hl := sq_len sr r1 hg
    obtain ⟨p, us, rfl, h1, r2⟩ := sq_sq sr r1 hg
    exact ⟨p, us, rfl, h1, fun l nl => k l us nl r2 (by rw [← r2.len]; exact hl)⟩
  · cases hg
end
/-! isinstance of one built-in class -/
inductive Ty where
  | non | bl | int | str | tup | lst
  deriving DecidableEq
def Ty.nm : Ty → String
  | .non => "NoneType" | .bl => "bool" | .int => "int" | .str => "str" | .tup => "tuple" | .lst => "list"
def tyOf : D → Ty
  | .non => .non | .bl _ => .bl | .int _ => .int | .str _ => .str | .tup _ => .tup | .lst _ => .lst | .kst _ => .lst | .ref _ => .lst
def isi (t T : Ty) : Bool := decide (t = T) || (decide (t = .bl) && decide (T = .int))
theorem kit_tab : ∀ t T : Ty, T ≠ .non → kitB t.nm T.nm = some (isi t T) := by
  intro t T h
  cases T with
  | non => exact absurd rfl h
  | _ => cases t <;> decide +kernel
section
variable {K : PySem.W.Frag} {W : Wo} {M : Mem}
theorem tyX_of {d : D} {v : V} (sr : SR K W M) (h : Rp K W d v) : TyX K W.H v (.type (tyOf d).nm) := by
  have kl : ∀ {a : Addr} {vs : List V}, SqL K (fun _ => none) a vs → TyX K W.H (.ref a) (.type "list") := fun h => by
    rcases h with (h | ⟨o, h⟩) | ⟨o, its, n, h1, h2, _⟩
    · cases (show (none : Option HO) = _ from h)
    · cases (show (none : Option HO) = _ from h)
    · exact .kList h1 h2
  cases d with
  | non => cases (show _ = _ from h); exact .base .non
  | bl b => cases (show _ = _ from h); exact .base (.bl b)
  | int i => cases (show _ = _ from h); exact .base (.int i)
  | str x => cases (show _ = _ from h); exact .base (.str x)
  | tup xs =>
    obtain ⟨a, vs, rfl, f, _⟩ := h
    rcases f.1 with f | f
    · exact .base (.tup f.1)
    · rcases f with (f | ⟨o, f⟩) | ⟨o, its, n, h1, h2, _⟩
      · cases (show (none : Option HO) = _ from f)
      · cases (show (none : Option HO) = _ from f)
      · exact .kTuple h1 h2
  | lst xs =>
    obtain ⟨a, vs, rfl, f, _⟩ := h
    exact .base (.lst f.1.1)
  | kst xs =>
    obtain ⟨a, vs, rfl, f, _⟩ := h
    rcases f.1 with ⟨⟨o, f⟩, _⟩ | f
    · exact .base (.frz f)
    · exact kl f
  | ref n =>
    obtain ⟨a, h1, rfl⟩ := h
    obtain ⟨mo, _, m⟩ := sr.at_ h1
    cases mo with
    | lst xs => obtain ⟨vs, q, _⟩ := m; exact .base (.lst q.1)
end
def fIsi (T : Ty) (fa : FE) : FE := fun ρ M => (fa ρ M).bind fun a => some (.bl (isi (tyOf a.1) T), a.2)
theorem pf_isi {X : Cx} {e : Expr} {fa : FE} {y : Str} {p q pos : Pos} (T : Ty) (hT : T ≠ .non) (hg : Gl X "isinstance") (hm : X.mg "isinstance" = none) (ha : PFE X e fa) (hgT : Gl X y) (hmT : X.mg y = none) (hvT : bootBuiltins y = some (.type T.nm)) (hy : y ≠ "__name__" := by decide) (hdy : (y == ("__debug__" : Str)) = false := by decide)
    (he : starEach [e, .Name y q] X.env = (false, eval e X.env) :: starEach [.Name y q] X.env := by rfl) (hpl : (backTo pos (starEach [.Name y q] X.env)).any (·.1) = false := by rfl) (hs1 : starEach [.Name y q] X.env = (false, eval (.Name y q) X.env) :: starEach [] X.env := by rfl) :
    PFE X (.Call (.Name "isinstance" p) [e, .Name y q] [] pos) (fIsi T fa) :=
  pe_weak (pe_callB call_isi hg hm boot_isinstance (pa_cons ha (pa_cons (pe_bltn (v := .ty T.nm) hgT hmT hvT rfl hy hdy) pa_nil hs1) he) (by decide) (by decide) he hpl) fun σ H Q => by
    rintro ⟨W, ρ, M, rfl, sr, sl, d, M', hf, k⟩
    obtain ⟨⟨x, M1⟩, hx, hf⟩ := Option.bind_eq_some_iff.mp hf
    cases hf
    exact ⟨W, ρ, M, rfl, sr, sl, x, _, hx, fun W1 v e1 s1 r1 => ⟨v, .ty T.nm, .type (tyOf x).nm, .type T.nm, _, rfl, .ty _, tyX_of s1 r1, kit_ty (kit_tab _ _ hT), k W1 _ e1 s1 rfl⟩⟩
/-! ### methods -/
abbrev GM := D → List D → Mem → Option (D × Mem)
def tyOk (T : String) (d : D) (M : Mem) : Bool := if T = "list" then (lsOf d M).isSome else if T = "str" then (match d with | .str _ => true | _ => false) else false
def fM (T : String) (g : GM) (fo : FE) (fa : FA) : FE := fun ρ M => (fo ρ M).bind fun o => if tyOk T o.1 o.2 = true then (fa ρ o.2).bind fun a => g o.1 a.1 a.2 else none
def OpM (K : PySem.W.Frag) (r : V → List V → Hp → VK → Prop) (g : GM) : Prop := ∀ (W : Wo) (M M' : Mem) (x d : D) (ds : List D) (v : V) (vs : List V) (Q : VK), SR K W M → Rp K W x v → RpL K W ds vs → g x ds M = some (d, M') →
  (∀ W' v', Ext W W' → SR K W' M' → Rp K W' d v' → Q v' W'.H) → r v vs W.H Q
section
variable {K : PySem.W.Frag} {W : Wo} {M : Mem}
theorem tyV_of {T : String} {d : D} {v : V} (sr : SR K W M) (h : Rp K W d v) (e : tyOk T d M = true) : tyV K T v W.H := by
  unfold tyOk at e
  split at e
  · rename_i hT
    subst hT
    obtain ⟨xs, hx⟩ := Option.isSome_iff_exists.mp e
    obtain ⟨p, vs, rfl, h1, _⟩ := ls_sq sr h hx
    exact .inl ⟨rfl, vs, h1⟩
  · split at e
    · rename_i hT
      subst hT
      split at e
      · cases (show _ = _ from h); exact rfl
      · cases e
    · cases e
end
section
variable {X : Cx} {o e : Expr} {es : List Expr} {fo : FE} {fa : FA} {name : Str} {apos cpos : Pos} {T id : String} {r : V → List V → Hp → VK → Prop} {g : GM}
theorem pf_m0 (pa : PlainAttrs T) (slot : Slot T name id) (hty : typeOf (.builtin id) = pure (.type "method_descriptor")) (hm : MtR X id r) (op : OpM X.K r g) (ho : PFE X o fo)
    (hbase : attributeBase o name X.env (eval o X.env) = eval o X.env := by rfl) (hline : (apos.endLine == cpos.line) = true := by rfl) : PFE X (.Call (.Attribute o name apos) [] [] cpos) (fM T g fo fNil) := pe_weak (pe_bm0 pa slot hty hm ho hbase hline) fun σ H Q => by
  rintro ⟨W, ρ, M, rfl, sr, sl, d, M', hf, k⟩
  obtain ⟨⟨x, M1⟩, hx, hf⟩ := Option.bind_eq_some_iff.mp hf
  split at hf
  · rename_i ht
    exact ⟨W, ρ, M, rfl, sr, sl, x, M1, hx, fun W1 v e1 s1 r1 => ⟨tyV_of s1 r1 ht, op W1 M1 M' x d [] v [] Q s1 r1 rfl hf fun W2 u e2 s2 r2 => k W2 u (e1.trans e2) s2 r2⟩⟩
  · cases hf
theorem pf_m (pa : PlainAttrs T) (slot : Slot T name id) (hty : typeOf (.builtin id) = pure (.type "method_descriptor")) (hm : MtR X id r) (op : OpM X.K r g) (ho : PFE X o fo) (ha : PFA X (e :: es) fa)
    (hbase : attributeBase o name X.env (eval o X.env) = eval o X.env := by rfl)
    (hfew : ((backTo cpos (starEach (e :: es) X.env)).all (fun x => !x.1) && (backToKw cpos (keywordEach [] X.env)).all (fun x => x.1.isSome)
      && decide ((e :: es).length + ([] : List Keyword).length + (if ([] : List Keyword).isEmpty then 0 else 1) < 30)) = true := by rfl)
    (hline : (apos.endLine == cpos.line) = true := by rfl) (hs : starEach (e :: es) X.env = (false, eval e X.env) :: starEach es X.env := by rfl) (hplain : (backTo cpos (starEach es X.env)).any (·.1) = false := by rfl) :
    PFE X (.Call (.Attribute o name apos) (e :: es) [] cpos) (fM T g fo fa) := pe_weak (pe_bm pa slot hty hm ho ha hbase hfew hline hs hplain) fun σ H Q => by
  rintro ⟨W, ρ, M, rfl, sr, sl, d, M', hf, k⟩
  obtain ⟨⟨x, M1⟩, hx, hf⟩ := Option.bind_eq_some_iff.mp hf
  split at hf
  · rename_i ht
    obtain ⟨⟨ds, M2⟩, hd, hf⟩ := Option.bind_eq_some_iff.mp hf
    exact ⟨W, ρ, M, rfl, sr, sl, x, M1, hx, fun W1 v e1 s1 r1 => ⟨tyV_of s1 r1 ht, W1, ρ, M1, rfl, s1, sl.ext e1 sr.sub, ds, M2, hd, fun W2 vs e2 s2 r2 => op W2 M2 M' x d ds v vs Q s2 (r1.ext e2 s1.sub) r2 hf fun W3 u e3 s3 r3 => k W3 u ((e1.trans e2).trans e3) s3 r3⟩⟩
  · cases hf
end
/-- a changeable list, as it stands -/
def mlOf (d : D) (M : Mem) : Option (Nat × List D) := match d with
  | .ref n => match M[n]? with | some (.lst xs) => some (n, xs) | _ => none
  | _ => none
def gAppend : GM := fun x ds M => match ds with
  | [d] => (mlOf x M).bind fun l => if l.2.length < LINE then some (.non, M.set l.1 (.lst (l.2 ++ [d]))) else none
  | _ => none
def gPop : GM := fun x ds M => match ds with
  | [] => (mlOf x M).bind fun l => (l.2[l.2.length - 1]?).bind fun d => some (d, M.set l.1 (.lst l.2.dropLast))
  | _ => none
def gReverse : GM := fun x ds M => match ds with
  | [] => (mlOf x M).bind fun l => some (.non, M.set l.1 (.lst l.2.reverse))
  | _ => none
section
variable {K : PySem.W.Frag} {W : Wo} {M : Mem}
theorem ml_ok {x : D} {v : V} {n : Nat} {xs : List D} (sr : SR K W M) (h : Rp K W x v) (e : mlOf x M = some (n, xs)) : ∃ a vs, v = .ref a ∧ W.as[n]? = some a ∧ W.H a = some (.lst vs) ∧ RpL K W xs vs ∧ vs.length ≤ LINE := by
  cases x with
  | ref m =>
    obtain ⟨a, h1, e1⟩ := h
    obtain ⟨mo, h2, q⟩ := sr.at_ h1
    cases mo with
    | lst ys =>
      have e' : (match M[m]? with | some (.lst xs) => some (m, xs) | _ => none) = some (n, xs) := e
      rw [h2] at e'
      cases e'
      obtain ⟨vs, q1, q2⟩ := q
      exact ⟨a, vs, e1, h1, q1.1, q2, q1.2⟩
  | _ => cases e
theorem o_append : OpM K rAppend gAppend := by
  intro W M M' x d ds v vs Q sr rx r hg k
  unfold gAppend at hg
  split at hg
  · obtain ⟨⟨n, xs⟩, hl, hg⟩ := Option.bind_eq_some_iff.mp hg
    split at hg
    · rename_i hz
      cases hg
      obtain ⟨u, rfl, r1⟩ := rl1 r
      obtain ⟨a, ws, rfl, ha, hH, rw_, hlen⟩ := ml_ok sr rx hl
      refine ⟨a, ws, u, rfl, rfl, hH, by rw [line_eq, ← rw_.len]; exact hz, ?_⟩
      exact k _ _ (Ext.wr (List.mem_of_getElem? ha)) (sr.wr ha (rw_.append (.one r1)) (by
        rw [List.length_append, List.length_singleton, ← rw_.len]; exact hz)) rfl
    · cases hg
  · cases hg
theorem RpL.dropLast {xs : List D} {vs : List V} (h : RpL K W xs vs) : RpL K W xs.dropLast vs.dropLast := by
  rw [List.dropLast_eq_take, List.dropLast_eq_take, h.len]
  exact h.take _
theorem o_pop : OpM K rPop gPop := by
  intro W M M' x d ds v vs Q sr rx r hg k
  unfold gPop at hg
  split at hg
  · obtain ⟨⟨n, xs⟩, hl, hg⟩ := Option.bind_eq_some_iff.mp hg
    obtain ⟨y, hy, hg⟩ := Option.bind_eq_some_iff.mp hg
    cases hg
    cases (show _ = _ from r)
    obtain ⟨a, ws, rfl, ha, hH, rw_, hlen⟩ := ml_ok sr rx hl
    obtain ⟨z, hz, rz⟩ := rw_.get hy
    have e := Ext.wr (W := W) (o := .lst ws.dropLast) (List.mem_of_getElem? ha)
    exact ⟨a, ws, z, rfl, rfl, hH, by rw [← rw_.len]; exact hz, k _ _ e (sr.wr ha rw_.dropLast (by rw [List.length_dropLast]; omega)) (rz.ext e sr.sub)⟩
  · cases hg
theorem o_reverse : OpM K rReverse gReverse := by
  intro W M M' x d ds v vs Q sr rx r hg k
  unfold gReverse at hg
  split at hg
  · obtain ⟨⟨n, xs⟩, hl, hg⟩ := Option.bind_eq_some_iff.mp hg
    cases hg
    cases (show _ = _ from r)
    obtain ⟨a, ws, rfl, ha, hH, rw_, hlen⟩ := ml_ok sr rx hl
    exact ⟨a, ws, rfl, rfl, hH, k _ _ (Ext.wr (List.mem_of_getElem? ha)) (sr.wr ha rw_.reverse (by rw [List.length_reverse]; exact hlen)) rfl⟩
  · cases hg
end
/-- xs[i] = e -/
def sSetIx (fe fo fi : FE) : FS := fun ρ M => (fe ρ M).bind fun v => (fo ρ v.2).bind fun o => (fi ρ o.2).bind fun i => match i.1 with
  | .int k => (mlOf o.1 i.2).bind fun l => (ixN l.2.length k).bind fun j => some (.nx ρ, i.2.set l.1 (.lst (l.2.set j v.1)))
  | _ => none
theorem pfs_setIx {X : Cx} {e o i : Expr} {fe fo fi : FE} {p pos : Pos} (he : PFE X e fe) (ho : PFE X o fo) (hi : PFE X i fi)
    (ha : ∀ v, assign (.Subscript o i p) X.env v = (do
      let ov ← holding [v] (eval o X.env)
      let iv ← holding [v, ov] (eval i X.env)
      standAt p
      holding [v, ov, iv] (setItem ov iv v)
      release [v, ov, iv] []) := by intro _; rfl)
    (hs : swapsWithSole [.Subscript o i p] e pos.line X.env = pure false := by rfl) (hw : swappedStores [.Subscript o i p] e X.env = pure none := by rfl)
    (h1 : (assignEach [.Subscript o i p] X.env).map (·.2) = [assign (.Subscript o i p) X.env] := by rfl) : PFS X (.Assign [.Subscript o i p] e pos) (sSetIx fe fo fi) :=
  ps_weak (ps_asg he (pg_sub ho hi set_list ha) hs hw h1) fun E σ H => by
    rw [liftS_iff]
    rintro ⟨W, ρ, M, rfl, sr, sl, o', M', hf, k⟩
    obtain ⟨⟨v, M1⟩, hv, hf⟩ := Option.bind_eq_some_iff.mp hf
    obtain ⟨⟨x, M2⟩, hx, hf⟩ := Option.bind_eq_some_iff.mp hf
    obtain ⟨⟨y, M3⟩, hy, hf⟩ := Option.bind_eq_some_iff.mp hf
    dsimp only at hf
    split at hf
    · obtain ⟨⟨n, xs⟩, hl, hf⟩ := Option.bind_eq_some_iff.mp hf
      obtain ⟨j, hj, hf⟩ := Option.bind_eq_some_iff.mp hf
      cases hf
      refine ⟨W, ρ, M, rfl, sr, sl, v, M1, hv, fun W1 vv e1 s1 r1 => ⟨W1, ρ, M1, rfl, s1, sl.ext e1 sr.sub, x, M2, hx, fun W2 ov e2 s2 r2 => ⟨W2, ρ, M2, rfl, s2, sl.ext (e1.trans e2) sr.sub, _, M3, hy, fun W3 iv e3 s3 r3 => ?_⟩⟩⟩
      cases (show _ = _ from r3)
      obtain ⟨a, ws, rfl, ha, hH, rw_, hlen⟩ := ml_ok s3 (r2.ext e3 s2.sub) hl
      have e4 := Ext.wr (W := W3) (o := .lst (ws.set j vv)) (List.mem_of_getElem? ha)
      have e14 := ((e1.trans e2).trans e3).trans e4
      exact ⟨a, ws, _, j, rfl, rfl, hH, by rw [← rw_.len]; exact hj, k _ σ e14 (s3.wr ha (rw_.set j (r1.ext (e2.trans e3) s1.sub)) (by rw [List.length_set]; exact hlen)) (sl.ext e14 sr.sub)⟩
    · cases hf
end PF
namespace PF
open PySem PySem.Spec PyProof.Rows L2
/-- a def of the module that keeps what c says -/
structure Cal (P : Program) (w : World) (K : PySem.W.Frag) (mg : Str → Option Value) (base : Heap) (k : Nat) (x : Str) (c : FnC) (n : Nat) : Prop where
  ex : ∃ (f : Addr) (fd : FuncData) (ps : List Str), mg x = some (.ref f) ∧ PySem.W.keepIn K (.ref f) = true ∧ L2.Binds K fd ps [] ∧ FnOk P w K mg base CX0 k f fd ps (spOf K c n)
section
variable {P : Program} {w : World} {K : PySem.W.Frag} {mg : Str → Option Value} {base : Heap} {k n : Nat} {x : Str} {c c' : FnC} {f : Addr} {fd : FuncData} {ps : List Str}
theorem cal_of (g : mg x = some (.ref f)) (hk : PySem.W.keepIn K (.ref f) = true) (b : L2.Binds K fd ps []) (F : FnOk P w K mg base CX0 k f fd ps (spOf K c n)) : Cal P w K mg base k x c n := ⟨f, fd, ps, g, hk, b, F⟩
theorem cal_none {qual : Str} {params : Arguments} {body : List Stmt} {scope : Scope} (g : mg x = some (.ref f)) (hk : PySem.W.keepIn K (.ref f) = true) (b : L2.Binds K fd ps []) (F : FunD K x qual params body scope [] [] f fd) (h : ∀ ds M, c ds M = none) : Cal P w K mg base k x c n :=
  ⟨f, fd, ps, g, hk, b, ⟨fun vs H Q E ⟨_, W, M, ds, _, _, _, d, M', e, _⟩ => (by rw [h] at e; cases e), fun A outer s H args us vs Q E _ _ _ _ ⟨_, W, M, ds, _, _, _, d, M', e, _⟩ => (by rw [h] at e; cases e)⟩⟩
/-- another function that says the same where it says something -/
theorem Cal.as (C : Cal P w K mg base k x c n) (h : ∀ ds M r, c' ds M = some r → c ds M = some r) : Cal P w K mg base k x c' n :=
  let ⟨f, fd, ps, g, hk, b, F⟩ := C.ex
  ⟨f, fd, ps, g, hk, b, fn_as F h⟩
theorem Cal.mono {k' : Nat} (C : Cal P w K mg base k x c n) (h : k ≤ k') : Cal P w K mg base k' x c n :=
  let ⟨f, fd, ps, g, hk, b, F⟩ := C.ex
  ⟨f, fd, ps, g, hk, b, F.mono h⟩
end
section
variable {X : Cx} {k n : Nat} {c : FnC} {x : Str} {p pos : Pos} {e : Expr} {es : List Expr} {fa : FA}
theorem pf_callC (C : Cal X.prog X.w X.K X.mg X.base k x c (es.length + 1)) (hr : Room k X.A) (hg : Gl X x) (ha : PFA X (e :: es) fa)
    (hlen : ∀ ρ M r, fa ρ M = some r → r.1.length = es.length + 1) (hdb : (x == ("__debug__" : Str)) = false := by decide) (he : starEach (e :: es) X.env = (false, eval e X.env) :: starEach es X.env := by rfl) (hpl : (backTo pos (starEach es X.env)).any (·.1) = false := by rfl) :
    PFE X (.Call (.Name x p) (e :: es) [] pos) (fCall c fa) :=
  let ⟨_, _, _, g, hk, b, F⟩ := C.ex
  pf_call F hr hg g hk b ha rfl hlen hdb he hpl
theorem pf_callCS (i : Nat) (C : Cal X.prog X.w X.K X.mg X.base k x c (es.length + 1)) (hr : Room k X.A) (hg : Gl X x) (ha : PFA X (e :: es) fa)
    (hlen : ∀ ρ M r, fa ρ M = some r → r.1.length = es.length + 1) (hdb : (x == ("__debug__" : Str)) = false := by decide) (he : starEach (e :: es) X.env = (false, eval e X.env) :: starEach es X.env := by rfl) (hpl : (backTo pos (starEach es X.env)).any (·.1) = false := by rfl) :
    PFE X (.Call (.Name x p) (e :: es) [] pos) (fCallS i c fa) :=
  let ⟨_, _, _, g, hk, b, F⟩ := C.ex
  pf_callS i F hr hg g hk b ha rfl hlen hdb he hpl
end
/-- the built-ins are the built-ins -/
structure Bn (mg : Str → Option Value) : Prop where
  len : mg "len" = none
  int : mg "int" = none
  abs : mg "abs" = none
  tuple : mg "tuple" = none
  list : mg "list" = none
  range : mg "range" = none
  isinstance : mg "isinstance" = none
  bool : mg "bool" = none
  str : mg "str" = none
  min : mg "min" = none
  max : mg "max" = none
  sum : mg "sum" = none
  sorted : mg "sorted" = none
  any : mg "any" = none
  all : mg "all" = none
  set : mg "set" = none
  dict : mg "dict" = none
  type : mg "type" = none
def bnNames : List Str := ["len", "int", "abs", "tuple", "list", "range", "isinstance", "bool", "str", "min", "max", "sum", "sorted", "any", "all", "set", "dict", "type"]
theorem bn_of {mg : Str → Option Value} (h : ∀ (i : Nat) (x : Str), bnNames[i]? = some x → mg x = none) : Bn mg :=
  ⟨h 0 _ rfl, h 1 _ rfl, h 2 _ rfl, h 3 _ rfl, h 4 _ rfl, h 5 _ rfl, h 6 _ rfl, h 7 _ rfl, h 8 _ rfl, h 9 _ rfl, h 10 _ rfl, h 11 _ rfl, h 12 _ rfl, h 13 _ rfl, h 14 _ rfl, h 15 _ rfl, h 16 _ rfl, h 17 _ rfl⟩
/-- the law's own promise, from what it computes of the script -/
def spLaw (K : PySem.W.Frag) : Sp := fun vs H Q _ => ∃ (a : Addr) (ns : List Int), vs = [.ref a] ∧ SqL K H a (ns.map V.int) ∧ Only H ∧ ns.length ≤ 63 ∧ ∀ H', Q (.bl true) H'
theorem rp_ints {K : PySem.W.Frag} {W : Wo} : ∀ ns : List Int, RpL K W (ns.map D.int) (ns.map V.int)
  | [] => rfl
  | n :: ns => ⟨.int n, _, rfl, rfl, rp_ints ns⟩
theorem law_sp {K : PySem.W.Frag} {c : FnC} (h : ∀ ns : List Int, ns.length ≤ 63 → c [.kst (ns.map .int)] [] = some (.bl true, [])) : ∀ vs H Q E, spLaw K vs H Q E → spOf K c 1 vs H Q E := by
  rintro vs H Q E ⟨a, ns, rfl, hS, hO, hl, q⟩
  refine ⟨rfl, ⟨[], fun _ => False, H⟩, [], [.kst (ns.map .int)], rfl, ⟨rfl, List.nodup_nil, fun _ z => by simp at z, fun _ z => z.elim, fun n a mo z => by simp at z⟩, ⟨_, _, rfl, ⟨a, ns.map V.int, rfl, ⟨?_, by rw [List.length_map]; show ns.length ≤ 16777216; omega⟩, rp_ints ns⟩, rfl⟩, .bl true, [], h ns hl, fun W' v _ _ r => ?_⟩
  · rcases hS with (hS | ⟨o, hS⟩) | hS
    · rcases hO a with z | ⟨o, xs, z⟩
      · rw [hS] at z; cases z
      · rw [hS] at z; cases z
    · exact .inl ⟨⟨o, hS⟩, fun z => z⟩
    · exact .inr (.inr hS)
  · cases (show _ = _ from r)
    exact q W'.H
end PF
namespace PF
open PySem PySem.Spec PyProof.Rows L2
/-- names that stand for built-in functions of modules -/
def impB (im : List (Str × String)) (K : PySem.W.Frag) : Bool := im.all fun q => He.eqO (PySem.W.nsIn K mainGlobals q.1) (some (some (.builtin q.2)))
def seeX (im : List (Str × String)) (fa : List He.Fa) (fn : List He.DefD) (K : PySem.W.Frag) : Bool × He.AlD := (impB im K, He.obsD fa fn K)
def obX (n : Nat) (im : List (Str × String)) (fa : List He.Fa) (fn : List He.DefD) (g : Addr → Option Obj) : Bool × He.AlD := seeX im fa fn (He.frG g (He.asD g n))
def SaysX (im : List (Str × String)) (fa : List He.Fa) (fn : List He.DefD) (K : PySem.W.Frag) : Prop := seeX im fa fn K = (true, He.valD fn)
def hkX (n : Nat) (im : List (Str × String)) (fa : List He.Fa) (fn : List He.DefD) : PySem.W.Hook where
  α := Bool × He.AlD
  obs := fun t => obX n im fa fn t.heap.get?
  val := fun _ => (true, He.valD fn)
  says := fun _ h => ∃ K : PySem.W.Frag, K.In h ∧ SaysX im fa fn K
  of := fun _ _ e => ⟨_, He.frG_in, e⟩
  keeps := fun _ _ _ ⟨K, hK, c⟩ k => ⟨K, PySem.W.Frag.In.keeps hK k, c⟩
theorem obX_eq {n : Nat} {im : List (Str × String)} {fa : List He.Fa} {fn : List He.DefD} {g : Addr → Option Obj} {s : Shared} (h : ∀ a, g a = s.heap.get? a) : obX n im fa fn g = (hkX n im fa fn).obs s := by
  rw [show g = s.heap.get? from funext h]; rfl
section
variable {im : List (Str × String)} {fa : List He.Fa} {fn : List He.DefD} {K : PySem.W.Frag}
theorem SaysX.d (c : SaysX im fa fn K) : He.SaysD fa fn K := congrArg (fun z : Bool × He.AlD => z.2) c
theorem SaysX.imp (c : SaysX im fa fn K) {h : Heap} {mg : Str → Option Value} (X : K.In h) (G : h.Ns mainGlobals mg) (i : Nat) {x : Str} {b : String} (e : im[i]? = some (x, b)) : mg x = some (.builtin b) := by
  have c1 : impB im K = true := congrArg (fun z : Bool × He.AlD => z.1) c
  exact PySem.W.mg_of X G (He.eqO_ok (List.all_eq_true.mp c1 _ (List.mem_of_getElem? e)))
end
/-- the function objects, from names -/
theorem fun_at {h : Heap} {mg : Str → Option Value} {K : PySem.W.Frag} (X : K.In h) (G : h.Ns mainGlobals mg) {im : List (Str × String)} {fa : List He.Fa} {fn : List He.DefD} (c : SaysX im fa fn K) (i : Nat) {x : Str} (e : fa[i]? = some (He.Fa.glo x)) : mg x = some (.ref (He.ga K x)) := He.glo_ok X G (c.d.fact i e)
theorem bn_at {h : Heap} {mg : Str → Option Value} {K : PySem.W.Frag} (X : K.In h) (G : h.Ns mainGlobals mg) {im : List (Str × String)} {fa : List He.Fa} {fn : List He.DefD} (c : SaysX im fa fn K) (e : ∀ (i : Nat) (x : Str), bnNames[i]? = some x → fa[i]? = some (He.Fa.free x)) : Bn mg :=
  bn_of fun i x q => He.free_ok X G (c.d.fact i (e i x q))
end PF
namespace PF
open PySem PySem.Spec PyProof.Rows L2
/-! xs.pop(i) -/
def gPop1 : GM := fun x ds M => match ds with
  | [.int i] => (mlOf x M).bind fun l => (ixN l.2.length i).bind fun k => (l.2[k]?).bind fun d => some (d, M.set l.1 (.lst (l.2.eraseIdx k)))
  | _ => none
section
variable {K : PySem.W.Frag} {W : Wo} {M : Mem}
theorem RpL.eraseIdx {xs : List D} {vs : List V} (h : RpL K W xs vs) (k : Nat) : RpL K W (xs.eraseIdx k) (vs.eraseIdx k) := by
  rw [List.eraseIdx_eq_take_drop_succ, List.eraseIdx_eq_take_drop_succ]
  exact (h.take k).append (h.drop (k + 1))
theorem o_pop1 : OpM K rPopAt gPop1 := by
  intro W M M' x d ds v vs Q sr rx r hg k
  unfold gPop1 at hg
  split at hg
  · rename_i i
    obtain ⟨⟨n, xs⟩, hl, hg⟩ := Option.bind_eq_some_iff.mp hg
    obtain ⟨j, hj, hg⟩ := Option.bind_eq_some_iff.mp hg
    obtain ⟨y, hy, hg⟩ := Option.bind_eq_some_iff.mp hg
    cases hg
    obtain ⟨u, rfl, r1⟩ := rl1 r
    cases (show _ = _ from r1)
    obtain ⟨a, ws, rfl, ha, hH, rw_, hlen⟩ := ml_ok sr rx hl
    obtain ⟨z, hz, rz⟩ := rw_.get hy
    obtain ⟨q1, q2, q3, q4⟩ := ixN_seq hj
    have hL : ws.length ≤ 16777216 := hlen
    have el : xs.length = ws.length := rw_.len
    have q3' : -(ws.length : Int) ≤ i := by rw [← el]; exact q3
    have q4' : i < (ws.length : Int) := by rw [← el]; exact q4
    have e := Ext.wr (W := W) (o := .lst (ws.eraseIdx j)) (List.mem_of_getElem? ha)
    refine ⟨a, ws, _, j, z, rfl, rfl, hH, by omega, by omega, by rw [← el]; exact q1, hz, ?_⟩
    exact k _ _ e (sr.wr ha (rw_.eraseIdx j) (Nat.le_trans (List.length_eraseIdx_le ws j) hlen)) (rz.ext e sr.sub)
  · cases hg
end
/-! a + b of lists, as a new list -/
def gCat : D → D → Mem → Option (List D) := fun x y M => match ltOf x M, ltOf y M with
  | some a, some b => if a.length + b.length ≤ LINE then some (a ++ b) else none
  | _, _ => none
def f2N (g : D → D → Mem → Option (List D)) (fa fb : FE) : FA := fun ρ M => (fa ρ M).bind fun a => (fb ρ a.2).bind fun b => (g a.1 b.1 b.2).bind fun d => some (d, b.2)
theorem pfn_cat {X : Cx} {a b : Expr} {fa fb : FE} {pos : Pos} (ha : PFE X a fa) (hb : PFE X b fb) : PFN X (.BinOp a .Add b pos) (f2N gCat fa fb) := pe_weak (pe_op op_cat ha hb) fun σ H Q => by
  rintro ⟨W, ρ, M, rfl, sr, sl, d, M', hf, k⟩
  obtain ⟨⟨x, M1⟩, hx, hf⟩ := Option.bind_eq_some_iff.mp hf
  obtain ⟨⟨y, M2⟩, hy, hf⟩ := Option.bind_eq_some_iff.mp hf
  obtain ⟨z, hz, hf⟩ := Option.bind_eq_some_iff.mp hf
  cases hf
  refine ⟨W, ρ, M, rfl, sr, sl, x, M1, hx, fun W1 v e1 s1 r1 => ⟨W1, ρ, M1, rfl, s1, sl.ext e1 sr.sub, y, _, hy, fun W2 u e2 s2 r2 => ?_⟩⟩
  unfold gCat at hz
  split at hz
  · rename_i p q hp hq
    split at hz
    · rename_i hl
      cases hz
      obtain ⟨p1, vs, rfl, h1, t1⟩ := lt_sq s2 (r1.ext e2 s1.sub) hp
      obtain ⟨q1, us, rfl, h2, t2⟩ := lt_sq s2 r2 hq
      exact ⟨p1, q1, vs, us, rfl, rfl, h1, h2, by rw [line_eq, ← t1.len, ← t2.len]; exact hl, fun t nt => k W2 t _ (e1.trans e2) s2 nt (t1.append t2) (by rw [List.length_append, ← t1.len, ← t2.len]; exact hl)⟩
    · cases hz
  · cases hz
end PF
namespace PF
open PySem PySem.Spec PyProof.Rows L2
/-! sums -/
def intsOf : List D → Option (List Int)
  | [] => some []
  | .int i :: r => (intsOf r).map (i :: ·)
  | _ => none
theorem intsOf_ok {K : PySem.W.Frag} {W : Wo} : ∀ {xs : List D} {ns : List Int} {vs : List V}, intsOf xs = some ns → RpL K W xs vs → vs = ns.map V.int
  | [], ns, vs, e, r => by
    cases (show some [] = some ns from e)
    cases (show _ = _ from r); rfl
  | .int i :: xs, ns, vs, e, r => by
    obtain ⟨ms, h1, rfl⟩ := Option.map_eq_some_iff.mp (show (intsOf xs).map (i :: ·) = some ns from e)
    obtain ⟨v, us, rfl, r1, r2⟩ := r
    cases (show _ = _ from r1)
    rw [intsOf_ok h1 r2]; rfl
  | .non :: _, _, _, e, _ => nomatch (show (none : Option (List Int)) = some _ from e)
  | .bl _ :: _, _, _, e, _ => nomatch (show (none : Option (List Int)) = some _ from e)
  | .str _ :: _, _, _, e, _ => nomatch (show (none : Option (List Int)) = some _ from e)
  | .tup _ :: _, _, _, e, _ => nomatch (show (none : Option (List Int)) = some _ from e)
  | .lst _ :: _, _, _, e, _ => nomatch (show (none : Option (List Int)) = some _ from e)
  | .kst _ :: _, _, _, e, _ => nomatch (show (none : Option (List Int)) = some _ from e)
  | .ref _ :: _, _, _, e, _ => nomatch (show (none : Option (List Int)) = some _ from e)
def gSum : GN := fun ds M => match ds with
  | [d] => (lsOf d M).bind fun xs => (intsOf xs).map fun ns => .int ns.sum
  | _ => none
theorem o_sum {K : PySem.W.Frag} : OpN K (rSum K) gSum := by
  intro W M ds d vs Q sr r hg k
  unfold gSum at hg
  split at hg
  · obtain ⟨xs, hx, hg⟩ := Option.bind_eq_some_iff.mp hg
    obtain ⟨ns, hn, hg⟩ := Option.map_eq_some_iff.mp hg
    subst hg
    obtain ⟨v, rfl, r1⟩ := rl1 r
    obtain ⟨p, us, rfl, h1, r2⟩ := ls_sq sr r1 hx
    refine ⟨p, ns, rfl, ?_, k W _ (.refl W) sr rfl⟩
    rw [← intsOf_ok hn r2]
    exact h1
  · cases hg
/-! x += y of ints -/
def gIAdd : G2M := fun x y M => match x, y with
  | .int i, .int j => some (.int (i + j), M)
  | _, _ => none
theorem o_iadd {K : PySem.W.Frag} : Op2M K (rI0 fun i j => .int (i + j)) gIAdd := by
  intro W M M' x y d v u Q sr rx ry hg k
  unfold gIAdd at hg
  split at hg
  · cases hg
    cases (show _ = _ from rx); cases (show _ = _ from ry)
    exact ⟨_, _, rfl, rfl, k W _ (.refl W) sr rfl⟩
  · cases hg
/-! the least and the greatest of a list of alike data -/
def rMinDt (K : PySem.W.Frag) : List V → Hp → VK → Prop := fun vs H Q => ∃ (a : Addr) (ys : List V) (d : PyData) (ds : List PyData), vs = [V.ref a] ∧ SqL K H a ys ∧ DpAll K H ys (d :: ds) ∧ PyData.canLayAll0 (d :: ds) = true ∧ PySem.W.AlikeAll (d :: ds) ∧ PyData.depthAll (d :: ds) ≤ 60 ∧
  ∀ (i : Nat) (v : V), ys[i]? = some v → (d :: ds)[i]? = some (PySem.W.minD d ds) → Q v H
theorem cr_minDt {X : Cx} (hc : X.calm = true) (hu : X.A.units + 64 < cLine) : CallR X (.builtin "min") (rMinDt X.K) := by
  intro pins s σ H vs us Q I r h
  obtain ⟨a, ys, d, ds, rfl, hs, hd, hl0, hal, hdp, q⟩ := h
  obtain ⟨its, rv, hl, _⟩ := I.list hs
  rw [Vals.ref1 r]
  obtain ⟨as, hr⟩ := Dp.readsAll I (d :: ds) ys its hd rv
  refine PySem.W.min_list_data (I.ok.hd hc) hl.isList hr hal (by omega) fun i v h' tk bs hv hrd hk => ?_
  have hv' : its[i]? = some v := by simpa using hv
  have hlen := rv.length
  have hi : i < ys.length := by
    have := (List.getElem?_eq_some_iff.mp hv').1
    omega
  obtain ⟨u, hu1, ry⟩ := rv.get (List.getElem?_eq_getElem hi)
  have euv : u = v := Option.some.inj (hu1.symm.trans hv')
  subst euv
  refine ⟨ys[i], H, I.kept hk, ry, q i _ (List.getElem?_eq_getElem hi) ?_⟩
  obtain ⟨bs2, r2, hlt, hmem, _⟩ := PySem.W.readsAll_at hr i u hv'
  have r3 := PySem.W.reads_keeps hk r2
  have can : ∀ (l : List PyData) (z : PyData), PyData.canLayAll0 l = true → z ∈ l → z.canLay0 = true := by
    intro l
    induction l with
    | nil => intro z _ hz; cases hz
    | cons x l ih =>
      intro z hc hz
      have hc' : (x.canLay0 && PyData.canLayAll0 l) = true := by simpa [PyData.canLayAll0] using hc
      rw [Bool.and_eq_true] at hc'
      rcases List.mem_cons.mp hz with rfl | hz
      · exact hc'.1
      · exact ih z hc'.2 hz
  have c1 := can _ _ hl0 hmem
  have e2 := SeqAt.readOf_eq c1 r3
  have hmm : PySem.W.minD d ds ∈ d :: ds := by
    have : ∀ (l : List PyData) (x : PyData), l.foldl (fun a y => if PySem.W.dataLt y a then y else a) x = x ∨ l.foldl (fun a y => if PySem.W.dataLt y a then y else a) x ∈ l := by
      intro l
      induction l with
      | nil => intro x; exact .inl rfl
      | cons y l ih =>
        intro x
        rw [List.foldl_cons]
        rcases ih (if PySem.W.dataLt y x then y else x) with h | h
        · split at h
          · exact .inr (by rw [if_pos (by assumption), h]; exact List.mem_cons_self)
          · rw [if_neg (by assumption)]; exact .inl h
        · exact .inr (List.mem_cons_of_mem _ h)
    unfold PySem.W.minD
    rcases this ds d with h | h
    · rw [h]; exact List.mem_cons_self
    · exact List.mem_cons_of_mem _ h
  have e3 := SeqAt.readOf_eq (can _ _ hl0 hmm) hrd
  rw [e2] at e3
  rw [← e3, List.getElem?_eq_getElem hlt]
  rw [List.getD_eq_getElem?_getD, List.getElem?_eq_getElem hlt]
  rfl
mutual
theorem py_inj : ∀ (a b : D), a.nl = true → b.nl = true → a.py = b.py → a = b
  | .non, b, _, hb, e => by cases b <;> simp [D.py, D.nl] at e hb ⊢
  | .bl x, b, _, hb, e => by cases b <;> simp [D.py, D.nl] at e hb ⊢; exact e
  | .int x, b, _, hb, e => by cases b <;> simp [D.py, D.nl] at e hb ⊢; exact e
  | .str x, b, _, hb, e => by cases b <;> simp [D.py, D.nl] at e hb ⊢; exact e
  | .tup xs, b, ha, hb, e => by
    cases b with
    | tup ys =>
      rw [D.nl] at ha hb
      rw [D.py, D.py] at e
      rw [pys_inj xs ys ha hb (by injection e)]
    | _ => simp [D.py, D.nl] at e hb
  | .lst _, _, ha, _, _ => by simp [D.nl] at ha
  | .kst _, _, ha, _, _ => by simp [D.nl] at ha
  | .ref _, _, ha, _, _ => by simp [D.nl] at ha
theorem pys_inj : ∀ (a b : List D), D.nls a = true → D.nls b = true → D.pys a = D.pys b → a = b
  | [], [], _, _, _ => rfl
  | [], y :: ys, _, _, e => by simp [D.pys] at e
  | x :: xs, [], _, _, e => by simp [D.pys] at e
  | x :: xs, y :: ys, ha, hb, e => by
    rw [D.nls, Bool.and_eq_true] at ha hb
    rw [D.pys, D.pys] at e
    injection e with e1 e2
    rw [py_inj x y ha.1 hb.1 e1, pys_inj xs ys ha.2 hb.2 e2]
end
theorem pys_at : ∀ {xs : List D} {i : Nat} {z : PyData}, (D.pys xs)[i]? = some z → ∃ d, xs[i]? = some d ∧ d.py = z
  | [], i, z, h => by simp [D.pys] at h
  | x :: xs, 0, z, h => by rw [D.pys] at h; simp at h; exact ⟨x, rfl, h⟩
  | x :: xs, i + 1, z, h => by
    rw [D.pys] at h
    obtain ⟨d, h1, h2⟩ := pys_at (xs := xs) (i := i) (by simpa using h)
    exact ⟨d, by simpa using h1, h2⟩
theorem pys_mem : ∀ {xs : List D} {z : PyData}, z ∈ D.pys xs → ∃ d, d ∈ xs ∧ d.py = z
  | [], z, h => by simp [D.pys] at h
  | x :: xs, z, h => by
    rw [D.pys] at h
    rcases List.mem_cons.mp h with rfl | h
    · exact ⟨x, by simp, rfl⟩
    · obtain ⟨d, h1, h2⟩ := pys_mem h
      exact ⟨d, List.mem_cons_of_mem _ h1, h2⟩
theorem nls_at : ∀ {xs : List D} {d : D}, D.nls xs = true → d ∈ xs → d.nl = true
  | x :: xs, d, h, hd => by
    rw [D.nls, Bool.and_eq_true] at h
    rcases List.mem_cons.mp hd with rfl | hd
    · exact h.1
    · exact nls_at h.2 hd
/-- min of x :: xs -/
def minDd (x : D) (xs : List D) : D := xs.foldl (fun a y => if PySem.W.dataLt y.py a.py = true then y else a) x
def okAl (l : List D) : Bool := (D.nls l && D.dps 59 l) && ((l.all fun a => l.all fun b => PySem.W.alike a.py b.py) && l.all fun a => !isNon a)
theorem minDd_py : ∀ (xs : List D) (x : D), (minDd x xs).py = PySem.W.minD x.py (D.pys xs)
  | [], x => by rw [D.pys]; rfl
  | y :: xs, x => by
    rw [D.pys]
    show (minDd (if PySem.W.dataLt y.py x.py = true then y else x) xs).py = PySem.W.minD (if PySem.W.dataLt y.py x.py then y.py else x.py) (D.pys xs)
    rw [minDd_py xs]
    split <;> rfl
theorem minDd_mem : ∀ (xs : List D) (x : D), minDd x xs ∈ x :: xs
  | [], x => by simp [minDd]
  | y :: xs, x => by
    show minDd (if PySem.W.dataLt y.py x.py = true then y else x) xs ∈ _
    have := minDd_mem xs (if PySem.W.dataLt y.py x.py = true then y else x)
    rcases List.mem_cons.mp this with h | h
    · rw [h]; split <;> simp
    · exact List.mem_cons_of_mem _ (List.mem_cons_of_mem _ h)
def gMin1 : GN := fun ds M => match ds with
  | [d] => (lsOf d M).bind fun l => match l with
    | x :: xs => if okAl (x :: xs) = true then some (minDd x xs) else none
    | [] => none
  | _ => none
theorem o_min1 {K : PySem.W.Frag} : OpN K (rMinDt K) gMin1 := by
  intro W M ds d vs Q sr r hg k
  unfold gMin1 at hg
  split at hg
  · obtain ⟨l, hx, hg⟩ := Option.bind_eq_some_iff.mp hg
    split at hg
    · rename_i x xs
      split at hg
      · rename_i ok
        cases hg
        unfold okAl at ok
        rw [Bool.and_eq_true, Bool.and_eq_true, Bool.and_eq_true] at ok
        obtain ⟨⟨o1, o2⟩, o3, o4⟩ := ok
        obtain ⟨v, rfl, r1⟩ := rl1 r
        obtain ⟨p, us, rfl, h1, r2⟩ := ls_sq sr r1 hx
        have hdp := dp_Dps 59 (x :: xs) us o2 r2
        obtain ⟨q1, q2⟩ := dps_can 59 (x :: xs) o2
        rw [D.pys] at hdp q1 q2
        refine ⟨p, us, x.py, D.pys xs, rfl, h1, hdp, q1, ⟨fun a ha b hb => ?_, fun a ha => ?_⟩, by omega, fun i v hv hi => ?_⟩
        · obtain ⟨a0, ha0, rfl⟩ := pys_mem (xs := x :: xs) (by rw [D.pys]; exact ha)
          obtain ⟨b0, hb0, rfl⟩ := pys_mem (xs := x :: xs) (by rw [D.pys]; exact hb)
          exact List.all_eq_true.mp (List.all_eq_true.mp o3 a0 ha0) b0 hb0
        · obtain ⟨a0, ha0, rfl⟩ := pys_mem (xs := x :: xs) (by rw [D.pys]; exact ha)
          have h4 := List.all_eq_true.mp o4 a0 ha0
          have h5 := nls_at o1 ha0
          cases a0 <;> simp [isNon, D.py, D.nl] at h4 h5 ⊢
        · obtain ⟨z, hz, hzp⟩ := pys_at (xs := x :: xs) (i := i) (by rw [D.pys]; exact hi)
          have hm := minDd_mem xs x
          have e : z = minDd x xs := py_inj _ _ (nls_at o1 (List.mem_of_getElem? hz)) (nls_at o1 hm) (by rw [hzp, minDd_py])
          obtain ⟨v', hv', rz⟩ := r2.get hz
          have : v' = v := Option.some.inj (hv'.symm.trans hv)
          subst this
          rw [← e] at k
          exact k W v' (.refl W) sr rz
      · cases hg
    · cases hg
  · cases hg
/-! xs.index(y) -/
def findI {α : Type} (p : α → Bool) : List α → Option Nat
  | [] => none
  | x :: xs => if p x = true then some 0 else (findI p xs).map (· + 1)
def gIndex : GM := fun x ds M => match ds with
  | [.int y] => match x with
    | .lst xs => (intsOf xs).bind fun ns => (findI (fun z => decide (z = y)) ns).map fun (j : Nat) => (.int (j : Int), M)
    | _ => none
  | _ => none
theorem findI_ok {α : Type} {p : α → Bool} : ∀ {xs : List α} {j : Nat}, findI p xs = some j → ∃ z, xs[j]? = some z ∧ p z = true ∧ ∀ m z', m < j → xs[m]? = some z' → p z' = false
  | [], j, h => by cases h
  | x :: xs, j, h => by
    rw [findI] at h
    split at h
    · rename_i hp
      cases h
      exact ⟨x, rfl, hp, fun m z' hm => absurd hm (Nat.not_lt_zero _)⟩
    · rename_i hp
      obtain ⟨i, hi, rfl⟩ := Option.map_eq_some_iff.mp h
      obtain ⟨z, h1, h2, h3⟩ := findI_ok hi
      refine ⟨z, by simpa using h1, h2, fun m z' hm hz => ?_⟩
      cases m with
      | zero => simp at hz; subst hz; simpa using hp
      | succ m => exact h3 m z' (by omega) (by simpa using hz)
theorem pys_get : ∀ {xs : List D} {i : Nat} {d : D}, xs[i]? = some d → (D.pys xs)[i]? = some d.py
  | [], i, d, h => by simp at h
  | x :: xs, 0, d, h => by simp at h; subst h; rw [D.pys]; rfl
  | x :: xs, i + 1, d, h => by rw [D.pys]; simpa using pys_get (xs := xs) (i := i) (by simpa using h)
theorem o_index {K : PySem.W.Frag} : OpM K (rIndex K) gIndex := by
  intro W M M' x d ds v vs Q sr rx r hg k
  unfold gIndex at hg
  split at hg
  · rename_i y
    split at hg
    · rename_i xs
      obtain ⟨ns, hn, hg⟩ := Option.bind_eq_some_iff.mp hg
      obtain ⟨j, hj, hg⟩ := Option.map_eq_some_iff.mp hg
      cases hg
      obtain ⟨u, rfl, r1⟩ := rl1 r
      cases (show _ = _ from r1)
      obtain ⟨z, h1, h2, h3⟩ := findI_ok hj
      obtain ⟨a, us, rfl, h4, r2⟩ := ls_sq sr rx (xs := xs) rfl
      have eus := intsOf_ok hn r2
      subst eus
      refine ⟨a, _, .int y, j, .int z, rfl, rfl, h4, rfl, ?_, ?_, ?_, fun m z' hm hz => ?_, k W _ (.refl W) sr rfl⟩
      · rw [List.all_map]
        exact List.all_eq_true.mpr fun _ _ => rfl
      · rw [List.getElem?_map, h1]; rfl
      · have : z = y := of_decide_eq_true h2
        subst this
        simp [eqV]
      · rw [List.getElem?_map] at hz
        obtain ⟨i, hi, rfl⟩ := Option.map_eq_some_iff.mp hz
        have := h3 m i hm hi
        have hne : i ≠ y := of_decide_eq_false this
        simp [eqV, hne]
    · cases hg
  · cases hg
end PF
namespace PF
open PySem PySem.Spec PyProof.Rows L2 HT
/-! t += u of tuples -/
theorem noI_tup : typeLookup (.type "tuple") (dunderI "add") = pure none := by
  rw [typeLookup_type]
  rw [builtinLookup_eq_fast]
  kernel_rfl
section
variable {prog : Program} {w : World} {A : Around} {E : Value → Shared → Prop} {s : Shared}
theorem icat {t b : Addr} {vs ws : List Value} {Q : Value → Shared → Prop} (ht : IsTup s.heap t vs.toArray) (hb : IsTup s.heap b ws.toArray) (h0 : vs = [] → Q (.ref b) s)
    (h1 : vs ≠ [] → ws = [] → Q (.ref t) s) (h2 : vs ≠ [] → ws ≠ [] → Q (.ref s.heap.objs.size) { s with heap := s.heap.push { cls := .type "tuple", data := .seq (vs ++ ws).toArray } })
    (hz : vs.length + ws.length ≤ sizeLine) : wpAny (model prog w) A (inplaceOp .Add (.ref t) (.ref b)) Q E s := by
  obtain ⟨⟨c1, d1, x1, s1⟩, o1, hc1, n1, hd1⟩ := id ht
  obtain ⟨⟨c2, d2, x2, s2⟩, o2, hc2, n2, hd2⟩ := id hb
  simp only at hc1 hd1 hc2 hd2
  subst hc1 hd1 hc2 hd2
  refine wpAny_inplaceOp_concat ⟨_, o1, rfl⟩ ⟨_, o2, rfl⟩ noI_tup
    noFill_tuple_add seq_tuple_add ?_
  by_cases hv : vs = []
  · subst hv
    exact call_meets PySem.F.slot_tuple_add ⟨_, o1, rfl⟩ PySem.F.entry_tuple_add
      (PySem.F.args_tuple_add_2 _ _) (tuple_addW0 t b _ ws.toArray n1 n2 d1 d2 s1 s2 (by simp)) ⟨o1, o2, h0 rfl⟩
  · by_cases hw : ws = []
    · exact call_meets PySem.F.slot_tuple_add ⟨_, o1, rfl⟩ PySem.F.entry_tuple_add
        (PySem.F.args_tuple_add_2 _ _) (tuple_addW1 t b vs.toArray ws.toArray n1 n2 d1 d2 s1 s2 (by simpa using hv) (by simp [hw])) ⟨o1, o2, h1 hv hw⟩
    · refine call_meets PySem.F.slot_tuple_add ⟨_, o1, rfl⟩ PySem.F.entry_tuple_add
        (PySem.F.args_tuple_add_2 _ _) (tuple_addW2 t b vs.toArray ws.toArray n1 n2 d1 d2 s1 s2 (by simpa using hv) (by simpa using hw) (by simpa using hz)) ⟨o1, o2, ?_⟩
      have e : vs.toArray ++ ws.toArray = (vs ++ ws).toArray := by simp
      rw [e]
      exact h2 hv hw
end
theorem iop_catA {X : Cx} : OpR X (inplaceOp .Add) (rCatA X.K) := by
  intro pins s σ H x y v u Q I rx ry h
  obtain ⟨a, b, xs, ys, rfl, rfl, ha, hb, hz, q0, q1, q2⟩ := h
  cases rx
  cases ry
  obtain ⟨its, r1, p1, _⟩ := I.tuple ha
  obtain ⟨its2, r2, p2, _⟩ := I.tuple hb
  refine icat p1 p2 (fun z => ⟨.ref b, H, I, rfl, q0 (r1.nil_iff.mp z)⟩) (fun z z2 => ⟨.ref a, H, I, rfl, q1 (fun e => z (r1.nil_iff.mpr e)) (r2.nil_iff.mp z2)⟩) (fun z z2 => ?_) (by rw [← r1.length, ← r2.length]; exact hz)
  refine ⟨.ref s.heap.objs.size, _, I.laid (t' := s.toks) (o := .tup (xs ++ ys)) (fun b ob q => Heap.get?_push_of_some _ q) (Nat.le_refl _) ?_, rfl,
    q2 (fun e => z (r1.nil_iff.mpr e)) (fun e => z2 (r2.nil_iff.mpr e)) _ (I.hok.fresh (Nat.le_refl _))⟩
  exact ⟨by rw [List.length_append]; exact hz, _, r1.append r2,
    IsTup.new _ _⟩
end PF
namespace PF
open PySem PySem.Spec PyProof.Rows L2 HT
/-! x += y: ints, tuples -/
def gIAddA : G2M := fun x y M => match x, y with
  | .int i, .int j => some (.int (i + j), M)
  | .tup a, .tup b => if a.length + b.length ≤ LINE then some (.tup (a ++ b), M) else none
  | _, _ => none
def rIAddA (K : PySem.W.Frag) : R2 := fun x y H Q => rI0 (fun i j => .int (i + j)) x y H Q ∨ rCatA K x y H Q
theorem iop_addA {X : Cx} : OpR X (inplaceOp .Add) (rIAddA X.K) := iop_add.or iop_catA
theorem o_iaddA {K : PySem.W.Frag} : Op2M K (rIAddA K) gIAddA := by
  intro W M M' x y d v u Q sr rx ry hg k
  unfold gIAddA at hg
  split at hg
  · cases hg
    cases (show _ = _ from rx); cases (show _ = _ from ry)
    exact .inl ⟨_, _, rfl, rfl, k W _ (.refl W) sr rfl⟩
  · split at hg
    · rename_i a b hl
      cases hg
      obtain ⟨p, vs, rfl, h1, r1⟩ := tp_sq rx
      obtain ⟨q, us, rfl, h2, r2⟩ := tp_sq ry
      refine .inr ⟨p, q, vs, us, rfl, rfl, h1, h2, by rw [line_eq, ← r1.len, ← r2.len]; exact hl, fun e => ?_, fun _ e => ?_, fun _ _ t nt => ?_⟩
      · subst e
        have : a = [] := List.eq_nil_of_length_eq_zero r1.len
        subst this
        exact k W _ (.refl W) sr ry
      · subst e
        have : b = [] := List.eq_nil_of_length_eq_zero r2.len
        subst this
        exact k W _ (.refl W) sr (by rw [List.append_nil]; exact rx)
      · exact k _ _ (Ext.put nt) (sr.put nt) (.newTup sr nt (r1.append r2) (by rw [List.length_append, ← r1.len, ← r2.len]; exact hl))
    · cases hg
  · cases hg
/-! x in a list, a tuple of ints -/
def gIn : G2B := fun x y M => match x with
  | .int i => (sqOf y M).bind fun xs => (intsOf xs).map fun ns => ns.any fun n => decide (n = i)
  | _ => none
def gNotIn : G2B := fun x y M => (gIn x y M).map (! ·)
section
variable {K : PySem.W.Frag} {W : Wo} {M : Mem}
theorem in_ok {x y : D} {v u : V} {t : Bool} (sr : SR K W M) (rx : Rp K W x v) (ry : Rp K W y u) (h : gIn x y M = some t) :
    ∃ p xs, u = .ref p ∧ (SqL K W.H p xs ∨ SqT K W.H p xs) ∧ flatV v = true ∧ xs.all flatV = true ∧ inV v xs = t := by
  unfold gIn at h
  split at h
  · rename_i i
    cases (show _ = _ from rx)
    obtain ⟨xs, hx, h⟩ := Option.bind_eq_some_iff.mp h
    obtain ⟨ns, hn, h⟩ := Option.map_eq_some_iff.mp h
    subst h
    obtain ⟨p, us, rfl, h1, r2⟩ := sq_sq sr ry hx
    have e := intsOf_ok hn r2
    subst e
    refine ⟨p, _, rfl, h1, rfl, ?_, ?_⟩
    · rw [List.all_map]
      exact List.all_eq_true.mpr fun _ _ => rfl
    · unfold inV
      rw [List.any_map]
      congr 1
  · cases h
theorem o_in : Op2 K (rIn K false) (gB gIn) := by
  intro W M x y d v u Q sr rx ry hg k
  obtain ⟨t, ht, rfl⟩ := Option.map_eq_some_iff.mp hg
  obtain ⟨p, xs, rfl, h1, h2, h3, h4⟩ := in_ok sr rx ry ht
  exact ⟨p, xs, rfl, h1, h2, h3, by
    rw [if_neg Bool.false_ne_true, h4]
    exact k W _ (.refl W) sr rfl⟩
theorem o_notIn : Op2 K (rIn K true) (gB gNotIn) := by
  intro W M x y d v u Q sr rx ry hg k
  obtain ⟨t, ht, rfl⟩ := Option.map_eq_some_iff.mp hg
  obtain ⟨t', ht', rfl⟩ := Option.map_eq_some_iff.mp ht
  obtain ⟨p, xs, rfl, h1, h2, h3, h4⟩ := in_ok sr rx ry ht'
  exact ⟨p, xs, rfl, h1, h2, h3, by
    rw [if_pos rfl, h4]
    exact k W _ (.refl W) sr rfl⟩
end
/-! t * 1 of a tuple is the tuple itself -/
theorem mul_one (l : Addr) (items : Array Value) (n : Nat) (dd : Option Addr) (sl : Array (Option Value)) (u : Tok) :
    Meets (Builtin.«tuple.__mul__» ⟨[.ref l, .int 1 u], []⟩) (fun _ R s => s.heap.get? l = some { cls := .type "tuple", dict := dd, data := .seq items n, slots := sl } ∧ R (.ok (.ret (Value.ref l))) s) :=
  .of_wp fun prog w A R s h => by
    obtain ⟨hp, g, d, tk, os⟩ := s
    obtain ⟨hl, h⟩ := h
    have f1 := AutoSeq1.idx_int
    have c1 : (items.isEmpty || (1 : Int) == 1) = true := by simp
    wp_walk using wpAny_loadPart' hl
    repeat (first
      | (refine wpAny_ite_false (decide_eq_false (by decide)) ?_; wp_walk using wpAny_loadPart' hl)
      | (refine wpAny_ite_true (decide_eq_true (by rw [c1])) ?_; wp_walk using wpAny_loadPart' hl))
    exact ⟨_, rfl, h⟩
def rRep1 (K : PySem.W.Frag) : R2 := fun x y H Q => ∃ l xs, x = .ref l ∧ y = .int 1 ∧ SqT K H l xs ∧ Q (.ref l) H
theorem op_rep1 {X : Cx} : OpR X (binaryOp .Mult) (rRep1 X.K) := by
  intro pins s σ H x y v u Q I rx ry h
  obtain ⟨l, xs, rfl, rfl, hT, q⟩ := h
  cases rx
  obtain ⟨t, rfl⟩ := ry
  obtain ⟨its, r, ⟨⟨c1, d1, x1, s1⟩, ho, hc, n, hd⟩, hs⟩ := I.tuple hT
  simp only at hc hd
  subst hc hd
  exact wpAny_binaryOp_repeat_ref (T := "tuple") (U := "int") (by decide) ⟨_, ho, rfl⟩ (fun s' => typeIs_int s' 1 t)
    noFill_tuple_mul F.fills_int_mul F.slot_int_rmul repeat_tuple F.slot_int_index.lookup
    (call_meets F.slot_int_rmul (typeIs_int s 1 t) F.entry_int_rmul
      (F.args_int_rmul_2 _ _) (int_rmul_tuple 1 t l its.toArray n d1 s1)
      ⟨ho, rfl, ⟨_, ho, rfl⟩, call_meets F.slot_tuple_mul ⟨_, ho, rfl⟩
        F.entry_tuple_mul (F.args_tuple_mul_2 _ _) (mul_one l its.toArray n d1 s1 t) ⟨ho, ⟨.ref l, H, I, rfl, q⟩⟩⟩)
def rRepA (K : PySem.W.Frag) : R2 := fun x y H Q => rRep1 K x y H Q ∨ rRepT K x y H Q
theorem op_repTA {X : Cx} : OpR X (binaryOp .Mult) (rRepA X.K) := op_rep1.or op_repT
def gRepT : G2 := fun x y M => match x, y with
  | .tup xs, .int j => if j = 1 then some (.tup xs) else if (!xs.isEmpty && decide (2 ≤ j)) && (decide (j ≤ 1000) && decide (xs.length ≤ 1000)) then some (.tup (List.replicate j.toNat xs).flatten) else none
  | _, _ => none
theorem o_repT {K : PySem.W.Frag} : Op2 K (rRepA K) gRepT := by
  intro W M x y d v u Q sr rx ry hg k
  unfold gRepT at hg
  split at hg
  · rename_i xs j
    cases (show _ = _ from ry)
    obtain ⟨p, vs, rfl, h1, r1⟩ := tp_sq rx
    split at hg
    · rename_i hj
      cases hg
      subst hj
      exact .inl ⟨p, vs, rfl, rfl, h1, k W _ (.refl W) sr rx⟩
    · split at hg
      · rename_i h
        cases hg
        simp only [Bool.and_eq_true, decide_eq_true_eq] at h
        obtain ⟨⟨h2, h3⟩, h4, h5⟩ := h
        have hl := r1.len
        have hne : vs ≠ [] := by
          rintro rfl
          have : xs = [] := List.eq_nil_of_length_eq_zero hl
          subst this
          cases h2
        refine .inr ⟨p, j, vs, rfl, rfl, h1, hne, h3, h4, by omega, fun t nt => ?_⟩
        refine k _ _ (Ext.put nt) (sr.put nt) (.newTup sr nt (r1.rep _) ?_)
        rw [PyProof.Rows.lm_len_rep_flat]
        have a1 : j.toNat * vs.length ≤ 1000 * 1000 := Nat.mul_le_mul (by omega) (by omega)
        show _ ≤ 16777216
        omega
      · cases hg
  · cases hg
end PF
namespace PF
open PySem PySem.Spec PyProof.Rows L2
/-! ### what the pieces compute, for simp -/
def rg1 (a : List D) (M : Mem) : Option ((List D × Option Nat) × Mem) := match a with | [.int j] => if okR 0 j then some ((rgD 0 j.toNat, none), M) else none | _ => none
def rg2 (a : List D) (M : Mem) : Option ((List D × Option Nat) × Mem) := match a with | [.int i, .int j] => if okR i j then some ((rgD i (j - i).toNat, none), M) else none | _ => none
theorem ev_rgh1 {j : Int} (M : Mem) (h : okR 0 j = true) : rg1 [.int j] M = some ((rgD 0 j.toNat, none), M) := by unfold rg1; dsimp only; rw [if_pos h]
theorem ev_rgh2 {i j : Int} (M : Mem) (h : okR i j = true) : rg2 [.int i, .int j] M = some ((rgD i (j - i).toNat, none), M) := by unfold rg2; dsimp only; rw [if_pos h]
section
variable (ρ : Rho) (M : Mem)
@[simp] theorem ev_var (i) : fVar i ρ M = match ρ[i]? with | some (some d) => some (d, M) | _ => none := rfl
@[simp] theorem ev_c (d) : fC d ρ M = some (d, M) := rfl
@[simp] theorem ev_f1 (g a) : f1 g a ρ M = (a ρ M).bind fun a => (g a.1 a.2).bind fun d => some (d, a.2) := rfl
@[simp] theorem ev_f2 (g a b) : f2 g a b ρ M = (a ρ M).bind fun a => (b ρ a.2).bind fun b => (g a.1 b.1 b.2).bind fun d => some (d, b.2) := rfl
@[simp] theorem ev_f2T (g a b) : f2T g a b ρ M = (a ρ M).bind fun a => (b ρ a.2).bind fun b => (g a.1 b.1 b.2).bind fun d => some (d, b.2) := rfl
@[simp] theorem ev_gB (g x y) : gB g x y M = (g x y M).map .bl := rfl
@[simp] theorem ev_tru (a) : fTru a ρ M = (a ρ M).bind fun a => (gTru a.1 a.2).bind fun k => some (k, a.2) := rfl
@[simp] theorem ev_not (a) : fNot a ρ M = (a ρ M).bind fun a => some (!a.1, a.2) := rfl
@[simp] theorem ev_and (a b) : fAnd a b ρ M = (a ρ M).bind fun a => if a.1 = true then b ρ a.2 else some (false, a.2) := rfl
@[simp] theorem ev_or (a b) : fOr a b ρ M = (a ρ M).bind fun a => if a.1 = true then some (true, a.2) else b ρ a.2 := rfl
@[simp] theorem ev_andV (a b) : fAndV a b ρ M = (a ρ M).bind fun a => (gTru a.1 a.2).bind fun k => if k = true then b ρ a.2 else some a := rfl
@[simp] theorem ev_orV (a b) : fOrV a b ρ M = (a ρ M).bind fun a => (gTru a.1 a.2).bind fun k => if k = true then some a else b ρ a.2 := rfl
@[simp] theorem ev_notV (a) : fNotV a ρ M = (a ρ M).bind fun a => (gTru a.1 a.2).bind fun k => some (.bl (!k), a.2) := rfl
@[simp] theorem ev_ifE (c a b) : fIfE c a b ρ M = (c ρ M).bind fun c => if c.1 = true then a ρ c.2 else b ρ c.2 := rfl
theorem ev_chain (g g' : G2B) (fa fb fc : FE) : fChain g g' fa fb fc ρ M = (fa ρ M).bind fun a => (fb ρ a.2).bind fun b => (g a.1 b.1 b.2).bind fun k => if k = true then (fc ρ b.2).bind fun c => (g' b.1 c.1 c.2).bind fun j => some (.bl j, c.2) else some (.bl false, b.2) := rfl
theorem ev_chainT (g g' : G2B) (fa fb fc : FE) : fChainT g g' fa fb fc ρ M = (fa ρ M).bind fun a => (fb ρ a.2).bind fun b => (g a.1 b.1 b.2).bind fun k => if k = true then (fc ρ b.2).bind fun c => (g' b.1 c.1 c.2).bind fun j => some (j, c.2) else some (false, b.2) := rfl
@[simp] theorem ev_nil : fNil ρ M = some ([], M) := rfl
@[simp] theorem ev_cons (a r) : fCons a r ρ M = (a ρ M).bind fun a => (r ρ a.2).bind fun r => some (a.1 :: r.1, r.2) := rfl
@[simp] theorem ev_tup (f) : fTup f ρ M = (f ρ M).bind fun a => if a.1.length ≤ LINE then some (.tup a.1, a.2) else none := rfl
@[simp] theorem ev_lstD (f) : fLstD f ρ M = (f ρ M).bind fun a => if a.1.length ≤ LINE then some a else none := rfl
@[simp] theorem ev_fz (f) : fFz f ρ M = (f ρ M).bind fun a => some (.lst a.1, a.2) := rfl
@[simp] theorem ev_mut (f) : fMut f ρ M = (f ρ M).bind fun a => some (.ref a.2.length, a.2 ++ [.lst a.1]) := rfl
@[simp] theorem ev_rev (f) : fRevN f ρ M = (f ρ M).bind fun a => (lsOf a.1 a.2).bind fun xs => some (xs.reverse, a.2) := rfl
@[simp] theorem ev_b (g f) : fB g f ρ M = (f ρ M).bind fun a => (g a.1 a.2).bind fun d => some (d, a.2) := rfl
@[simp] theorem ev_bN (g f) : fBN g f ρ M = (f ρ M).bind fun a => (g a.1 a.2).bind fun d => some (d, a.2) := rfl
@[simp] theorem ev_isi (T f) : fIsi T f ρ M = (f ρ M).bind fun a => some (.bl (isi (tyOf a.1) T), a.2) := rfl
@[simp] theorem ev_call (c f) : fCall c f ρ M = (f ρ M).bind fun a => callP c a.1 a.2 := rfl
@[simp] theorem ev_callS (i c f) : fCallS i c f ρ M = (f ρ M).bind fun a => callS i c a.1 a.2 := rfl
@[simp] theorem ev_m (T g o f) : fM T g o f ρ M = (o ρ M).bind fun o => if tyOk T o.1 o.2 = true then (f ρ o.2).bind fun a => g o.1 a.1 a.2 else none := rfl
@[simp] theorem ev_next : sNext ρ M = some (.nx ρ, M) := rfl
@[simp] theorem ev_seq (f g) : sSeq f g ρ M = (f ρ M).bind fun o => match o.1 with | .nx ρ' => g ρ' o.2 | _ => some o := rfl
@[simp] theorem ev_brk : sBreak ρ M = some (.bk ρ, M) := rfl
@[simp] theorem ev_cont : sCont ρ M = some (.ct ρ, M) := rfl
@[simp] theorem ev_drop (f) : sDrop f ρ M = (f ρ M).bind fun a => some (.nx ρ, a.2) := rfl
@[simp] theorem ev_ret (f) : sRet f ρ M = (f ρ M).bind fun a => some (.ret a.1, a.2) := rfl
@[simp] theorem ev_retN : sRetN ρ M = some (.ret .non, M) := rfl
@[simp] theorem ev_if (c f g) : sIf c f g ρ M = (c ρ M).bind fun a => if a.1 = true then f ρ a.2 else g ρ a.2 := rfl
@[simp] theorem ev_set (i f) : sSet i f ρ M = (f ρ M).bind fun a => some (.nx (ρ.set i (some a.1)), a.2) := rfl
@[simp] theorem ev_asg (f t) : sAsg f t ρ M = (f ρ M).bind fun a => (t a.1 ρ).bind fun ρ' => some (.nx ρ', a.2) := rfl
@[simp] theorem ev_par (i j f) : sPar i j f ρ M = (f ρ M).bind fun a => match a.1 with | [x, y] => some (.nx ((ρ.set i (some x)).set j (some y)), a.2) | _ => none := rfl
@[simp] theorem ev_par3 (i j l f) : sPar3 i j l f ρ M = (f ρ M).bind fun a => match a.1 with | [x, y, z] => some (.nx (((ρ.set i (some x)).set j (some y)).set l (some z)), a.2) | _ => none := rfl
@[simp] theorem ev_aug (i g f) : sAug i g f ρ M = match ρ[i]? with | some (some x) => (f ρ M).bind fun a => (g x a.1 a.2).bind fun z => some (.nx (ρ.set i (some z.1)), z.2) | _ => none := rfl
@[simp] theorem ev_while (c f) : sWhile c f ρ M = sWhileN c f (fuel ρ M) ρ M := rfl
@[simp] theorem ev_for (i t f) : sFor i t f ρ M = (i ρ M).bind fun a => sLoop (chk a.1.2 a.1.1) (sStep t f) a.1.1 ρ a.2 := rfl
@[simp] theorem ev_step (t f d) : sStep t f d ρ M = (t d ρ).bind fun ρ' => f ρ' M := rfl
@[simp] theorem ev_tN (i d) : tN i d ρ = some (ρ.set i (some d)) := rfl
@[simp] theorem ev_tT (n t xs) : tT n t (.tup xs) ρ = if xs.length = n then t xs ρ else none := rfl
@[simp] theorem ev_tsN : tsN [] ρ = some ρ := rfl
@[simp] theorem ev_tsC (t u d r) : tsC t u (d :: r) ρ = (t d ρ).bind fun ρ' => u r ρ' := rfl
@[simp] theorem ev_rg1 (f) : fiRg1 f ρ M = (f ρ M).bind fun a => rg1 a.1 a.2 := rfl
@[simp] theorem ev_rg2 (f) : fiRg2 f ρ M = (f ρ M).bind fun a => rg2 a.1 a.2 := rfl
@[simp] theorem ev_lc (vs i t c e) : fLC vs i t c e ρ M = (i ρ M).bind fun a => lcLoop (chk a.1.2 a.1.1) t c e (wipeR ρ vs) a.1.1 [] a.2 := rfl
@[simp] theorem ev_yes : fYes ρ M = some (true, M) := rfl
@[simp] theorem ev_setIx (v o i) : sSetIx v o i ρ M = (v ρ M).bind fun v => (o ρ v.2).bind fun o => (i ρ o.2).bind fun i => match i.1 with
  | .int k => (mlOf o.1 i.2).bind fun l => (ixN l.2.length k).bind fun j => some (.nx ρ, i.2.set l.1 (.lst (l.2.set j v.1)))
  | _ => none := rfl
@[simp] theorem ev_slice (a l h) : fSlice a l h ρ M = (a ρ M).bind fun a => (l ρ a.2).bind fun l => (h ρ l.2).bind fun h => (gSlice a.1 l.1 h.1 h.2).bind fun d => some (d, h.2) := rfl
@[simp] theorem ev_sliceN (a l h) : fSliceN a l h ρ M = (a ρ M).bind fun a => (l ρ a.2).bind fun l => (h ρ l.2).bind fun h => (lsOf a.1 h.2).bind fun d => some (cutD d l.1 h.1, h.2) := rfl
@[simp] theorem ev_noPart : fNoPart ρ M = some (none, M) := rfl
@[simp] theorem ev_part (a) : fPart a ρ M = (a ρ M).bind fun a => match a.1 with | .int i => some (some i, a.2) | _ => none := rfl
end
section
variable (M : Mem) (i j : Int)
@[simp] theorem ev_add : gAdd (.int i) (.int j) M = some (.int (i + j)) := rfl
@[simp] theorem ev_sub : gSub (.int i) (.int j) M = some (.int (i - j)) := rfl
@[simp] theorem ev_mul : gMul (.int i) (.int j) M = if okMul i j = true then some (.int (i * j)) else none := rfl
@[simp] theorem ev_fdiv : gFdiv (.int i) (.int j) M = if okDiv j = true then some (.int (i.fdiv j)) else none := rfl
@[simp] theorem ev_mod : gMod (.int i) (.int j) M = if decide (j ≠ 0) = true then some (.int (i.fmod j)) else none := rfl
@[simp] theorem ev_pow : gPow (.int i) (.int j) M = if okPow i j = true then some (.int (i ^ j.toNat)) else none := rfl
@[simp] theorem ev_neg : gNeg (.int i) M = some (.int (-i)) := rfl
@[simp] theorem ev_cmp (c) : gCmp c (.int i) (.int j) M = some (c i j) := rfl
@[simp] theorem ev_eq : gEq (.int i) (.int j) M = some (decide (i = j)) := by
  unfold gEq; simp [D.val, D.dp, D.py, PyData.eqv]; by_cases h : i = j <;> simp [h]
@[simp] theorem ev_ne : gNe (.int i) (.int j) M = some (!decide (i = j)) := by
  unfold gNe; rw [ev_eq]; rfl
@[simp] theorem ev_eqb (a b : Bool) : gEq (.bl a) (.bl b) M = some (decide (a = b)) := by cases a <;> cases b <;> rfl
@[simp] theorem ev_neb (a b : Bool) : gNe (.bl a) (.bl b) M = some (!decide (a = b)) := by cases a <;> cases b <;> rfl
@[simp] theorem ev_int : gInt [.int i] M = some (.int i) := rfl
@[simp] theorem ev_intb (b) : gInt [.bl b] M = some (.int (if b = true then 1 else 0)) := by cases b <;> rfl
@[simp] theorem ev_abs : gAbs [.int i] M = some (.int (i.natAbs : Int)) := by
  show some (D.int (if i < 0 then -i else i)) = _
  rw [show (if i < 0 then -i else i) = (i.natAbs : Int) by omega]
@[simp] theorem ev_gcd : gGcd [.int i, .int j] M = some (.int ((Nat.gcd i.natAbs j.natAbs : Nat) : Int)) := rfl
@[simp] theorem ev_max2 : gMax2 [.int i, .int j] M = some (.int (if j > i then j else i)) := rfl
@[simp] theorem ev_min2 : gMin2 [.int i, .int j] M = some (.int (if j < i then j else i)) := rfl
@[simp] theorem ev_trub (b) : gTru (.bl b) M = some b := rfl
@[simp] theorem ev_trui : gTru (.int i) M = some (i != 0) := rfl
@[simp] theorem ev_isb (a b : Bool) : gIs (.bl a) (.bl b) M = some (decide (a = b)) := rfl
@[simp] theorem ev_isn (d) : gIs d .non M = some (isNon d) := rfl
@[simp] theorem ev_isNot (d e) : gIsNot d e M = (gIs d e M).map (! ·) := rfl
@[simp] theorem ev_lent (xs : List D) : gLen [.tup xs] M = some (.int xs.length) := rfl
@[simp] theorem ev_lenl (xs : List D) : gLen [.lst xs] M = some (.int xs.length) := rfl
@[simp] theorem ev_lenk (xs : List D) : gLen [.kst xs] M = some (.int xs.length) := rfl
@[simp] theorem ev_lenr (n : Nat) : gLen [.ref n] M = (lsOf (.ref n) M).map fun xs => .int xs.length := rfl
@[simp] theorem ev_lsr (n : Nat) : lsOf (.ref n) M = match M[n]? with | some (.lst xs) => some xs | _ => none := rfl
@[simp] theorem ev_lsl (xs : List D) : lsOf (.lst xs) M = some xs := rfl
@[simp] theorem ev_lsk (xs : List D) : lsOf (.kst xs) M = some xs := rfl
@[simp] theorem ev_sqr (n : Nat) : sqOf (.ref n) M = lsOf (.ref n) M := rfl
@[simp] theorem ev_sql (xs : List D) : sqOf (.lst xs) M = some xs := rfl
@[simp] theorem ev_sqk (xs : List D) : sqOf (.kst xs) M = some xs := rfl
@[simp] theorem ev_sqt (xs : List D) : sqOf (.tup xs) M = some xs := rfl
@[simp] theorem ev_ixt (xs : List D) : gIx (.tup xs) (.int i) M = atI xs i := rfl
@[simp] theorem ev_ixl (xs : List D) : gIx (.lst xs) (.int i) M = atI xs i := rfl
@[simp] theorem ev_ixk (xs : List D) : gIx (.kst xs) (.int i) M = atI xs i := rfl
@[simp] theorem ev_ixr (n : Nat) : gIx (.ref n) (.int i) M = (lsOf (.ref n) M).bind fun xs => atI xs i := rfl
@[simp] theorem ev_tyOk (d : D) : tyOk "list" d M = (lsOf d M).isSome := rfl
@[simp] theorem ev_ml (n : Nat) : mlOf (.ref n) M = match M[n]? with | some (.lst xs) => some (n, xs) | _ => none := rfl
@[simp] theorem ev_append (x d : D) : gAppend x [d] M = (mlOf x M).bind fun l => if l.2.length < LINE then some (.non, M.set l.1 (.lst (l.2 ++ [d]))) else none := rfl
@[simp] theorem ev_pop (x : D) : gPop x [] M = (mlOf x M).bind fun l => (l.2[l.2.length - 1]?).bind fun d => some (d, M.set l.1 (.lst l.2.dropLast)) := rfl
@[simp] theorem ev_reverse (x : D) : gReverse x [] M = (mlOf x M).bind fun l => some (.non, M.set l.1 (.lst l.2.reverse)) := rfl
@[simp] theorem ev_chk0 (xs) : chk none xs M = true := rfl
@[simp] theorem ev_list (d : D) : gList [d] M = sqOf d M := rfl
@[simp] theorem ev_tuple (d : D) : gTuple [d] M = (sqOf d M).map .tup := rfl
theorem atI_eq {α} (xs : List α) : L2.atI xs i = (L2.ixN xs.length i).bind fun n => xs[n]? := rfl
end
theorem at_nat {α} {xs : List α} {n : Nat} {d : α} (h : xs[n]? = some d) : L2.atI xs (n : Int) = some d := by
  have hl := (List.getElem?_eq_some_iff.mp h).1
  rw [atI_eq]
  unfold L2.ixN
  rw [if_pos (by omega), if_pos (by omega)]
  exact h
@[simp] theorem atI_0 {α} (x : α) (xs) : L2.atI (x :: xs) 0 = some x := at_nat (n := 0) rfl
@[simp] theorem atI_1 {α} (x y : α) (xs) : L2.atI (x :: y :: xs) 1 = some y := at_nat (n := 1) rfl
@[simp] theorem atI_2 {α} (x y z : α) (xs) : L2.atI (x :: y :: z :: xs) 2 = some z := at_nat (n := 2) rfl
theorem atI_int {α} {xs : List α} {i : Int} {n : Nat} {d : α} (hi : i = n) (h : xs[n]? = some d) : L2.atI xs i = some d := by subst hi; exact at_nat h
/-- a list of iL -/
def iL (xs : List Int) : List D := xs.map .int
@[simp] theorem iL_len (xs : List Int) : (iL xs).length = xs.length := by simp [iL]
@[simp] theorem iL_nil : iL [] = [] := rfl
theorem iL_cons (x xs) : iL (x :: xs) = .int x :: iL xs := rfl
theorem iL_app (xs ys) : iL xs ++ iL ys = iL (xs ++ ys) := by simp [iL]
theorem iL_at {xs : List Int} {n : Nat} : (iL xs)[n]? = (xs[n]?).map .int := by simp [iL]
theorem nrs_iL : ∀ xs : List Int, D.nrs (iL xs) = true
  | [] => rfl
  | x :: xs => by
    show (D.nr (.int x) && D.nrs (iL xs)) = true
    rw [nrs_iL xs]; rfl
theorem nls_iL : ∀ xs : List Int, D.nls (iL xs) = true
  | [] => rfl
  | x :: xs => by
    show (D.nl (.int x) && D.nls (iL xs)) = true
    rw [nls_iL xs]; rfl
theorem beqs_iL : ∀ xs : List Int, D.beqs (iL xs) (iL xs) = true
  | [] => rfl
  | x :: xs => by
    show (D.beq (.int x) (.int x) && D.beqs (iL xs) (iL xs)) = true
    rw [beqs_iL xs]; simp [D.beq]
theorem line_le {n : Nat} (h : n ≤ 16777216) : n ≤ LINE := h
@[simp] theorem line_1 : (1 ≤ LINE) = True := by simp [LINE]
@[simp] theorem line_2 : (2 ≤ LINE) = True := by simp [LINE]
@[simp] theorem line_3 : (3 ≤ LINE) = True := by simp [LINE]
@[simp] theorem line_4 : (4 ≤ LINE) = True := by simp [LINE]
@[simp] theorem line_5 : (5 ≤ LINE) = True := by simp [LINE]
@[simp] theorem line_6 : (6 ≤ LINE) = True := by simp [LINE]
@[simp] theorem line_7 : (7 ≤ LINE) = True := by simp [LINE]
@[simp] theorem line_8 : (8 ≤ LINE) = True := by simp [LINE]
@[simp] theorem line_9 : (9 ≤ LINE) = True := by simp [LINE]
@[simp] theorem line_10 : (10 ≤ LINE) = True := by simp [LINE]
section
variable (M : Mem) (xs : List D)
@[simp] theorem ap_int (i) : argP M (.int i) = some (.int i) := rfl
@[simp] theorem ap_bl (i) : argP M (.bl i) = some (.bl i) := rfl
@[simp] theorem ap_non : argP M .non = some .non := rfl
@[simp] theorem ap_tup : argP M (.tup xs) = if D.nrs xs = true then some (.tup xs) else none := rfl
@[simp] theorem ap_lst : argP M (.lst xs) = if D.nrs xs = true then some (.lst xs) else none := rfl
@[simp] theorem ap_kst : argP M (.kst xs) = if D.nrs xs = true then some (.kst xs) else none := rfl
@[simp] theorem ir_int (i) : D.isRef (.int i) = false := rfl
@[simp] theorem ir_bl (i) : D.isRef (.bl i) = false := rfl
@[simp] theorem ir_non : D.isRef .non = false := rfl
@[simp] theorem ir_tup : D.isRef (.tup xs) = false := rfl
@[simp] theorem ir_lst : D.isRef (.lst xs) = false := rfl
@[simp] theorem ir_kst : D.isRef (.kst xs) = false := rfl
@[simp] theorem ir_ref (n) : D.isRef (.ref n) = true := rfl
end
@[simp] theorem ev_sum (d : D) (M : Mem) : gSum [d] M = (lsOf d M).bind fun xs => (intsOf xs).map fun ns => .int ns.sum := rfl
@[simp] theorem ev_iadd (i j : Int) (M : Mem) : gIAdd (.int i) (.int j) M = some (.int (i + j), M) := rfl
@[simp] theorem ev_iaddA (i j : Int) (M : Mem) : gIAddA (.int i) (.int j) M = some (.int (i + j), M) := rfl
theorem ev_iaddT (a b : List D) (M : Mem) (h : a.length + b.length ≤ 10000) : gIAddA (.tup a) (.tup b) M = some (.tup (a ++ b), M) := by
  show (if a.length + b.length ≤ LINE then some (D.tup (a ++ b), M) else none) = _
  rw [if_pos (by show _ ≤ 16777216; omega)]
@[simp] theorem intsOf_iL : ∀ ns : List Int, intsOf (iL ns) = some ns
  | [] => rfl
  | n :: ns => by
    show (intsOf (iL ns)).map (n :: ·) = _
    rw [intsOf_iL ns]; rfl
/-! ### loops -/
theorem loop_inv {c : Mem → Bool} {step : D → FS} {xs : List D} (I : Nat → Rho → Mem → Prop) (hc : ∀ k ρ M, I k ρ M → c M = true)
    (hs : ∀ k d ρ M, xs[k]? = some d → I k ρ M → ∃ ρ' M', step d ρ M = some (.nx ρ', M') ∧ I (k + 1) ρ' M') {ρ : Rho} {M : Mem} (h0 : I 0 ρ M) : ∃ ρ' M', sLoop c step xs ρ M = some (.nx ρ', M') ∧ I xs.length ρ' M' := by
  have main : ∀ (ys : List D) (k : Nat) (ρ : Rho) (M : Mem), xs.drop k = ys → k ≤ xs.length → I k ρ M → ∃ ρ' M', sLoop c step ys ρ M = some (.nx ρ', M') ∧ I xs.length ρ' M' := by
    intro ys
    induction ys with
    | nil =>
      intro k ρ M e hk h
      have : k = xs.length := by
        have := congrArg List.length e
        simp at this; omega
      subst this
      exact ⟨ρ, M, by rw [sLoop, if_pos (hc _ _ _ h)], h⟩
    | cons d ys ih =>
      intro k ρ M e hk h
      have hd : xs[k]? = some d := by
        have h0 : (xs.drop k)[0]? = some d := by rw [e]; rfl
        rw [List.getElem?_drop] at h0
        simpa using h0
      obtain ⟨ρ', M', e1, h1⟩ := hs k d ρ M hd h
      have e2 : xs.drop (k + 1) = ys := by rw [← List.drop_drop, e]; rfl
      obtain ⟨ρ2, M2, e3, h3⟩ := ih (k + 1) ρ' M' e2 (by have := (List.getElem?_eq_some_iff.mp hd).1; omega) h1
      exact ⟨ρ2, M2, by rw [sLoop, if_pos (hc _ _ _ h), e1]; exact e3, h3⟩
  exact main xs 0 ρ M rfl (Nat.zero_le _) h0
theorem while_inv {fc : FT} {fb : FS} (I : Rho → Mem → Prop) (P : Rho → Mem → Prop) (μ : Rho → Mem → Nat)
    (hs : ∀ ρ M, I ρ M → (fc ρ M = some (false, M) ∧ P ρ M) ∨ (fc ρ M = some (true, M) ∧ ∃ ρ' M', fb ρ M = some (.nx ρ', M') ∧ I ρ' M' ∧ μ ρ' M' < μ ρ M)) : ∀ (n : Nat) (ρ : Rho) (M : Mem), I ρ M → μ ρ M < n → ∃ ρ' M', sWhileN fc fb n ρ M = some (.nx ρ', M') ∧ P ρ' M'
  | 0, _, _, _, h => absurd h (Nat.not_lt_zero _)
  | n + 1, ρ, M, hI, h => by
    rcases hs ρ M hI with ⟨e, hp⟩ | ⟨e, ρ', M', e1, h1, h2⟩
    · exact ⟨ρ, M, by rw [sWhileN, e]; rfl, hp⟩
    · obtain ⟨ρ2, M2, e3, h3⟩ := while_inv I P μ hs n ρ' M' h1 (by omega)
      exact ⟨ρ2, M2, by rw [sWhileN, e]; show ((fb ρ M).bind _) = _; rw [e1]; exact e3, h3⟩
theorem fuel_big (ρ : Rho) (M : Mem) : 1000000 ≤ fuel ρ M := by
  unfold fuel
  have : ∀ (l : Rho) (n : Nat), n ≤ l.foldl (fun n d => n + match d with | some (.int i) => i.natAbs | _ => 0) n := by
    intro l
    induction l with
    | nil => intro n; exact Nat.le_refl n
    | cons d l ih => intro n; exact Nat.le_trans (Nat.le_add_right _ _) (ih _)
  exact this ρ 1000000
theorem fuel_at {ρ : Rho} {M : Mem} {n : Nat} {i : Int} (h : ρ[n]? = some (some (.int i))) : 1000000 + i.natAbs ≤ fuel ρ M := by
  unfold fuel
  have mono : ∀ (l : Rho) (n : Nat), n ≤ l.foldl (fun n d => n + match d with | some (.int i) => i.natAbs | _ => 0) n := by
    intro l
    induction l with
    | nil => intro n; exact Nat.le_refl n
    | cons d l ih => intro n; exact Nat.le_trans (Nat.le_add_right _ _) (ih _)
  have : ∀ (l : Rho) (n m : Nat), l[n]? = some (some (.int i)) → m + i.natAbs ≤ l.foldl (fun n d => n + match d with | some (.int i) => i.natAbs | _ => 0) m := by
    intro l
    induction l with
    | nil => intro n m h; simp at h
    | cons d l ih =>
      intro n m h
      cases n with
      | zero => simp at h; subst h; exact mono l _
      | succ n => exact Nat.le_trans (Nat.add_le_add_right (Nat.le_add_right _ _) _) (ih n _ (by simpa using h))
  exact this ρ n _ h
theorem rgD_at {lo : Int} {n k : Nat} {d : D} (h : (rgD lo n)[k]? = some d) : k < n ∧ d = .int (lo + k) := by
  unfold rgD at h
  rw [List.getElem?_map] at h
  by_cases hk : k < n
  · rw [List.getElem?_range hk] at h
    simp at h
    exact ⟨hk, h.symm⟩
  · rw [List.getElem?_eq_none (by simp; omega)] at h
    simp at h
@[simp] theorem rgD_len (lo : Int) (n : Nat) : (rgD lo n).length = n := by simp [rgD]
/-! ### sides -/
theorem okMul_l {i j : Int} (h : i.natAbs < 18446744073709551616) : okMul i j = true := by simp [okMul, h]
theorem okMul_r {i j : Int} (h : j.natAbs < 18446744073709551616) : okMul i j = true := by simp [okMul, h]
theorem log2_lt_of {n k : Nat} (h : n < 2 ^ k) (hk : 0 < k) : n.log2 < k := by
  by_cases h0 : n = 0
  · subst h0; simpa using hk
  · exact (Nat.log2_lt h0).mpr h
theorem okMul_big {i j : Int} (hi : i.natAbs < 2 ^ 400000) (hj : j.natAbs < 2 ^ 400000) : okMul i j = true := by
  have h1 := log2_lt_of hi (by decide)
  have h2 := log2_lt_of hj (by decide)
  simp [okMul]; right; right; omega
theorem okDiv_of {j : Int} (h0 : j ≠ 0) (h : j.natAbs < 2 ^ 9000) : okDiv j = true := by
  have h1 := log2_lt_of h (by decide)
  simp [okDiv, h0, h1]
theorem okR_of {i j : Int} (h1 : -1000000 ≤ i) (h2 : j ≤ 10000000) (h3 : i ≤ 10000000) (h4 : -1000000 ≤ j) : okR i j = true := by
  unfold okR
  rw [Bool.and_eq_true, Bool.and_eq_true]
  exact ⟨Nat.ble_eq_true_of_le (by omega), Nat.ble_eq_true_of_le (by omega), Nat.ble_eq_true_of_le (by omega)⟩
end PF
namespace PF
open PySem PySem.Spec PyProof.Rows L2
/-- a fraction of the program's -/
def fr (q : Rat) : D := .tup [.int q.num, .int q.den]
theorem fr_nr (q : Rat) : (fr q).nr = true := rfl
theorem frac_parts (n d : Int) (hd : d ≠ 0) {e : Int} (he : e = if d < 0 then -((Nat.gcd n.natAbs d.natAbs : Nat) : Int) else ((Nat.gcd n.natAbs d.natAbs : Nat) : Int)) :
    n.fdiv e = (Rat.divInt n d).num ∧ d.fdiv e = ((Rat.divInt n d).den : Int) := by
  have hg : (Int.gcd d n : Int) = ((Nat.gcd n.natAbs d.natAbs : Nat) : Int) := by rw [Int.gcd_comm]; rfl
  have g0 : (Nat.gcd n.natAbs d.natAbs : Nat) ≠ 0 := by
    intro z
    have := Nat.eq_zero_of_gcd_eq_zero_right z
    omega
  rw [Rat.num_divInt, Rat.den_divInt, if_neg hd, hg, Int.natCast_ediv, show Int.gcd d n = Nat.gcd n.natAbs d.natAbs from by rw [Int.gcd_comm]; rfl]
  generalize hG : (Nat.gcd n.natAbs d.natAbs : Nat) = g at *
  obtain ⟨k, hk⟩ : (g : Int) ∣ n := by rw [← hG]; exact Int.ofNat_dvd_left.mpr (Nat.gcd_dvd_left _ _)
  obtain ⟨m, hm⟩ : (g : Int) ∣ d := by rw [← hG]; exact Int.ofNat_dvd_left.mpr (Nat.gcd_dvd_right _ _)
  have gz : (g : Int) ≠ 0 := by omega
  have gp : (0 : Int) < g := by omega
  by_cases hn : d < 0
  · rw [if_pos hn] at he
    have e1 : d.sign = -1 := Int.sign_eq_neg_one_of_neg hn
    have e2 : (d.natAbs : Int) = -d := by omega
    have en : (-(g : Int)) ≠ 0 := by omega
    rw [e1, e2, he]
    constructor
    · rw [hk, show (g : Int) * k = -(g : Int) * -k by grind, Int.mul_fdiv_cancel_left _ en, show -1 * (-(g : Int) * -k) = (g : Int) * -k by grind, Int.mul_ediv_cancel_left _ gz]
    · rw [hm, show (g : Int) * m = -(g : Int) * -m by grind, Int.mul_fdiv_cancel_left _ en, show -(-(g : Int) * -m) = (g : Int) * -m by grind, Int.mul_ediv_cancel_left _ gz]
  · rw [if_neg hn] at he
    have e1 : d.sign = 1 := Int.sign_eq_one_of_pos (by omega)
    have e2 : (d.natAbs : Int) = d := by omega
    rw [e1, e2, he]
    constructor
    · rw [hk, Int.mul_fdiv_cancel_left _ gz, show 1 * ((g : Int) * k) = (g : Int) * k by grind, Int.mul_ediv_cancel_left _ gz]
    · rw [hm, Int.mul_fdiv_cancel_left _ gz, Int.mul_ediv_cancel_left _ gz]
theorem gcd_le_d (n d : Int) (hd : d ≠ 0) : Nat.gcd n.natAbs d.natAbs ≤ d.natAbs ∧ Nat.gcd n.natAbs d.natAbs ≠ 0 := by
  have h : 0 < d.natAbs := by omega
  refine ⟨Nat.le_of_dvd h (Nat.gcd_dvd_right _ _), fun z => ?_⟩
  have := Nat.eq_zero_of_gcd_eq_zero_right z
  omega
/-- sizes -/
def Sz (k : Nat) (q : Rat) : Prop := q.num.natAbs < 2 ^ k ∧ q.den < 2 ^ k
theorem den_pos (q : Rat) : 0 < (q.den : Int) := by have := q.den_pos; omega
theorem fr_divInt (q : Rat) : Rat.divInt q.num q.den = q := Rat.num_divInt_den q
/-- p + q etc. by their parts -/
theorem add_parts (p q : Rat) : Rat.divInt (p.num * q.den + q.num * p.den) (p.den * q.den) = p + q := by
  conv => rhs; rw [← Rat.num_divInt_den p, ← Rat.num_divInt_den q]
  rw [Rat.divInt_add_divInt _ _ (Int.ne_of_gt (den_pos p)) (Int.ne_of_gt (den_pos q))]
theorem sub_parts (p q : Rat) : Rat.divInt (p.num * q.den - q.num * p.den) (p.den * q.den) = p - q := by
  conv => rhs; rw [← Rat.num_divInt_den p, ← Rat.num_divInt_den q]
  rw [Rat.divInt_sub_divInt _ _ (Int.ne_of_gt (den_pos p)) (Int.ne_of_gt (den_pos q))]
theorem mul_parts (p q : Rat) : Rat.divInt (p.num * q.num) (p.den * q.den) = p * q := by
  conv => rhs; rw [← Rat.num_divInt_den p, ← Rat.num_divInt_den q]
  rw [Rat.divInt_mul_divInt]
theorem div_parts (p q : Rat) : Rat.divInt (p.num * q.den) (p.den * q.num) = p / q := by
  conv => rhs; rw [← Rat.num_divInt_den p, ← Rat.num_divInt_den q]
  rw [Rat.div_def, Rat.inv_divInt, Rat.divInt_mul_divInt]
theorem lt_parts (p q : Rat) : (p.num * q.den < q.num * p.den) ↔ p < q := (Rat.lt_iff p q).symm
theorem natAbs_mul_lt {a b : Int} {k l : Nat} (h1 : a.natAbs < 2 ^ k) (h2 : b.natAbs < 2 ^ l) : (a * b).natAbs < 2 ^ (k + l) := by
  rw [Int.natAbs_mul, Nat.pow_add]
  exact Nat.mul_lt_mul'' h1 h2
theorem natAbs_add_lt {a b : Int} {k : Nat} (h1 : a.natAbs < 2 ^ k) (h2 : b.natAbs < 2 ^ k) : (a + b).natAbs < 2 ^ (k + 1) := by
  rw [Nat.pow_succ]; omega
theorem natAbs_sub_lt {a b : Int} {k : Nat} (h1 : a.natAbs < 2 ^ k) (h2 : b.natAbs < 2 ^ k) : (a - b).natAbs < 2 ^ (k + 1) := by
  rw [Nat.pow_succ]; omega
theorem lt_pow_of {n k l : Nat} (h : n < 2 ^ k) (hk : k ≤ l) : n < 2 ^ l := Nat.lt_of_lt_of_le h (Nat.pow_le_pow_right (by decide) hk)
/-- a fraction made of these is no bigger -/
theorem num_le (n d : Int) (hd : d ≠ 0) : (Rat.divInt n d).num.natAbs ≤ n.natAbs ∧ (Rat.divInt n d).den ≤ d.natAbs := by
  constructor
  · rw [Rat.num_divInt]
    have hs : (d.sign * n).natAbs = n.natAbs := by
      rw [Int.natAbs_mul, Int.natAbs_sign_of_ne_zero hd, Nat.one_mul]
    rw [← hs]
    exact Int.natAbs_ediv_le_natAbs _ _
  · rw [Rat.den_divInt, if_neg hd]
    exact Nat.div_le_self _ _
theorem Sz.mono {k l : Nat} {q : Rat} (h : Sz k q) (hk : k ≤ l) : Sz l q := ⟨lt_pow_of h.1 hk, lt_pow_of h.2 hk⟩
theorem Sz.of {n d : Int} {k : Nat} (hd : d ≠ 0) (h1 : n.natAbs < 2 ^ k) (h2 : d.natAbs < 2 ^ k) : Sz k (Rat.divInt n d) :=
  ⟨Nat.lt_of_le_of_lt (num_le n d hd).1 h1, Nat.lt_of_le_of_lt (num_le n d hd).2 h2⟩
theorem Sz.add {k : Nat} {p q : Rat} (hp : Sz k p) (hq : Sz k q) : Sz (2 * k + 1) (p + q) := by
  rw [← add_parts]
  have a1 := natAbs_mul_lt hp.1 (b := (q.den : Int)) (l := k) (by simpa using hq.2)
  have a2 := natAbs_mul_lt hq.1 (b := (p.den : Int)) (l := k) (by simpa using hp.2)
  have a3 := natAbs_mul_lt (a := (p.den : Int)) (b := (q.den : Int)) (k := k) (l := k) (by simpa using hp.2) (by simpa using hq.2)
  refine Sz.of (Int.ne_of_gt (Int.mul_pos (den_pos p) (den_pos q))) ?_ (lt_pow_of a3 (by omega))
  have := natAbs_add_lt a1 a2
  exact lt_pow_of this (by omega)
theorem Sz.sub {k : Nat} {p q : Rat} (hp : Sz k p) (hq : Sz k q) : Sz (2 * k + 1) (p - q) := by
  rw [← sub_parts]
  have a1 := natAbs_mul_lt hp.1 (b := (q.den : Int)) (l := k) (by simpa using hq.2)
  have a2 := natAbs_mul_lt hq.1 (b := (p.den : Int)) (l := k) (by simpa using hp.2)
  have a3 := natAbs_mul_lt (a := (p.den : Int)) (b := (q.den : Int)) (k := k) (l := k) (by simpa using hp.2) (by simpa using hq.2)
  refine Sz.of (Int.ne_of_gt (Int.mul_pos (den_pos p) (den_pos q))) ?_ (lt_pow_of a3 (by omega))
  have := natAbs_sub_lt a1 a2
  exact lt_pow_of this (by omega)
theorem Sz.div {k : Nat} {p q : Rat} (hp : Sz k p) (hq : Sz k q) (h0 : q ≠ 0) : Sz (2 * k) (p / q) := by
  rw [← div_parts]
  have hz : q.num ≠ 0 := by simpa using h0
  have a1 := natAbs_mul_lt hp.1 (b := (q.den : Int)) (l := k) (by simpa using hq.2)
  have a2 := natAbs_mul_lt (a := (p.den : Int)) (k := k) (by simpa using hp.2) hq.1
  exact Sz.of (Int.mul_ne_zero (Int.ne_of_gt (den_pos p)) hz) (lt_pow_of a1 (by omega)) (lt_pow_of a2 (by omega))
end PF
namespace LP
open PySem PySem.Spec PyProof.Rows L2 PF
/-- bytes_of(value): slots ['value'] -/
def bbytes_of : FS :=
    sSeq (sIf (fChainT (gCmp fun i j => decide (i ≤ j)) (gCmp fun i j => decide (i ≤ j)) (f1 gNeg (fC (.int 128))) (fVar 0) (fC (.int 127)))
      (sRet (fC (.int 1)))
      (sNext))
      (sRet (fIfE (fChainT (gCmp fun i j => decide (i ≤ j)) (gCmp fun i j => decide (i ≤ j)) (f1 gNeg (fC (.int 32768))) (fVar 0) (fC (.int 32767))) (fC (.int 2)) (fC (.int 4))))
def cbytes_of : FnC := runFn false 1 bbytes_of
abbrev qbytes_of : FnC := cbytes_of
theorem hqbytes_of : ∀ ds M r, qbytes_of ds M = some r → cbytes_of ds M = some r := fun _ _ _ h => h
/-- first_differences(samples): slots ['samples', 'at'] -/
def bfirst_differences : FS :=
    sRet (fFz (fLC [1] (fiRg1 (fCons (fB gLen (fCons (fVar 0) (fNil))) (fNil))) (tN 1) (fYes) (fIfE (f2T (gCmp fun i j => decide (j < i)) (fVar 1) (fC (.int 0))) (f2 gSub (f2 gIx (fVar 0) (fVar 1)) (f2 gIx (fVar 0) (f2 gSub (fVar 1) (fC (.int 1))))) (f2 gIx (fVar 0) (fVar 1)))))
def cfirst_differences : FnC := runFn false 2 bfirst_differences
abbrev qfirst_differences : FnC := cfirst_differences
theorem hqfirst_differences : ∀ ds M r, qfirst_differences ds M = some r → cfirst_differences ds M = some r := fun _ _ _ h => h
/-- packed_of(samples): slots ['samples', 'value'] -/
def bpacked_of : FS :=
    sRet (fB gTuple (fCons (fFz (fLC [1] (fiSq (fCall qfirst_differences (fCons (fVar 0) (fNil)))) (tN 1) (fYes) (fTup (fCons (fCall qbytes_of (fCons (fVar 1) (fNil))) (fCons (fVar 1) (fNil)))))) (fNil)))
def cpacked_of : FnC := runFn false 2 bpacked_of
abbrev qpacked_of : FnC := cpacked_of
theorem hqpacked_of : ∀ ds M r, qpacked_of ds M = some r → cpacked_of ds M = some r := fun _ _ _ h => h
/-- unpacked(pairs): slots ['pairs', 'found', 'last', 'size', 'value'] -/
def bunpacked : FS :=
    sSeq (sSet 1 (fMut (fLstD (fNil))))
      (sSeq (sSet 2 (fC (.int 0)))
      (sSeq (sFor (fiSq (fVar 0)) (tT 2 (tsC (tN 3) (tsC (tN 4) (tsN))))
      (sSeq (sIf (fOr (f2T (gNe) (fVar 3) (fCall qbytes_of (fCons (fVar 4) (fNil)))) (fNot (fChainT (gCmp fun i j => decide (i ≤ j)) (gCmp fun i j => decide (i ≤ j)) (fC (.int (-2147483648))) (fVar 4) (fC (.int (2147483647))))))
      (sRet (fC .non))
      (sNext))
      (sSeq (sAug 2 gIAddA (fVar 4))
      (sDrop (fM "list" gAppend (fVar 1) (fCons (fVar 2) (fNil)))))))
      (sRet (fB gTuple (fCons (fVar 1) (fNil))))))
def cunpacked : FnC := runFn false 5 bunpacked
abbrev qunpacked : FnC := cunpacked
theorem hqunpacked : ∀ ds M r, qunpacked ds M = some r → cunpacked ds M = some r := fun _ _ _ h => h
/-- bits_for(values): slots ['values', 'value'] -/
def bbits_for : FS :=
    sRet (fB gSum (fCons (fFz (fLC [1] (fiSq (fVar 0)) (tN 1) (fYes) (f2 gAdd (f2 gMul (fC (.int 8)) (fCall qbytes_of (fCons (fVar 1) (fNil)))) (fC (.int 2))))) (fNil)))
def cbits_for : FnC := runFn false 2 bbits_for
abbrev qbits_for : FnC := cbits_for
theorem hqbits_for : ∀ ds M r, qbits_for ds M = some r → cbits_for ds M = some r := fun _ _ _ h => h
/-- bits_of(samples): slots ['samples'] -/
def bbits_of : FS :=
    sRet (fCall qbits_for (fCons (fCall qfirst_differences (fCons (fVar 0) (fNil))) (fNil)))
def cbits_of : FnC := runFn false 1 bbits_of
abbrev qbits_of : FnC := cbits_of
theorem hqbits_of : ∀ ds M r, qbits_of ds M = some r → cbits_of ds M = some r := fun _ _ _ h => h
/-- second_differences(samples): slots ['samples', 'row', 'at'] -/
def bsecond_differences : FS :=
    sSeq (sSet 1 (fCall qfirst_differences (fCons (fVar 0) (fNil))))
      (sRet (fB gTuple (fCons (fFz (fLC [2] (fiRg1 (fCons (fB gLen (fCons (fVar 1) (fNil))) (fNil))) (tN 2) (fYes) (fIfE (f2T (gCmp fun i j => decide (j < i)) (fVar 2) (fC (.int 1))) (f2 gSub (f2 gIx (fVar 1) (fVar 2)) (f2 gIx (fVar 1) (f2 gSub (fVar 2) (fC (.int 1))))) (f2 gIx (fVar 1) (fVar 2))))) (fNil))))
def csecond_differences : FnC := runFn false 3 bsecond_differences
abbrev qsecond_differences : FnC := csecond_differences
theorem hqsecond_differences : ∀ ds M r, qsecond_differences ds M = some r → csecond_differences ds M = some r := fun _ _ _ h => h
/-- best_order(samples): slots ['samples', 'rows', 'order'] -/
def bbest_order : FS :=
    sSeq (sSet 1 (fFz (fLstD (fCons (fVar 0) (fCons (fCall qfirst_differences (fCons (fVar 0) (fNil))) (fCons (fCall qsecond_differences (fCons (fVar 0) (fNil))) (fNil)))))))
      (sRet (f2 gIx (fB gMin1 (fCons (fFz (fLC [2] (fiRg1 (fCons (fC (.int 3)) (fNil))) (tN 2) (fYes) (fTup (fCons (fCall qbits_for (fCons (f2 gIx (fVar 1) (fVar 2)) (fNil))) (fCons (fVar 2) (fNil)))))) (fNil))) (fC (.int 1))))
def cbest_order : FnC := runFn false 3 bbest_order
abbrev qbest_order : FnC := cbest_order
theorem hqbest_order : ∀ ds M r, qbest_order ds M = some r → cbest_order ds M = some r := fun _ _ _ h => h
/-- runs_packed(samples): slots ['samples', 'found', 'sample'] -/
def bruns_packed : FS :=
    sSeq (sSet 1 (fMut (fLstD (fNil))))
      (sSeq (sFor (fiSq (fVar 0)) (tN 2)
      (sIf (fAnd (f2T (gCmp fun i j => decide (j < i)) (fB gLen (fCons (fVar 1) (fNil))) (fC (.int 0))) (f2T (gEq) (f2 gIx (f2 gIx (fVar 1) (f1 gNeg (fC (.int 1)))) (fC (.int 1))) (fVar 2)))
      (sSetIx (fTup (fCons (f2 gAdd (f2 gIx (f2 gIx (fVar 1) (f1 gNeg (fC (.int 1)))) (fC (.int 0))) (fC (.int 1))) (fCons (fVar 2) (fNil)))) (fVar 1) (f1 gNeg (fC (.int 1))))
      (sDrop (fM "list" gAppend (fVar 1) (fCons (fTup (fCons (fC (.int 1)) (fCons (fVar 2) (fNil)))) (fNil))))))
      (sRet (fB gTuple (fCons (fVar 1) (fNil)))))
def cruns_packed : FnC := runFn false 3 bruns_packed
abbrev qruns_packed : FnC := cruns_packed
theorem hqruns_packed : ∀ ds M r, qruns_packed ds M = some r → cruns_packed ds M = some r := fun _ _ _ h => h
/-- saved_by_runs(samples): slots ['samples'] -/
def bsaved_by_runs : FS :=
    sRet (f2 gSub (fB gLen (fCons (fVar 0) (fNil))) (fB gLen (fCons (fCall qruns_packed (fCons (fVar 0) (fNil))) (fNil))))
def csaved_by_runs : FnC := runFn false 1 bsaved_by_runs
abbrev qsaved_by_runs : FnC := csaved_by_runs
theorem hqsaved_by_runs : ∀ ds M r, qsaved_by_runs ds M = some r → csaved_by_runs ds M = some r := fun _ _ _ h => h
/-- filtered_samples(samples, kernel): slots ['samples', 'kernel', 'found', 'at', 'step'] -/
def bfiltered_samples : FS :=
    sSeq (sSet 2 (fMut (fLstD (fNil))))
      (sSeq (sFor (fiRg1 (fCons (fB gLen (fCons (fVar 0) (fNil))) (fNil))) (tN 3)
      (sDrop (fM "list" gAppend (fVar 2) (fCons (fB gSum (fCons (fFz (fLC [4] (fiRg1 (fCons (fB gMin2 (fCons (fB gLen (fCons (fVar 1) (fNil))) (fCons (f2 gAdd (fVar 3) (fC (.int 1))) (fNil)))) (fNil))) (tN 4) (fYes) (f2 gMul (f2 gIx (fVar 1) (fVar 4)) (f2 gIx (fVar 0) (f2 gSub (fVar 3) (fVar 4)))))) (fNil))) (fNil)))))
      (sRet (fB gTuple (fCons (fVar 2) (fNil)))))
def cfiltered_samples : FnC := runFn false 5 bfiltered_samples
abbrev qfiltered_samples : FnC := cfiltered_samples
theorem hqfiltered_samples : ∀ ds M r, qfiltered_samples ds M = some r → cfiltered_samples ds M = some r := fun _ _ _ h => h
/-- differences(samples): slots ['samples', 'at'] -/
def bdifferences : FS :=
    sRet (fB gTuple (fCons (fFz (fLC [1] (fiRg1 (fCons (fB gLen (fCons (fVar 0) (fNil))) (fNil))) (tN 1) (fYes) (f2 gSub (f2 gIx (fVar 0) (fVar 1)) (fIfE (f2T (gCmp fun i j => decide (j < i)) (fVar 1) (fC (.int 0))) (f2 gIx (fVar 0) (f2 gSub (fVar 1) (fC (.int 1)))) (fC (.int 0)))))) (fNil)))
def cdifferences : FnC := runFn false 2 bdifferences
abbrev qdifferences : FnC := cdifferences
theorem hqdifferences : ∀ ds M r, qdifferences ds M = some r → cdifferences ds M = some r := fun _ _ _ h => h
/-- summed_samples(samples): slots ['samples', 'found', 'total', 'sample'] -/
def bsummed_samples : FS :=
    sSeq (sSet 1 (fTup (fNil)))
      (sSeq (sSet 2 (fC (.int 0)))
      (sSeq (sFor (fiSq (fVar 0)) (tN 3)
      (sSeq (sAug 2 gIAddA (fVar 3))
      (sAug 1 gIAddA (fTup (fCons (fVar 2) (fNil))))))
      (sRet (fVar 1))))
def csummed_samples : FnC := runFn false 4 bsummed_samples
abbrev qsummed_samples : FnC := csummed_samples
theorem hqsummed_samples : ∀ ds M r, qsummed_samples ds M = some r → csummed_samples ds M = some r := fun _ _ _ h => h
/-- _law_draws(script, many): slots ['script', 'many', 'cells', 'cell', 'rest', 'drawn', 'k', 'at', 'once'] -/
def b_law_draws : FS :=
    sSeq (sSet 2 (fMut (fLC [3] (fiSq (fVar 0)) (tN 3) (fYes) (fB gInt (fCons (fVar 3) (fNil))))))
      (sSeq (sIf (f2T (gEq) (fB gLen (fCons (fVar 2) (fNil))) (fC (.int 0)))
      (sDrop (fM "list" gAppend (fVar 2) (fCons (fC (.int 0)) (fNil))))
      (sNext))
      (sSeq (sSet 4 (fMut (fBN gList (fCons (fVar 2) (fNil)))))
      (sSeq (sSet 5 (fMut (fLstD (fNil))))
      (sSeq (sFor (fiRg1 (fCons (fVar 1) (fNil))) (tN 6)
      (sSeq (sSet 7 (f2 gMod (fVar 6) (fB gLen (fCons (fVar 2) (fNil)))))
      (sIf (fAnd (f2T (gCmp fun i j => decide (j ≤ i)) (f2 gIx (fVar 2) (fVar 7)) (f2 gPow (fC (.int 10)) (fC (.int 18)))) (f2T (gCmp fun i j => decide (j < i)) (f2 gIx (fVar 4) (fVar 7)) (fC (.int 0))))
      (sSeq (sDrop (fM "list" gAppend (fVar 5) (fCons (f2 gMod (fB gInt (fCons (f2 gIx (fVar 4) (fVar 7)) (fNil))) (fC (.int 1000))) (fNil))))
      (sSetIx (f2 gFdiv (f2 gIx (fVar 4) (fVar 7)) (fC (.int 1000))) (fVar 4) (fVar 7)))
      (sSeq (sSet 8 (f2 gMod (fB gInt (fCons (f2 gAdd (f2 gAdd (f2 gMul (f2 gIx (fVar 2) (fVar 7)) (fC (.int 48271))) (f2 gMul (fVar 6) (fC (.int 69621)))) (fC (.int 11))) (fNil))) (fC (.int 2147483647))))
      (sDrop (fM "list" gAppend (fVar 5) (fCons (f2 gMod (fB gInt (fCons (f2 gAdd (f2 gAdd (f2 gMul (fVar 8) (fVar 8)) (f2 gMul (fC (.int 3)) (fVar 8))) (fVar 6)) (fNil))) (fC (.int 1000003))) (fNil))))))))
      (sSeq (sDrop (fM "list" gReverse (fVar 5) (fNil)))
      (sRet (fVar 5)))))))
def c_law_draws : FnC := runFn true 9 b_law_draws
abbrev q_law_draws : FnC := c_law_draws
theorem hq_law_draws : ∀ ds M r, q_law_draws ds M = some r → c_law_draws ds M = some r := fun _ _ _ h => h
/-- _law_take(draws, many): slots ['draws', 'many'] -/
def b_law_take : FS :=
    sSeq (sIf (f2T (gEq) (fB gLen (fCons (fVar 0) (fNil))) (fC (.int 0)))
      (sRet (fC (.int 0)))
      (sNext))
      (sRet (f2 gMod (fB gInt (fCons (fM "list" gPop (fVar 0) (fNil)) (fNil))) (fVar 1)))
def c_law_take : FnC := runFn false 2 b_law_take
abbrev q_law_take : FnC := c_law_take
theorem hq_law_take : ∀ ds M r, q_law_take ds M = some r → c_law_take ds M = some r := fun _ _ _ h => h
/-- _law_cell(script, draws): slots ['script', 'draws', 'cell'] -/
def b_law_cell : FS :=
    sSeq (sIf (f2T (gEq) (fB gLen (fCons (fVar 0) (fNil))) (fC (.int 0)))
      (sRet (fC (.int 0)))
      (sNext))
      (sSeq (sSet 2 (fB gInt (fCons (f2 gIx (fVar 0) (fCallS 0 q_law_take (fCons (fVar 1) (fCons (fB gLen (fCons (fVar 0) (fNil))) (fNil))))) (fNil))))
      (sRet (f2 gMul (f2 gMod (fB gAbs (fCons (fVar 2) (fNil))) (f2 gPow (fC (.int 10)) (fC (.int 60)))) (f2 gIx (fFz (fLstD (fCons (fC (.int 1)) (fCons (f1 gNeg (fC (.int 1))) (fNil))))) (fB gInt (fCons (f2 (gB (gCmp fun i j => decide (i < j))) (fVar 2) (fC (.int 0))) (fNil)))))))
def c_law_cell : FnC := runFn false 3 b_law_cell
abbrev q_law_cell : FnC := c_law_cell
theorem hq_law_cell : ∀ ds M r, q_law_cell ds M = some r → c_law_cell ds M = some r := fun _ _ _ h => h
/-- _law_same(actual, due): slots ['actual', 'due', 'k'] -/
def b_law_same (q_law_same : FnC) : FS :=
    sSeq (sIf (f2T (gIs) (fVar 1) (fC .non))
      (sRet (f2 (gB (gIs)) (fVar 0) (fC .non)))
      (sNext))
      (sSeq (sIf (fTru (fIsi .bl (fVar 1)))
      (sRet (fAndV (fIsi .bl (fVar 0)) (f2 (gB (gEq)) (fVar 0) (fVar 1))))
      (sNext))
      (sSeq (sIf (fTru (fIsi .int (fVar 1)))
      (sRet (fAndV (fIsi .int (fVar 0)) (fAndV (fNotV (fIsi .bl (fVar 0))) (f2 (gB (gEq)) (fVar 0) (fVar 1)))))
      (sNext))
      (sSeq (sIf (fTru (fIsi .str (fVar 1)))
      (sRet (fAndV (fIsi .str (fVar 0)) (f2 (gB (gEq)) (fVar 0) (fVar 1))))
      (sNext))
      (sSeq (sIf (fOr (fNot (fTru (fIsi .tup (fVar 0)))) (f2T (gNe) (fB gLen (fCons (fVar 0) (fNil))) (fB gLen (fCons (fVar 1) (fNil)))))
      (sRet (fC (.bl false)))
      (sNext))
      (sSeq (sFor (fiRg1 (fCons (fB gLen (fCons (fVar 1) (fNil))) (fNil))) (tN 2)
      (sIf (fNot (fTru (fCall q_law_same (fCons (f2 gIx (fVar 0) (fVar 2)) (fCons (f2 gIx (fVar 1) (fVar 2)) (fNil))))))
      (sRet (fC (.bl false)))
      (sNext)))
      (sRet (fC (.bl true))))))))
def c_law_same : Nat → FnC
  | 0, _, _ => none
  | n + 1, ds, M => runFn false 3 (b_law_same (c_law_same n)) ds M
def q_law_same : FnC := c_law_same 12
theorem hq_law_same : ∀ ds M r, q_law_same ds M = some r → c_law_same 12 ds M = some r := fun _ _ _ h => h
/-- _law_is_integer(actual): slots ['actual'] -/
def b_law_is_integer : FS :=
    sRet (fAndV (fIsi .int (fVar 0)) (fNotV (fIsi .bl (fVar 0))))
def c_law_is_integer : FnC := runFn false 1 b_law_is_integer
abbrev q_law_is_integer : FnC := c_law_is_integer
theorem hq_law_is_integer : ∀ ds M r, q_law_is_integer ds M = some r → c_law_is_integer ds M = some r := fun _ _ _ h => h
/-- _law_samples(draws, script, many): slots ['draws', 'script', 'many', 'style', 'found', 'last', 'k', 'edge', 'step'] -/
def b_law_samples : FS :=
    sSeq (sSet 3 (fCallS 0 q_law_take (fCons (fVar 0) (fCons (fC (.int 4)) (fNil)))))
      (sSeq (sSet 4 (fMut (fLstD (fNil))))
      (sSeq (sSet 5 (fC (.int 0)))
      (sSeq (sFor (fiRg1 (fCons (fVar 2) (fNil))) (tN 6)
      (sSeq (sSet 7 (f2 gIx (fFz (fLstD (fCons (fC (.int 0)) (fCons (fC (.int 127)) (fCons (f1 gNeg (fC (.int 128))) (fCons (fC (.int 128)) (fCons (f1 gNeg (fC (.int 129))) (fCons (fC (.int 32767)) (fCons (f1 gNeg (fC (.int 32768))) (fCons (fC (.int 32768)) (fCons (f1 gNeg (fC (.int 32769))) (fCons (fC (.int 2000000)) (fNil))))))))))))) (fCallS 0 q_law_take (fCons (fVar 0) (fCons (fC (.int 10)) (fNil))))))
      (sSeq (sSet 8 (f2 gIx (fFz (fLstD (fCons (f2 gSub (fCallS 0 q_law_take (fCons (fVar 0) (fCons (fC (.int 5)) (fNil)))) (fC (.int 2))) (fCons (f2 gSub (fCallS 0 q_law_take (fCons (fVar 0) (fCons (fC (.int 300)) (fNil)))) (fC (.int 150))) (fCons (fVar 7) (fCons (f2 gSub (f2 gMod (fCallS 1 q_law_cell (fCons (fVar 1) (fCons (fVar 0) (fNil)))) (fC (.int 100000))) (fC (.int 50000))) (fNil))))))) (fVar 3)))
      (sSeq (sIf (f2T (gEq) (fCallS 0 q_law_take (fCons (fVar 0) (fCons (fC (.int 3)) (fNil)))) (fC (.int 0)))
      (sSet 8 (fC (.int 0)))
      (sNext))
      (sSeq (sSet 5 (f2 gAdd (fVar 5) (fVar 8)))
      (sDrop (fM "list" gAppend (fVar 4) (fCons (fVar 5) (fNil)))))))))
      (sRet (fB gTuple (fCons (fVar 4) (fNil)))))))
def c_law_samples : FnC := runFn false 9 b_law_samples
abbrev q_law_samples : FnC := c_law_samples
theorem hq_law_samples : ∀ ds M r, q_law_samples ds M = some r → c_law_samples ds M = some r := fun _ _ _ h => h
/-- _law_single(values): slots ['values', 'value'] -/
def b_law_single : FS :=
    sRet (fB gSum (fCons (fFz (fLC [1] (fiSq (fVar 0)) (tN 1) (fYes) (fCall qbits_of (fCons (fTup (fCons (fVar 1) (fNil))) (fNil))))) (fNil)))
def c_law_single : FnC := runFn false 2 b_law_single
abbrev q_law_single : FnC := c_law_single
theorem hq_law_single : ∀ ds M r, q_law_single ds M = some r → c_law_single ds M = some r := fun _ _ _ h => h
/-- _law_is_packing_right(draws, samples): slots ['draws', 'samples', 'pairs', 'row', 'pair', 'some'] -/
def b_law_is_packing_right : FS :=
    sSeq (sSet 2 (fCall qpacked_of (fCons (fVar 1) (fNil))))
      (sSeq (sSet 3 (fCall qdifferences (fCons (fVar 1) (fNil))))
      (sSeq (sIf (fOr (fNot (fTru (fIsi .tup (fVar 2)))) (f2T (gCmp fun i j => decide (j < i)) (fB gLen (fCons (fFz (fLC [4] (fiSq (fVar 2)) (tN 4) (fOr (fNot (fTru (fIsi .tup (fVar 4)))) (f2T (gNe) (fB gLen (fCons (fVar 4) (fNil))) (fC (.int 2)))) (fVar 4))) (fNil))) (fC (.int 0))))
      (sRet (fC (.bl false)))
      (sNext))
      (sSeq (sIf (fOr (fNot (fTru (fCall q_law_same (fCons (fB gTuple (fCons (fFz (fLC [4] (fiSq (fVar 2)) (tN 4) (fYes) (f2 gIx (fVar 4) (fC (.int 1))))) (fNil))) (fCons (fVar 3) (fNil)))))) (fNot (fTru (fCall q_law_same (fCons (fCall qfiltered_samples (fCons (fVar 1) (fCons (fTup (fCons (fC (.int 1)) (fCons (f1 gNeg (fC (.int 1))) (fNil)))) (fNil)))) (fCons (fVar 3) (fNil)))))))
      (sRet (fC (.bl false)))
      (sNext))
      (sSeq (sIf (f2T (gCmp fun i j => decide (j < i)) (fB gLen (fCons (fFz (fLC [4] (fiSq (fVar 2)) (tN 4) (fOr (fNot (fTru (fCall q_law_is_integer (fCons (f2 gIx (fVar 4) (fC (.int 0))) (fNil))))) (f2T (gNe) (f2 gAdd (f2 gMul (fC (.int 8)) (f2 gIx (fVar 4) (fC (.int 0)))) (fC (.int 2))) (fCall qbits_of (fCons (fTup (fCons (f2 gIx (fVar 4) (fC (.int 1))) (fNil))) (fNil))))) (fVar 4))) (fNil))) (fC (.int 0)))
      (sRet (fC (.bl false)))
      (sNext))
      (sSeq (sIf (fOr (fNot (fTru (fCall q_law_same (fCons (fCall qunpacked (fCons (fVar 2) (fNil))) (fCons (fVar 1) (fNil)))))) (fNot (fTru (fCall q_law_same (fCons (fCall qsummed_samples (fCons (fVar 3) (fNil))) (fCons (fVar 1) (fNil)))))))
      (sRet (fC (.bl false)))
      (sNext))
      (sSeq (sSet 5 (fSlice (fVar 2) (fNoPart) (fPart (fCallS 0 q_law_take (fCons (fVar 0) (fCons (f2 gAdd (fB gLen (fCons (fVar 2) (fNil))) (fC (.int 1))) (fNil)))))))
      (sRet (fAndV (fCall q_law_same (fCons (fCall qunpacked (fCons (fVar 5) (fNil))) (fCons (fSlice (fVar 1) (fNoPart) (fPart (fB gLen (fCons (fVar 5) (fNil))))) (fNil)))) (fCall q_law_same (fCons (fCall qpacked_of (fCons (fCall qunpacked (fCons (fVar 5) (fNil))) (fNil))) (fCons (fVar 5) (fNil))))))))))))
def c_law_is_packing_right : FnC := runFn false 6 b_law_is_packing_right
abbrev q_law_is_packing_right : FnC := c_law_is_packing_right
theorem hq_law_is_packing_right : ∀ ds M r, q_law_is_packing_right ds M = some r → c_law_is_packing_right ds M = some r := fun _ _ _ h => h
/-- _law_is_second_right(samples): slots ['samples', 'row', 'second'] -/
def b_law_is_second_right : FS :=
    sSeq (sSet 1 (fCall qdifferences (fCons (fVar 0) (fNil))))
      (sSeq (sSet 2 (fCall qsecond_differences (fCons (fVar 0) (fNil))))
      (sSeq (sIf (fOr (fNot (fTru (fIsi .tup (fVar 2)))) (fOr (f2T (gNe) (fB gLen (fCons (fVar 2) (fNil))) (fB gLen (fCons (fVar 0) (fNil)))) (fNot (fTru (fCall q_law_same (fCons (fSlice (fVar 2) (fNoPart) (fPart (fC (.int 2)))) (fCons (fSlice (fVar 1) (fNoPart) (fPart (fC (.int 2)))) (fNil))))))))
      (sRet (fC (.bl false)))
      (sNext))
      (sSeq (sIf (fOr (fNot (fTru (fCall q_law_same (fCons (fSlice (fVar 2) (fPart (fC (.int 2))) (fNoPart)) (fCons (fSlice (fCall qdifferences (fCons (fVar 1) (fNil))) (fPart (fC (.int 2))) (fNoPart)) (fNil)))))) (fNot (fTru (fCall q_law_same (fCons (fSlice (fVar 2) (fPart (fC (.int 2))) (fNoPart)) (fCons (fSlice (fCall qfiltered_samples (fCons (fVar 0) (fCons (fTup (fCons (fC (.int 1)) (fCons (f1 gNeg (fC (.int 2))) (fCons (fC (.int 1)) (fNil))))) (fNil)))) (fPart (fC (.int 2))) (fNoPart)) (fNil)))))))
      (sRet (fC (.bl false)))
      (sNext))
      (sRet (fCall q_law_same (fCons (fCall qsummed_samples (fCons (f2 gAdd (fSlice (fVar 2) (fNoPart) (fPart (fC (.int 1)))) (fCall qsummed_samples (fCons (fSlice (fVar 2) (fPart (fC (.int 1))) (fNoPart)) (fNil)))) (fNil))) (fCons (fVar 0) (fNil))))))))
def c_law_is_second_right : FnC := runFn false 3 b_law_is_second_right
abbrev q_law_is_second_right : FnC := c_law_is_second_right
theorem hq_law_is_second_right : ∀ ds M r, q_law_is_second_right ds M = some r → c_law_is_second_right ds M = some r := fun _ _ _ h => h
/-- _law_are_bits_right(samples, other): slots ['samples', 'other', 'row', 'second', 'value', 'seam', 'bits'] -/
def b_law_are_bits_right : FS :=
    sSeq (sSet 2 (fCall qdifferences (fCons (fVar 0) (fNil))))
      (sSeq (sSet 3 (fCall qsecond_differences (fCons (fVar 0) (fNil))))
      (sSeq (sFor (fiSq (fSlice (fVar 0) (fNoPart) (fPart (fC (.int 3))))) (tN 4)
      (sIf (f2T (gNotIn) (fCall qbits_of (fCons (fTup (fCons (fVar 4) (fNil))) (fNil))) (fFz (fLstD (fCons (fC (.int 10)) (fCons (fC (.int 18)) (fCons (fC (.int 34)) (fNil)))))))
      (sRet (fC (.bl false)))
      (sNext)))
      (sSeq (sIf (fNot (fTru (fCall q_law_same (fCons (fCall qbits_of (fCons (fVar 0) (fNil))) (fCons (fCall q_law_single (fCons (fVar 2) (fNil))) (fNil))))))
      (sRet (fC (.bl false)))
      (sNext))
      (sSeq (sIf (fAnd (f2T (gCmp fun i j => decide (j < i)) (fB gLen (fCons (fVar 0) (fNil))) (fC (.int 0))) (f2T (gCmp fun i j => decide (j < i)) (fB gLen (fCons (fVar 1) (fNil))) (fC (.int 0))))
      (sSeq (sSet 5 (f2 gSub (fCall qbits_of (fCons (fTup (fCons (f2 gSub (f2 gIx (fVar 1) (fC (.int 0))) (f2 gIx (fVar 0) (f1 gNeg (fC (.int 1))))) (fNil))) (fNil))) (fCall qbits_of (fCons (fSlice (fVar 1) (fNoPart) (fPart (fC (.int 1)))) (fNil)))))
      (sIf (fNot (fTru (fCall q_law_same (fCons (fCall qbits_of (fCons (f2 gAdd (fVar 0) (fVar 1)) (fNil))) (fCons (f2 gAdd (f2 gAdd (fCall qbits_of (fCons (fVar 0) (fNil))) (fCall qbits_of (fCons (fVar 1) (fNil)))) (fVar 5)) (fNil))))))
      (sRet (fC (.bl false)))
      (sNext)))
      (sNext))
      (sSeq (sSet 6 (fFz (fLstD (fCons (fCall q_law_single (fCons (fVar 0) (fNil))) (fCons (fCall q_law_single (fCons (fVar 2) (fNil))) (fCons (fCall q_law_single (fCons (fVar 3) (fNil))) (fNil)))))))
      (sRet (fCall q_law_same (fCons (fCall qbest_order (fCons (fVar 0) (fNil))) (fCons (fM "list" gIndex (fVar 6) (fCons (fB gMin1 (fCons (fVar 6) (fNil))) (fNil))) (fNil))))))))))
def c_law_are_bits_right : FnC := runFn false 7 b_law_are_bits_right
abbrev q_law_are_bits_right : FnC := c_law_are_bits_right
theorem hq_law_are_bits_right : ∀ ds M r, q_law_are_bits_right ds M = some r → c_law_are_bits_right ds M = some r := fun _ _ _ h => h
/-- _law_are_runs_right(samples): slots ['samples', 'runs', 'run', 'found', 'many', 'sample', 'beside', 'at'] -/
def b_law_are_runs_right : FS :=
    sSeq (sSet 1 (fCall qruns_packed (fCons (fVar 0) (fNil))))
      (sSeq (sIf (fOr (fNot (fTru (fIsi .tup (fVar 1)))) (f2T (gCmp fun i j => decide (j < i)) (fB gLen (fCons (fFz (fLC [2] (fiSq (fVar 1)) (tN 2) (fOr (fNot (fTru (fIsi .tup (fVar 2)))) (f2T (gNe) (fB gLen (fCons (fVar 2) (fNil))) (fC (.int 2)))) (fVar 2))) (fNil))) (fC (.int 0))))
      (sRet (fC (.bl false)))
      (sNext))
      (sSeq (sSet 3 (fTup (fNil)))
      (sSeq (sFor (fiSq (fVar 1)) (tT 2 (tsC (tN 4) (tsC (tN 5) (tsN))))
      (sSeq (sIf (fOr (fNot (fTru (fCall q_law_is_integer (fCons (fVar 4) (fNil))))) (fOr (fNot (fTru (fCall q_law_is_integer (fCons (fVar 5) (fNil))))) (fOr (f2T (gCmp fun i j => decide (i < j)) (fVar 4) (fC (.int 1))) (f2T (gCmp fun i j => decide (j < i)) (fVar 4) (fB gLen (fCons (fVar 0) (fNil)))))))
      (sRet (fC (.bl false)))
      (sNext))
      (sSet 3 (f2 gAdd (fVar 3) (f2 gRepT (fTup (fCons (fVar 5) (fNil))) (fVar 4))))))
      (sSeq (sSet 6 (fFz (fLC [7] (fiRg2 (fCons (fC (.int 1)) (fCons (fB gLen (fCons (fVar 1) (fNil))) (fNil)))) (tN 7) (f2T (gEq) (f2 gIx (f2 gIx (fVar 1) (fVar 7)) (fC (.int 1))) (f2 gIx (f2 gIx (fVar 1) (f2 gSub (fVar 7) (fC (.int 1)))) (fC (.int 1)))) (fVar 7))))
      (sRet (fAndV (f2 (gB (gEq)) (fVar 3) (fVar 0)) (fAndV (f2 (gB (gEq)) (fB gLen (fCons (fVar 6) (fNil))) (fC (.int 0))) (fCall q_law_same (fCons (fCall qsaved_by_runs (fCons (fVar 0) (fNil))) (fCons (f2 gSub (fB gLen (fCons (fVar 0) (fNil))) (fB gLen (fCons (fVar 1) (fNil)))) (fNil)))))))))))
def c_law_are_runs_right : FnC := runFn false 8 b_law_are_runs_right
abbrev q_law_are_runs_right : FnC := c_law_are_runs_right
theorem hq_law_are_runs_right : ∀ ds M r, q_law_are_runs_right ds M = some r → c_law_are_runs_right ds M = some r := fun _ _ _ h => h
/-- law(script): slots ['script', 'draws', 'samples', 'other', 'line', 'k', 'some', 'long', 'few'] -/
def blaw : FS :=
    sSeq (sSet 1 (fCall q_law_draws (fCons (fVar 0) (fCons (fC (.int 300)) (fNil)))))
      (sSeq (sSet 2 (fCallS 0 q_law_samples (fCons (fVar 1) (fCons (fVar 0) (fCons (fCallS 0 q_law_take (fCons (fVar 1) (fCons (f2 gIx (fFz (fLstD (fCons (fC (.int 6)) (fCons (fC (.int 41)) (fNil))))) (fCallS 0 q_law_take (fCons (fVar 1) (fCons (fC (.int 2)) (fNil))))) (fNil)))) (fNil))))))
      (sSeq (sSet 3 (fCallS 0 q_law_samples (fCons (fVar 1) (fCons (fVar 0) (fCons (fCallS 0 q_law_take (fCons (fVar 1) (fCons (fC (.int 9)) (fNil)))) (fNil))))))
      (sSeq (sSet 4 (fB gTuple (fCons (fFz (fLC [5] (fiRg1 (fCons (fCallS 0 q_law_take (fCons (fVar 1) (fCons (fC (.int 9)) (fNil)))) (fNil))) (tN 5) (fYes) (f2 gMul (f2 gMul (fVar 5) (f2 gAdd (fC (.int 1)) (fCallS 0 q_law_take (fCons (fVar 1) (fCons (fC (.int 2)) (fNil)))))) (fC (.int 100))))) (fNil))))
      (sSeq (sFor (fiSq (fFz (fLstD (fCons (fVar 2) (fCons (fVar 3) (fCons (fVar 4) (fNil))))))) (tN 6)
      (sSeq (sIf (fOr (fNot (fTru (fCallS 0 q_law_is_packing_right (fCons (fVar 1) (fCons (fVar 6) (fNil)))))) (fOr (fNot (fTru (fCall q_law_is_second_right (fCons (fVar 6) (fNil))))) (fNot (fTru (fCall q_law_are_runs_right (fCons (fVar 6) (fNil)))))))
      (sRet (fC (.bl false)))
      (sNext))
      (sIf (fNot (fTru (fCall q_law_are_bits_right (fCons (fVar 6) (fCons (fVar 3) (fNil))))))
      (sRet (fC (.bl false)))
      (sNext))))
      (sSeq (sSet 7 (f2 gAdd (f2 gRepT (fTup (fCons (fC (.int 7)) (fNil))) (f2 gAdd (fC (.int 1)) (fCallS 0 q_law_take (fCons (fVar 1) (fCons (fC (.int 30)) (fNil)))))) (fTup (fCons (fC (.int 8)) (fNil)))))
      (sSeq (sSet 8 (fTup (fCons (fC (.int 100)) (fCons (fC (.int 300)) (fCons (fC (.int 300)) (fCons (f1 gNeg (fC (.int 40000))) (fNil)))))))
      (sSeq (sIf (fOr (fNot (fTru (fCall q_law_are_runs_right (fCons (fVar 7) (fNil))))) (fOr (fNot (fTru (fCall q_law_are_bits_right (fCons (fVar 8) (fCons (fTup (fCons (fC (.int 5)) (fNil))) (fNil)))))) (fOr (fNot (fTru (fCall q_law_is_second_right (fCons (fVar 8) (fNil))))) (fNot (fTru (fCallS 0 q_law_is_packing_right (fCons (fVar 1) (fCons (fVar 8) (fNil)))))))))
      (sRet (fC (.bl false)))
      (sNext))
      (sRet (fAndV (fCall q_law_same (fCons (fCall qbest_order (fCons (fTup (fCons (fC (.int 0)) (fCons (fC (.int 200)) (fCons (fC (.int 400)) (fCons (fC (.int 600)) (fCons (fC (.int 800)) (fNil))))))) (fNil))) (fCons (fC (.int 2)) (fNil)))) (fAndV (fCall q_law_are_bits_right (fCons (fTup (fNil)) (fCons (fVar 8) (fNil)))) (fCall q_law_same (fCons (fCall qunpacked (fCons (fTup (fNil)) (fNil))) (fCons (fTup (fNil)) (fNil))))))))))))))
def claw : FnC := runFn false 9 blaw
end LP
namespace LP
open PySem PySem.Spec PyProof.Rows L2 PF
@[simp] theorem int_argP (q : Int) (M) : argP M (.int q) = some (.int q) := rfl
@[simp] theorem bl_argP (q : Bool) (M) : argP M (.bl q) = some (.bl q) := rfl
/-- what a drawing gives -/
def tk (xs : List Int) (m : Int) : Int := match xs.getLast? with
  | none => 0
  | some v => v.fmod m
theorem tk_lt {xs : List Int} {m : Int} (h : 0 < m) : 0 ≤ tk xs m ∧ tk xs m < m := by
  unfold tk
  split
  · omega
  · rw [Int.fmod_eq_emod_of_nonneg _ (by omega)]
    exact ⟨Int.emod_nonneg _ (by omega), Int.emod_lt_of_pos _ h⟩
theorem dropLast_iL (xs : List Int) : (iL xs).dropLast = iL xs.dropLast := by
  simp [iL, List.map_dropLast]
theorem take_ev {xs : List Int} {m : Int} (hm : m ≠ 0) : c_law_take [.ref 0, .int m] [.lst (iL xs)] = some (.int (tk xs m), [.lst (iL xs.dropLast)]) := by
  cases xs with
  | nil => simp [c_law_take, b_law_take, runFn, startR, tk, fin, Mem.nr, MO.nr, D.nr, D.nrs]
  | cons x xs =>
    have hl : (iL (x :: xs))[xs.length]? = (x :: xs).getLast?.map .int := by rw [iL_at]; simp [List.getLast?_eq_getElem?]
    obtain ⟨v, hv⟩ : ∃ v, (x :: xs).getLast? = some v := ⟨_, List.getLast?_cons⟩
    rw [hv] at hl
    have hn := nrs_iL (x :: xs).dropLast
    have hd := dropLast_iL (x :: xs)
    have hz : ((iL (x :: xs)).length : Int) = xs.length + 1 := by simp
    have hz2 : ¬ ((xs.length : Int) + 1 = 0) := by omega
    have hl' : (iL (x :: xs))[(iL (x :: xs)).length - 1]? = some (.int v) := by rw [show (iL (x :: xs)).length - 1 = xs.length by simp]; exact hl
    generalize iL (x :: xs) = L at *
    simp [c_law_take, b_law_take, runFn, startR, tk, hv, hz, hz2, hl', hm, hd, fin, Mem.nr, MO.nr, D.nr, D.nrs, hn]
theorem take_call {n : Nat} {M : Mem} {xs : List Int} {m : Int} (h : M[n]? = some (.lst (iL xs))) (hm : m ≠ 0) : callS 0 c_law_take [.ref n, .int m] M = some (.int (tk xs m), M.set n (.lst (iL xs.dropLast))) := by
  have hn := nrs_iL xs
  have hn' := nrs_iL xs.dropLast
  simp [callS, h, MO.nr, hn, refIn, argsP, argP, D.nr, take_ev hm, hn', D.nl, anyRef, D.isRef]
theorem lc_map {c : Mem → Bool} {t : FG} {ft : FT} {fe : FE} {ρ : Rho} {M : Mem} (g : D → D) (hc : c M = true) : ∀ (xs acc : List D), (∀ d, d ∈ xs → ∃ ρ', t d ρ = some ρ' ∧ ft ρ' M = some (true, M) ∧ fe ρ' M = some (g d, M)) → lcLoop c t ft fe ρ xs acc M = some (acc ++ xs.map g, M)
  | [], acc, _ => by simp [lcLoop, hc]
  | d :: xs, acc, h => by
    obtain ⟨ρ', h1, h2, h3⟩ := h d (by simp)
    rw [lcLoop, if_pos hc, h1]
    simp only [Option.bind_some]
    rw [h2]
    simp only [Option.bind_some, if_true]
    rw [h3]
    simp only [Option.bind_some]
    rw [lc_map g hc xs _ fun d hd => h d (List.mem_cons_of_mem _ hd)]
    simp
theorem draws_ev (ns : List Int) (hl : ns.length ≤ 63) (many : Nat) (hm : many ≤ 1000) : ∃ xs : List Int, c_law_draws [.kst (iL ns), .int many] [] = some (.ref 0, [.lst (iL xs)]) := by
  have main : ∀ cells : List Int, 0 < cells.length → cells.length ≤ 64 → ∃ ρ' M', sLoop (chk none (rgD 0 many)) (sStep (tN 6)
      (sSeq (sSet 7 (f2 gMod (fVar 6) (fB gLen (fCons (fVar 2) (fNil)))))
      (sIf (fAnd (f2T (gCmp fun i j => decide (j ≤ i)) (f2 gIx (fVar 2) (fVar 7)) (f2 gPow (fC (.int 10)) (fC (.int 18)))) (f2T (gCmp fun i j => decide (j < i)) (f2 gIx (fVar 4) (fVar 7)) (fC (.int 0))))
      (sSeq (sDrop (fM "list" gAppend (fVar 5) (fCons (f2 gMod (fB gInt (fCons (f2 gIx (fVar 4) (fVar 7)) (fNil))) (fC (.int 1000))) (fNil))))
      (sSetIx (f2 gFdiv (f2 gIx (fVar 4) (fVar 7)) (fC (.int 1000))) (fVar 4) (fVar 7)))
      (sSeq (sSet 8 (f2 gMod (fB gInt (fCons (f2 gAdd (f2 gAdd (f2 gMul (f2 gIx (fVar 2) (fVar 7)) (fC (.int 48271))) (f2 gMul (fVar 6) (fC (.int 69621)))) (fC (.int 11))) (fNil))) (fC (.int 2147483647))))
      (sDrop (fM "list" gAppend (fVar 5) (fCons (f2 gMod (fB gInt (fCons (f2 gAdd (f2 gAdd (f2 gMul (fVar 8) (fVar 8)) (f2 gMul (fC (.int 3)) (fVar 8))) (fVar 6)) (fNil))) (fC (.int 1000003))) (fNil))))))))
      (rgD 0 many) [some (.kst (iL ns)), some (.int many), some (.ref 0), none, some (.ref 1), some (.ref 2), none, none, none] [.lst (iL cells), .lst (iL cells), .lst []] = some (.nx ρ', M') ∧
      ∃ rest draws x6 x7 x8, ρ' = [some (.kst (iL ns)), some (.int many), some (.ref 0), none, some (.ref 1), some (.ref 2), x6, x7, x8] ∧ M' = [.lst (iL cells), .lst (iL rest), .lst (iL draws)] := by
    intro cells h0 h64
    have := loop_inv (c := chk none (rgD 0 many)) (xs := rgD 0 many) (ρ := [some (.kst (iL ns)), some (.int many), some (.ref 0), none, some (.ref 1), some (.ref 2), none, none, none]) (M := [.lst (iL cells), .lst (iL cells), .lst []])
      (fun k ρ' M' => ∃ (rest draws : List Int) (x6 x7 x8 : Option D), ρ' = [some (.kst (iL ns)), some (.int many), some (.ref 0), none, some (.ref 1), some (.ref 2), x6, x7, x8] ∧ M' = [.lst (iL cells), .lst (iL rest), .lst (iL draws)] ∧ rest.length = cells.length ∧ draws.length = k) (fun _ _ _ _ => rfl)
      (step := (sStep (tN 6)
      (sSeq (sSet 7 (f2 gMod (fVar 6) (fB gLen (fCons (fVar 2) (fNil)))))
      (sIf (fAnd (f2T (gCmp fun i j => decide (j ≤ i)) (f2 gIx (fVar 2) (fVar 7)) (f2 gPow (fC (.int 10)) (fC (.int 18)))) (f2T (gCmp fun i j => decide (j < i)) (f2 gIx (fVar 4) (fVar 7)) (fC (.int 0))))
      (sSeq (sDrop (fM "list" gAppend (fVar 5) (fCons (f2 gMod (fB gInt (fCons (f2 gIx (fVar 4) (fVar 7)) (fNil))) (fC (.int 1000))) (fNil))))
      (sSetIx (f2 gFdiv (f2 gIx (fVar 4) (fVar 7)) (fC (.int 1000))) (fVar 4) (fVar 7)))
      (sSeq (sSet 8 (f2 gMod (fB gInt (fCons (f2 gAdd (f2 gAdd (f2 gMul (f2 gIx (fVar 2) (fVar 7)) (fC (.int 48271))) (f2 gMul (fVar 6) (fC (.int 69621)))) (fC (.int 11))) (fNil))) (fC (.int 2147483647))))
      (sDrop (fM "list" gAppend (fVar 5) (fCons (f2 gMod (fB gInt (fCons (f2 gAdd (f2 gAdd (f2 gMul (fVar 8) (fVar 8)) (f2 gMul (fC (.int 3)) (fVar 8))) (fVar 6)) (fNil))) (fC (.int 1000003))) (fNil)))))))))
      ?_ ⟨cells, [], none, none, none, rfl, rfl, rfl, rfl⟩
    · obtain ⟨ρ', M', e, rest, draws, x6, x7, x8, e1, e2, _⟩ := this
      exact ⟨ρ', M', e, rest, draws, x6, x7, x8, e1, e2⟩
    · rintro k d ρ M hd ⟨rest, draws, x6, x7, x8, rfl, rfl, hr, hk⟩
      obtain ⟨hk2, rfl⟩ := rgD_at hd
      have lc : (iL cells).length = cells.length := by simp
      have lr : (iL rest).length = cells.length := by simp [hr]
      have hne : ¬ ((cells.length : Int) = 0) := by omega
      have hcn : cells ≠ [] := by rintro rfl; simp at h0
      have em : ((k : Int).fmod (cells.length : Int)) = ((k % cells.length : Nat) : Int) := by rw [Int.fmod_eq_emod_of_nonneg _ (by omega)]; rfl
      have hj : k % cells.length < cells.length := Nat.mod_lt _ h0
      generalize k % cells.length = j at em hj
      obtain ⟨c, hc⟩ : ∃ c, cells[j]? = some c := ⟨_, List.getElem?_eq_getElem hj⟩
      obtain ⟨r, hrr⟩ : ∃ c, rest[j]? = some c := ⟨_, List.getElem?_eq_getElem (by omega)⟩
      have a1 : L2.atI (iL cells) (j : Int) = some (.int c) := at_nat (by rw [iL_at, hc]; rfl)
      have a2 : L2.atI (iL rest) (j : Int) = some (.int r) := at_nat (by rw [iL_at, hrr]; rfl)
      have a3 : L2.ixN (iL rest).length (j : Int) = some j := by
        unfold L2.ixN
        rw [if_pos (by omega), if_pos (by omega)]; rfl
      have ld : (iL draws).length < LINE := by rw [iL_len, hk]; show k < 16777216; omega
      have op : okPow 10 18 = true := by decide
      have m1 : okMul c 48271 = true := okMul_r (by decide)
      have m2 : okMul (k : Int) 69621 = true := okMul_r (by decide)
      have d1 : okDiv 1000 = true := okDiv_of (by decide) (Nat.lt_of_lt_of_le (by decide : (1000 : Int).natAbs < 2 ^ 10) (Nat.pow_le_pow_right (by decide) (by decide)))
      by_cases hbig : (10 : Int) ^ 18 ≤ c ∧ 0 < r
      · refine ⟨_, _, ?_, rest.set j (r.fdiv 1000), draws ++ [r.fmod 1000], some (.int k), some (.int j), x8, rfl, rfl, by simp [hr], by simp [hk]⟩
        have e1 : (iL rest).set j (.int (r.fdiv 1000)) = iL (rest.set j (r.fdiv 1000)) := by simp [iL, List.map_set]
        have e2 : iL draws ++ [.int (r.fmod 1000)] = iL (draws ++ [r.fmod 1000]) := by simp [iL]
        have hb1 := hbig.1
        simp only [← e1, ← e2]
        clear e1 e2
        generalize iL cells = L1 at *
        generalize iL rest = L2 at *
        generalize iL draws = L3 at *
        simp [lc, hne, hcn, em, a1, a2, a3, op, d1, hbig.2, ld, show (10 : Int) ^ 18 ≤ c from hb1, show (1000000000000000000 : Int) ≤ c from hb1]
      · let v := (c * 48271 + (k : Int) * 69621 + 11).fmod 2147483647
        have hv : v = (c * 48271 + (k : Int) * 69621 + 11).fmod 2147483647 := rfl
        have hv1 : 0 ≤ v ∧ v < 2147483647 := by
          rw [hv, Int.fmod_eq_emod_of_nonneg _ (by decide)]
          omega
        have m3 : okMul v v = true := okMul_r (by omega)
        have m4 : okMul 3 v = true := okMul_r (by omega)
        refine ⟨_, _, ?_, rest, draws ++ [(v * v + 3 * v + k).fmod 1000003], some (.int k), some (.int j), some (.int v), rfl, rfl, hr, by simp [hk]⟩
        have e2 : iL draws ++ [.int ((v * v + 3 * v + k).fmod 1000003)] = iL (draws ++ [(v * v + 3 * v + k).fmod 1000003]) := by simp [iL]
        simp only [← e2]
        clear e2
        have hc3 : (1000000000000000000 : Int) ≤ c → ¬ (0 < r) := fun h1 h2 => hbig ⟨h1, h2⟩
        generalize iL cells = L1 at *
        generalize iL rest = L2 at *
        generalize iL draws = L3 at *
        by_cases h18 : (1000000000000000000 : Int) ≤ c
        · simp [lc, hne, hcn, em, a1, a2, a3, op, m1, m2, ← hv, m3, m4, ld, h18, hc3 h18]
        · simp [lc, hne, hcn, em, a1, a2, a3, op, m1, m2, ← hv, m3, m4, ld, h18]
  have hcells : ∀ M, lcLoop (chk none (iL ns)) (tN 3) fYes (fB gInt (fCons (fVar 3) fNil)) [some (.kst (iL ns)), some (.int many), none, none, none, none, none, none, none] (iL ns) [] M = some (iL ns, M) := by
    intro M
    have := lc_map (c := chk none (iL ns)) (t := tN 3) (ft := fYes) (fe := fB gInt (fCons (fVar 3) fNil)) (ρ := [some (.kst (iL ns)), some (.int many), none, none, none, none, none, none, none]) (M := M) id rfl (iL ns) [] (by
      intro d hd
      obtain ⟨i, _, rfl⟩ := List.mem_map.mp hd
      exact ⟨_, rfl, rfl, by simp⟩)
    simpa using this
  obtain ⟨cells, hc0, hc1, hcells2⟩ : ∃ cells : List Int, 0 < cells.length ∧ cells.length ≤ 64 ∧ cells = if ns = [] then [0] else ns := ⟨_, by split <;> simp [List.length_pos_iff, *], by split <;> (try simp) <;> omega, rfl⟩
  obtain ⟨ρ', M', e, rest, draws, x6, x7, x8, rfl, rfl⟩ := main cells hc0 hc1
  have ok : okR 0 (many : Int) = true := okR_of (by omega) (by omega) (by omega) (by omega)
  refine ⟨draws.reverse, ?_⟩
  have er : iL draws.reverse = (iL draws).reverse := by simp [iL]
  have hn := nrs_iL cells
  have hn2 := nrs_iL draws.reverse
  have l0 : (0 : Nat) < LINE := by decide
  rw [er] at hn2 ⊢
  have hn3 : D.nrs (iL draws).reverse = true := hn2
  by_cases hz : ns = []
  · rw [if_pos hz] at hcells2
    have hL : (iL ns).length = 0 := by rw [hz]; rfl
    have hc2 : iL cells = iL ns ++ [.int 0] := by rw [hcells2, hz]; rfl
    rw [hc2] at e hn
    generalize iL ns = L at *
    generalize (iL draws) = L2 at *
    simp [c_law_draws, b_law_draws, runFn, startR, fiSq, wipeR, hcells, hL, ev_rgh1 _ ok, e, l0, fin, Mem.nr]
    exact hn3
  · rw [if_neg hz] at hcells2
    subst hcells2
    have hL : ¬ ((iL cells).length = 0) := by rw [iL_len]; omega
    generalize iL cells = L at *
    generalize (iL draws) = L2 at *
    have hL2 : L ≠ [] := by rintro rfl; simp at hL
    simp [c_law_draws, b_law_draws, runFn, startR, fiSq, wipeR, hcells, hL, hL2, ev_rgh1 _ ok, e, l0, fin, Mem.nr]
    exact hn3
/-! _law_same of a thing with itself -/
mutual
def sok : Nat → D → Bool
  | 0, _ => false
  | _ + 1, .non => true
  | _ + 1, .bl _ => true
  | _ + 1, .int _ => true
  | n + 1, .tup xs => decide (xs.length ≤ 1000) && soks n xs
  | _, _ => false
def soks : Nat → List D → Bool
  | _, [] => true
  | n, x :: xs => sok n x && soks n xs
end
theorem soks_at : ∀ {n : Nat} {xs : List D} {k : Nat} {d : D}, soks n xs = true → xs[k]? = some d → sok n d = true
  | _, [], _, _, _, h => by simp at h
  | n, x :: xs, 0, d, h, e => by
    rw [soks, Bool.and_eq_true] at h
    simp at e; subst e; exact h.1
  | n, x :: xs, k + 1, d, h, e => by
    rw [soks, Bool.and_eq_true] at h
    exact soks_at h.2 (by simpa using e)
mutual
theorem sok_nr : ∀ (n : Nat) (d : D), sok n d = true → d.nr = true ∧ d.isRef = false
  | 0, _, h => by rw [sok] at h; cases h
  | _ + 1, .non, _ => ⟨rfl, rfl⟩
  | _ + 1, .bl _, _ => ⟨rfl, rfl⟩
  | _ + 1, .int _, _ => ⟨rfl, rfl⟩
  | n + 1, .tup xs, h => by
    rw [sok, Bool.and_eq_true] at h
    exact ⟨by rw [D.nr]; exact soks_nr n xs h.2, rfl⟩
  | _ + 1, .str _, h => by simp [sok] at h
  | _ + 1, .lst _, h => by simp [sok] at h
  | _ + 1, .kst _, h => by simp [sok] at h
  | _ + 1, .ref _, h => by simp [sok] at h
theorem soks_nr : ∀ (n : Nat) (xs : List D), soks n xs = true → D.nrs xs = true
  | _, [], _ => rfl
  | n, x :: xs, h => by
    rw [soks, Bool.and_eq_true] at h
    rw [D.nrs, (sok_nr n x h.1).1, soks_nr n xs h.2]; rfl
end
theorem argP_nr {d : D} (h : d.nr = true) (hr : d.isRef = false) (M : Mem) : argP M d = some d := by
  cases d with
  | ref n => cases hr
  | non => rfl
  | bl _ => rfl
  | int _ => rfl
  | str _ => rfl
  | tup _ => exact if_pos h
  | lst _ => exact if_pos h
  | kst _ => exact if_pos h
theorem same_ev : ∀ (n : Nat) (d : D), sok n d = true → c_law_same n [d, d] [] = some (.bl true, [])
  | 0, d, h => by simp [sok] at h
  | n + 1, .non, _ => by simp [c_law_same, b_law_same, runFn, startR, isi, tyOf, isNon, fin, Mem.nr, D.nr]
  | n + 1, .bl b, _ => by cases b <;> simp [c_law_same, b_law_same, runFn, startR, isi, tyOf, isNon, fin, Mem.nr, D.nr, gEq, D.val, D.dp, D.py, PyData.eqv]
  | n + 1, .int i, _ => by simp [c_law_same, b_law_same, runFn, startR, isi, tyOf, isNon, fin, Mem.nr, D.nr]
  | n + 1, .str _, h => by simp [sok] at h
  | n + 1, .lst _, h => by simp [sok] at h
  | n + 1, .kst _, h => by simp [sok] at h
  | n + 1, .ref _, h => by simp [sok] at h
  | n + 1, .tup xs, h => by
    rw [sok, Bool.and_eq_true] at h
    have hl : xs.length ≤ 1000 := of_decide_eq_true h.1
    have ok : okR 0 (xs.length : Int) = true := okR_of (by omega) (by omega) (by omega) (by omega)
    have hloop := loop_inv (c := chk none (rgD 0 xs.length)) (xs := rgD 0 xs.length) (ρ := [some (.tup xs), some (.tup xs), none]) (M := [])
      (fun k ρ' M' => ∃ x, ρ' = [some (.tup xs), some (.tup xs), x] ∧ M' = []) (fun _ _ _ _ => rfl)
      (step := sStep (tN 2) (sIf (fNot (fTru (fCall (c_law_same n) (fCons (f2 gIx (fVar 0) (fVar 2)) (fCons (f2 gIx (fVar 1) (fVar 2)) (fNil))))))
      (sRet (fC (.bl false)))
      (sNext))) (by
        rintro k d ρ M hd ⟨x, rfl, rfl⟩
        obtain ⟨hk, rfl⟩ := rgD_at hd
        obtain ⟨e, he⟩ : ∃ e, xs[k]? = some e := ⟨_, List.getElem?_eq_getElem hk⟩
        have hs := soks_at h.2 he
        obtain ⟨n1, n2⟩ := sok_nr n e hs
        have a1 : L2.atI xs (k : Int) = some e := at_nat he
        exact ⟨_, _, by simp [a1, callP, argsP, argP_nr n1 n2, same_ev n e hs, anyRef, n2], some (.int k), rfl, rfl⟩) ⟨none, rfl, rfl⟩
    obtain ⟨ρ', M', e, x, rfl, rfl⟩ := hloop
    simp [c_law_same, b_law_same, runFn, startR, isi, tyOf, isNon, gIs, ev_rgh1 _ ok, e, fin, Mem.nr, D.nr]
theorem same_bl (b : Bool) : q_law_same [.bl b, .bl b] [] = some (.bl true, []) := same_ev 12 (.bl b) (by simp [sok])
/-! _law_cell -/
theorem cell_ev (ns : List Int) (xs : List Int) (hl : ns.length ≤ 63) : ∃ (i : Int) (ys : List Int), c_law_cell [.kst (iL ns), .ref 0] [.lst (iL xs)] = some (.int i, [.lst (iL ys)]) := by
  by_cases hz : ns = []
  · have hL : (iL ns).length = 0 := by rw [hz]; rfl
    have hn := nrs_iL xs
    refine ⟨0, xs, ?_⟩
    have hL2 : iL ns = [] := by rw [hz]; rfl
    generalize iL ns = L at *
    generalize iL xs = L' at *
    subst hL2
    simp [c_law_cell, b_law_cell, runFn, startR, fin, Mem.nr, MO.nr, D.nr, hn]
  · have h0 : 0 < ns.length := List.length_pos_iff.mpr hz
    have hm : ((ns.length : Int)) ≠ 0 := by omega
    have ht := take_call (n := 0) (M := [.lst (iL xs)]) (xs := xs) (m := ns.length) rfl hm
    obtain ⟨t1, t2⟩ := tk_lt (xs := xs) (m := ns.length) (by omega)
    obtain ⟨j, hj⟩ : ∃ j : Nat, tk xs ns.length = j := ⟨(tk xs ns.length).toNat, by omega⟩
    have hjl : j < ns.length := by omega
    obtain ⟨c, hc⟩ : ∃ c, ns[j]? = some c := ⟨_, List.getElem?_eq_getElem hjl⟩
    have a1 : L2.atI (iL ns) (j : Int) = some (.int c) := at_nat (by rw [iL_at, hc]; rfl)
    have hn := nrs_iL xs.dropLast
    have p60 : okPow 10 60 = true := by decide
    rw [hj] at ht
    have hL : (iL ns).length = ns.length := iL_len ns
    have hnil : iL ns ≠ [] := by intro z; rw [z] at hL; simp at hL; omega
    generalize iL ns = L at *
    by_cases hc0 : c < 0
    · have m1 : ∀ v, okMul v (-1) = true := fun v => okMul_r (by decide)
      refine ⟨((c.natAbs : Int).fmod (10 ^ 60)) * -1, xs.dropLast, ?_⟩
      generalize iL xs.dropLast = L' at *
      simp [c_law_cell, b_law_cell, runFn, startR, hL, hnil, hz, ht, a1, p60, hc0, m1, fin, Mem.nr, MO.nr, D.nr, hn, q_law_take]
    · have m1 : ∀ v, okMul v 1 = true := fun v => okMul_r (by decide)
      refine ⟨((c.natAbs : Int).fmod (10 ^ 60)) * 1, xs.dropLast, ?_⟩
      generalize iL xs.dropLast = L' at *
      simp [c_law_cell, b_law_cell, runFn, startR, hL, hnil, hz, ht, a1, p60, hc0, m1, fin, Mem.nr, MO.nr, D.nr, hn, q_law_take]
@[simp] theorem take_c0 (xs : List Int) (m : Int) (M : Mem) (hm : m ≠ 0) : callS 0 c_law_take [.ref 0, .int m] (.lst (iL xs) :: M) = some (.int (tk xs m), .lst (iL xs.dropLast) :: M) := by
  rw [take_call (n := 0) (xs := xs) rfl hm]; rfl
theorem at4 {α} {a b c d : α} {i : Int} (h : 0 ≤ i ∧ i < 4) : L2.atI [a, b, c, d] i = some a ∨ L2.atI [a, b, c, d] i = some b ∨ L2.atI [a, b, c, d] i = some c ∨ L2.atI [a, b, c, d] i = some d := by
  obtain h | h | h | h : i = 0 ∨ i = 1 ∨ i = 2 ∨ i = 3 := by omega
  · subst h; exact .inl (at_nat (n := 0) rfl)
  · subst h; exact .inr (.inl (at_nat (n := 1) rfl))
  · subst h; exact .inr (.inr (.inl (at_nat (n := 2) rfl)))
  · subst h; exact .inr (.inr (.inr (at_nat (n := 3) rfl)))
theorem at3 {α} {a b c : α} {i : Int} (h : 0 ≤ i ∧ i < 3) : L2.atI [a, b, c] i = some a ∨ L2.atI [a, b, c] i = some b ∨ L2.atI [a, b, c] i = some c := by
  obtain h | h | h : i = 0 ∨ i = 1 ∨ i = 2 := by omega
  · subst h; exact .inl (at_nat (n := 0) rfl)
  · subst h; exact .inr (.inl (at_nat (n := 1) rfl))
  · subst h; exact .inr (.inr (at_nat (n := 2) rfl))
theorem at5 {α} {a b c d e : α} {i : Int} (h : 0 ≤ i ∧ i < 5) : ∃ x, L2.atI [a, b, c, d, e] i = some x ∧ (x = a ∨ x = b ∨ x = c ∨ x = d ∨ x = e) := by
  obtain h | h | h | h | h : i = 0 ∨ i = 1 ∨ i = 2 ∨ i = 3 ∨ i = 4 := by omega
  · subst h; exact ⟨a, at_nat (n := 0) rfl, by simp⟩
  · subst h; exact ⟨b, at_nat (n := 1) rfl, by simp⟩
  · subst h; exact ⟨c, at_nat (n := 2) rfl, by simp⟩
  · subst h; exact ⟨d, at_nat (n := 3) rfl, by simp⟩
  · subst h; exact ⟨e, at_nat (n := 4) rfl, by simp⟩
theorem kst_argP (ns : List Int) (M) : argP M (.kst (iL ns)) = some (.kst (iL ns)) := by
  have : (D.kst (iL ns)).nr = true := by rw [D.nr]; exact nrs_iL ns
  unfold argP
  simp [this]
theorem cell_call {ns xs ys : List Int} {i : Int} (h : c_law_cell [.kst (iL ns), .ref 0] [.lst (iL xs)] = some (.int i, [.lst (iL ys)])) : callS 1 c_law_cell [.kst (iL ns), .ref 0] [.lst (iL xs)] = some (.int i, [.lst (iL ys)]) := by
  have hn := nrs_iL xs
  have hn' := nrs_iL ys
  have hk := nrs_iL ns
  generalize iL ns = L at *
  simp [callS, MO.nr, hn, hn', refIn, argsP, argP, D.nr, hk, h, anyRef, D.isRef, D.nl]
end LP
namespace LP
open PySem PySem.Spec PyProof.Rows L2 PF
def by_ (v : Int) : Int := if -128 ≤ v ∧ v ≤ 127 then 1 else if -32768 ≤ v ∧ v ≤ 32767 then 2 else 4
theorem bytes_ev (v : Int) : cbytes_of [.int v] [] = some (.int (by_ v), []) := by
  unfold by_
  by_cases h1 : -128 ≤ v
  · by_cases h2 : v ≤ 127
    · simp [cbytes_of, bbytes_of, runFn, startR, ev_chainT, h1, h2, fin, Mem.nr, D.nr]
    · have h3 : -32768 ≤ v := by omega
      by_cases h4 : v ≤ 32767
      · simp [cbytes_of, bbytes_of, runFn, startR, ev_chainT, h1, h2, h3, h4, fin, Mem.nr, D.nr]
      · simp [cbytes_of, bbytes_of, runFn, startR, ev_chainT, h1, h2, h3, h4, fin, Mem.nr, D.nr]
  · by_cases h3 : -32768 ≤ v
    · have h4 : v ≤ 32767 := by omega
      simp [cbytes_of, bbytes_of, runFn, startR, ev_chainT, h1, h3, h4, fin, Mem.nr, D.nr]
    · simp [cbytes_of, bbytes_of, runFn, startR, ev_chainT, h1, h3, fin, Mem.nr, D.nr]
def dif : Int → List Int → List Int
  | _, [] => []
  | l, x :: xs => (x - l) :: dif x xs
theorem dif_len : ∀ (l : Int) (xs : List Int), (dif l xs).length = xs.length
  | _, [] => rfl
  | l, x :: xs => by simp [dif, dif_len x xs]
theorem dif_succ : ∀ (l : Int) (xs : List Int) (k : Nat) (a b : Int), xs[k]? = some a → xs[k + 1]? = some b → (dif l xs)[k + 1]? = some (b - a)
  | _, [], k, a, b, h, _ => by simp at h
  | l, x :: xs, 0, a, b, h1, h2 => by
    cases xs with
    | nil => simp at h2
    | cons y ys => simp at h1 h2; subst h1 h2; simp [dif]
  | l, x :: xs, k + 1, a, b, h1, h2 => by
    simpa [dif] using dif_succ x xs k a b (by simpa using h1) (by simpa using h2)
theorem map_rg {n : Nat} {xs : List D} (g : D → D) (hl : xs.length = n) (h : ∀ (k : Nat) (d : D), xs[k]? = some d → g (.int k) = d) : (rgD 0 n).map g = xs := by
  apply List.ext_getElem?
  intro k
  by_cases hk : k < n
  · obtain ⟨d, hd⟩ : ∃ d, xs[k]? = some d := ⟨_, List.getElem?_eq_getElem (by omega)⟩
    rw [hd, List.getElem?_map]
    unfold rgD
    rw [List.getElem?_map, List.getElem?_range hk]
    simp [h k d hd]
  · rw [List.getElem?_eq_none (by simp; omega), List.getElem?_eq_none (by omega)]
theorem nrs_map_int (xs : List Int) : D.nrs (iL xs) = true := nrs_iL xs
theorem first_ev {s : List Int} (hl : s.length ≤ 1000) : cfirst_differences [.tup (iL s)] [] = some (.lst (iL (dif 0 s)), []) := by
  have ok : okR 0 (s.length : Int) = true := okR_of (by omega) (by omega) (by omega) (by omega)
  have hL : (iL s).length = s.length := iL_len s
  let g : D → D := fun d => match d with | .int k => .int ((dif 0 s).getD k.toNat 0) | d => d
  have hlc : lcLoop (chk none (rgD 0 s.length)) (tN 1) fYes (fIfE (f2T (gCmp fun i j => decide (j < i)) (fVar 1) (fC (.int 0))) (f2 gSub (f2 gIx (fVar 0) (fVar 1)) (f2 gIx (fVar 0) (f2 gSub (fVar 1) (fC (.int 1))))) (f2 gIx (fVar 0) (fVar 1))) [some (.tup (iL s)), none] (rgD 0 s.length) [] [] = some (iL (dif 0 s), []) := by
    rw [lc_map g rfl (rgD 0 s.length) [] ?_, List.nil_append, map_rg (xs := iL (dif 0 s)) g (by rw [iL_len, dif_len]) ?_]
    · intro k d hd
      rw [iL_at] at hd
      obtain ⟨v, hv, rfl⟩ := Option.map_eq_some_iff.mp hd
      show D.int ((dif 0 s).getD (k : Int).toNat 0) = _
      rw [Int.toNat_natCast, List.getD_eq_getElem?_getD, hv]; rfl
    · intro d hd
      obtain ⟨k, hk⟩ := List.mem_iff_getElem?.mp hd
      obtain ⟨hk2, rfl⟩ := rgD_at hk
      refine ⟨_, rfl, rfl, ?_⟩
      obtain ⟨b, hb⟩ : ∃ b, s[k]? = some b := ⟨_, List.getElem?_eq_getElem hk2⟩
      have a1 : L2.atI (iL s) (k : Int) = some (.int b) := at_nat (by rw [iL_at, hb]; rfl)
      show fIfE _ _ _ [some (.tup (iL s)), some (.int (0 + k))] [] = some (.int ((dif 0 s).getD (0 + (k : Int)).toNat 0), [])
      rw [Int.zero_add, Int.toNat_natCast, List.getD_eq_getElem?_getD]
      cases k with
      | zero =>
        have e : (dif 0 s)[0]? = some b := by
          cases s with
          | nil => simp at hb
          | cons x xs => simp at hb; subst hb; simp [dif]
        rw [e]
        simp at a1
        generalize iL s = L at *
        simp [a1]
      | succ k =>
        obtain ⟨a, ha⟩ : ∃ a, s[k]? = some a := ⟨_, List.getElem?_eq_getElem (by omega)⟩
        have a2 : L2.atI (iL s) (((k + 1 : Nat) : Int) - 1) = some (.int a) := atI_int (n := k) (by omega) (by rw [iL_at, ha]; rfl)
        rw [dif_succ 0 s k a b ha hb]
        have hp : (0 : Int) < ((k + 1 : Nat) : Int) := by omega
        generalize ((k + 1 : Nat) : Int) = K at *
        generalize iL s = L at *
        simp [a1, a2, hp]
  have hn := nrs_iL (dif 0 s)
  generalize iL (dif 0 s) = R at *
  generalize iL s = L at *
  simp [cfirst_differences, bfirst_differences, runFn, startR, hL, ev_rgh1 _ ok, wipeR, hlc, fin, Mem.nr, D.nr, hn]
end LP
namespace LP
open PySem PySem.Spec PyProof.Rows L2 PF
theorem lc_ints {c : Mem → Bool} {t : FG} {fe : FE} {ρ : Rho} {M : Mem} (f : Int → D) (hc : c M = true) : ∀ (xs : List Int) (acc : List D), (∀ v, v ∈ xs → ∃ ρ', t (.int v) ρ = some ρ' ∧ fe ρ' M = some (f v, M)) → lcLoop c t fYes fe ρ (iL xs) acc M = some (acc ++ xs.map f, M)
  | [], acc, _ => by simp [lcLoop, hc]
  | v :: xs, acc, h => by
    obtain ⟨ρ', h1, h3⟩ := h v (by simp)
    rw [iL_cons, lcLoop, if_pos hc, h1]
    simp only [Option.bind_some]
    rw [ev_yes]
    simp only [Option.bind_some, if_true]
    rw [h3]
    simp only [Option.bind_some]
    rw [lc_ints f hc xs _ fun w hw => h w (List.mem_cons_of_mem _ hw)]
    simp
abbrev pr (z v : Int) : D := .tup [.int z, .int v]
def pk (row : List Int) : List D := row.map fun v => pr (by_ v) v
theorem nrs_map {α : Type} (f : α → D) (h : ∀ a, (f a).nr = true) : ∀ xs : List α, D.nrs (xs.map f) = true
  | [] => rfl
  | x :: xs => by
    show (D.nr (f x) && D.nrs (xs.map f)) = true
    rw [h x, nrs_map f h xs]; rfl
theorem pk_nr (row : List Int) : D.nrs (pk row) = true := nrs_map _ (fun _ => rfl) row
theorem packed_ev {s : List Int} (hl : s.length ≤ 1000) : cpacked_of [.tup (iL s)] [] = some (.tup (pk (dif 0 s)), []) := by
  have h1 := first_ev hl
  have hns := nrs_iL s
  have hlc : lcLoop (chk none (iL (dif 0 s))) (tN 1) fYes (fTup (fCons (fCall qbytes_of (fCons (fVar 1) (fNil))) (fCons (fVar 1) (fNil)))) [some (.tup (iL s)), none] (iL (dif 0 s)) [] [] = some (pk (dif 0 s), []) := by
    rw [lc_ints (fun v => pr (by_ v) v) rfl (dif 0 s) [], List.nil_append]; rfl
    intro v _
    exact ⟨_, rfl, by simp [callP, argsP, anyRef, qbytes_of, bytes_ev]⟩
  have hn := pk_nr (dif 0 s)
  generalize pk (dif 0 s) = R at *
  generalize iL (dif 0 s) = R1 at *
  generalize iL s = L at *
  simp [cpacked_of, bpacked_of, runFn, startR, callP, argsP, hns, anyRef, qfirst_differences, h1, fiSq, wipeR, hlc, fin, Mem.nr, D.nr, hn]
def bts (row : List Int) : Int := (row.map fun v => 8 * by_ v + 2).sum
theorem mulL (v : Int) : okMul 8 v = true := okMul_l (by decide)
theorem blc (d : D) (row : List Int) : lcLoop (chk none (iL row)) (tN 1) fYes (f2 gAdd (f2 gMul (fC (.int 8)) (fCall qbytes_of (fCons (fVar 1) (fNil)))) (fC (.int 2))) [some d, none] (iL row) [] [] = some (iL (row.map fun v => 8 * by_ v + 2), []) := by
  rw [lc_ints (fun v => .int (8 * by_ v + 2)) rfl row [], List.nil_append]
  · simp [iL]
  · intro v _
    exact ⟨_, rfl, by simp [callP, argsP, anyRef, qbytes_of, bytes_ev, mulL]⟩
theorem bitsT (row : List Int) : cbits_for [.tup (iL row)] [] = some (.int (bts row), []) := by
  have h := blc (.tup (iL row)) row
  have e := intsOf_iL (row.map fun v => 8 * by_ v + 2)
  unfold bts
  generalize iL (row.map fun v => 8 * by_ v + 2) = R at *
  generalize iL row = L at *
  simp [cbits_for, bbits_for, runFn, startR, fiSq, wipeR, h, e, fin, Mem.nr, D.nr]
theorem bitsL (row : List Int) : cbits_for [.lst (iL row)] [] = some (.int (bts row), []) := by
  have h := blc (.lst (iL row)) row
  have e := intsOf_iL (row.map fun v => 8 * by_ v + 2)
  unfold bts
  generalize iL (row.map fun v => 8 * by_ v + 2) = R at *
  generalize iL row = L at *
  simp [cbits_for, bbits_for, runFn, startR, fiSq, wipeR, h, e, fin, Mem.nr, D.nr]
theorem bitsof_ev {s : List Int} (hl : s.length ≤ 1000) : cbits_of [.tup (iL s)] [] = some (.int (bts (dif 0 s)), []) := by
  have h1 := first_ev hl
  have h2 := bitsL (dif 0 s)
  have hns := nrs_iL s
  have hnd := nrs_iL (dif 0 s)
  generalize iL (dif 0 s) = R1 at *
  generalize iL s = L at *
  simp [cbits_of, bbits_of, runFn, startR, callP, argsP, hns, hnd, anyRef, qfirst_differences, h1, qbits_for, h2, fin, Mem.nr, D.nr]
/-! unpacked -/
def prs (ps : List (Int × Int)) : List D := ps.map fun p => pr p.1 p.2
def bad (z v : Int) : Bool := decide (z ≠ by_ v) || !(decide (-2147483648 ≤ v) && decide (v ≤ 2147483647))
def unp : Int → List (Int × Int) → Option (List Int)
  | _, [] => some []
  | t, (z, v) :: r => if bad z v = true then none else (unp (t + v) r).map ((t + v) :: ·)
def unD (o : Option (List Int)) : D := match o with | none => .non | some l => .tup (iL l)
def unpStep : FS := (sSeq (sIf (fOr (f2T (gNe) (fVar 3) (fCall qbytes_of (fCons (fVar 4) (fNil)))) (fNot (fChainT (gCmp fun i j => decide (i ≤ j)) (gCmp fun i j => decide (i ≤ j)) (fC (.int (-2147483648))) (fVar 4) (fC (.int (2147483647))))))
      (sRet (fC .non))
      (sNext))
      (sSeq (sAug 2 gIAddA (fVar 4))
      (sDrop (fM "list" gAppend (fVar 1) (fCons (fVar 2) (fNil))))))
theorem step_bad (d0 : D) (z v t : Int) (f : List Int) (x3 x4 : Option D) (h : bad z v = true) : sStep (tT 2 (tsC (tN 3) (tsC (tN 4) (tsN)))) unpStep (pr z v) [some d0, some (.ref 0), some (.int t), x3, x4] [.lst (iL f)] = some (.ret .non, [.lst (iL f)]) := by
  unfold bad at h
  generalize iL f = L
  by_cases h0 : z = by_ v
  · by_cases h1 : -2147483648 ≤ v
    · by_cases h2 : v ≤ 2147483647
      · simp [h0, h1, h2] at h
      · have h1' : ¬ (v < -2147483648) := by omega
        have h2' : 2147483647 < v := by omega
        unfold unpStep; simp [callP, argsP, anyRef, qbytes_of, bytes_ev, h0, ev_chainT, h1, h2]
    · have h1' : v < -2147483648 := by omega
      unfold unpStep; simp [callP, argsP, anyRef, qbytes_of, bytes_ev, h0, ev_chainT, h1]
  · unfold unpStep; simp [callP, argsP, anyRef, qbytes_of, bytes_ev, h0]
theorem step_good (d0 : D) (z v t : Int) (f : List Int) (x3 x4 : Option D) (hf : f.length < 1000) (h : bad z v = false) : sStep (tT 2 (tsC (tN 3) (tsC (tN 4) (tsN)))) unpStep (pr z v) [some d0, some (.ref 0), some (.int t), x3, x4] [.lst (iL f)] = some (.nx [some d0, some (.ref 0), some (.int (t + v)), some (.int z), some (.int v)], [.lst (iL (f ++ [t + v]))]) := by
  unfold bad at h
  have e1 : iL (f ++ [t + v]) = iL f ++ [.int (t + v)] := by simp [iL]
  have hlt : (iL f).length < LINE := by rw [iL_len]; show f.length < 16777216; omega
  rw [e1]
  generalize iL f = L at *
  have h0 : z = by_ v := by
    by_cases h0 : z = by_ v
    · exact h0
    · simp [h0] at h
  simp [h0] at h
  have h1' : ¬ (v < -2147483648) := by omega
  have h2' : ¬ (2147483647 < v) := by omega
  unfold unpStep; simp [callP, argsP, anyRef, qbytes_of, bytes_ev, h0, ev_chainT, h.1, h.2, hlt]
theorem unp_loop (d0 : D) (S : FS) (hS : S = unpStep) (C : List D) : ∀ (ps : List (Int × Int)) (t : Int) (f : List Int) (x3 x4 : Option D), f.length + ps.length ≤ 1000 →
    (unp t ps = none → ∃ g : List Int, sLoop (chk none C) (sStep (tT 2 (tsC (tN 3) (tsC (tN 4) (tsN)))) S) (prs ps) [some d0, some (.ref 0), some (.int t), x3, x4] [.lst (iL f)] = some (.ret .non, [.lst (iL g)])) ∧
    (∀ l, unp t ps = some l → ∃ x2 y3 y4, sLoop (chk none C) (sStep (tT 2 (tsC (tN 3) (tsC (tN 4) (tsN)))) S) (prs ps) [some d0, some (.ref 0), some (.int t), x3, x4] [.lst (iL f)] = some (.nx [some d0, some (.ref 0), x2, y3, y4], [.lst (iL (f ++ l))]))
  | [], t, f, x3, x4, _ => ⟨(fun h => by cases h), fun l h => by cases h; exact ⟨some (.int t), x3, x4, by simp [prs, sLoop]⟩⟩
  | (z, v) :: ps, t, f, x3, x4, hl => by
    simp at hl
    cases hb : bad z v with
    | true =>
      have hs : sStep (tT 2 (tsC (tN 3) (tsC (tN 4) (tsN)))) S (pr z v) [some d0, some (.ref 0), some (.int t), x3, x4] [.lst (iL f)] = some (.ret .non, [.lst (iL f)]) := by
        subst hS
        exact step_bad d0 z v t f x3 x4 hb
      refine ⟨fun _ => ⟨f, ?_⟩, fun l h => by rw [unp, if_pos hb] at h; cases h⟩
      show sLoop _ _ (pr z v :: prs ps) _ _ = _
      rw [sLoop, ev_chk0, if_pos rfl, hs]; rfl
    | false =>
      have hs : sStep (tT 2 (tsC (tN 3) (tsC (tN 4) (tsN)))) S (pr z v) [some d0, some (.ref 0), some (.int t), x3, x4] [.lst (iL f)] = some (.nx [some d0, some (.ref 0), some (.int (t + v)), some (.int z), some (.int v)], [.lst (iL (f ++ [t + v]))]) := by
        subst hS
        exact step_good d0 z v t f x3 x4 (by omega) hb
      obtain ⟨i1, i2⟩ := unp_loop d0 S hS C ps (t + v) (f ++ [t + v]) (some (.int z)) (some (.int v)) (by simp; omega)
      have hgo : ∀ r, sLoop (chk none C) (sStep (tT 2 (tsC (tN 3) (tsC (tN 4) (tsN)))) S) (prs ps) [some d0, some (.ref 0), some (.int (t + v)), some (.int z), some (.int v)] [.lst (iL (f ++ [t + v]))] = r → sLoop (chk none C) (sStep (tT 2 (tsC (tN 3) (tsC (tN 4) (tsN)))) S) (prs ((z, v) :: ps)) [some d0, some (.ref 0), some (.int t), x3, x4] [.lst (iL f)] = r := by
        intro r hr
        show sLoop _ _ (pr z v :: prs ps) _ _ = _
        rw [sLoop, ev_chk0, if_pos rfl, hs]; exact hr
      refine ⟨fun h => ?_, fun l h => ?_⟩
      · rw [unp, if_neg (by rw [hb]; decide)] at h
        obtain ⟨g, hg⟩ := i1 (Option.map_eq_none_iff.mp h)
        exact ⟨g, hgo _ hg⟩
      · rw [unp, if_neg (by rw [hb]; decide)] at h
        obtain ⟨l', h1, rfl⟩ := Option.map_eq_some_iff.mp h
        obtain ⟨x2, y3, y4, hg⟩ := i2 l' h1
        exact ⟨x2, y3, y4, by rw [hgo _ hg]; simp⟩
theorem unpacked_ev (ps : List (Int × Int)) (hl : ps.length ≤ 1000) : cunpacked [.tup (prs ps)] [] = some (unD (unp 0 ps), []) := by
  have a := unp_loop (.tup (prs ps)) unpStep rfl (prs ps) ps 0 [] none none (by simpa using hl)
  unfold unpStep at a
  rw [iL_nil] at a
  cases h : unp 0 ps with
  | none =>
    obtain ⟨g, ha⟩ := a.1 h
    have n1 := nrs_iL g
    generalize prs ps = P at *
    generalize iL g = G at *
    simp [cunpacked, bunpacked, runFn, startR, fiSq, ha, fin, Mem.nr, MO.nr, n1, D.nr, unD]
  | some l =>
    obtain ⟨x2, y3, y4, ha⟩ := a.2 l h
    rw [List.nil_append] at ha
    have n1 := nrs_iL l
    unfold unD
    generalize prs ps = P at *
    simp only
    generalize iL l = G at *
    simp [cunpacked, bunpacked, runFn, startR, fiSq, ha, fin, Mem.nr, MO.nr, n1, D.nr]
end LP
namespace LP
open PySem PySem.Spec PyProof.Rows L2 PF
/-! runs -/
def rl : Int → Int → List Int → List (Int × Int)
  | n, c, [] => [(n, c)]
  | n, c, x :: xs => if x = c then rl (n + 1) c xs else (n, c) :: rl 1 x xs
def rle : List Int → List (Int × Int)
  | [] => []
  | x :: xs => rl 1 x xs
theorem rl_len : ∀ (xs : List Int) (n c : Int), (rl n c xs).length ≤ xs.length + 1
  | [], _, _ => by simp [rl]
  | x :: xs, n, c => by
    rw [rl]; split
    · have := rl_len xs (n + 1) c; simp; omega
    · have := rl_len xs 1 x; simp; omega
theorem rle_len (xs : List Int) : (rle xs).length ≤ xs.length := by
  cases xs with
  | nil => simp [rle]
  | cons x xs => have := rl_len xs 1 x; simp [rle]; omega
theorem atI_last {α} (L : List α) (d : α) : L2.atI (L ++ [d]) (-1) = some d := by
  rw [atI_eq]
  unfold L2.ixN
  rw [if_neg (by omega), if_pos (by simp; omega)]
  have : (-1 + ((L ++ [d]).length : Int)).toNat = L.length := by simp; omega
  rw [this]; simp
theorem ixN_last {α} (L : List α) (d : α) : L2.ixN (L ++ [d]).length (-1) = some L.length := by
  unfold L2.ixN
  rw [if_neg (by omega), if_pos (by simp; omega)]
  have : (-1 + ((L ++ [d]).length : Int)).toNat = L.length := by simp; omega
  rw [this]
def runStep : FS := (sIf (fAnd (f2T (gCmp fun i j => decide (j < i)) (fB gLen (fCons (fVar 1) (fNil))) (fC (.int 0))) (f2T (gEq) (f2 gIx (f2 gIx (fVar 1) (f1 gNeg (fC (.int 1)))) (fC (.int 1))) (fVar 2)))
      (sSetIx (fTup (fCons (f2 gAdd (f2 gIx (f2 gIx (fVar 1) (f1 gNeg (fC (.int 1)))) (fC (.int 0))) (fC (.int 1))) (fCons (fVar 2) (fNil)))) (fVar 1) (f1 gNeg (fC (.int 1))))
      (sDrop (fM "list" gAppend (fVar 1) (fCons (fTup (fCons (fC (.int 1)) (fCons (fVar 2) (fNil)))) (fNil)))))
theorem prs_app (a b : List (Int × Int)) : prs (a ++ b) = prs a ++ prs b := by simp [prs]
theorem prs_len (a : List (Int × Int)) : (prs a).length = a.length := by simp [prs]
theorem run_loop (d0 : D) (C : List D) : ∀ (xs : List Int) (pre : List (Int × Int)) (n c : Int) (x2 : Option D), pre.length + xs.length ≤ 2000 → ∃ y2, sLoop (chk none C) (sStep (tN 2) runStep) (iL xs) [some d0, some (.ref 0), x2] [.lst (prs (pre ++ [(n, c)]))] = some (.nx [some d0, some (.ref 0), y2], [.lst (prs (pre ++ rl n c xs))])
  | [], pre, n, c, x2, _ => ⟨x2, by simp [sLoop, rl]⟩
  | x :: xs, pre, n, c, x2, hl => by
    simp at hl
    have hlast : L2.atI (prs (pre ++ [(n, c)])) (-1) = some (pr n c) := by rw [prs_app]; exact atI_last _ _
    have hix : L2.ixN (prs (pre ++ [(n, c)])).length (-1) = some pre.length := by
      rw [prs_app]
      have := ixN_last (prs pre) (pr n c)
      rw [prs_len] at this
      exact this
    have hlen : (0 : Int) < ((prs (pre ++ [(n, c)])).length : Int) := by rw [prs_len, List.length_append, List.length_singleton]; omega
    have hlt : (prs (pre ++ [(n, c)])).length < LINE := by rw [prs_len, List.length_append, List.length_singleton]; show _ < 16777216; omega
    by_cases h : x = c
    · obtain ⟨y2, e⟩ := run_loop d0 C xs pre (n + 1) c (some (.int x)) (by omega)
      refine ⟨y2, ?_⟩
      have hset : (prs (pre ++ [(n, c)])).set pre.length (pr (n + 1) x) = prs (pre ++ [(n + 1, c)]) := by
        rw [prs_app, prs_app, List.set_append_right _ _ (by rw [prs_len]; omega), prs_len, h]; simp [prs]
      rw [iL_cons, sLoop, ev_chk0, if_pos rfl, rl, if_pos h]
      have hstep : sStep (tN 2) runStep (.int x) [some d0, some (.ref 0), x2] [.lst (prs (pre ++ [(n, c)]))] = some (.nx [some d0, some (.ref 0), some (.int x)], [.lst (prs (pre ++ [(n + 1, c)]))]) := by
        rw [← hset]
        unfold runStep
        generalize prs (pre ++ [(n, c)]) = L at *
        have hlen' : L ≠ [] := by rintro rfl; simp at hlen
        have hlen'' : 0 < L.length := List.length_pos_iff.mpr hlen'
        simp [hlen'', hlast, h, hix, hlt]
      rw [hstep]; exact e
    · obtain ⟨y2, e⟩ := run_loop d0 C xs (pre ++ [(n, c)]) 1 x (some (.int x)) (by simp; omega)
      refine ⟨y2, ?_⟩
      have happ : prs (pre ++ [(n, c)] ++ [(1, x)]) = prs (pre ++ [(n, c)]) ++ [pr 1 x] := by rw [prs_app]; rfl
      rw [iL_cons, sLoop, ev_chk0, if_pos rfl, rl, if_neg h]
      have hstep : sStep (tN 2) runStep (.int x) [some d0, some (.ref 0), x2] [.lst (prs (pre ++ [(n, c)]))] = some (.nx [some d0, some (.ref 0), some (.int x)], [.lst (prs (pre ++ [(n, c)] ++ [(1, x)]))]) := by
        rw [happ]
        unfold runStep
        generalize prs (pre ++ [(n, c)]) = L at *
        have hlen' : L ≠ [] := by rintro rfl; simp at hlen
        have hlen'' : 0 < L.length := List.length_pos_iff.mpr hlen'
        have h' : ¬ (c = x) := fun z => h z.symm
        simp [hlen'', hlast, h', hlt]
      rw [hstep]
      have e2 : pre ++ (n, c) :: rl 1 x xs = pre ++ [(n, c)] ++ rl 1 x xs := by simp
      rw [e2]; exact e
theorem prs_nr (ps : List (Int × Int)) : D.nrs (prs ps) = true := nrs_map _ (fun _ => rfl) ps
theorem runs_ev {s : List Int} (hl : s.length ≤ 1000) : cruns_packed [.tup (iL s)] [] = some (.tup (prs (rle s)), []) := by
  have main : ∃ y2, sLoop (chk none (iL s)) (sStep (tN 2) runStep) (iL s) [some (.tup (iL s)), some (.ref 0), none] [.lst []] = some (.nx [some (.tup (iL s)), some (.ref 0), y2], [.lst (prs (rle s))]) := by
    cases s with
    | nil => exact ⟨none, by simp [sLoop, rle, prs]⟩
    | cons x xs =>
      obtain ⟨y2, e⟩ := run_loop (.tup (iL (x :: xs))) (iL (x :: xs)) xs [] 1 x (some (.int x)) (by simp at hl; simp; omega)
      refine ⟨y2, ?_⟩
      rw [show sLoop (chk none (iL (x :: xs))) (sStep (tN 2) runStep) (iL (x :: xs)) = sLoop (chk none (iL (x :: xs))) (sStep (tN 2) runStep) (.int x :: iL xs) from rfl]
      rw [sLoop, ev_chk0, if_pos rfl]
      generalize iL (x :: xs) = L at *
      have hstep : sStep (tN 2) runStep (.int x) [some (.tup L), some (.ref 0), none] [.lst []] = some (.nx [some (.tup L), some (.ref 0), some (.int x)], [.lst (prs ([] ++ [(1, x)]))]) := by
        unfold runStep
        have l0 : (0 : Nat) < LINE := by decide
        simp [l0, prs]
      rw [hstep]
      exact e
  obtain ⟨y2, e⟩ := main
  unfold runStep at e
  have hn := prs_nr (rle s)
  generalize prs (rle s) = R at *
  generalize iL s = L at *
  simp [cruns_packed, bruns_packed, runFn, startR, fiSq, e, fin, Mem.nr, MO.nr, hn, D.nr]
theorem saved_ev {s : List Int} (hl : s.length ≤ 1000) : csaved_by_runs [.tup (iL s)] [] = some (.int ((s.length : Int) - ((rle s).length : Int)), []) := by
  have h := runs_ev hl
  have hL : (iL s).length = s.length := iL_len s
  have hR : (prs (rle s)).length = (rle s).length := prs_len _
  have hn := nrs_iL s
  have hn2 := prs_nr (rle s)
  generalize prs (rle s) = R at *
  generalize iL s = L at *
  simp [csaved_by_runs, bsaved_by_runs, runFn, startR, callP, argsP, hn, anyRef, qruns_packed, h, hL, hR, fin, Mem.nr, D.nr]
/-! the law's own runs -/
def run (c : Int) : List Int → Nat
  | [] => 0
  | x :: xs => if x = c then 1 + run c xs else 0
theorem run_at : ∀ {c : Int} {xs : List Int} {j : Nat}, j < run c xs → xs[j]? = some c
  | c, [], j, h => by simp [run] at h
  | c, x :: xs, j, h => by
    rw [run] at h
    split at h
    · rename_i hx
      cases j with
      | zero => simp [hx]
      | succ j => simpa using run_at (xs := xs) (j := j) (by omega)
    · omega
theorem run_stop : ∀ {c : Int} {xs : List Int} {y : Int}, xs[run c xs]? = some y → y ≠ c
  | c, [], y, h => by simp [run] at h
  | c, x :: xs, y, h => by
    rw [run] at h
    split at h
    · rw [show 1 + run c xs = run c xs + 1 by omega] at h
      exact run_stop (xs := xs) (by simpa using h)
    · rename_i hx
      simp at h
      rw [← h]; exact hx
theorem run_le : ∀ (c : Int) (xs : List Int), run c xs ≤ xs.length
  | c, [] => by simp [run]
  | c, x :: xs => by
    have := run_le c xs
    rw [run]; split <;> simp <;> omega
theorem rl_run : ∀ (xs : List Int) (n c : Int), rl n c xs = (n + (run c xs : Nat), c) :: rle (xs.drop (run c xs))
  | [], n, c => by simp [rl, run, rle]
  | x :: xs, n, c => by
    rw [rl, run]
    split
    · rename_i h
      rw [rl_run xs (n + 1) c, show 1 + run c xs = run c xs + 1 by omega, List.drop_succ_cons]
      congr 2
      omega
    · simp [rle]
end LP
namespace LP
open PySem PySem.Spec PyProof.Rows L2 PF
def sec (row : List Int) : List Int := (List.range row.length).map fun k => if 1 < k then row.getD k 0 - row.getD (k - 1) 0 else row.getD k 0
theorem sec_len (row : List Int) : (sec row).length = row.length := by simp [sec]
theorem sec_at {row : List Int} {k : Nat} (hk : k < row.length) : (sec row)[k]? = some (if 1 < k then row.getD k 0 - row.getD (k - 1) 0 else row.getD k 0) := by
  unfold sec
  rw [List.getElem?_map, List.getElem?_range hk]; rfl
theorem at_d {row : List Int} {k : Nat} (hk : k < row.length) : L2.atI (iL row) (k : Int) = some (.int (row.getD k 0)) := at_nat (by
  rw [iL_at, List.getD_eq_getElem?_getD, List.getElem?_eq_getElem hk]; rfl)
theorem second_ev {s : List Int} (hl : s.length ≤ 1000) : csecond_differences [.tup (iL s)] [] = some (.tup (iL (sec (dif 0 s))), []) := by
  have h1 := first_ev hl
  have hdl := dif_len 0 s
  obtain ⟨row, er⟩ : ∃ row, dif 0 s = row := ⟨_, rfl⟩
  rw [er] at h1 hdl ⊢
  have hL : (iL row).length = row.length := iL_len row
  have ok : okR 0 (row.length : Int) = true := okR_of (by omega) (by omega) (by omega) (by omega)
  let g : D → D := fun d => match d with | .int k => .int ((sec row).getD k.toNat 0) | d => d
  have hlc : lcLoop (chk none (rgD 0 row.length)) (tN 2) fYes (fIfE (f2T (gCmp fun i j => decide (j < i)) (fVar 2) (fC (.int 1))) (f2 gSub (f2 gIx (fVar 1) (fVar 2)) (f2 gIx (fVar 1) (f2 gSub (fVar 2) (fC (.int 1))))) (f2 gIx (fVar 1) (fVar 2))) [some (.tup (iL s)), some (.lst (iL row)), none] (rgD 0 row.length) [] [] = some (iL (sec row), []) := by
    rw [lc_map g rfl (rgD 0 row.length) [] ?_, List.nil_append, map_rg (xs := iL (sec row)) g (by rw [iL_len, sec_len]) ?_]
    · intro k d hd
      rw [iL_at] at hd
      obtain ⟨v, hv, rfl⟩ := Option.map_eq_some_iff.mp hd
      show D.int ((sec row).getD (k : Int).toNat 0) = _
      rw [Int.toNat_natCast, List.getD_eq_getElem?_getD, hv]; rfl
    · intro d hd
      obtain ⟨k, hk⟩ := List.mem_iff_getElem?.mp hd
      obtain ⟨hk2, rfl⟩ := rgD_at hk
      refine ⟨_, rfl, rfl, ?_⟩
      have a1 := at_d hk2
      show fIfE _ _ _ [some (.tup (iL s)), some (.lst (iL row)), some (.int (0 + k))] [] = some (.int ((sec row).getD (0 + (k : Int)).toNat 0), [])
      rw [Int.zero_add, Int.toNat_natCast, List.getD_eq_getElem?_getD, sec_at hk2]
      by_cases h : 1 < k
      · have a2 : L2.atI (iL row) ((k : Int) - 1) = some (.int (row.getD (k - 1) 0)) := by
          have := at_d (row := row) (k := k - 1) (by omega)
          rw [show ((k - 1 : Nat) : Int) = (k : Int) - 1 by omega] at this
          exact this
        have hI : (1 : Int) < (k : Int) := by omega
        rw [if_pos h]
        generalize iL row = L at *
        generalize iL s = L' at *
        generalize row.getD k 0 = p at *
        generalize row.getD (k - 1) 0 = q at *
        simp [a1, a2, hI]
      · have hI : ¬ ((1 : Int) < (k : Int)) := by omega
        rw [if_neg h]
        generalize iL row = L at *
        generalize iL s = L' at *
        generalize row.getD k 0 = p at *
        simp [a1, hI]
  have hn := nrs_iL (sec row)
  have hns := nrs_iL s
  have hnr := nrs_iL row
  generalize iL (sec row) = R at *
  generalize iL row = R1 at *
  generalize iL s = L at *
  simp [csecond_differences, bsecond_differences, runFn, startR, callP, argsP, hns, anyRef, qfirst_differences, h1, hL, ev_rgh1 _ ok, wipeR, hlc, fin, Mem.nr, D.nr, hn]
theorem cut_take2 (L : List D) : PF.cutD L none (some 2) = L.take 2 := by
  unfold PF.cutD
  show (L.drop 0).take (min (2 : Int).toNat L.length - 0) = L.take 2
  rw [List.drop_zero, Nat.sub_zero]
  apply List.ext_getElem?
  intro i
  rw [List.getElem?_take, List.getElem?_take]
  have : (2 : Int).toNat = 2 := rfl
  rw [this]
  by_cases h : i < 2
  · rw [if_pos h]
    by_cases h2 : i < min 2 L.length
    · rw [if_pos h2]
    · rw [if_neg h2, List.getElem?_eq_none (by omega)]
  · rw [if_neg h, if_neg (by omega)]
theorem add_lst (a b : List D) (M : Mem) (h : a.length + b.length ≤ LINE) : gAdd (.lst a) (.lst b) M = some (.lst (a ++ b)) := by
  unfold gAdd
  show (if a.length + b.length ≤ LINE then some (D.lst (a ++ b)) else none) = _
  rw [if_pos h]
end LP
namespace LP
open PySem PySem.Spec PyProof.Rows L2 PF
/-! the best order -/
def arg3 (a b c : Int) : Int := if b < a then (if c < b then 2 else 1) else (if c < a then 2 else 0)
theorem lt_pr (a i b j : Int) : PySem.W.dataLt (pr a i).py (pr b j).py = (decide (a < b) || (!decide (b < a) && decide (i < j))) := by
  unfold PySem.W.dataLt
  have h : ∀ x y : Int, PyProof.Rows.itemLt (Sum.inl x) (Sum.inl y) = decide (x < y) := fun _ _ => rfl
  simp [D.py, D.pys, PySem.W.keyToks, PySem.W.keyToksAll, PyProof.Rows.lexLt, h]
theorem lt_int (a b : Int) : PySem.W.dataLt (D.int a).py (D.int b).py = decide (a < b) := PySem.W.dataLt_int a b
theorem okAl3 (a b c : Int) : okAl [pr a 0, pr b 1, pr c 2] = true := by
  simp [okAl, D.nls, D.nl, D.dps, D.dp, D.py, D.pys, PySem.W.alike, PySem.W.alikeAll, isNon]
theorem okAl3i (a b c : Int) : okAl [.int a, .int b, .int c] = true := by
  simp [okAl, D.nls, D.nl, D.dps, D.dp, D.py, D.pys, PySem.W.alike, PySem.W.alikeAll, isNon]
theorem min_pr (a b c : Int) (M : Mem) : gMin1 [.lst [pr a 0, pr b 1, pr c 2]] M = some (pr (if b < a then (if c < b then c else b) else (if c < a then c else a)) (arg3 a b c)) := by
  have e : gMin1 [.lst [pr a 0, pr b 1, pr c 2]] M = if okAl [pr a 0, pr b 1, pr c 2] = true then some (minDd (pr a 0) [pr b 1, pr c 2]) else none := rfl
  rw [e, if_pos (okAl3 a b c)]
  unfold minDd
  simp only [List.foldl_cons, List.foldl_nil]
  rw [lt_pr]
  unfold arg3
  by_cases h1 : b < a
  · have : (decide (b < a) || (!decide (a < b) && decide ((1:Int) < 0))) = true := by simp [h1]
    rw [if_pos this, lt_pr, if_pos h1, if_pos h1]
    by_cases h2 : c < b
    · rw [if_pos (by simp [h2]), if_pos h2, if_pos h2]
    · rw [if_neg (by simp [h2]), if_neg h2, if_neg h2]
  · have : ¬ ((decide (b < a) || (!decide (a < b) && decide ((1:Int) < 0))) = true) := by simp [h1]
    rw [if_neg this, lt_pr, if_neg h1, if_neg h1]
    by_cases h2 : c < a
    · rw [if_pos (by simp [h2]), if_pos h2, if_pos h2]
    · rw [if_neg (by simp [h2]), if_neg h2, if_neg h2]
theorem min_int (a b c : Int) (M : Mem) : gMin1 [.lst [.int a, .int b, .int c]] M = some (.int (if b < a then (if c < b then c else b) else (if c < a then c else a))) := by
  have e : gMin1 [.lst [.int a, .int b, .int c]] M = if okAl [.int a, .int b, .int c] = true then some (minDd (.int a) [.int b, .int c]) else none := rfl
  rw [e, if_pos (okAl3i a b c)]
  unfold minDd
  simp only [List.foldl_cons, List.foldl_nil]
  rw [lt_int]
  by_cases h1 : b < a
  · rw [if_pos (decide_eq_true h1), lt_int, if_pos h1]
    by_cases h2 : c < b
    · rw [if_pos (decide_eq_true h2), if_pos h2]
    · rw [if_neg (by simp [h2]), if_neg h2]
  · have hf : ¬ (decide (b < a) = true) := by simp [h1]
    rw [if_neg hf, lt_int, if_neg h1]
    by_cases h2 : c < a
    · rw [if_pos (decide_eq_true h2), if_pos h2]
    · rw [if_neg (by simp [h2]), if_neg h2]
theorem idx_int (a b c : Int) (M : Mem) : gIndex (.lst [.int a, .int b, .int c]) [.int (if b < a then (if c < b then c else b) else (if c < a then c else a))] M = some (.int (arg3 a b c), M) := by
  have e : ∀ y, gIndex (.lst [.int a, .int b, .int c]) [.int y] M = (findI (fun z => decide (z = y)) [a, b, c]).map fun (j : Nat) => (.int (j : Int), M) := fun _ => rfl
  rw [e]
  unfold arg3
  by_cases h1 : b < a
  · rw [if_pos h1, if_pos h1]
    by_cases h2 : c < b
    · have x1 : ¬ a = c := by omega
      have x2 : ¬ b = c := by omega
      simp [h2, findI, x1, x2]
    · have x1 : ¬ a = b := by omega
      simp [h2, findI, x1]
  · rw [if_neg h1, if_neg h1]
    by_cases h2 : c < a
    · have x1 : ¬ a = c := by omega
      have x2 : ¬ b = c := by omega
      simp [h2, findI, x1, x2]
    · simp [h2, findI]
theorem best_ev {s : List Int} (hl : s.length ≤ 1000) : cbest_order [.tup (iL s)] [] = some (.int (arg3 (bts s) (bts (dif 0 s)) (bts (sec (dif 0 s)))), []) := by
  have h1 := first_ev hl
  have h2 := second_ev hl
  have b0 := bitsT s
  have b1 := bitsL (dif 0 s)
  have b2 := bitsT (sec (dif 0 s))
  have n0 := nrs_iL s
  have n1 := nrs_iL (dif 0 s)
  have n2 := nrs_iL (sec (dif 0 s))
  have ok : okR 0 3 = true := by decide
  generalize bts s = p0 at *
  generalize bts (dif 0 s) = p1 at *
  generalize bts (sec (dif 0 s)) = p2 at *
  generalize iL (sec (dif 0 s)) = R2 at *
  generalize iL (dif 0 s) = R1 at *
  generalize iL s = L at *
  have hrg : rgD 0 3 = [.int 0, .int 1, .int 2] := rfl
  have hlc : lcLoop (chk none (rgD 0 3)) (tN 2) fYes (fTup (fCons (fCall qbits_for (fCons (f2 gIx (fVar 1) (fVar 2)) (fNil))) (fCons (fVar 2) (fNil)))) [some (.tup L), some (.lst [.tup L, .lst R1, .tup R2]), none] (rgD 0 3) [] [] = some ([pr p0 0, pr p1 1, pr p2 2], []) := by
    rw [hrg]
    simp [lcLoop, callP, argsP, n0, n1, n2, anyRef, qbits_for, b0, b1, b2]
  have hm := min_pr p0 p1 p2
  simp [cbest_order, bbest_order, runFn, startR, callP, argsP, n0, anyRef, qfirst_differences, h1, qsecond_differences, h2, ev_rgh1 _ ok, wipeR, hlc, hm, fin, Mem.nr, D.nr]
/-! the samples -/
theorem cell_c0 {ns xs : List Int} (hl : ns.length ≤ 63) (M : Mem) : ∃ (i : Int) (ys : List Int), callS 1 c_law_cell [.kst (iL ns), .ref 0] (.lst (iL xs) :: M) = some (.int i, .lst (iL ys) :: M) := by
  obtain ⟨i, ys, h⟩ := cell_ev ns xs hl
  refine ⟨i, ys, ?_⟩
  have hn := nrs_iL xs
  have hn' := nrs_iL ys
  have hk := nrs_iL ns
  generalize iL ns = L at *
  simp [callS, MO.nr, hn, hn', refIn, argsP, argP, D.nr, hk, h, anyRef, D.isRef, D.nl]
def small (v : Int) : Prop := -2147483648 ≤ v ∧ v ≤ 2147483647
theorem dif_snoc : ∀ (f : List Int) (l0 x : Int), dif l0 (f ++ [x]) = dif l0 f ++ [x - f.getLastD l0]
  | [], l0, x => rfl
  | y :: f, l0, x => by
    show (y - l0) :: dif y (f ++ [x]) = (y - l0) :: dif y f ++ [x - (y :: f).getLastD l0]
    rw [dif_snoc f y x]
    cases f <;> rfl
theorem at10 {i : Int} {α} {a0 a1 a2 a3 a4 a5 a6 a7 a8 a9 : α} (h : 0 ≤ i ∧ i < 10) : ∃ x, L2.atI [a0, a1, a2, a3, a4, a5, a6, a7, a8, a9] i = some x ∧ x ∈ [a0, a1, a2, a3, a4, a5, a6, a7, a8, a9] := by
  obtain ⟨n, rfl⟩ : ∃ n : Nat, i = n := ⟨i.toNat, by omega⟩
  have hn : n < [a0, a1, a2, a3, a4, a5, a6, a7, a8, a9].length := by simp; omega
  exact ⟨_, at_nat (List.getElem?_eq_getElem hn), List.getElem_mem hn⟩
end LP
namespace LP
open PySem PySem.Spec PyProof.Rows L2 PF
def sampStep : FS := (sSeq (sSet 7 (f2 gIx (fFz (fLstD (fCons (fC (.int 0)) (fCons (fC (.int 127)) (fCons (f1 gNeg (fC (.int 128))) (fCons (fC (.int 128)) (fCons (f1 gNeg (fC (.int 129))) (fCons (fC (.int 32767)) (fCons (f1 gNeg (fC (.int 32768))) (fCons (fC (.int 32768)) (fCons (f1 gNeg (fC (.int 32769))) (fCons (fC (.int 2000000)) (fNil))))))))))))) (fCallS 0 q_law_take (fCons (fVar 0) (fCons (fC (.int 10)) (fNil))))))
      (sSeq (sSet 8 (f2 gIx (fFz (fLstD (fCons (f2 gSub (fCallS 0 q_law_take (fCons (fVar 0) (fCons (fC (.int 5)) (fNil)))) (fC (.int 2))) (fCons (f2 gSub (fCallS 0 q_law_take (fCons (fVar 0) (fCons (fC (.int 300)) (fNil)))) (fC (.int 150))) (fCons (fVar 7) (fCons (f2 gSub (f2 gMod (fCallS 1 q_law_cell (fCons (fVar 1) (fCons (fVar 0) (fNil)))) (fC (.int 100000))) (fC (.int 50000))) (fNil))))))) (fVar 3)))
      (sSeq (sIf (f2T (gEq) (fCallS 0 q_law_take (fCons (fVar 0) (fCons (fC (.int 3)) (fNil)))) (fC (.int 0)))
      (sSet 8 (fC (.int 0)))
      (sNext))
      (sSeq (sSet 5 (f2 gAdd (fVar 5) (fVar 8)))
      (sDrop (fM "list" gAppend (fVar 4) (fCons (fVar 5) (fNil))))))))
theorem samp_step {ns : List Int} (hl : ns.length ≤ 63) (many style : Int) (hst : 0 ≤ style ∧ style < 4) (xs f : List Int) (l : Int) (k0 : D) (x6 x7 x8 : Option D) (hf : f.length ≤ 900) :
    ∃ (step : Int) (ys : List Int) (y7 y8 : Option D), small step ∧ sStep (tN 6) sampStep k0 [some (.ref 0), some (.kst (iL ns)), some (.int many), some (.int style), some (.ref 1), some (.int l), x6, x7, x8] [.lst (iL xs), .lst (iL f)] =
      some (.nx [some (.ref 0), some (.kst (iL ns)), some (.int many), some (.int style), some (.ref 1), some (.int (l + step)), some k0, y7, y8], [.lst (iL ys), .lst (iL (f ++ [l + step]))]) := by
  obtain ⟨e, he, hem⟩ := at10 (a0 := D.int 0) (a1 := .int 127) (a2 := .int (-128)) (a3 := .int 128) (a4 := .int (-129)) (a5 := .int 32767) (a6 := .int (-32768)) (a7 := .int 32768) (a8 := .int (-32769)) (a9 := .int 2000000) (tk_lt (xs := xs) (m := 10) (by decide))
  obtain ⟨ed, rfl, hes⟩ : ∃ ed : Int, e = .int ed ∧ small ed := by
    simp at hem
    rcases hem with h | h | h | h | h | h | h | h | h | h <;> exact ⟨_, h, by unfold small; omega⟩
  obtain ⟨i, zs, hc⟩ := cell_c0 (xs := xs.dropLast.dropLast.dropLast) hl [.lst (iL f)]
  obtain ⟨a, ea⟩ : ∃ a, tk xs.dropLast 5 = a := ⟨_, rfl⟩
  obtain ⟨b, eb⟩ : ∃ b, tk xs.dropLast.dropLast 300 = b := ⟨_, rfl⟩
  have ha := tk_lt (xs := xs.dropLast) (m := 5) (by decide)
  have hb := tk_lt (xs := xs.dropLast.dropLast) (m := 300) (by decide)
  rw [ea] at ha
  rw [eb] at hb
  obtain ⟨c, ec⟩ : ∃ c, i.fmod 100000 = c := ⟨_, rfl⟩
  have hcb : 0 ≤ c ∧ c < 100000 := by
    rw [← ec, Int.fmod_eq_emod_of_nonneg _ (by decide)]
    omega
  obtain ⟨st, hst4, hsts⟩ : ∃ st : Int, L2.atI [D.int (a - 2), .int (b - 150), .int ed, .int (c - 50000)] style = some (.int st) ∧ small st := by
    unfold small at hes ⊢
    rcases at4 (a := D.int (a - 2)) (b := .int (b - 150)) (c := .int ed) (d := .int (c - 50000)) hst with h | h | h | h
    · exact ⟨_, h, by omega⟩
    · exact ⟨_, h, by omega⟩
    · exact ⟨_, h, hes⟩
    · exact ⟨_, h, by omega⟩
  obtain ⟨t, et⟩ : ∃ t, tk zs 3 = t := ⟨_, rfl⟩
  obtain ⟨ws, ew⟩ : ∃ ws, zs.dropLast = ws := ⟨_, rfl⟩
  have hlt : (iL f).length < LINE := by rw [iL_len]; show f.length < 16777216; omega
  have hfin : ∀ v, iL (f ++ [v]) = iL f ++ [.int v] := fun v => by simp [iL]
  have l10 : (10 : Nat) ≤ LINE := by decide
  by_cases h0 : t = 0
  · refine ⟨0, ws, some (.int ed), some (.int 0), by unfold small; omega, ?_⟩
    rw [hfin]
    unfold sampStep q_law_take q_law_cell
    generalize iL ns = L at *
    generalize iL f = L1 at *
    simp [take_c0, he, ea, eb, hc, ec, hst4, et, ew, h0, hlt]
  · refine ⟨st, ws, some (.int ed), some (.int st), hsts, ?_⟩
    rw [hfin]
    unfold sampStep q_law_take q_law_cell
    generalize iL ns = L at *
    generalize iL f = L1 at *
    simp [take_c0, he, ea, eb, hc, ec, hst4, et, ew, h0, hlt]
theorem samples_ev {ns : List Int} (hl : ns.length ≤ 63) (many : Int) (hm : 0 ≤ many ∧ many ≤ 100) (xs : List Int) : ∃ (s ys : List Int), s.length ≤ 100 ∧ (∀ v, v ∈ dif 0 s → small v) ∧ c_law_samples [.ref 0, .kst (iL ns), .int many] [.lst (iL xs)] = some (.tup (iL s), [.lst (iL ys)]) := by
  have hst := tk_lt (xs := xs) (m := 4) (by decide)
  obtain ⟨style, es⟩ : ∃ style, tk xs 4 = style := ⟨_, rfl⟩
  rw [es] at hst
  have ok : okR 0 many = true := okR_of (by omega) (by omega) (by omega) (by omega)
  have hloop := loop_inv (c := chk none (rgD 0 many.toNat)) (xs := rgD 0 many.toNat) (ρ := [some (.ref 0), some (.kst (iL ns)), some (.int many), some (.int style), some (.ref 1), some (.int 0), none, none, none]) (M := [.lst (iL xs.dropLast), .lst []])
    (fun k ρ' M' => ∃ (f ys : List Int) (x6 x7 x8 : Option D), ρ' = [some (.ref 0), some (.kst (iL ns)), some (.int many), some (.int style), some (.ref 1), some (.int (f.getLastD 0)), x6, x7, x8] ∧ M' = [.lst (iL ys), .lst (iL f)] ∧ f.length = k ∧ ∀ v, v ∈ dif 0 f → small v) (fun _ _ _ _ => rfl)
    (step := sStep (tN 6) sampStep) (by
      rintro k d ρ M hd ⟨f, ys, x6, x7, x8, rfl, rfl, hk, hs⟩
      obtain ⟨hk2, rfl⟩ := rgD_at hd
      obtain ⟨step, zs, y7, y8, hsm, e⟩ := samp_step hl many style hst ys f (f.getLastD 0) (.int (0 + k)) x6 x7 x8 (by omega)
      refine ⟨_, _, e, f ++ [f.getLastD 0 + step], zs, some (.int (0 + k)), y7, y8, ?_, rfl, by simp [hk], fun v hv => ?_⟩
      · simp
      · rw [dif_snoc] at hv
        rcases List.mem_append.mp hv with hv | hv
        · exact hs v hv
        · rw [List.mem_singleton] at hv
          rw [hv, show f.getLastD 0 + step - f.getLastD 0 = step by omega]
          exact hsm) ⟨[], xs.dropLast, none, none, none, rfl, rfl, rfl, fun v hv => by simp [dif] at hv⟩
  obtain ⟨ρ', M', e, f, ys, x6, x7, x8, rfl, rfl, hk, hs⟩ := hloop
  rw [rgD_len] at hk
  unfold sampStep at e
  have n1 := nrs_iL ys
  have n2 := nrs_iL f
  refine ⟨f, ys, by omega, hs, ?_⟩
  unfold c_law_samples b_law_samples runFn q_law_take
  unfold q_law_take at e
  generalize iL ns = L at *
  generalize iL f = L1 at *
  generalize iL ys = L2 at *
  simp [startR, take_c0, es, ev_rgh1 _ ok, e, fin, Mem.nr, MO.nr, n1, n2, D.nr]
/-! unpacked of what was packed -/
theorem unp_pk : ∀ (s : List Int) (l : Int), (∀ v, v ∈ dif l s → small v) → unp l ((dif l s).map fun v => (by_ v, v)) = some s
  | [], l, _ => rfl
  | x :: s, l, h => by
    have hx := h (x - l) (by simp [dif])
    unfold small at hx
    show unp l ((by_ (x - l), x - l) :: (dif x s).map fun v => (by_ v, v)) = _
    have hb : bad (by_ (x - l)) (x - l) = false := by
      unfold bad
      simp [hx.1, hx.2]
    rw [unp, if_neg (by rw [hb]; decide), show l + (x - l) = x by omega, unp_pk s x fun v hv => h v (by simp [dif, hv])]
    rfl
theorem pk_prs (row : List Int) : pk row = prs (row.map fun v => (by_ v, v)) := by simp [pk, prs]
end LP
namespace LP
open PySem PySem.Spec PyProof.Rows L2 PF
theorem cp1 {c : FnC} {d r : D} (hn : argP [] d = some d) (hM : ∀ M, argP M d = argP [] d) (hi : d.isRef = false) (h : c [d] [] = some (r, [])) (M : Mem) : callP c [d] M = some (r, M) := by
  simp [callP, argsP, hM, hn, anyRef, hi, h]
theorem cp2 {c : FnC} {d e r : D} (hn : argP [] d = some d) (hM : ∀ M, argP M d = argP [] d) (hi : d.isRef = false) (hn' : argP [] e = some e) (hM' : ∀ M, argP M e = argP [] e) (hi' : e.isRef = false) (h : c [d, e] [] = some (r, [])) (M : Mem) : callP c [d, e] M = some (r, M) := by
  simp [callP, argsP, hM, hn, hM', hn', anyRef, hi, hi', h]
theorem cpT {c : FnC} {xs : List D} {r : D} (hn : D.nrs xs = true) (h : c [.tup xs] [] = some (r, [])) (M : Mem) : callP c [.tup xs] M = some (r, M) := cp1 (by simp [hn]) (fun _ => rfl) rfl h M
theorem cpTT {c : FnC} {xs ys : List D} {r : D} (hn : D.nrs xs = true) (hn' : D.nrs ys = true) (h : c [.tup xs, .tup ys] [] = some (r, [])) (M : Mem) : callP c [.tup xs, .tup ys] M = some (r, M) := cp2 (by simp [hn]) (fun _ => rfl) rfl (by simp [hn']) (fun _ => rfl) rfl h M
theorem cpL {c : FnC} {xs : List D} {r : D} (hn : D.nrs xs = true) (h : c [.lst xs] [] = some (r, [])) (M : Mem) : callP c [.lst xs] M = some (r, M) := cp1 (by simp [hn]) (fun _ => rfl) rfl h M
theorem cpI {c : FnC} {i : Int} {r : D} (h : c [.int i] [] = some (r, [])) (M : Mem) : callP c [.int i] M = some (r, M) := cp1 rfl (fun _ => rfl) rfl h M
theorem sok_argP {n : Nat} {d : D} (h : sok n d = true) : argP [] d = some d ∧ (∀ M, argP M d = argP [] d) ∧ d.isRef = false := by
  obtain ⟨h1, h2⟩ := sok_nr n d h
  exact ⟨argP_nr h1 h2 [], fun M => by rw [argP_nr h1 h2, argP_nr h1 h2], h2⟩
theorem cpS {d : D} (h : sok 12 d = true) (M : Mem) : callP q_law_same [d, d] M = some (.bl true, M) := by
  obtain ⟨a, b, c⟩ := sok_argP h
  exact cp2 a b c a b c (same_ev 12 d h) M
theorem soks_map {α : Type} (n : Nat) (f : α → D) (h : ∀ a, sok n (f a) = true) : ∀ xs : List α, soks n (xs.map f) = true
  | [] => rfl
  | x :: xs => by
    show (sok n (f x) && soks n (xs.map f)) = true
    rw [h x, soks_map n f h xs]; rfl
theorem sok_ints {s : List Int} (h : s.length ≤ 1000) : sok 12 (.tup (iL s)) = true := by
  rw [sok, iL_len]
  unfold iL
  rw [soks_map 11 D.int (fun _ => rfl) s]
  simp [h]
theorem sok_prs {s : List (Int × Int)} (h : s.length ≤ 1000) : sok 12 (.tup (prs s)) = true := by
  rw [sok, prs_len]
  unfold prs
  rw [soks_map 11 _ (fun _ => by simp [sok, soks]) s]
  simp [h]
theorem add_tups (a b : List D) (M : Mem) (h : a.length + b.length ≤ 10000) : gAdd (.tup a) (.tup b) M = some (.tup (a ++ b)) := by
  have h' : a.length + b.length ≤ LINE := by show _ ≤ 16777216; omega
  unfold gAdd
  show (if a.length + b.length ≤ LINE then some (D.tup (a ++ b)) else none) = _
  rw [if_pos h']
theorem add_iL (a b : List Int) (M : Mem) (h : a.length + b.length ≤ 10000) : gAdd (.tup (iL a)) (.tup (iL b)) M = some (.tup (iL (a ++ b))) := by
  rw [add_tups _ _ M (by simpa using h), iL_app]
/-! slices with known ends -/
theorem cut_take (L : List D) (n : Nat) : PF.cutD L none (some (n : Int)) = L.take n := by
  unfold PF.cutD
  rw [HT.sIx_none, HT.sIx_nat, List.drop_zero, Nat.sub_zero]
  apply List.ext_getElem?
  intro i
  rw [List.getElem?_take, List.getElem?_take]
  by_cases h : i < n
  · rw [if_pos h]
    by_cases h2 : i < min n L.length
    · rw [if_pos h2]
    · rw [if_neg h2, List.getElem?_eq_none (by omega)]
  · rw [if_neg h, if_neg (by omega)]
theorem cut_drop (L : List D) (n : Nat) : PF.cutD L (some (n : Int)) none = L.drop n := by
  unfold PF.cutD
  rw [HT.sIx_none, HT.sIx_nat]
  by_cases h : n ≤ L.length
  · rw [Nat.min_eq_left h]
    exact List.take_of_length_le (by rw [List.length_drop]; omega)
  · rw [Nat.min_eq_right (by omega), List.drop_eq_nil_of_le (Nat.le_refl _), List.drop_eq_nil_of_le (by omega)]
    simp
theorem take_iL (s : List Int) (n : Nat) : (iL s).take n = iL (s.take n) := by simp [iL, List.map_take]
theorem drop_iL (s : List Int) (n : Nat) : (iL s).drop n = iL (s.drop n) := by simp [iL, List.map_drop]
theorem sl_take (s : List Int) (n : Nat) (M : Mem) : gSlice (.tup (iL s)) none (some (n : Int)) M = some (.tup (iL (s.take n))) := by
  show some (D.tup (PF.cutD (iL s) none (some (n : Int)))) = _
  rw [cut_take, take_iL]
theorem sl_drop (s : List Int) (n : Nat) (M : Mem) : gSlice (.tup (iL s)) (some (n : Int)) none M = some (.tup (iL (s.drop n))) := by
  show some (D.tup (PF.cutD (iL s) (some (n : Int)) none)) = _
  rw [cut_drop, drop_iL]
/-! differences, sums -/
theorem differences_ev {s : List Int} (hl : s.length ≤ 1000) : cdifferences [.tup (iL s)] [] = some (.tup (iL (dif 0 s)), []) := by
  have ok : okR 0 (s.length : Int) = true := okR_of (by omega) (by omega) (by omega) (by omega)
  have hL : (iL s).length = s.length := iL_len s
  let g : D → D := fun d => match d with | .int k => .int ((dif 0 s).getD k.toNat 0) | d => d
  have hlc : lcLoop (chk none (rgD 0 s.length)) (tN 1) fYes (f2 gSub (f2 gIx (fVar 0) (fVar 1)) (fIfE (f2T (gCmp fun i j => decide (j < i)) (fVar 1) (fC (.int 0))) (f2 gIx (fVar 0) (f2 gSub (fVar 1) (fC (.int 1)))) (fC (.int 0)))) [some (.tup (iL s)), none] (rgD 0 s.length) [] [] = some (iL (dif 0 s), []) := by
    rw [lc_map g rfl (rgD 0 s.length) [] ?_, List.nil_append, map_rg (xs := iL (dif 0 s)) g (by rw [iL_len, dif_len]) ?_]
    · intro k d hd
      rw [iL_at] at hd
      obtain ⟨v, hv, rfl⟩ := Option.map_eq_some_iff.mp hd
      show D.int ((dif 0 s).getD (k : Int).toNat 0) = _
      rw [Int.toNat_natCast, List.getD_eq_getElem?_getD, hv]; rfl
    · intro d hd
      obtain ⟨k, hk⟩ := List.mem_iff_getElem?.mp hd
      obtain ⟨hk2, rfl⟩ := rgD_at hk
      refine ⟨_, rfl, rfl, ?_⟩
      obtain ⟨b, hb⟩ : ∃ b, s[k]? = some b := ⟨_, List.getElem?_eq_getElem hk2⟩
      have a1 : L2.atI (iL s) (k : Int) = some (.int b) := at_nat (by rw [iL_at, hb]; rfl)
      show f2 _ _ _ [some (.tup (iL s)), some (.int (0 + k))] [] = some (.int ((dif 0 s).getD (0 + (k : Int)).toNat 0), [])
      rw [Int.zero_add, Int.toNat_natCast, List.getD_eq_getElem?_getD]
      cases k with
      | zero =>
        have e : (dif 0 s)[0]? = some b := by
          cases s with
          | nil => simp at hb
          | cons x xs => simp at hb; subst hb; simp [dif]
        rw [e]
        simp at a1
        generalize iL s = L at *
        simp [a1]
      | succ k =>
        obtain ⟨a, ha⟩ : ∃ a, s[k]? = some a := ⟨_, List.getElem?_eq_getElem (by omega)⟩
        have a2 : L2.atI (iL s) (((k + 1 : Nat) : Int) - 1) = some (.int a) := atI_int (n := k) (by omega) (by rw [iL_at, ha]; rfl)
        rw [dif_succ 0 s k a b ha hb]
        have hp : (0 : Int) < ((k + 1 : Nat) : Int) := by omega
        generalize ((k + 1 : Nat) : Int) = K at *
        generalize iL s = L at *
        simp [a1, a2, hp]
  have hn := nrs_iL (dif 0 s)
  generalize iL (dif 0 s) = R at *
  generalize iL s = L at *
  simp [cdifferences, bdifferences, runFn, startR, hL, ev_rgh1 _ ok, wipeR, hlc, fin, Mem.nr, D.nr, hn]
def sums : Int → List Int → List Int
  | _, [] => []
  | t, x :: xs => (t + x) :: sums (t + x) xs
theorem sums_len : ∀ (t : Int) (xs : List Int), (sums t xs).length = xs.length
  | _, [] => rfl
  | t, x :: xs => by simp [sums, sums_len]
theorem sums_dif : ∀ (s : List Int) (l : Int), sums l (dif l s) = s
  | [], l => rfl
  | x :: s, l => by
    show (l + (x - l)) :: sums (l + (x - l)) (dif x s) = x :: s
    rw [show l + (x - l) = x by omega, sums_dif s x]
theorem summed_ev {r : List Int} (hl : r.length ≤ 1000) : csummed_samples [.tup (iL r)] [] = some (.tup (iL (sums 0 r)), []) := by
  have main : ∀ (xs f : List Int) (t : Int) (x3 : Option D), f.length + xs.length ≤ 1000 → ∃ x2 y3, sLoop (chk none (iL r)) (sStep (tN 3) (sSeq (sAug 2 gIAddA (fVar 3)) (sAug 1 gIAddA (fTup (fCons (fVar 2) (fNil)))))) (iL xs) [some (.tup (iL r)), some (.tup (iL f)), some (.int t), x3] [] = some (.nx [some (.tup (iL r)), some (.tup (iL (f ++ sums t xs))), x2, y3], []) := by
    intro xs
    induction xs with
    | nil => intro f t x3 _; exact ⟨some (.int t), x3, by simp [sLoop, sums]⟩
    | cons x xs ih =>
      intro f t x3 hle
      simp at hle
      obtain ⟨x2, y3, e⟩ := ih (f ++ [t + x]) (t + x) (some (.int x)) (by simp; omega)
      refine ⟨x2, y3, ?_⟩
      have e1 : gIAddA (.tup (iL f)) (.tup [.int (t + x)]) [] = some (.tup (iL (f ++ [t + x])), []) := by
        rw [ev_iaddT _ _ _ (by simp; omega)]
        simp [iL]
      rw [iL_cons, sLoop]
      simp [e1]
      rw [e]
      simp [sums]
  obtain ⟨x2, y3, e⟩ := main r [] 0 none (by simpa using hl)
  have hn := nrs_iL (sums 0 r)
  rw [List.nil_append, iL_nil] at e
  generalize iL (sums 0 r) = R at *
  generalize iL r = L at *
  have l0 : (0 : Nat) ≤ LINE := Nat.zero_le _
  simp [csummed_samples, bsummed_samples, runFn, startR, fiSq, e, fin, Mem.nr, D.nr, hn]
theorem isint_ev (i : Int) : c_law_is_integer [.int i] [] = some (.bl true, []) := by
  simp [c_law_is_integer, b_law_is_integer, runFn, startR, isi, tyOf, fin, Mem.nr, D.nr]
theorem bits1 (v : Int) : cbits_of [.tup [.int v]] [] = some (.int (8 * by_ v + 2), []) := by
  have := bitsof_ev (s := [v]) (by simp)
  rw [show iL [v] = [D.int v] from rfl, show dif 0 [v] = [v] by simp [dif]] at this
  simpa [bts] using this
theorem single_lc (d : D) (row : List Int) : lcLoop (chk none (iL row)) (tN 1) fYes (fCall qbits_of (fCons (fTup (fCons (fVar 1) (fNil))) (fNil))) [some d, none] (iL row) [] [] = some (iL (row.map fun v => 8 * by_ v + 2), []) := by
  rw [lc_ints (fun v => .int (8 * by_ v + 2)) rfl row [], List.nil_append]
  · simp [iL]
  · intro v _
    exact ⟨_, rfl, by simp [callP, argsP, D.nr, D.nrs, anyRef, qbits_of, bits1]⟩
theorem single_ev (row : List Int) : c_law_single [.tup (iL row)] [] = some (.int (bts row), []) := by
  have h := single_lc (.tup (iL row)) row
  have e := intsOf_iL (row.map fun v => 8 * by_ v + 2)
  unfold bts
  generalize iL (row.map fun v => 8 * by_ v + 2) = R at *
  generalize iL row = L at *
  simp [c_law_single, b_law_single, runFn, startR, fiSq, wipeR, h, e, fin, Mem.nr, D.nr]
end LP
namespace LP
open PySem PySem.Spec PyProof.Rows L2 PF
def fltAt (ks s : List Int) (k : Nat) : Int := ((List.range (min ks.length (k + 1))).map fun j => ks.getD j 0 * s.getD (k - j) 0).sum
def flt (ks s : List Int) : List Int := (List.range s.length).map (fltAt ks s)
theorem flt_len (ks s : List Int) : (flt ks s).length = s.length := by simp [flt]
theorem flt_at {ks s : List Int} {k : Nat} (h : k < s.length) : (flt ks s)[k]? = some (fltAt ks s k) := by
  unfold flt
  rw [List.getElem?_map, List.getElem?_range h]; rfl
theorem rg_map (n : Nat) (f : Nat → Int) (g : D → D) (h : ∀ i : Nat, i < n → g (.int i) = .int (f i)) : (rgD 0 n).map g = iL ((List.range n).map f) := by
  unfold rgD iL
  rw [List.map_map, List.map_map]
  apply List.map_congr_left
  intro i hi
  have := h i (List.mem_range.mp hi)
  simpa using this
theorem filtered_ev {s ks : List Int} (hl : s.length ≤ 1000) (hk : ks.length ≤ 10) (hks : ∀ v, v ∈ ks → v.natAbs < 1000) : cfiltered_samples [.tup (iL s), .tup (iL ks)] [] = some (.tup (iL (flt ks s)), []) := by
  have ok : okR 0 (s.length : Int) = true := okR_of (by omega) (by omega) (by omega) (by omega)
  have hL : (iL s).length = s.length := iL_len s
  have hK : (iL ks).length = ks.length := iL_len ks
  have hloop := loop_inv (c := chk none (rgD 0 s.length)) (xs := rgD 0 s.length) (ρ := [some (.tup (iL s)), some (.tup (iL ks)), some (.ref 0), none, none]) (M := [.lst []])
    (fun k ρ' M' => ∃ x3, ρ' = [some (.tup (iL s)), some (.tup (iL ks)), some (.ref 0), x3, none] ∧ M' = [.lst (iL ((flt ks s).take k))]) (fun _ _ _ _ => rfl)
    (step := sStep (tN 3) (sDrop (fM "list" gAppend (fVar 2) (fCons (fB gSum (fCons (fFz (fLC [4] (fiRg1 (fCons (fB gMin2 (fCons (fB gLen (fCons (fVar 1) (fNil))) (fCons (f2 gAdd (fVar 3) (fC (.int 1))) (fNil)))) (fNil))) (tN 4) (fYes) (f2 gMul (f2 gIx (fVar 1) (fVar 4)) (f2 gIx (fVar 0) (f2 gSub (fVar 3) (fVar 4)))))) (fNil))) (fNil))))) (by
      rintro k d ρ M hd ⟨x3, rfl, rfl⟩
      obtain ⟨hk2, rfl⟩ := rgD_at hd
      obtain ⟨n, en⟩ : ∃ n, min ks.length (k + 1) = n := ⟨_, rfl⟩
      have hmin : (if (k : Int) + 1 < (ks.length : Int) then (k : Int) + 1 else (ks.length : Int)) = (n : Int) := by
        split <;> omega
      have okn : okR 0 (n : Int) = true := okR_of (by omega) (by omega) (by omega) (by omega)
      have hlt : (iL ((flt ks s).take k)).length < LINE := by rw [iL_len, List.length_take, flt_len]; show _ < 16777216; omega
      have hlc : ∀ M, lcLoop (chk none (rgD 0 n)) (tN 4) fYes (f2 gMul (f2 gIx (fVar 1) (fVar 4)) (f2 gIx (fVar 0) (f2 gSub (fVar 3) (fVar 4)))) [some (.tup (iL s)), some (.tup (iL ks)), some (.ref 0), some (.int k), none] (rgD 0 n) [] M = some (iL ((List.range n).map fun j => ks.getD j 0 * s.getD (k - j) 0), M) := by
        intro M
        rw [lc_map (fun d => match d with | .int j => .int (ks.getD j.toNat 0 * s.getD (k - j.toNat) 0) | d => d) rfl (rgD 0 n) [] ?_, List.nil_append, rg_map n (fun j => ks.getD j 0 * s.getD (k - j) 0) _ (fun i _ => by simp)]
        intro d hd
        obtain ⟨j, hj⟩ := List.mem_iff_getElem?.mp hd
        obtain ⟨hj2, rfl⟩ := rgD_at hj
        refine ⟨_, rfl, rfl, ?_⟩
        have a1 := at_d (row := ks) (k := j) (by omega)
        have a2 := at_d (row := s) (k := k - j) (by omega)
        have hm : ks.getD j 0 ∈ ks := by
          rw [List.getD_eq_getElem?_getD, List.getElem?_eq_getElem (show j < ks.length by omega)]
          exact List.getElem_mem _
        have mm : ∀ v, okMul (ks.getD j 0) v = true := fun v => okMul_l (by have := hks _ hm; omega)
        rw [show ((k - j : Nat) : Int) = (k : Int) - j by omega] at a2
        show f2 _ _ _ [some (.tup (iL s)), some (.tup (iL ks)), some (.ref 0), some (.int k), some (.int (0 + j))] M = some (.int (ks.getD (0 + (j : Int)).toNat 0 * s.getD (k - (0 + (j : Int)).toNat) 0), M)
        rw [Int.zero_add, Int.toNat_natCast]
        generalize iL s = L at *
        generalize iL ks = L' at *
        generalize ks.getD j 0 = p at *
        generalize s.getD (k - j) 0 = q at *
        simp [a1, a2, mm]
      have hsum : ((List.range n).map fun j => ks.getD j 0 * s.getD (k - j) 0).sum = fltAt ks s k := by
        unfold fltAt; rw [en]
      have htake : iL ((flt ks s).take (k + 1)) = iL ((flt ks s).take k) ++ [.int (fltAt ks s k)] := by
        rw [List.take_succ, flt_at hk2]
        simp [iL]
      refine ⟨[some (.tup (iL s)), some (.tup (iL ks)), some (.ref 0), some (.int k), none], [.lst (iL ((flt ks s).take (k + 1)))], ?_, some (.int k), rfl, rfl⟩
      rw [htake, ← hsum]
      have hio := intsOf_iL ((List.range n).map fun j => ks.getD j 0 * s.getD (k - j) 0)
      generalize iL ((List.range n).map fun j => ks.getD j 0 * s.getD (k - j) 0) = R at *
      generalize iL ((flt ks s).take k) = T at *
      generalize iL s = L at *
      generalize iL ks = L' at *
      simp [hK, hmin, ev_rgh1 _ okn, wipeR, hlc, hio, hlt]) ⟨none, rfl, by simp⟩
  obtain ⟨ρ', M', e, x3, rfl, rfl⟩ := hloop
  rw [rgD_len, List.take_of_length_le (by rw [flt_len]; exact Nat.le_refl _)] at e
  have hn := nrs_iL (flt ks s)
  generalize iL (flt ks s) = R at *
  generalize iL s = L at *
  generalize iL ks = L' at *
  simp [cfiltered_samples, bfiltered_samples, runFn, startR, hL, ev_rgh1 _ ok, e, fin, Mem.nr, MO.nr, D.nr, hn]
theorem dif_at0 {s : List Int} {x : Int} {l : Int} (h : s[0]? = some x) : (dif l s)[0]? = some (x - l) := by
  cases s with
  | nil => simp at h
  | cons y ys => simp at h; subst h; simp [dif]
theorem get_d {s : List Int} {k : Nat} (h : k < s.length) : s[k]? = some (s.getD k 0) := by
  rw [List.getD_eq_getElem?_getD, List.getElem?_eq_getElem h]; rfl
theorem flt2 (s : List Int) : flt [1, -1] s = dif 0 s := by
  apply List.ext_getElem?
  intro k
  by_cases hk : k < s.length
  · rw [flt_at hk]
    cases k with
    | zero =>
      rw [dif_at0 (get_d hk)]
      simp [fltAt, List.range_succ]
    | succ k =>
      rw [dif_succ 0 s k _ _ (get_d (by omega)) (get_d hk)]
      have : min 2 (k + 1 + 1) = 2 := by omega
      simp only [fltAt, List.length_cons, List.length_nil, this]
      simp [List.range_succ]
      omega
  · rw [List.getElem?_eq_none (by rw [flt_len]; omega), List.getElem?_eq_none (by rw [dif_len]; omega)]
theorem flt3 (s : List Int) : (flt [1, -2, 1] s).drop 2 = (dif 0 (dif 0 s)).drop 2 := by
  apply List.ext_getElem?
  intro k
  rw [List.getElem?_drop, List.getElem?_drop]
  by_cases hk : 2 + k < s.length
  · rw [flt_at hk]
    have e1 := dif_succ 0 s (k + 1) _ _ (get_d (by omega)) (get_d (show k + 1 + 1 < s.length by omega))
    have e0 := dif_succ 0 s k _ _ (get_d (by omega)) (get_d (show k + 1 < s.length by omega))
    rw [show 2 + k = k + 1 + 1 by omega, dif_succ 0 (dif 0 s) (k + 1) _ _ e0 e1]
    have : min 3 (k + 1 + 1 + 1) = 3 := by omega
    simp only [fltAt, List.length_cons, List.length_nil, this]
    simp [List.range_succ]
    omega
  · rw [List.getElem?_eq_none (by rw [flt_len]; omega), List.getElem?_eq_none (by rw [dif_len, dif_len]; omega)]
end LP
namespace LP
open PySem PySem.Spec PyProof.Rows L2 PF
theorem run_nx {a b : FS} {ρ ρ' : Rho} {M M' : Mem} (h : a ρ M = some (.nx ρ', M')) : sSeq a b ρ M = b ρ' M' := by rw [ev_seq, h]; rfl
theorem lc_none {c : Mem → Bool} {t : FG} {ft : FT} {fe : FE} {ρ : Rho} {M : Mem} (hc : c M = true) : ∀ (xs acc : List D), (∀ d, d ∈ xs → ∃ ρ', t d ρ = some ρ' ∧ ft ρ' M = some (false, M)) → lcLoop c t ft fe ρ xs acc M = some (acc, M)
  | [], acc, _ => by simp [lcLoop, hc]
  | d :: xs, acc, h => by
    obtain ⟨ρ', h1, h2⟩ := h d (by simp)
    rw [lcLoop, if_pos hc, h1]
    simp only [Option.bind_some]
    rw [h2]
    simp only [Option.bind_some]
    exact lc_none hc xs acc fun d hd => h d (List.mem_cons_of_mem _ hd)
theorem dif_take : ∀ (s : List Int) (l : Int) (n : Nat), dif l (s.take n) = (dif l s).take n
  | [], l, n => by simp [dif]
  | x :: s, l, 0 => by simp [dif]
  | x :: s, l, n + 1 => by simp [dif, dif_take s x n]
@[simp] theorem isi_tt : isi .tup .tup = true := rfl
@[simp] theorem ty_tup (xs) : tyOf (.tup xs) = .tup := rfl
theorem sl_prs (ps : List (Int × Int)) (n : Nat) (M : Mem) : gSlice (.tup (prs ps)) none (some (n : Int)) M = some (.tup (prs (ps.take n))) := by
  show some (D.tup (PF.cutD (prs ps) none (some (n : Int)))) = _
  rw [cut_take]
  simp [prs, List.map_take]
def tag (r : List Int) : List (Int × Int) := r.map fun v => (by_ v, v)
theorem tag_len (r : List Int) : (tag r).length = r.length := by simp [tag]
theorem mem_tag {r : List Int} {d : D} (h : d ∈ prs (tag r)) : ∃ v, v ∈ r ∧ d = pr (by_ v) v := by
  unfold prs tag at h
  rw [List.map_map] at h
  obtain ⟨v, hv, rfl⟩ := List.mem_map.mp h
  exact ⟨v, hv, rfl⟩
theorem mulL8 (v : Int) : okMul 8 v = true := okMul_l (by decide)
def pq1 : FS := (sSet 2 (fCall qpacked_of (fCons (fVar 1) (fNil))))
def pq2 : FS := (sSet 3 (fCall qdifferences (fCons (fVar 1) (fNil))))
def pq3 : FS := (sIf (fOr (fNot (fTru (fIsi .tup (fVar 2)))) (f2T (gCmp fun i j => decide (j < i)) (fB gLen (fCons (fFz (fLC [4] (fiSq (fVar 2)) (tN 4) (fOr (fNot (fTru (fIsi .tup (fVar 4)))) (f2T (gNe) (fB gLen (fCons (fVar 4) (fNil))) (fC (.int 2)))) (fVar 4))) (fNil))) (fC (.int 0))))
      (sRet (fC (.bl false)))
      (sNext))
def pq4 : FS := (sIf (fOr (fNot (fTru (fCall q_law_same (fCons (fB gTuple (fCons (fFz (fLC [4] (fiSq (fVar 2)) (tN 4) (fYes) (f2 gIx (fVar 4) (fC (.int 1))))) (fNil))) (fCons (fVar 3) (fNil)))))) (fNot (fTru (fCall q_law_same (fCons (fCall qfiltered_samples (fCons (fVar 1) (fCons (fTup (fCons (fC (.int 1)) (fCons (f1 gNeg (fC (.int 1))) (fNil)))) (fNil)))) (fCons (fVar 3) (fNil)))))))
      (sRet (fC (.bl false)))
      (sNext))
def pq5 : FS := (sIf (f2T (gCmp fun i j => decide (j < i)) (fB gLen (fCons (fFz (fLC [4] (fiSq (fVar 2)) (tN 4) (fOr (fNot (fTru (fCall q_law_is_integer (fCons (f2 gIx (fVar 4) (fC (.int 0))) (fNil))))) (f2T (gNe) (f2 gAdd (f2 gMul (fC (.int 8)) (f2 gIx (fVar 4) (fC (.int 0)))) (fC (.int 2))) (fCall qbits_of (fCons (fTup (fCons (f2 gIx (fVar 4) (fC (.int 1))) (fNil))) (fNil))))) (fVar 4))) (fNil))) (fC (.int 0)))
      (sRet (fC (.bl false)))
      (sNext))
def pq6 : FS := (sIf (fOr (fNot (fTru (fCall q_law_same (fCons (fCall qunpacked (fCons (fVar 2) (fNil))) (fCons (fVar 1) (fNil)))))) (fNot (fTru (fCall q_law_same (fCons (fCall qsummed_samples (fCons (fVar 3) (fNil))) (fCons (fVar 1) (fNil)))))))
      (sRet (fC (.bl false)))
      (sNext))
def pq7 : FS := (sSet 5 (fSlice (fVar 2) (fNoPart) (fPart (fCallS 0 q_law_take (fCons (fVar 0) (fCons (f2 gAdd (fB gLen (fCons (fVar 2) (fNil))) (fC (.int 1))) (fNil)))))))
def pq8 : FS := (sRet (fAndV (fCall q_law_same (fCons (fCall qunpacked (fCons (fVar 5) (fNil))) (fCons (fSlice (fVar 1) (fNoPart) (fPart (fB gLen (fCons (fVar 5) (fNil))))) (fNil)))) (fCall q_law_same (fCons (fCall qpacked_of (fCons (fCall qunpacked (fCons (fVar 5) (fNil))) (fNil))) (fCons (fVar 5) (fNil))))))
theorem pq_eq : b_law_is_packing_right = (sSeq pq1 (sSeq pq2 (sSeq pq3 (sSeq pq4 (sSeq pq5 (sSeq pq6 (sSeq pq7 pq8))))))) := rfl
theorem packing_ev {s xs : List Int} (hl : s.length ≤ 500) (hs : ∀ v, v ∈ dif 0 s → small v) : c_law_is_packing_right [.ref 0, .tup (iL s)] [.lst (iL xs)] = some (.bl true, [.lst (iL xs.dropLast)]) := by
  have hl1 : s.length ≤ 1000 := by omega
  have hdl := dif_len 0 s
  have htl := tag_len (dif 0 s)
  have nS := nrs_iL s
  have nR := nrs_iL (dif 0 s)
  have a1 := cpT nS (packed_ev hl1)
  rw [pk_prs] at a1
  change ∀ M, callP cpacked_of [.tup (iL s)] M = some (.tup (prs (tag (dif 0 s))), M) at a1
  have a2 := cpT nS (differences_ev hl1)
  have a3 := cpTT nS (nrs_iL [1, -1]) (filtered_ev (ks := [1, -1]) hl1 (by decide) (by decide))
  rw [flt2] at a3
  have a4 := cpS (sok_ints (s := dif 0 s) (by omega))
  have a5 := cpT (prs_nr (tag (dif 0 s))) (unpacked_ev (tag (dif 0 s)) (by omega))
  have a5' : ∀ M, callP cunpacked [.tup (prs (tag (dif 0 s)))] M = some (.tup (iL s), M) := fun M => by
    rw [a5 M, show unp 0 (tag (dif 0 s)) = some s from unp_pk s 0 hs]; rfl
  have a6 := cpS (sok_ints (s := s) (by omega))
  have a7 := cpT nR (summed_ev (r := dif 0 s) (by omega))
  rw [sums_dif] at a7
  have hm : ((s.length : Int) + 1) ≠ 0 := by omega
  have tn := tk_lt (xs := xs) (m := (s.length : Int) + 1) (by omega)
  obtain ⟨n, en⟩ : ∃ n : Nat, tk xs ((s.length : Int) + 1) = n := ⟨(tk xs ((s.length : Int) + 1)).toNat, by omega⟩
  rw [en] at tn
  have hn : n ≤ s.length := by omega
  have etake : (tag (dif 0 s)).take n = tag (dif 0 (s.take n)) := by rw [dif_take]; simp [tag, List.map_take]
  have hsn : ∀ v, v ∈ dif 0 (s.take n) → small v := fun v hv => hs v (by rw [dif_take] at hv; exact List.mem_of_mem_take hv)
  have hln : (s.take n).length = n := by rw [List.length_take]; omega
  have b1 := cpT (prs_nr (tag (dif 0 (s.take n)))) (unpacked_ev (tag (dif 0 (s.take n))) (by rw [tag_len, dif_len]; omega))
  have b1' : ∀ M, callP cunpacked [.tup (prs (tag (dif 0 (s.take n))))] M = some (.tup (iL (s.take n)), M) := fun M => by
    rw [b1 M, show unp 0 (tag (dif 0 (s.take n))) = some (s.take n) from unp_pk (s.take n) 0 hsn]; rfl
  have b2 := cpS (sok_ints (s := s.take n) (by omega))
  have b3 := cpT (nrs_iL (s.take n)) (packed_ev (s := s.take n) (by omega))
  rw [pk_prs] at b3
  change ∀ M, callP cpacked_of [.tup (iL (s.take n))] M = some (.tup (prs (tag (dif 0 (s.take n)))), M) at b3
  have b4 := cpS (sok_prs (s := tag (dif 0 (s.take n))) (by rw [tag_len, dif_len]; omega))
  have b5 := sl_prs (tag (dif 0 s)) n
  rw [etake] at b5
  have b6 := sl_take s n
  have hPl : (prs (tag (dif 0 s))).length = s.length := by rw [prs_len, htl, hdl]
  have hQl : (prs (tag (dif 0 (s.take n)))).length = n := by rw [prs_len, tag_len, dif_len, hln]
  -- comprehensions
  obtain ⟨P, eP⟩ : ∃ P, prs (tag (dif 0 s)) = P := ⟨_, rfl⟩
  have hmem : ∀ d, d ∈ P → ∃ v, d = pr (by_ v) v := fun d hd => by
    rw [← eP] at hd
    obtain ⟨v, _, h⟩ := mem_tag hd
    exact ⟨v, h⟩
  have c1 : ∀ (z : List D) (M : Mem), lcLoop (chk none P) (tN 4) (fOr (fNot (fTru (fIsi .tup (fVar 4)))) (f2T (gNe) (fB gLen (fCons (fVar 4) (fNil))) (fC (.int 2)))) (fVar 4) [some (.ref 0), some (.tup (iL s)), some (.tup P), some (.tup (iL (dif 0 s))), none, none] P [] M = some ([], M) := fun z M =>
    lc_none rfl P [] fun d hd => by
      obtain ⟨v, rfl⟩ := hmem d hd
      exact ⟨_, rfl, by simp⟩
  have hPmap : P.map (fun d => match d with | .tup [_, b] => b | d => d) = iL (dif 0 s) := by
    rw [← eP]
    simp [prs, tag, iL]
  have c2 : ∀ M : Mem, lcLoop (chk none P) (tN 4) fYes (f2 gIx (fVar 4) (fC (.int 1))) [some (.ref 0), some (.tup (iL s)), some (.tup P), some (.tup (iL (dif 0 s))), none, none] P [] M = some (iL (dif 0 s), M) := fun M => by
    rw [lc_map (fun d => match d with | .tup [_, b] => b | d => d) rfl P [] ?_, List.nil_append, hPmap]
    intro d hd
    obtain ⟨v, rfl⟩ := hmem d hd
    exact ⟨_, rfl, rfl, by simp⟩
  have c3 : ∀ M : Mem, lcLoop (chk none P) (tN 4) (fOr (fNot (fTru (fCall q_law_is_integer (fCons (f2 gIx (fVar 4) (fC (.int 0))) (fNil))))) (f2T (gNe) (f2 gAdd (f2 gMul (fC (.int 8)) (f2 gIx (fVar 4) (fC (.int 0)))) (fC (.int 2))) (fCall qbits_of (fCons (fTup (fCons (f2 gIx (fVar 4) (fC (.int 1))) (fNil))) (fNil))))) (fVar 4) [some (.ref 0), some (.tup (iL s)), some (.tup P), some (.tup (iL (dif 0 s))), none, none] P [] M = some ([], M) := fun M =>
    lc_none rfl P [] fun d hd => by
      obtain ⟨v, rfl⟩ := hmem d hd
      have i1 := cpI (isint_ev (by_ v))
      have i2 := cpT (xs := [D.int v]) rfl (bits1 v)
      exact ⟨_, rfl, by simp [q_law_is_integer, qbits_of, i1, i2, mulL8]⟩
  have hf : ∀ M, callP cfiltered_samples [.tup (iL s), .tup [.int 1, .int (-1)]] M = some (.tup (iL (dif 0 s)), M) := a3
  rw [eP] at a1 a5' b5 hPl
  clear a5 a3
  have hnx := nrs_iL xs.dropLast
  obtain ⟨R, eR⟩ : ∃ R, iL (dif 0 s) = R := ⟨_, rfl⟩
  rw [eR] at a2 hf a4 a7 c2
  simp only [eR] at c1 c3
  obtain ⟨S, eS⟩ : ∃ S, iL s = S := ⟨_, rfl⟩
  simp only [eS] at a1 a2 hf a5' a6 a7 b6 c1 c2 c3
  obtain ⟨T, eT⟩ : ∃ T, iL (s.take n) = T := ⟨_, rfl⟩
  rw [eT] at b2 b3
  simp only [eT] at b1' b6
  obtain ⟨Q, eQ⟩ : ∃ Q, prs (tag (dif 0 (s.take n))) = Q := ⟨_, rfl⟩
  simp only [eQ] at b1' b3 b4 b5 hQl
  rw [eS]
  have g1 : pq1 [some (.ref 0), some (.tup S), none, none, none, none] [.lst (iL xs)] = some (.nx [some (.ref 0), some (.tup S), some (.tup P), none, none, none], [.lst (iL xs)]) := by
    unfold pq1 qpacked_of; simp [a1]
  have g2 : pq2 [some (.ref 0), some (.tup S), some (.tup P), none, none, none] [.lst (iL xs)] = some (.nx [some (.ref 0), some (.tup S), some (.tup P), some (.tup R), none, none], [.lst (iL xs)]) := by
    unfold pq2 qdifferences; simp [a2]
  have g3 : pq3 [some (.ref 0), some (.tup S), some (.tup P), some (.tup R), none, none] [.lst (iL xs)] = some (.nx [some (.ref 0), some (.tup S), some (.tup P), some (.tup R), none, none], [.lst (iL xs)]) := by
    unfold pq3; simp [fiSq, wipeR, c1 []]
  have g4 : pq4 [some (.ref 0), some (.tup S), some (.tup P), some (.tup R), none, none] [.lst (iL xs)] = some (.nx [some (.ref 0), some (.tup S), some (.tup P), some (.tup R), none, none], [.lst (iL xs)]) := by
    unfold pq4 qfiltered_samples; simp [fiSq, wipeR, c2, a4, hf]
  have g5 : pq5 [some (.ref 0), some (.tup S), some (.tup P), some (.tup R), none, none] [.lst (iL xs)] = some (.nx [some (.ref 0), some (.tup S), some (.tup P), some (.tup R), none, none], [.lst (iL xs)]) := by
    unfold pq5; simp [fiSq, wipeR, c3]
  have g6 : pq6 [some (.ref 0), some (.tup S), some (.tup P), some (.tup R), none, none] [.lst (iL xs)] = some (.nx [some (.ref 0), some (.tup S), some (.tup P), some (.tup R), none, none], [.lst (iL xs)]) := by
    unfold pq6 qunpacked qsummed_samples; simp [a5', a6, a7]
  have g7 : pq7 [some (.ref 0), some (.tup S), some (.tup P), some (.tup R), none, none] [.lst (iL xs)] = some (.nx [some (.ref 0), some (.tup S), some (.tup P), some (.tup R), none, some (.tup Q)], [.lst (iL xs.dropLast)]) := by
    unfold pq7 q_law_take; simp [hPl, take_c0, hm, en, b5]
  have g8 : pq8 [some (.ref 0), some (.tup S), some (.tup P), some (.tup R), none, some (.tup Q)] [.lst (iL xs.dropLast)] = some (.ret (.bl true), [.lst (iL xs.dropLast)]) := by
    unfold pq8 qunpacked qpacked_of; simp [b1', hQl, b6, b2, b3, b4]
  have hst : startR 6 [.ref 0, .tup S] = [some (.ref 0), some (.tup S), none, none, none, none] := rfl
  unfold c_law_is_packing_right runFn
  rw [hst, pq_eq, run_nx g1, run_nx g2, run_nx g3, run_nx g4, run_nx g5, run_nx g6, run_nx g7, g8]
  simp [fin, Mem.nr, MO.nr, hnx, D.nr]
end LP
namespace LP
open PySem PySem.Spec PyProof.Rows L2 PF
theorem sec_take (r : List Int) (n : Nat) (hn : n ≤ 2) : (sec r).take n = r.take n := by
  apply List.ext_getElem?
  intro k
  rw [List.getElem?_take, List.getElem?_take]
  by_cases h : k < n
  · rw [if_pos h, if_pos h]
    by_cases hk : k < r.length
    · rw [sec_at hk, if_neg (by omega), get_d hk]
    · rw [List.getElem?_eq_none (by rw [sec_len]; omega), List.getElem?_eq_none (by omega)]
  · rw [if_neg h, if_neg h]
theorem sec_drop2 (r : List Int) : (sec r).drop 2 = (dif 0 r).drop 2 := by
  apply List.ext_getElem?
  intro k
  rw [List.getElem?_drop, List.getElem?_drop]
  by_cases hk : 2 + k < r.length
  · rw [sec_at hk, if_pos (by omega), show 2 + k = (k + 1) + 1 by omega, dif_succ 0 r (k + 1) _ _ (get_d (by omega)) (get_d (by omega))]
    rfl
  · rw [List.getElem?_eq_none (by rw [sec_len]; omega), List.getElem?_eq_none (by rw [dif_len]; omega)]
theorem sec_drop1 (r : List Int) : (sec r).drop 1 = dif 0 (r.drop 1) := by
  apply List.ext_getElem?
  intro k
  rw [List.getElem?_drop]
  by_cases hk : 1 + k < r.length
  · rw [sec_at hk]
    cases k with
    | zero =>
      have : (r.drop 1)[0]? = some (r.getD 1 0) := by rw [List.getElem?_drop]; exact get_d (by omega)
      rw [dif_at0 this]
      simp
    | succ k =>
      have h0 : (r.drop 1)[k]? = some (r.getD (1 + k) 0) := by rw [List.getElem?_drop]; exact get_d (by omega)
      have h1 : (r.drop 1)[k + 1]? = some (r.getD (1 + (k + 1)) 0) := by rw [List.getElem?_drop]; exact get_d (by omega)
      rw [dif_succ 0 _ k _ _ h0 h1, if_pos (by omega), show 1 + (k + 1) - 1 = 1 + k by omega]
  · rw [List.getElem?_eq_none (by rw [sec_len]; omega), List.getElem?_eq_none (by rw [dif_len, List.length_drop]; omega)]
def sq1 : FS := (sSet 1 (fCall qdifferences (fCons (fVar 0) (fNil))))
def sq2 : FS := (sSet 2 (fCall qsecond_differences (fCons (fVar 0) (fNil))))
def sq3 : FS := (sIf (fOr (fNot (fTru (fIsi .tup (fVar 2)))) (fOr (f2T (gNe) (fB gLen (fCons (fVar 2) (fNil))) (fB gLen (fCons (fVar 0) (fNil)))) (fNot (fTru (fCall q_law_same (fCons (fSlice (fVar 2) (fNoPart) (fPart (fC (.int 2)))) (fCons (fSlice (fVar 1) (fNoPart) (fPart (fC (.int 2)))) (fNil))))))))
      (sRet (fC (.bl false)))
      (sNext))
def sq4 : FS := (sIf (fOr (fNot (fTru (fCall q_law_same (fCons (fSlice (fVar 2) (fPart (fC (.int 2))) (fNoPart)) (fCons (fSlice (fCall qdifferences (fCons (fVar 1) (fNil))) (fPart (fC (.int 2))) (fNoPart)) (fNil)))))) (fNot (fTru (fCall q_law_same (fCons (fSlice (fVar 2) (fPart (fC (.int 2))) (fNoPart)) (fCons (fSlice (fCall qfiltered_samples (fCons (fVar 0) (fCons (fTup (fCons (fC (.int 1)) (fCons (f1 gNeg (fC (.int 2))) (fCons (fC (.int 1)) (fNil))))) (fNil)))) (fPart (fC (.int 2))) (fNoPart)) (fNil)))))))
      (sRet (fC (.bl false)))
      (sNext))
def sq5 : FS := (sRet (fCall q_law_same (fCons (fCall qsummed_samples (fCons (f2 gAdd (fSlice (fVar 2) (fNoPart) (fPart (fC (.int 1)))) (fCall qsummed_samples (fCons (fSlice (fVar 2) (fPart (fC (.int 1))) (fNoPart)) (fNil)))) (fNil))) (fCons (fVar 0) (fNil)))))
theorem sq_eq : b_law_is_second_right = (sSeq sq1 (sSeq sq2 (sSeq sq3 (sSeq sq4 sq5)))) := rfl
theorem second_right_ev {s : List Int} (hl : s.length ≤ 500) : c_law_is_second_right [.tup (iL s)] [] = some (.bl true, []) := by
  have hdl := dif_len 0 s
  have hsl : (sec (dif 0 s)).length = s.length := by rw [sec_len, hdl]
  have nS := nrs_iL s
  have a1 := cpT nS (differences_ev (s := s) (by omega))
  have a2 := cpT nS (second_ev (s := s) (by omega))
  have a3 := cpTT nS (nrs_iL [1, -2, 1]) (filtered_ev (s := s) (ks := [1, -2, 1]) (by omega) (by decide) (by decide))
  have hf : ∀ M, callP cfiltered_samples [.tup (iL s), .tup [.int 1, .int (-2), .int 1]] M = some (.tup (iL (flt [1, -2, 1] s)), M) := a3
  have a4 := cpT (nrs_iL (dif 0 s)) (differences_ev (s := dif 0 s) (by omega))
  have s1 := sl_take (sec (dif 0 s)) 2
  have s2 := sl_take (dif 0 s) 2
  have s3 := sl_drop (sec (dif 0 s)) 2
  have s4 := sl_drop (dif 0 (dif 0 s)) 2
  have s5 := sl_drop (flt [1, -2, 1] s) 2
  have s6 := sl_take (sec (dif 0 s)) 1
  have s7 := sl_drop (sec (dif 0 s)) 1
  rw [sec_take _ 2 (by decide)] at s1
  rw [sec_drop2] at s3
  rw [flt3] at s5
  rw [sec_take _ 1 (by decide)] at s6
  rw [sec_drop1] at s7
  have b1 := cpS (sok_ints (s := (dif 0 s).take 2) (by rw [List.length_take]; omega))
  have b2 := cpS (sok_ints (s := (dif 0 (dif 0 s)).drop 2) (by rw [List.length_drop, dif_len]; omega))
  have b3 := cpT (nrs_iL (dif 0 ((dif 0 s).drop 1))) (summed_ev (r := dif 0 ((dif 0 s).drop 1)) (by rw [dif_len, List.length_drop]; omega))
  rw [sums_dif] at b3
  have b4 : ∀ M, gAdd (.tup (iL ((dif 0 s).take 1))) (.tup (iL ((dif 0 s).drop 1))) M = some (.tup (iL (dif 0 s))) := fun M => by
    rw [add_iL _ _ M (by rw [List.length_take, List.length_drop]; omega), List.take_append_drop]
  have b5 := cpT (nrs_iL (dif 0 s)) (summed_ev (r := dif 0 s) (by omega))
  rw [sums_dif] at b5
  have b6 := cpS (sok_ints (s := s) (by omega))
  have hL1 : (iL (sec (dif 0 s))).length = s.length := by rw [iL_len, hsl]
  have hL2 : (iL s).length = s.length := iL_len s
  have e2 : ((2 : Nat) : Int) = 2 := rfl
  have e1 : ((1 : Nat) : Int) = 1 := rfl
  rw [e2] at s1 s2 s3 s4 s5
  rw [e1] at s6 s7
  generalize iL (sec (dif 0 s)) = SE at *
  generalize iL (flt [1, -2, 1] s) = FL at *
  generalize iL ((dif 0 (dif 0 s)).drop 2) = D2 at *
  generalize iL (dif 0 (dif 0 s)) = DD at *
  generalize iL ((dif 0 s).take 2) = T2 at *
  generalize iL ((dif 0 s).take 1) = T1 at *
  generalize iL (dif 0 ((dif 0 s).drop 1)) = DR1 at *
  generalize iL ((dif 0 s).drop 1) = R1 at *
  generalize iL (dif 0 s) = R at *
  generalize iL s = S at *
  have g1 : sq1 [some (.tup S), none, none] [] = some (.nx [some (.tup S), some (.tup R), none], []) := by unfold sq1 qdifferences; simp [a1]
  have g2 : sq2 [some (.tup S), some (.tup R), none] [] = some (.nx [some (.tup S), some (.tup R), some (.tup SE)], []) := by unfold sq2 qsecond_differences; simp [a2]
  have g3 : sq3 [some (.tup S), some (.tup R), some (.tup SE)] [] = some (.nx [some (.tup S), some (.tup R), some (.tup SE)], []) := by unfold sq3; simp [hL1, hL2, s1, s2, b1]
  have g4 : sq4 [some (.tup S), some (.tup R), some (.tup SE)] [] = some (.nx [some (.tup S), some (.tup R), some (.tup SE)], []) := by unfold sq4 qdifferences qfiltered_samples; simp [s3, a4, s4, b2, hf, s5]
  have g5 : sq5 [some (.tup S), some (.tup R), some (.tup SE)] [] = some (.ret (.bl true), []) := by unfold sq5 qsummed_samples; simp [s6, s7, b3, b4, b5, b6]
  have hst : startR 3 [.tup S] = [some (.tup S), none, none] := rfl
  unfold c_law_is_second_right runFn
  rw [hst, sq_eq, run_nx g1, run_nx g2, run_nx g3, run_nx g4, g5]
  rfl
end LP
namespace LP
open PySem PySem.Spec PyProof.Rows L2 PF
theorem dif_app : ∀ (s o : List Int) (l : Int), dif l (s ++ o) = dif l s ++ dif (s.getLastD l) o
  | [], o, l => rfl
  | x :: s, o, l => by
    show (x - l) :: dif x (s ++ o) = (x - l) :: dif x s ++ dif ((x :: s).getLastD l) o
    rw [dif_app s o x]
    cases s <;> rfl
theorem bts_app (a b : List Int) : bts (a ++ b) = bts a + bts b := by simp [bts]
theorem bts_cons (a : Int) (b : List Int) : bts (a :: b) = (8 * by_ a + 2) + bts b := by simp [bts]
theorem by_cases3 (v : Int) : by_ v = 1 ∨ by_ v = 2 ∨ by_ v = 4 := by unfold by_; split; simp; split <;> simp
theorem notin3 (v : Int) (M : Mem) : gNotIn (.int (8 * by_ v + 2)) (.lst [.int 10, .int 18, .int 34]) M = some false := by
  rcases by_cases3 v with h | h | h <;> rw [h] <;> rfl
theorem last_at {s : List Int} (h : 0 < s.length) : L2.atI (iL s) (-1) = some (.int (s.getLastD 0)) := by
  obtain ⟨a, b, rfl⟩ : ∃ a b, s = a ++ [b] := ⟨s.dropLast, s.getLast (List.length_pos_iff.mp h), (List.dropLast_concat_getLast _).symm⟩
  have : iL (a ++ [b]) = iL a ++ [.int b] := by simp [iL]
  rw [this, atI_last]
  simp
def bq1 : FS := (sSet 2 (fCall qdifferences (fCons (fVar 0) (fNil))))
def bq2 : FS := (sSet 3 (fCall qsecond_differences (fCons (fVar 0) (fNil))))
def bq3 : FS := (sFor (fiSq (fSlice (fVar 0) (fNoPart) (fPart (fC (.int 3))))) (tN 4)
      (sIf (f2T (gNotIn) (fCall qbits_of (fCons (fTup (fCons (fVar 4) (fNil))) (fNil))) (fFz (fLstD (fCons (fC (.int 10)) (fCons (fC (.int 18)) (fCons (fC (.int 34)) (fNil)))))))
      (sRet (fC (.bl false)))
      (sNext)))
def bq4 : FS := (sIf (fNot (fTru (fCall q_law_same (fCons (fCall qbits_of (fCons (fVar 0) (fNil))) (fCons (fCall q_law_single (fCons (fVar 2) (fNil))) (fNil))))))
      (sRet (fC (.bl false)))
      (sNext))
def bq5 : FS := (sIf (fAnd (f2T (gCmp fun i j => decide (j < i)) (fB gLen (fCons (fVar 0) (fNil))) (fC (.int 0))) (f2T (gCmp fun i j => decide (j < i)) (fB gLen (fCons (fVar 1) (fNil))) (fC (.int 0))))
      (sSeq (sSet 5 (f2 gSub (fCall qbits_of (fCons (fTup (fCons (f2 gSub (f2 gIx (fVar 1) (fC (.int 0))) (f2 gIx (fVar 0) (f1 gNeg (fC (.int 1))))) (fNil))) (fNil))) (fCall qbits_of (fCons (fSlice (fVar 1) (fNoPart) (fPart (fC (.int 1)))) (fNil)))))
      (sIf (fNot (fTru (fCall q_law_same (fCons (fCall qbits_of (fCons (f2 gAdd (fVar 0) (fVar 1)) (fNil))) (fCons (f2 gAdd (f2 gAdd (fCall qbits_of (fCons (fVar 0) (fNil))) (fCall qbits_of (fCons (fVar 1) (fNil)))) (fVar 5)) (fNil))))))
      (sRet (fC (.bl false)))
      (sNext)))
      (sNext))
def bq6 : FS := (sSet 6 (fFz (fLstD (fCons (fCall q_law_single (fCons (fVar 0) (fNil))) (fCons (fCall q_law_single (fCons (fVar 2) (fNil))) (fCons (fCall q_law_single (fCons (fVar 3) (fNil))) (fNil)))))))
def bq7 : FS := (sRet (fCall q_law_same (fCons (fCall qbest_order (fCons (fVar 0) (fNil))) (fCons (fM "list" gIndex (fVar 6) (fCons (fB gMin1 (fCons (fVar 6) (fNil))) (fNil))) (fNil)))))
theorem bq_eq : b_law_are_bits_right = (sSeq bq1 (sSeq bq2 (sSeq bq3 (sSeq bq4 (sSeq bq5 (sSeq bq6 bq7)))))) := rfl
def bStep : FS := (sIf (f2T (gNotIn) (fCall qbits_of (fCons (fTup (fCons (fVar 4) (fNil))) (fNil))) (fFz (fLstD (fCons (fC (.int 10)) (fCons (fC (.int 18)) (fCons (fC (.int 34)) (fNil)))))))
      (sRet (fC (.bl false)))
      (sNext))
theorem bits_right_ev {s o : List Int} (hl : s.length ≤ 400) (ho : o.length ≤ 400) : c_law_are_bits_right [.tup (iL s), .tup (iL o)] [] = some (.bl true, []) := by
  have hdl := dif_len 0 s
  have nS := nrs_iL s
  have nO := nrs_iL o
  have a1 := cpT nS (differences_ev (s := s) (by omega))
  have a2 := cpT nS (second_ev (s := s) (by omega))
  have a3 := cpT nS (bitsof_ev (s := s) (by omega))
  have a4 := cpT (nrs_iL (dif 0 s)) (single_ev (dif 0 s))
  have a5 := cpT nS (single_ev s)
  have a6 := cpT (nrs_iL (sec (dif 0 s))) (single_ev (sec (dif 0 s)))
  have a7 := cpT nO (bitsof_ev (s := o) (by omega))
  have a8 := cpT nS (best_ev (s := s) (by omega))
  have b1 : ∀ (v : Int) (M : Mem), callP cbits_of [.tup [.int v]] M = some (.int (8 * by_ v + 2), M) := fun v => cpT (xs := [D.int v]) rfl (bits1 v)
  have cI : ∀ (i : Int) (M : Mem), callP q_law_same [.int i, .int i] M = some (.bl true, M) := fun i => cpS (by simp [sok])
  have s3 := sl_take s 3
  have e3 : ((3 : Nat) : Int) = 3 := rfl
  rw [e3] at s3
  have hloop := loop_inv (c := chk none (iL (s.take 3))) (xs := iL (s.take 3)) (ρ := [some (.tup (iL s)), some (.tup (iL o)), some (.tup (iL (dif 0 s))), some (.tup (iL (sec (dif 0 s)))), none, none, none]) (M := [])
    (fun k ρ' M' => ∃ x4, ρ' = [some (.tup (iL s)), some (.tup (iL o)), some (.tup (iL (dif 0 s))), some (.tup (iL (sec (dif 0 s)))), x4, none, none] ∧ M' = []) (fun _ _ _ _ => rfl)
    (step := sStep (tN 4) bStep) (by
      rintro k d ρ M hd ⟨x4, rfl, rfl⟩
      rw [iL_at] at hd
      obtain ⟨v, _, rfl⟩ := Option.map_eq_some_iff.mp hd
      refine ⟨[some (.tup (iL s)), some (.tup (iL o)), some (.tup (iL (dif 0 s))), some (.tup (iL (sec (dif 0 s)))), some (.int v), none, none], [], ?_, some (.int v), rfl, rfl⟩
      unfold bStep qbits_of
      simp [b1, notin3]) ⟨none, rfl, rfl⟩
  obtain ⟨ρ', M', el, x4, rfl, rfl⟩ := hloop
  unfold bStep at el
  have h5 : ∃ y5, bq5 [some (.tup (iL s)), some (.tup (iL o)), some (.tup (iL (dif 0 s))), some (.tup (iL (sec (dif 0 s)))), x4, none, none] [] = some (.nx [some (.tup (iL s)), some (.tup (iL o)), some (.tup (iL (dif 0 s))), some (.tup (iL (sec (dif 0 s)))), x4, y5, none], []) := by
    have hS : (iL s).length = s.length := iL_len s
    have hO : (iL o).length = o.length := iL_len o
    by_cases hs0 : 0 < s.length
    · cases o with
      | nil =>
        refine ⟨none, ?_⟩
        have hnil : iL ([] : List Int) = [] := rfl
        rw [hnil]
        generalize iL (sec (dif 0 s)) = SE at *
        generalize iL (dif 0 s) = R at *
        generalize iL s = S at *
        unfold bq5
        simp [hS, hs0]
      | cons o0 o' =>
        have hla := last_at hs0
        have t1 := sl_take (o0 :: o') 1
        have e1 : ((1 : Nat) : Int) = 1 := rfl
        rw [e1] at t1
        have t1' : ∀ M, gSlice (.tup (iL (o0 :: o'))) none (some 1) M = some (.tup [.int o0]) := fun M => by rw [t1 M]; rfl
        have hat : L2.atI (iL (o0 :: o')) 0 = some (.int o0) := by rw [iL_cons]; simp
        have hadd : ∀ M, gAdd (.tup (iL s)) (.tup (iL (o0 :: o'))) M = some (.tup (iL (s ++ o0 :: o'))) := fun M => add_iL _ _ M (by simp at ho ⊢; omega)
        have c1 := cpT (nrs_iL (s ++ o0 :: o')) (bitsof_ev (s := s ++ o0 :: o') (by simp at ho ⊢; omega))
        have hlO' : iL (o0 :: o') ≠ [] := by rw [iL_cons]; simp
        have hlO2 : 0 < (iL (o0 :: o')).length := by rw [iL_len]; simp
        have key : bts (dif 0 s) + bts (dif 0 (o0 :: o')) + (8 * by_ (o0 - s.getLastD 0) + 2 - (8 * by_ o0 + 2)) = bts (dif 0 (s ++ o0 :: o')) := by
          rw [dif_app, bts_app]
          show bts (dif 0 s) + bts ((o0 - 0) :: dif o0 o') + _ = bts (dif 0 s) + bts ((o0 - s.getLastD 0) :: dif o0 o')
          rw [bts_cons, bts_cons, show o0 - 0 = o0 by omega]
          omega
        rw [← key] at c1
        refine ⟨some (.int (8 * by_ (o0 - s.getLastD 0) + 2 - (8 * by_ o0 + 2))), ?_⟩
        generalize bts (dif 0 s) = p1 at *
        generalize bts (dif 0 (o0 :: o')) = p2 at *
        generalize s.getLastD 0 = la at *
        generalize iL (s ++ o0 :: o') = SO at *
        generalize iL (o0 :: o') = O at *
        generalize iL (sec (dif 0 s)) = SE at *
        generalize iL (dif 0 s) = R at *
        generalize iL s = S at *
        unfold bq5 qbits_of
        simp [hS, hs0, hlO2, hat, hla, b1, t1', hadd, c1, a3, a7, cI]
    · refine ⟨none, ?_⟩
      generalize iL (sec (dif 0 s)) = SE at *
      generalize iL (dif 0 s) = R at *
      generalize iL s = S at *
      generalize iL o = O at *
      unfold bq5
      simp [hS, hs0]
  obtain ⟨y5, g5⟩ := h5
  obtain ⟨mn, emn⟩ : ∃ mn : Int, (if bts (dif 0 s) < bts s then (if bts (sec (dif 0 s)) < bts (dif 0 s) then bts (sec (dif 0 s)) else bts (dif 0 s)) else (if bts (sec (dif 0 s)) < bts s then bts (sec (dif 0 s)) else bts s)) = mn := ⟨_, rfl⟩
  have m1 := min_int (bts s) (bts (dif 0 s)) (bts (sec (dif 0 s)))
  have m2 := idx_int (bts s) (bts (dif 0 s)) (bts (sec (dif 0 s)))
  rw [emn] at m2
  simp only [emn] at m1
  generalize arg3 (bts s) (bts (dif 0 s)) (bts (sec (dif 0 s))) = kk at *
  generalize bts (sec (dif 0 s)) = p2 at *
  generalize bts (dif 0 s) = p1 at *
  generalize bts s = p0 at *
  generalize iL (s.take 3) = S3 at *
  generalize iL (sec (dif 0 s)) = SE at *
  generalize iL (dif 0 s) = R at *
  generalize iL s = S at *
  generalize iL o = O at *
  have g1 : bq1 [some (.tup S), some (.tup O), none, none, none, none, none] [] = some (.nx [some (.tup S), some (.tup O), some (.tup R), none, none, none, none], []) := by unfold bq1 qdifferences; simp [a1]
  have g2 : bq2 [some (.tup S), some (.tup O), some (.tup R), none, none, none, none] [] = some (.nx [some (.tup S), some (.tup O), some (.tup R), some (.tup SE), none, none, none], []) := by unfold bq2 qsecond_differences; simp [a2]
  have g3 : bq3 [some (.tup S), some (.tup O), some (.tup R), some (.tup SE), none, none, none] [] = some (.nx [some (.tup S), some (.tup O), some (.tup R), some (.tup SE), x4, none, none], []) := by unfold bq3; simp [fiSq, s3, el]
  have g4 : bq4 [some (.tup S), some (.tup O), some (.tup R), some (.tup SE), x4, none, none] [] = some (.nx [some (.tup S), some (.tup O), some (.tup R), some (.tup SE), x4, none, none], []) := by unfold bq4 qbits_of q_law_single; simp [a3, a4, cI]
  have g6 : bq6 [some (.tup S), some (.tup O), some (.tup R), some (.tup SE), x4, y5, none] [] = some (.nx [some (.tup S), some (.tup O), some (.tup R), some (.tup SE), x4, y5, some (.lst [.int p0, .int p1, .int p2])], []) := by unfold bq6 q_law_single; simp [a5, a4, a6]
  have g7 : bq7 [some (.tup S), some (.tup O), some (.tup R), some (.tup SE), x4, y5, some (.lst [.int p0, .int p1, .int p2])] [] = some (.ret (.bl true), []) := by unfold bq7 qbest_order; simp [a8, m1, m2, cI]
  have hst : startR 7 [.tup S, .tup O] = [some (.tup S), some (.tup O), none, none, none, none, none] := rfl
  unfold c_law_are_bits_right runFn
  rw [hst, bq_eq, run_nx g1, run_nx g2, run_nx g3, run_nx g4, run_nx g5, run_nx g6, g7]
  rfl
end LP
namespace LP
open PySem PySem.Spec PyProof.Rows L2 PF
def expd (ps : List (Int × Int)) : List Int := ps.flatMap fun p => List.replicate p.1.toNat p.2
theorem expd_rl : ∀ (xs : List Int) (n c : Int), 1 ≤ n → expd (rl n c xs) = List.replicate n.toNat c ++ xs
  | [], n, c, _ => by simp [rl, expd]
  | x :: xs, n, c, hn => by
    rw [rl]
    split
    · rename_i h
      rw [expd_rl xs (n + 1) c (by omega), h, show (n + 1).toNat = n.toNat + 1 by omega, List.replicate_succ', List.append_assoc]; rfl
    · show List.replicate n.toNat c ++ expd (rl 1 x xs) = _
      rw [expd_rl xs 1 x (by decide)]; rfl
theorem expd_rle (s : List Int) : expd (rle s) = s := by
  cases s with
  | nil => rfl
  | cons x xs => show expd (rl 1 x xs) = _; rw [expd_rl xs 1 x (by decide)]; rfl
theorem rl_bd : ∀ (xs : List Int) (n c : Int), 1 ≤ n → ∀ p, p ∈ rl n c xs → 1 ≤ p.1 ∧ p.1 ≤ n + xs.length
  | [], n, c, hn, p, hp => by simp [rl] at hp; subst hp; simp; omega
  | x :: xs, n, c, hn, p, hp => by
    rw [rl] at hp
    split at hp
    · have := rl_bd xs (n + 1) c (by omega) p hp
      simp; omega
    · rcases List.mem_cons.mp hp with rfl | hp
      · simp; omega
      · have := rl_bd xs 1 x (by decide) p hp
        simp; omega
theorem rle_bd {s : List Int} {p : Int × Int} (hp : p ∈ rle s) : 1 ≤ p.1 ∧ p.1 ≤ s.length := by
  cases s with
  | nil => simp [rle] at hp
  | cons x xs =>
    have := rl_bd xs 1 x (by decide) p hp
    simp; omega
theorem rl_head : ∀ (xs : List Int) (n c : Int), ∃ m r, rl n c xs = (m, c) :: r
  | [], n, c => ⟨n, [], rfl⟩
  | x :: xs, n, c => by
    rw [rl]
    split
    · exact rl_head xs (n + 1) c
    · exact ⟨n, _, rfl⟩
theorem rl_adj : ∀ (xs : List Int) (n c : Int) (i : Nat) (p q : Int × Int), (rl n c xs)[i]? = some p → (rl n c xs)[i + 1]? = some q → p.2 ≠ q.2
  | [], n, c, i, p, q, _, hq => by simp [rl] at hq
  | x :: xs, n, c, i, p, q, hp, hq => by
    rw [rl] at hp hq
    split at hp
    · rename_i h
      rw [if_pos h] at hq
      exact rl_adj xs (n + 1) c i p q hp hq
    · rename_i h
      rw [if_neg h] at hq
      cases i with
      | zero =>
        obtain ⟨m, r, e⟩ := rl_head xs 1 x
        simp at hp
        simp [e] at hq
        subst hp hq
        exact fun z => h z.symm
      | succ i => exact rl_adj xs 1 x i p q (by simpa using hp) (by simpa using hq)
theorem rle_adj {s : List Int} {i : Nat} {p q : Int × Int} (hp : (rle s)[i]? = some p) (hq : (rle s)[i + 1]? = some q) : p.2 ≠ q.2 := by
  cases s with
  | nil => simp [rle] at hp
  | cons x xs => exact rl_adj xs 1 x i p q hp hq
theorem expd_app (a b : List (Int × Int)) : expd (a ++ b) = expd a ++ expd b := by simp [expd]
theorem rep_ev (c n : Int) (M : Mem) (h1 : 1 ≤ n) (h2 : n ≤ 1000) : gRepT (.tup [.int c]) (.int n) M = some (.tup (iL (List.replicate n.toNat c))) := by
  have e : gRepT (.tup [.int c]) (.int n) M = if n = 1 then some (.tup [.int c]) else if (![D.int c].isEmpty && decide (2 ≤ n)) && (decide (n ≤ 1000) && decide ([D.int c].length ≤ 1000)) then some (.tup (List.replicate n.toNat [D.int c]).flatten) else none := rfl
  rw [e]
  by_cases hn : n = 1
  · rw [if_pos hn, hn]; rfl
  · have h3 : 2 ≤ n := by omega
    rw [if_neg hn, if_pos (by simp [h2, h3])]
    congr 2
    unfold iL
    rw [List.map_replicate]
    generalize n.toNat = k
    induction k with
    | zero => rfl
    | succ k ih => rw [List.replicate_succ, List.flatten_cons, ih, List.replicate_succ]; rfl
theorem dps_iL (n : Nat) : ∀ s : List Int, D.dps n (iL s) = true
  | [] => by simp [D.dps]
  | x :: s => by rw [iL_cons, D.dps, dps_iL n s]; simp [D.dp]
theorem eqvs_iL : ∀ s : List Int, PyData.eqvAll (D.pys (iL s)) (D.pys (iL s)) = true
  | [] => by simp [D.pys, PyData.eqvAll]
  | x :: s => by rw [iL_cons, D.pys, D.py, PyData.eqvAll, eqvs_iL s]; simp [PyData.eqv]
theorem eq_iL (s : List Int) (M : Mem) : gEq (.tup (iL s)) (.tup (iL s)) M = some true := by
  have e : gEq (.tup (iL s)) (.tup (iL s)) M = if ((D.tup (iL s)).dp 60 && (D.tup (iL s)).dp 60) = true then some (PyData.eqv (D.tup (iL s)).py (D.tup (iL s)).py) else none := rfl
  have h1 : (D.tup (iL s)).dp 60 = true := by rw [D.dp, dps_iL]; rfl
  rw [e, h1, D.py]
  show some (PyData.eqv (.tuple (D.pys (iL s))) (.tuple (D.pys (iL s)))) = _
  rw [PyData.eqv, eqvs_iL]
def rq1 : FS := (sSet 1 (fCall qruns_packed (fCons (fVar 0) (fNil))))
def rq2 : FS := (sIf (fOr (fNot (fTru (fIsi .tup (fVar 1)))) (f2T (gCmp fun i j => decide (j < i)) (fB gLen (fCons (fFz (fLC [2] (fiSq (fVar 1)) (tN 2) (fOr (fNot (fTru (fIsi .tup (fVar 2)))) (f2T (gNe) (fB gLen (fCons (fVar 2) (fNil))) (fC (.int 2)))) (fVar 2))) (fNil))) (fC (.int 0))))
      (sRet (fC (.bl false)))
      (sNext))
def rq3 : FS := (sSet 3 (fTup (fNil)))
def rq4 : FS := (sFor (fiSq (fVar 1)) (tT 2 (tsC (tN 4) (tsC (tN 5) (tsN))))
      (sSeq (sIf (fOr (fNot (fTru (fCall q_law_is_integer (fCons (fVar 4) (fNil))))) (fOr (fNot (fTru (fCall q_law_is_integer (fCons (fVar 5) (fNil))))) (fOr (f2T (gCmp fun i j => decide (i < j)) (fVar 4) (fC (.int 1))) (f2T (gCmp fun i j => decide (j < i)) (fVar 4) (fB gLen (fCons (fVar 0) (fNil)))))))
      (sRet (fC (.bl false)))
      (sNext))
      (sSet 3 (f2 gAdd (fVar 3) (f2 gRepT (fTup (fCons (fVar 5) (fNil))) (fVar 4))))))
def rq5 : FS := (sSet 6 (fFz (fLC [7] (fiRg2 (fCons (fC (.int 1)) (fCons (fB gLen (fCons (fVar 1) (fNil))) (fNil)))) (tN 7) (f2T (gEq) (f2 gIx (f2 gIx (fVar 1) (fVar 7)) (fC (.int 1))) (f2 gIx (f2 gIx (fVar 1) (f2 gSub (fVar 7) (fC (.int 1)))) (fC (.int 1)))) (fVar 7))))
def rq6 : FS := (sRet (fAndV (f2 (gB (gEq)) (fVar 3) (fVar 0)) (fAndV (f2 (gB (gEq)) (fB gLen (fCons (fVar 6) (fNil))) (fC (.int 0))) (fCall q_law_same (fCons (fCall qsaved_by_runs (fCons (fVar 0) (fNil))) (fCons (f2 gSub (fB gLen (fCons (fVar 0) (fNil))) (fB gLen (fCons (fVar 1) (fNil)))) (fNil)))))))
theorem rq_eq : b_law_are_runs_right = (sSeq rq1 (sSeq rq2 (sSeq rq3 (sSeq rq4 (sSeq rq5 rq6))))) := rfl
def rStep : FS := (sSeq (sIf (fOr (fNot (fTru (fCall q_law_is_integer (fCons (fVar 4) (fNil))))) (fOr (fNot (fTru (fCall q_law_is_integer (fCons (fVar 5) (fNil))))) (fOr (f2T (gCmp fun i j => decide (i < j)) (fVar 4) (fC (.int 1))) (f2T (gCmp fun i j => decide (j < i)) (fVar 4) (fB gLen (fCons (fVar 0) (fNil)))))))
      (sRet (fC (.bl false)))
      (sNext))
      (sSet 3 (f2 gAdd (fVar 3) (f2 gRepT (fTup (fCons (fVar 5) (fNil))) (fVar 4)))))
theorem runs_right_ev {s : List Int} (hl : s.length ≤ 500) : c_law_are_runs_right [.tup (iL s)] [] = some (.bl true, []) := by
  have nS := nrs_iL s
  have hS : (iL s).length = s.length := iL_len s
  have a1 := cpT nS (runs_ev (s := s) (by omega))
  have a2 := cpT nS (saved_ev (s := s) (by omega))
  have cI : ∀ (i : Int) (M : Mem), callP q_law_same [.int i, .int i] M = some (.bl true, M) := fun i => cpS (by simp [sok])
  have iI : ∀ (i : Int) (M : Mem), callP q_law_is_integer [.int i] M = some (.bl true, M) := fun i => cpI (isint_ev i)
  have hrl := rle_len s
  have hP : (prs (rle s)).length = (rle s).length := prs_len _
  have hPat : ∀ {k : Nat} {p : Int × Int}, (rle s)[k]? = some p → L2.atI (prs (rle s)) (k : Int) = some (pr p.1 p.2) := fun h => at_nat (by unfold prs; rw [List.getElem?_map, h]; rfl)
  have hloop := loop_inv (c := chk none (prs (rle s))) (xs := prs (rle s)) (ρ := [some (.tup (iL s)), some (.tup (prs (rle s))), none, some (.tup (iL [])), none, none, none, none]) (M := [])
    (fun k ρ' M' => ∃ x4 x5, ρ' = [some (.tup (iL s)), some (.tup (prs (rle s))), none, some (.tup (iL (expd ((rle s).take k)))), x4, x5, none, none] ∧ M' = []) (fun _ _ _ _ => rfl)
    (step := sStep (tT 2 (tsC (tN 4) (tsC (tN 5) (tsN)))) rStep) (by
      rintro k d ρ M hd ⟨x4, x5, rfl, rfl⟩
      obtain ⟨p, hp, rfl⟩ : ∃ p, (rle s)[k]? = some p ∧ d = pr p.1 p.2 := by
        unfold prs at hd
        rw [List.getElem?_map] at hd
        obtain ⟨p, hp, e⟩ := Option.map_eq_some_iff.mp hd
        exact ⟨p, hp, e.symm⟩
      obtain ⟨h1, h2⟩ := rle_bd (List.mem_of_getElem? hp)
      have hrep := fun M => rep_ev p.2 p.1 M h1 (by omega)
      have htk : (rle s).take (k + 1) = (rle s).take k ++ [p] := by rw [List.take_succ, hp]; rfl
      have hexl : (expd ((rle s).take k)).length ≤ s.length := by
        have := congrArg List.length (expd_rle s)
        rw [← List.take_append_drop k (rle s), expd_app, List.length_append] at this
        omega
      have hadd : ∀ M, gAdd (.tup (iL (expd ((rle s).take k)))) (.tup (iL (List.replicate p.1.toNat p.2))) M = some (.tup (iL (expd ((rle s).take (k + 1))))) := fun M => by
        rw [add_iL _ _ M (by rw [List.length_replicate]; omega), htk, expd_app]
        simp [expd]
      have h1' : ¬ (p.1 < 1) := by omega
      have h2' : ¬ ((s.length : Int) < p.1) := by omega
      refine ⟨[some (.tup (iL s)), some (.tup (prs (rle s))), none, some (.tup (iL (expd ((rle s).take (k + 1))))), some (.int p.1), some (.int p.2), none, none], [], ?_, _, _, rfl, rfl⟩
      generalize iL (expd ((rle s).take (k + 1))) = E1 at *
      generalize iL (expd ((rle s).take k)) = E0 at *
      generalize prs (rle s) = P at *
      generalize iL s = S at *
      unfold rStep
      simp [iI, h1', hS, h2', hrep, hadd]) ⟨none, none, rfl, rfl⟩
  obtain ⟨ρ', M', el, x4, x5, rfl, rfl⟩ := hloop
  rw [hP, List.take_of_length_le (Nat.le_refl _), expd_rle] at el
  unfold rStep at el
  have c1 : lcLoop (chk none (prs (rle s))) (tN 2) (fOr (fNot (fTru (fIsi .tup (fVar 2)))) (f2T (gNe) (fB gLen (fCons (fVar 2) (fNil))) (fC (.int 2)))) (fVar 2) [some (.tup (iL s)), some (.tup (prs (rle s))), none, none, none, none, none, none] (prs (rle s)) [] [] = some ([], []) :=
    lc_none rfl _ [] fun d hd => by
      obtain ⟨p, _, rfl⟩ := List.mem_map.mp (show d ∈ (rle s).map _ from hd)
      exact ⟨_, rfl, by simp⟩
  have ok : okR 1 ((rle s).length : Int) = true := okR_of (by omega) (by omega) (by omega) (by omega)
  obtain ⟨n, en⟩ : ∃ n, (((rle s).length : Int) - 1).toNat = n := ⟨_, rfl⟩
  have c2 : lcLoop (chk none (rgD 1 n)) (tN 7) (f2T (gEq) (f2 gIx (f2 gIx (fVar 1) (fVar 7)) (fC (.int 1))) (f2 gIx (f2 gIx (fVar 1) (f2 gSub (fVar 7) (fC (.int 1)))) (fC (.int 1)))) (fVar 7) [some (.tup (iL s)), some (.tup (prs (rle s))), none, some (.tup (iL s)), x4, x5, none, none] (rgD 1 n) [] [] = some ([], []) :=
    lc_none rfl _ [] fun d hd => by
      obtain ⟨k, hk⟩ := List.mem_iff_getElem?.mp hd
      obtain ⟨hk2, rfl⟩ := rgD_at hk
      obtain ⟨p, hp⟩ : ∃ p, (rle s)[k]? = some p := ⟨_, List.getElem?_eq_getElem (by omega)⟩
      obtain ⟨q, hq⟩ : ∃ p, (rle s)[k + 1]? = some p := ⟨_, List.getElem?_eq_getElem (by omega)⟩
      have hne := rle_adj hp hq
      have b1 := hPat hq
      have b2 := hPat hp
      rw [show ((k + 1 : Nat) : Int) = 1 + (k : Int) by omega] at b1
      have b2' : L2.atI (prs (rle s)) (1 + (k : Int) - 1) = some (pr p.1 p.2) := by rw [show 1 + (k : Int) - 1 = (k : Int) by omega]; exact b2
      have hne' : ¬ (q.2 = p.2) := fun z => hne z.symm
      refine ⟨_, rfl, ?_⟩
      generalize prs (rle s) = P at *
      generalize iL s = S at *
      generalize 1 + (k : Int) = K at *
      simp [b1, b2', hne']
  have heq := eq_iL s
  obtain ⟨P, eP⟩ : ∃ P, prs (rle s) = P := ⟨_, rfl⟩
  rw [eP] at hP
  simp only [eP] at a1 el c1 c2
  obtain ⟨S, eS⟩ : ∃ S, iL s = S := ⟨_, rfl⟩
  rw [iL_nil] at el
  simp only [eS] at a1 a2 el c1 c2 heq hS
  rw [eS]
  have g1 : rq1 [some (.tup S), none, none, none, none, none, none, none] [] = some (.nx [some (.tup S), some (.tup P), none, none, none, none, none, none], []) := by unfold rq1 qruns_packed; simp [a1]
  have g2 : rq2 [some (.tup S), some (.tup P), none, none, none, none, none, none] [] = some (.nx [some (.tup S), some (.tup P), none, none, none, none, none, none], []) := by unfold rq2; simp [fiSq, wipeR, c1]
  have g3 : rq3 [some (.tup S), some (.tup P), none, none, none, none, none, none] [] = some (.nx [some (.tup S), some (.tup P), none, some (.tup []), none, none, none, none], []) := by unfold rq3; simp
  have g4 : rq4 [some (.tup S), some (.tup P), none, some (.tup []), none, none, none, none] [] = some (.nx [some (.tup S), some (.tup P), none, some (.tup S), x4, x5, none, none], []) := by unfold rq4; simp [fiSq, el]
  have g5 : rq5 [some (.tup S), some (.tup P), none, some (.tup S), x4, x5, none, none] [] = some (.nx [some (.tup S), some (.tup P), none, some (.tup S), x4, x5, some (.lst []), none], []) := by unfold rq5; simp [hP, ev_rgh2 _ ok, en, wipeR, c2]
  have g6 : rq6 [some (.tup S), some (.tup P), none, some (.tup S), x4, x5, some (.lst []), none] [] = some (.ret (.bl true), []) := by unfold rq6 qsaved_by_runs; simp [heq, a2, hS, hP, cI]
  have hst : startR 8 [.tup S] = [some (.tup S), none, none, none, none, none, none, none] := rfl
  unfold c_law_are_runs_right runFn
  rw [hst, rq_eq, run_nx g1, run_nx g2, run_nx g3, run_nx g4, run_nx g5, g6]
  rfl
end LP
namespace LP
open PySem PySem.Spec PyProof.Rows L2 PF
theorem samples_call {ns xs ys s : List Int} {m : Int} (h : c_law_samples [.ref 0, .kst (iL ns), .int m] [.lst (iL xs)] = some (.tup (iL s), [.lst (iL ys)])) : callS 0 c_law_samples [.ref 0, .kst (iL ns), .int m] [.lst (iL xs)] = some (.tup (iL s), [.lst (iL ys)]) := by
  have hn := nrs_iL xs
  have hn' := nrs_iL ys
  have hs := nrs_iL s
  have hk := nrs_iL ns
  generalize iL ns = L at *
  simp [callS, MO.nr, hn, hn', refIn, argsP, D.nr, hk, hs, h, anyRef]
theorem pack_call {s xs : List Int} (hl : s.length ≤ 500) (hs : ∀ v, v ∈ dif 0 s → small v) : callS 0 c_law_is_packing_right [.ref 0, .tup (iL s)] [.lst (iL xs)] = some (.bl true, [.lst (iL xs.dropLast)]) := by
  have h := packing_ev (xs := xs) hl hs
  have hn := nrs_iL xs
  have hn' := nrs_iL xs.dropLast
  have hs := nrs_iL s
  generalize iL xs.dropLast = L at *
  generalize iL s = L1 at *
  simp [callS, MO.nr, hn, hn', refIn, argsP, D.nr, hs, h, anyRef]
theorem dif_bd : ∀ (s : List Int) (l B : Int), 0 ≤ B → -B ≤ l ∧ l ≤ B → (∀ v, v ∈ s → -B ≤ v ∧ v ≤ B) → ∀ v, v ∈ dif l s → -(2 * B) ≤ v ∧ v ≤ 2 * B
  | [], l, B, _, _, _, v, hv => by simp [dif] at hv
  | x :: s, l, B, hB, hl, h, v, hv => by
    have hx := h x (by simp)
    rcases List.mem_cons.mp (show v ∈ (x - l) :: dif x s from hv) with rfl | hv
    · omega
    · exact dif_bd s x B hB hx (fun w hw => h w (List.mem_cons_of_mem _ hw)) v hv
theorem line_ev (x0 x1 x2 x3 x4 x6 x7 x8 : Option D) (hx1 : x1 = some (.ref 0)) : ∀ (n j : Nat) (acc : List Int) (xs : List Int), j + n ≤ 9 → ∃ (L ys : List Int), lcLoop (fun _ => true) (tN 5) fYes (f2 gMul (f2 gMul (fVar 5) (f2 gAdd (fC (.int 1)) (fCallS 0 q_law_take (fCons (fVar 1) (fCons (fC (.int 2)) (fNil)))))) (fC (.int 100))) [x0, x1, x2, x3, x4, none, x6, x7, x8] (rgD j n) (iL acc) [.lst (iL xs)] = some (iL (acc ++ L), [.lst (iL ys)]) ∧ L.length = n ∧ ∀ v, v ∈ L → 0 ≤ v ∧ v ≤ 2000
  | 0, j, acc, xs, _ => ⟨[], xs, by simp [rgD, lcLoop], rfl, fun v hv => by cases hv⟩
  | n + 1, j, acc, xs, hj => by
    have t1 := tk_lt (xs := xs) (m := 2) (by decide)
    obtain ⟨t, et⟩ : ∃ t, tk xs 2 = t := ⟨_, rfl⟩
    rw [et] at t1
    obtain ⟨L, ys, e, hl, hb⟩ := line_ev x0 x1 x2 x3 x4 x6 x7 x8 hx1 n (j + 1) (acc ++ [(j : Int) * (1 + t) * 100]) xs.dropLast (by omega)
    have hr : rgD j (n + 1) = .int j :: rgD ((j + 1 : Nat) : Int) n := by
      unfold rgD
      rw [List.range_succ_eq_map, List.map_cons, List.map_map]
      congr 1
      apply List.map_congr_left
      intro i _
      simp only [Function.comp]
      congr 1
      omega
    have m1 : okMul (j : Int) (1 + t) = true := okMul_l (by omega)
    have m2 : okMul ((j : Int) * (1 + t)) 100 = true := okMul_r (by decide)
    have hval : 0 ≤ (j : Int) * (1 + t) * 100 ∧ (j : Int) * (1 + t) * 100 ≤ 2000 := by
      obtain h | h : t = 0 ∨ t = 1 := by omega
      · subst h; omega
      · subst h; omega
    refine ⟨(j : Int) * (1 + t) * 100 :: L, ys, ?_, by simp [hl], fun v hv => ?_⟩
    · rw [hr, lcLoop, if_pos rfl]
      have hfe : (f2 gMul (f2 gMul (fVar 5) (f2 gAdd (fC (.int 1)) (fCallS 0 q_law_take (fCons (fVar 1) (fCons (fC (.int 2)) (fNil)))))) (fC (.int 100))) [x0, x1, x2, x3, x4, some (.int j), x6, x7, x8] [.lst (iL xs)] = some (.int ((j : Int) * (1 + t) * 100), [.lst (iL xs.dropLast)]) := by
        subst hx1
        unfold q_law_take
        simp [take_c0, et, m1, m2]
      rw [ev_tN]
      simp only [Option.bind_some]
      rw [ev_yes]
      simp only [Option.bind_some, if_true, List.set_cons_succ, List.set_cons_zero]
      rw [hfe]
      simp only [Option.bind_some]
      rw [show iL acc ++ [D.int ((j : Int) * (1 + t) * 100)] = iL (acc ++ [(j : Int) * (1 + t) * 100]) by simp [iL], e]
      simp
    · rcases List.mem_cons.mp hv with rfl | hv
      · exact hval
      · exact hb v hv
def st1 : FS := (sSet 1 (fCall q_law_draws (fCons (fVar 0) (fCons (fC (.int 300)) (fNil)))))
def st2 : FS := (sSet 2 (fCallS 0 q_law_samples (fCons (fVar 1) (fCons (fVar 0) (fCons (fCallS 0 q_law_take (fCons (fVar 1) (fCons (f2 gIx (fFz (fLstD (fCons (fC (.int 6)) (fCons (fC (.int 41)) (fNil))))) (fCallS 0 q_law_take (fCons (fVar 1) (fCons (fC (.int 2)) (fNil))))) (fNil)))) (fNil))))))
def st3 : FS := (sSet 3 (fCallS 0 q_law_samples (fCons (fVar 1) (fCons (fVar 0) (fCons (fCallS 0 q_law_take (fCons (fVar 1) (fCons (fC (.int 9)) (fNil)))) (fNil))))))
def st4 : FS := (sSet 4 (fB gTuple (fCons (fFz (fLC [5] (fiRg1 (fCons (fCallS 0 q_law_take (fCons (fVar 1) (fCons (fC (.int 9)) (fNil)))) (fNil))) (tN 5) (fYes) (f2 gMul (f2 gMul (fVar 5) (f2 gAdd (fC (.int 1)) (fCallS 0 q_law_take (fCons (fVar 1) (fCons (fC (.int 2)) (fNil)))))) (fC (.int 100))))) (fNil))))
def st5 : FS := (sFor (fiSq (fFz (fLstD (fCons (fVar 2) (fCons (fVar 3) (fCons (fVar 4) (fNil))))))) (tN 6)
      (sSeq (sIf (fOr (fNot (fTru (fCallS 0 q_law_is_packing_right (fCons (fVar 1) (fCons (fVar 6) (fNil)))))) (fOr (fNot (fTru (fCall q_law_is_second_right (fCons (fVar 6) (fNil))))) (fNot (fTru (fCall q_law_are_runs_right (fCons (fVar 6) (fNil)))))))
      (sRet (fC (.bl false)))
      (sNext))
      (sIf (fNot (fTru (fCall q_law_are_bits_right (fCons (fVar 6) (fCons (fVar 3) (fNil))))))
      (sRet (fC (.bl false)))
      (sNext))))
def st6 : FS := (sSet 7 (f2 gAdd (f2 gRepT (fTup (fCons (fC (.int 7)) (fNil))) (f2 gAdd (fC (.int 1)) (fCallS 0 q_law_take (fCons (fVar 1) (fCons (fC (.int 30)) (fNil)))))) (fTup (fCons (fC (.int 8)) (fNil)))))
def st7 : FS := (sSet 8 (fTup (fCons (fC (.int 100)) (fCons (fC (.int 300)) (fCons (fC (.int 300)) (fCons (f1 gNeg (fC (.int 40000))) (fNil)))))))
def st8 : FS := (sIf (fOr (fNot (fTru (fCall q_law_are_runs_right (fCons (fVar 7) (fNil))))) (fOr (fNot (fTru (fCall q_law_are_bits_right (fCons (fVar 8) (fCons (fTup (fCons (fC (.int 5)) (fNil))) (fNil)))))) (fOr (fNot (fTru (fCall q_law_is_second_right (fCons (fVar 8) (fNil))))) (fNot (fTru (fCallS 0 q_law_is_packing_right (fCons (fVar 1) (fCons (fVar 8) (fNil)))))))))
      (sRet (fC (.bl false)))
      (sNext))
def st9 : FS := (sRet (fAndV (fCall q_law_same (fCons (fCall qbest_order (fCons (fTup (fCons (fC (.int 0)) (fCons (fC (.int 200)) (fCons (fC (.int 400)) (fCons (fC (.int 600)) (fCons (fC (.int 800)) (fNil))))))) (fNil))) (fCons (fC (.int 2)) (fNil)))) (fAndV (fCall q_law_are_bits_right (fCons (fTup (fNil)) (fCons (fVar 8) (fNil)))) (fCall q_law_same (fCons (fCall qunpacked (fCons (fTup (fNil)) (fNil))) (fCons (fTup (fNil)) (fNil)))))))
theorem blaw_eq : blaw = (sSeq st1 (sSeq st2 (sSeq st3 (sSeq st4 (sSeq st5 (sSeq st6 (sSeq st7 (sSeq st8 st9)))))))) := rfl
def lStep : FS := (sSeq (sIf (fOr (fNot (fTru (fCallS 0 q_law_is_packing_right (fCons (fVar 1) (fCons (fVar 6) (fNil)))))) (fOr (fNot (fTru (fCall q_law_is_second_right (fCons (fVar 6) (fNil))))) (fNot (fTru (fCall q_law_are_runs_right (fCons (fVar 6) (fNil)))))))
      (sRet (fC (.bl false)))
      (sNext))
      (sIf (fNot (fTru (fCall q_law_are_bits_right (fCons (fVar 6) (fCons (fVar 3) (fNil))))))
      (sRet (fC (.bl false)))
      (sNext)))
def fewL : List Int := [100, 300, 300, -40000]
theorem kk1 : cbest_order [.tup [.int 0, .int 200, .int 400, .int 600, .int 800]] [] = some (.int 2, []) := by kernel_rfl
theorem kk2 : cunpacked [.tup []] [] = some (.tup [], []) := by kernel_rfl
theorem kk3 : q_law_same [.tup [], .tup []] [] = some (.bl true, []) := by kernel_rfl
theorem law_data : ∀ ns : List Int, ns.length ≤ 63 → claw [.kst (ns.map .int)] [] = some (.bl true, []) := by
  intro ns hl
  show claw [.kst (iL ns)] [] = _
  obtain ⟨xs, hd⟩ := draws_ev ns hl 300 (by decide)
  have hd' : c_law_draws [.kst (iL ns), .int 300] [] = some (.ref 0, [.lst (iL xs)]) := hd
  have hk := nrs_iL ns
  have hn := nrs_iL xs
  have hdc : callP c_law_draws [.kst (iL ns), .int 300] [] = some (.ref 0, [.lst (iL xs)]) := by
    simp [callP, argsP, hk, hd', anyRef, hn]
  obtain ⟨m, hm, hm0, hm1⟩ : ∃ m : Int, L2.atI [D.int 6, .int 41] (tk xs 2) = some (.int m) ∧ 1 ≤ m ∧ m ≤ 41 := by
    have := tk_lt (xs := xs) (m := 2) (by decide)
    obtain h | h : tk xs 2 = 0 ∨ tk xs 2 = 1 := by omega
    · exact ⟨6, by rw [h]; exact at_nat (n := 0) rfl, by decide, by decide⟩
    · exact ⟨41, by rw [h]; exact at_nat (n := 1) rfl, by decide, by decide⟩
  have tm := tk_lt (xs := xs.dropLast) (m := m) (by omega)
  obtain ⟨many, em⟩ : ∃ many, tk xs.dropLast m = many := ⟨_, rfl⟩
  rw [em] at tm
  have hsel : m ≠ 0 := by omega
  obtain ⟨s, y1, hsl, hsm, hse⟩ := samples_ev hl many (by omega) xs.dropLast.dropLast
  have hsc := samples_call hse
  have tm2 := tk_lt (xs := y1) (m := 9) (by decide)
  obtain ⟨many2, em2⟩ : ∃ many, tk y1 9 = many := ⟨_, rfl⟩
  rw [em2] at tm2
  obtain ⟨o, y2, hol, hom, hoe⟩ := samples_ev hl many2 (by omega) y1.dropLast
  have hoc := samples_call hoe
  have tm3 := tk_lt (xs := y2) (m := 9) (by decide)
  obtain ⟨n3, en3⟩ : ∃ n : Nat, tk y2 9 = n := ⟨(tk y2 9).toNat, by omega⟩
  rw [en3] at tm3
  have okn : okR 0 (n3 : Int) = true := okR_of (by omega) (by omega) (by omega) (by omega)
  obtain ⟨ln, y3, hln, hlnl, hlnb⟩ := line_ev (some (.kst (iL ns))) (some (.ref 0)) (some (.tup (iL s))) (some (.tup (iL o))) none none none none rfl n3 0 [] y2.dropLast (by omega)
  rw [List.nil_append] at hln
  have hlsm : ∀ v, v ∈ dif 0 ln → small v := fun v hv => by
    have := dif_bd ln 0 2000 (by decide) (by decide) (fun w hw => by have := hlnb w hw; omega) v hv
    unfold small; omega
  have oneStep : ∀ (w zs : List Int) (x6 : Option D) , w.length ≤ 400 → (∀ v, v ∈ dif 0 w → small v) → sStep (tN 6) lStep (.tup (iL w)) [some (.kst (iL ns)), some (.ref 0), some (.tup (iL s)), some (.tup (iL o)), some (.tup (iL ln)), none, x6, none, none] [.lst (iL zs)] =
      some (.nx [some (.kst (iL ns)), some (.ref 0), some (.tup (iL s)), some (.tup (iL o)), some (.tup (iL ln)), none, some (.tup (iL w)), none, none], [.lst (iL zs.dropLast)]) := by
    intro w zs x6 hw hsw
    have h1 := pack_call (s := w) (xs := zs) (by omega) hsw
    have h2 := cpT (nrs_iL w) (second_right_ev (s := w) (by omega))
    have h3 := cpT (nrs_iL w) (runs_right_ev (s := w) (by omega))
    have h4 := cpTT (nrs_iL w) (nrs_iL o) (bits_right_ev (s := w) (o := o) hw (by omega))
    generalize iL zs.dropLast = Z at *
    generalize iL w = W at *
    generalize iL o = O at *
    generalize iL s = S at *
    generalize iL ln = LN at *
    generalize iL ns = L at *
    unfold lStep q_law_is_packing_right q_law_is_second_right q_law_are_runs_right q_law_are_bits_right
    simp [h1, h2, h3, h4]
  have hloop := loop_inv (c := chk none [.tup (iL s), .tup (iL o), .tup (iL ln)]) (xs := [.tup (iL s), .tup (iL o), .tup (iL ln)]) (ρ := [some (.kst (iL ns)), some (.ref 0), some (.tup (iL s)), some (.tup (iL o)), some (.tup (iL ln)), none, none, none, none]) (M := [.lst (iL y3)])
    (fun k ρ' M' => ∃ (zs : List Int) (x6 : Option D), ρ' = [some (.kst (iL ns)), some (.ref 0), some (.tup (iL s)), some (.tup (iL o)), some (.tup (iL ln)), none, x6, none, none] ∧ M' = [.lst (iL zs)]) (fun _ _ _ _ => rfl)
    (step := sStep (tN 6) lStep) (by
      rintro k d ρ M hd ⟨zs, x6, rfl, rfl⟩
      have hmm := List.mem_of_getElem? hd
      simp at hmm
      rcases hmm with rfl | rfl | rfl
      · exact ⟨_, _, oneStep s zs x6 (by omega) hsm, _, _, rfl, rfl⟩
      · exact ⟨_, _, oneStep o zs x6 (by omega) hom, _, _, rfl, rfl⟩
      · exact ⟨_, _, oneStep ln zs x6 (by omega) hlsm, _, _, rfl, rfl⟩) ⟨y3, none, rfl, rfl⟩
  obtain ⟨ρ', M', el, zs, x6, rfl, rfl⟩ := hloop
  unfold lStep at el
  have tm4 := tk_lt (xs := zs) (m := 30) (by decide)
  obtain ⟨r, er⟩ : ∃ r, tk zs 30 = r := ⟨_, rfl⟩
  rw [er] at tm4
  obtain ⟨lg, elg⟩ : ∃ lg, List.replicate (1 + r).toNat (7 : Int) ++ [8] = lg := ⟨_, rfl⟩
  have hlg : lg.length ≤ 40 := by rw [← elg]; simp; omega
  have hrep := fun M => rep_ev 7 (1 + r) M (by omega) (by omega)
  have hadd : ∀ M, gAdd (.tup (iL (List.replicate (1 + r).toNat 7))) (.tup [.int 8]) M = some (.tup (iL lg)) := fun M => by
    rw [← elg]
    exact add_iL _ [8] M (by simp; omega)
  have hfs : ∀ v, v ∈ dif 0 fewL → small v := by
    intro v hv
    have := dif_bd fewL 0 50000 (by decide) (by decide) (by decide) v hv
    unfold small; omega
  have f1 := cpT (nrs_iL lg) (runs_right_ev (s := lg) (by omega))
  have f2' : ∀ M, callP c_law_are_bits_right [.tup [.int 100, .int 300, .int 300, .int (-40000)], .tup [.int 5]] M = some (.bl true, M) := cpTT (nrs_iL fewL) (nrs_iL [5]) (bits_right_ev (s := fewL) (o := [5]) (by decide) (by decide))
  have f3 : ∀ M, callP c_law_is_second_right [.tup [.int 100, .int 300, .int 300, .int (-40000)]] M = some (.bl true, M) := cpT (nrs_iL fewL) (second_right_ev (s := fewL) (by decide))
  have f4 : callS 0 c_law_is_packing_right [.ref 0, .tup [.int 100, .int 300, .int 300, .int (-40000)]] [.lst (iL zs.dropLast)] = some (.bl true, [.lst (iL zs.dropLast.dropLast)]) := pack_call (s := fewL) (xs := zs.dropLast) (by decide) hfs
  have f5 : ∀ M, callP c_law_are_bits_right [.tup [], .tup [.int 100, .int 300, .int 300, .int (-40000)]] M = some (.bl true, M) := cpTT (nrs_iL []) (nrs_iL fewL) (bits_right_ev (s := []) (o := fewL) (by decide) (by decide))
  have cI : ∀ (i : Int) (M : Mem), callP q_law_same [.int i, .int i] M = some (.bl true, M) := fun i => cpS (by simp [sok])
  have f6 := cpT (c := cbest_order) (by rfl) kk1
  have f7 := cpT (c := cunpacked) (by rfl) kk2
  have f8 := cp2 (c := q_law_same) rfl (fun _ => rfl) rfl rfl (fun _ => rfl) rfl kk3
  obtain ⟨few, ef⟩ : ∃ few : D, D.tup [.int 100, .int 300, .int 300, .int (-40000)] = few := ⟨_, rfl⟩
  rw [ef] at f4
  simp only [ef] at f2' f3 f5
  obtain ⟨Z, eZ⟩ : ∃ Z, zs.dropLast.dropLast = Z := ⟨_, rfl⟩
  rw [eZ] at f4
  generalize iL (List.replicate (1 + r).toNat 7) = RP at *
  generalize iL lg = LG at *
  generalize iL s = S at *
  generalize iL o = O at *
  generalize iL ln = LN at *
  generalize iL ns = L at *
  have g1 : st1 [some (.kst L), none, none, none, none, none, none, none, none] [] = some (.nx [some (.kst L), some (.ref 0), none, none, none, none, none, none, none], [.lst (iL xs)]) := by unfold st1 q_law_draws; simp [hdc]
  have g2 : st2 [some (.kst L), some (.ref 0), none, none, none, none, none, none, none] [.lst (iL xs)] = some (.nx [some (.kst L), some (.ref 0), some (.tup S), none, none, none, none, none, none], [.lst (iL y1)]) := by
    unfold st2 q_law_take q_law_samples; simp [take_c0, hm, hsel, em, hsc]
  have g3 : st3 [some (.kst L), some (.ref 0), some (.tup S), none, none, none, none, none, none] [.lst (iL y1)] = some (.nx [some (.kst L), some (.ref 0), some (.tup S), some (.tup O), none, none, none, none, none], [.lst (iL y2)]) := by
    unfold st3 q_law_take q_law_samples; simp [take_c0, em2, hoc]
  have g4 : st4 [some (.kst L), some (.ref 0), some (.tup S), some (.tup O), none, none, none, none, none] [.lst (iL y2)] = some (.nx [some (.kst L), some (.ref 0), some (.tup S), some (.tup O), some (.tup LN), none, none, none, none], [.lst (iL y3)]) := by
    have hln' : lcLoop (chk none (rgD 0 n3)) (tN 5) fYes (f2 gMul (f2 gMul (fVar 5) (f2 gAdd (fC (.int 1)) (fCallS 0 q_law_take (fCons (fVar 1) (fCons (fC (.int 2)) (fNil)))))) (fC (.int 100))) [some (.kst L), some (.ref 0), some (.tup S), some (.tup O), none, none, none, none, none] (rgD 0 n3) [] [.lst (iL y2.dropLast)] = some (LN, [.lst (iL y3)]) := hln
    unfold st4
    unfold q_law_take at hln' ⊢
    simp [take_c0, en3, ev_rgh1 _ okn, wipeR, hln']
  have g5 : st5 [some (.kst L), some (.ref 0), some (.tup S), some (.tup O), some (.tup LN), none, none, none, none] [.lst (iL y3)] = some (.nx [some (.kst L), some (.ref 0), some (.tup S), some (.tup O), some (.tup LN), none, x6, none, none], [.lst (iL zs)]) := by
    unfold st5; simp [fiSq, el]
  have g6 : st6 [some (.kst L), some (.ref 0), some (.tup S), some (.tup O), some (.tup LN), none, x6, none, none] [.lst (iL zs)] = some (.nx [some (.kst L), some (.ref 0), some (.tup S), some (.tup O), some (.tup LN), none, x6, some (.tup LG), none], [.lst (iL zs.dropLast)]) := by
    unfold st6 q_law_take; simp [take_c0, er, hrep, hadd]
  have g7 : st7 [some (.kst L), some (.ref 0), some (.tup S), some (.tup O), some (.tup LN), none, x6, some (.tup LG), none] [.lst (iL zs.dropLast)] = some (.nx [some (.kst L), some (.ref 0), some (.tup S), some (.tup O), some (.tup LN), none, x6, some (.tup LG), some few], [.lst (iL zs.dropLast)]) := by
    unfold st7; simp [ef]
  have g8 : st8 [some (.kst L), some (.ref 0), some (.tup S), some (.tup O), some (.tup LN), none, x6, some (.tup LG), some few] [.lst (iL zs.dropLast)] = some (.nx [some (.kst L), some (.ref 0), some (.tup S), some (.tup O), some (.tup LN), none, x6, some (.tup LG), some few], [.lst (iL Z)]) := by
    unfold st8 q_law_are_runs_right q_law_are_bits_right q_law_is_second_right q_law_is_packing_right; simp [f1, f2', f3, f4]
  have g9 : st9 [some (.kst L), some (.ref 0), some (.tup S), some (.tup O), some (.tup LN), none, x6, some (.tup LG), some few] [.lst (iL Z)] = some (.ret (.bl true), [.lst (iL Z)]) := by
    unfold st9 qbest_order q_law_are_bits_right qunpacked; simp [f6, cI, f5, f7, f8]
  have hst : startR 9 [.kst L] = [some (.kst L), none, none, none, none, none, none, none, none] := rfl
  unfold claw runFn
  rw [hst, blaw_eq, run_nx g1, run_nx g2, run_nx g3, run_nx g4, run_nx g5, run_nx g6, run_nx g7, run_nx g8, g9]
  rfl
end LP
namespace LP
open PySem PySem.Spec PyProof.Rows L2 PF
def topS (i : Nat) : Stmt := PySem.Challenge.pw_shocksknown_k61_whole_packing_and_back.main.body.getD i (.Pass ⟨0, 0, 0, 0⟩)
section
variable {P : Program} {w : World} {K : PySem.W.Frag} {mg : Str → Option Value} {base : Heap}
abbrev stbytes_of : Stmt := topS 3
theorem scbytes_of : FnScope ["value"] ["value"] (defScope stbytes_of) := ⟨rfl, rfl, rfl, by decide +kernel, rfl, by decide +kernel, by decide +kernel⟩
theorem okbytes_of {f : Addr} {fd : FuncData} (F : FunD K "bytes_of" "bytes_of" (defArgs stbytes_of) (defBody stbytes_of) (defScope stbytes_of) [] [] f fd) (g : mg "bytes_of" = some (.ref f)) (B : Bn mg)  : Cal P w K mg base 1 "bytes_of" cbytes_of 1 := by
  have nd := scbytes_of.nd
  refine cal_of (ps := ["value"]) g F.kp (F.bindsN fun _ _ _ _ _ _ us hl => match us, hl with | [_], _ => rfl) (fn_ok (k := 0) F scbytes_of fun cdv A outer s H E hr => ?_)
  exact pfs_cons (pfs_if (pft_chain op_le o_cmp op_le o_cmp (pf_un un_neg o_neg (pf_int)) (pf_var 0) (pf_int))
      (pfs_one (pfs_ret (pf_int)))
      (pfs_nil))
      (pfs_one (pfs_ret (pf_if (pft_chain op_le o_cmp op_le o_cmp (pf_un un_neg o_neg (pf_int)) (pf_var 0) (pf_int)) (pf_int) (pf_int))))
abbrev stfirst_differences : Stmt := topS 4
theorem scfirst_differences : FnScope ["samples", "at"] ["samples"] (defScope stfirst_differences) := ⟨rfl, rfl, rfl, by decide +kernel, rfl, by decide +kernel, by decide +kernel⟩
theorem okfirst_differences {f : Addr} {fd : FuncData} (F : FunD K "first_differences" "first_differences" (defArgs stfirst_differences) (defBody stfirst_differences) (defScope stfirst_differences) [] [] f fd) (g : mg "first_differences" = some (.ref f)) (B : Bn mg)  : Cal P w K mg base 1 "first_differences" cfirst_differences 1 := by
  have nd := scfirst_differences.nd
  refine cal_of (ps := ["samples"]) g F.kp (F.bindsN fun _ _ _ _ _ _ us hl => match us, hl with | [_], _ => rfl) (fn_ok (k := 0) F scfirst_differences fun cdv A outer s H E hr => ?_)
  exact pfs_one (pfs_ret (pf_fz (pfn_lc (own := [("at", 1)]) rfl nd (pfi_rg1 (by rfl) B.range (pfa_cons (pf_b call_len o_len (by rfl) B.len boot_len (pfa_cons (pf_var 0) (pfa_nil))) (pfa_nil))) (blkOk_by (own := [("at", 1)]) (N := ["samples", "at"]) (by with_unfolding_all rfl)) (fun _ _ _ _ _ => pfg_name (i := 1) nd rfl (by first | exact Or.inl rfl | exact Or.inr rfl)) (fun _ _ _ _ _ => pfts_nil) (fun _ _ _ _ _ => pf_if (pft_cmp op_gt o_cmp (pf_var 1) (pf_int) (nomark _)) (pf_bin op_sub o_sub (pf_ix ix_seq o_ix (pf_var 0) (pf_var 1) (fun _ _ => rfl)) (pf_ix ix_seq o_ix (pf_var 0) (pf_bin op_sub o_sub (pf_var 1) (pf_int)) (fun _ _ => rfl))) (pf_ix ix_seq o_ix (pf_var 0) (pf_var 1) (fun _ _ => rfl))))))
abbrev stpacked_of : Stmt := topS 5
theorem scpacked_of : FnScope ["samples", "value"] ["samples"] (defScope stpacked_of) := ⟨rfl, rfl, rfl, by decide +kernel, rfl, by decide +kernel, by decide +kernel⟩
theorem okpacked_of {f : Addr} {fd : FuncData} (F : FunD K "packed_of" "packed_of" (defArgs stpacked_of) (defBody stpacked_of) (defScope stpacked_of) [] [] f fd) (g : mg "packed_of" = some (.ref f)) (B : Bn mg) (Cfirst_differences : Cal P w K mg base 1 "first_differences" qfirst_differences 1) (Cbytes_of : Cal P w K mg base 1 "bytes_of" qbytes_of 1) : Cal P w K mg base 2 "packed_of" cpacked_of 1 := by
  have nd := scpacked_of.nd
  refine cal_of (ps := ["samples"]) g F.kp (F.bindsN fun _ _ _ _ _ _ us hl => match us, hl with | [_], _ => rfl) (fn_ok (k := 1) F scpacked_of fun cdv A outer s H E hr => ?_)
  exact pfs_one (pfs_ret (pf_ty call_tuple_of o_tuple (by rfl) B.tuple boot_tuple (pfa_cons (pf_fz (pfn_lc (own := [("value", 1)]) rfl nd (pfi_sq (pf_callC Cfirst_differences (hr.mono (by decide)) (by rfl) (pfa_cons (pf_var 0) (pfa_nil)) (len_cons len_nil))) (blkOk_by (own := [("value", 1)]) (N := ["samples", "value"]) (by with_unfolding_all rfl)) (fun _ _ _ _ _ => pfg_name (i := 1) nd rfl (by first | exact Or.inl rfl | exact Or.inr rfl)) (fun _ _ _ _ _ => pfts_nil) (fun _ _ _ _ _ => pf_tup (pfa_cons (pf_callC Cbytes_of (hr.mono (by decide)) (by rfl) (pfa_cons (pf_var 1) (pfa_nil)) (len_cons len_nil)) (pfa_cons (pf_var 1) (pfa_nil)))))) (pfa_nil))))
abbrev stunpacked : Stmt := topS 6
theorem scunpacked : FnScope ["pairs", "found", "last", "size", "value"] ["pairs"] (defScope stunpacked) := ⟨rfl, rfl, rfl, by decide +kernel, rfl, by decide +kernel, by decide +kernel⟩
theorem okunpacked {f : Addr} {fd : FuncData} (F : FunD K "unpacked" "unpacked" (defArgs stunpacked) (defBody stunpacked) (defScope stunpacked) [] [] f fd) (g : mg "unpacked" = some (.ref f)) (B : Bn mg) (k_LEAST : ∃ t, mg "LEAST" = some (.int (-2147483648) t)) (k_MOST : ∃ t, mg "MOST" = some (.int (2147483647) t)) (Cbytes_of : Cal P w K mg base 1 "bytes_of" qbytes_of 1) : Cal P w K mg base 2 "unpacked" cunpacked 1 := by
  have nd := scunpacked.nd
  refine cal_of (ps := ["pairs"]) g F.kp (F.bindsN fun _ _ _ _ _ _ us hl => match us, hl with | [_], _ => rfl) (fn_ok (k := 1) F scunpacked fun cdv A outer s H E hr => ?_)
  exact pfs_cons (pfs_set (i := 1) nd rfl (by first | exact Or.inl rfl | exact Or.inr rfl) (pf_mut (pfn_lst (pfa_nil))))
      (pfs_cons (pfs_set (i := 2) nd rfl (by first | exact Or.inl rfl | exact Or.inr rfl) (pf_int))
      (pfs_cons (pfs_for (vs := [3, 4]) PassesOwn.never rfl (pfi_sq (pf_var 0)) (pfg_tup rfl (pfgs_cons (pfg_name (i := 3) nd rfl (by first | exact Or.inl rfl | exact Or.inr rfl)) (pfgs_cons (pfg_name (i := 4) nd rfl (by first | exact Or.inl rfl | exact Or.inr rfl)) (pfgs_nil))))
      (pfs_cons (pfs_if (PW.pt (pfw_or (pft_cmp (op_neD hr.units) o_ne (pf_var 3) (pf_callC Cbytes_of (hr.mono (by decide)) (by rfl) (pfa_cons (pf_var 4) (pfa_nil)) (len_cons len_nil)) (nomark _)) (pfw_or1 (pft_not (pft_chain op_le o_cmp op_le o_cmp (pf_c (d := .int (-2147483648)) (v := .int (-2147483648)) (pe_glob rfl k_LEAST.choose_spec ⟨_, rfl⟩) (fun _ => rfl)) (pf_var 4) (pf_c (d := .int (2147483647)) (v := .int (2147483647)) (pe_glob rfl k_MOST.choose_spec ⟨_, rfl⟩) (fun _ => rfl)))))))
      (pfs_one (pfs_ret (pf_non)))
      (pfs_nil))
      (pfs_cons (pfs_aug (i := 2) nd rfl (by first | exact Or.inl rfl | exact Or.inr rfl) (pf_var 4) iop_addA o_iaddA)
      (pfs_one (pfs_expr (pf_m PySem.F.plainAttrs_list PySem.F.slot_list_append PySem.F.type_list_append mt_append o_append (pf_var 1) (pfa_cons (pf_var 2) (pfa_nil))))))))
      (pfs_one (pfs_ret (pf_ty call_tuple_of o_tuple (by rfl) B.tuple boot_tuple (pfa_cons (pf_var 1) (pfa_nil)))))))
abbrev stbits_for : Stmt := topS 7
theorem scbits_for : FnScope ["values", "value"] ["values"] (defScope stbits_for) := ⟨rfl, rfl, rfl, by decide +kernel, rfl, by decide +kernel, by decide +kernel⟩
theorem okbits_for {f : Addr} {fd : FuncData} (F : FunD K "bits_for" "bits_for" (defArgs stbits_for) (defBody stbits_for) (defScope stbits_for) [] [] f fd) (g : mg "bits_for" = some (.ref f)) (B : Bn mg) (Cbytes_of : Cal P w K mg base 1 "bytes_of" qbytes_of 1) : Cal P w K mg base 2 "bits_for" cbits_for 1 := by
  have nd := scbits_for.nd
  refine cal_of (ps := ["values"]) g F.kp (F.bindsN fun _ _ _ _ _ _ us hl => match us, hl with | [_], _ => rfl) (fn_ok (k := 1) F scbits_for fun cdv A outer s H E hr => ?_)
  exact pfs_one (pfs_ret (pf_b (cr_sum rfl) o_sum (by rfl) B.sum boot_sum (pfa_cons (pf_fz (pfn_lc (own := [("value", 1)]) rfl nd (pfi_sq (pf_var 0)) (blkOk_by (own := [("value", 1)]) (N := ["values", "value"]) (by with_unfolding_all rfl)) (fun _ _ _ _ _ => pfg_name (i := 1) nd rfl (by first | exact Or.inl rfl | exact Or.inr rfl)) (fun _ _ _ _ _ => pfts_nil) (fun _ _ _ _ _ => pf_bin op_addA o_add (pf_bin op_mulA o_mul (pf_int) (pf_callC Cbytes_of (hr.mono (by decide)) (by rfl) (pfa_cons (pf_var 1) (pfa_nil)) (len_cons len_nil))) (pf_int)))) (pfa_nil))))
abbrev stbits_of : Stmt := topS 8
theorem scbits_of : FnScope ["samples"] ["samples"] (defScope stbits_of) := ⟨rfl, rfl, rfl, by decide +kernel, rfl, by decide +kernel, by decide +kernel⟩
theorem okbits_of {f : Addr} {fd : FuncData} (F : FunD K "bits_of" "bits_of" (defArgs stbits_of) (defBody stbits_of) (defScope stbits_of) [] [] f fd) (g : mg "bits_of" = some (.ref f)) (B : Bn mg) (Cbits_for : Cal P w K mg base 2 "bits_for" qbits_for 1) (Cfirst_differences : Cal P w K mg base 1 "first_differences" qfirst_differences 1) : Cal P w K mg base 3 "bits_of" cbits_of 1 := by
  have nd := scbits_of.nd
  refine cal_of (ps := ["samples"]) g F.kp (F.bindsN fun _ _ _ _ _ _ us hl => match us, hl with | [_], _ => rfl) (fn_ok (k := 2) F scbits_of fun cdv A outer s H E hr => ?_)
  exact pfs_one (pfs_ret (pf_callC Cbits_for (hr.mono (by decide)) (by rfl) (pfa_cons (pf_callC Cfirst_differences (hr.mono (by decide)) (by rfl) (pfa_cons (pf_var 0) (pfa_nil)) (len_cons len_nil)) (pfa_nil)) (len_cons len_nil)))
abbrev stsecond_differences : Stmt := topS 9
theorem scsecond_differences : FnScope ["samples", "row", "at"] ["samples"] (defScope stsecond_differences) := ⟨rfl, rfl, rfl, by decide +kernel, rfl, by decide +kernel, by decide +kernel⟩
theorem oksecond_differences {f : Addr} {fd : FuncData} (F : FunD K "second_differences" "second_differences" (defArgs stsecond_differences) (defBody stsecond_differences) (defScope stsecond_differences) [] [] f fd) (g : mg "second_differences" = some (.ref f)) (B : Bn mg) (Cfirst_differences : Cal P w K mg base 1 "first_differences" qfirst_differences 1) : Cal P w K mg base 2 "second_differences" csecond_differences 1 := by
  have nd := scsecond_differences.nd
  refine cal_of (ps := ["samples"]) g F.kp (F.bindsN fun _ _ _ _ _ _ us hl => match us, hl with | [_], _ => rfl) (fn_ok (k := 1) F scsecond_differences fun cdv A outer s H E hr => ?_)
  exact pfs_cons (pfs_set (i := 1) nd rfl (by first | exact Or.inl rfl | exact Or.inr rfl) (pf_callC Cfirst_differences (hr.mono (by decide)) (by rfl) (pfa_cons (pf_var 0) (pfa_nil)) (len_cons len_nil)))
      (pfs_one (pfs_ret (pf_ty call_tuple_of o_tuple (by rfl) B.tuple boot_tuple (pfa_cons (pf_fz (pfn_lc (own := [("at", 2)]) rfl nd (pfi_rg1 (by rfl) B.range (pfa_cons (pf_b call_len o_len (by rfl) B.len boot_len (pfa_cons (pf_var 1) (pfa_nil))) (pfa_nil))) (blkOk_by (own := [("at", 2)]) (N := ["samples", "row", "at"]) (by with_unfolding_all rfl)) (fun _ _ _ _ _ => pfg_name (i := 2) nd rfl (by first | exact Or.inl rfl | exact Or.inr rfl)) (fun _ _ _ _ _ => pfts_nil) (fun _ _ _ _ _ => pf_if (pft_cmp op_gt o_cmp (pf_var 2) (pf_int) (nomark _)) (pf_bin op_sub o_sub (pf_ix ix_seq o_ix (pf_var 1) (pf_var 2) (fun _ _ => rfl)) (pf_ix ix_seq o_ix (pf_var 1) (pf_bin op_sub o_sub (pf_var 2) (pf_int)) (fun _ _ => rfl))) (pf_ix ix_seq o_ix (pf_var 1) (pf_var 2) (fun _ _ => rfl))))) (pfa_nil)))))
abbrev stbest_order : Stmt := topS 10
theorem scbest_order : FnScope ["samples", "rows", "order"] ["samples"] (defScope stbest_order) := ⟨rfl, rfl, rfl, by decide +kernel, rfl, by decide +kernel, by decide +kernel⟩
theorem okbest_order {f : Addr} {fd : FuncData} (F : FunD K "best_order" "best_order" (defArgs stbest_order) (defBody stbest_order) (defScope stbest_order) [] [] f fd) (g : mg "best_order" = some (.ref f)) (B : Bn mg) (Csecond_differences : Cal P w K mg base 2 "second_differences" qsecond_differences 1) (Cfirst_differences : Cal P w K mg base 1 "first_differences" qfirst_differences 1) (Cbits_for : Cal P w K mg base 2 "bits_for" qbits_for 1) : Cal P w K mg base 3 "best_order" cbest_order 1 := by
  have nd := scbest_order.nd
  refine cal_of (ps := ["samples"]) g F.kp (F.bindsN fun _ _ _ _ _ _ us hl => match us, hl with | [_], _ => rfl) (fn_ok (k := 2) F scbest_order fun cdv A outer s H E hr => ?_)
  exact pfs_cons (pfs_set (i := 1) nd rfl (by first | exact Or.inl rfl | exact Or.inr rfl) (pf_fz (pfn_lst (pfa_cons (pf_var 0) (pfa_cons (pf_callC Cfirst_differences (hr.mono (by decide)) (by rfl) (pfa_cons (pf_var 0) (pfa_nil)) (len_cons len_nil)) (pfa_cons (pf_callC Csecond_differences (hr.mono (by decide)) (by rfl) (pfa_cons (pf_var 0) (pfa_nil)) (len_cons len_nil)) (pfa_nil)))))))
      (pfs_one (pfs_ret (pf_ix ix_seq o_ix (pf_b (cr_minDt rfl hr.units) o_min1 (by rfl) B.min boot_min (pfa_cons (pf_fz (pfn_lc (own := [("order", 2)]) rfl nd (pfi_rg1 (by rfl) B.range (pfa_cons (pf_int) (pfa_nil))) (blkOk_by (own := [("order", 2)]) (N := ["samples", "rows", "order"]) (by with_unfolding_all rfl)) (fun _ _ _ _ _ => pfg_name (i := 2) nd rfl (by first | exact Or.inl rfl | exact Or.inr rfl)) (fun _ _ _ _ _ => pfts_nil) (fun _ _ _ _ _ => pf_tup (pfa_cons (pf_callC Cbits_for (hr.mono (by decide)) (by rfl) (pfa_cons (pf_ix ix_seq o_ix (pf_var 1) (pf_var 2) (fun _ _ => rfl)) (pfa_nil)) (len_cons len_nil)) (pfa_cons (pf_var 2) (pfa_nil)))))) (pfa_nil))) (pf_int) (fun _ _ => rfl))))
abbrev struns_packed : Stmt := topS 11
theorem scruns_packed : FnScope ["samples", "found", "sample"] ["samples"] (defScope struns_packed) := ⟨rfl, rfl, rfl, by decide +kernel, rfl, by decide +kernel, by decide +kernel⟩
theorem okruns_packed {f : Addr} {fd : FuncData} (F : FunD K "runs_packed" "runs_packed" (defArgs struns_packed) (defBody struns_packed) (defScope struns_packed) [] [] f fd) (g : mg "runs_packed" = some (.ref f)) (B : Bn mg)  : Cal P w K mg base 1 "runs_packed" cruns_packed 1 := by
  have nd := scruns_packed.nd
  refine cal_of (ps := ["samples"]) g F.kp (F.bindsN fun _ _ _ _ _ _ us hl => match us, hl with | [_], _ => rfl) (fn_ok (k := 0) F scruns_packed fun cdv A outer s H E hr => ?_)
  exact pfs_cons (pfs_set (i := 1) nd rfl (by first | exact Or.inl rfl | exact Or.inr rfl) (pf_mut (pfn_lst (pfa_nil))))
      (pfs_cons (pfs_for (vs := [2]) PassesOwn.never rfl (pfi_sq (pf_var 0)) (pfg_name (i := 2) nd rfl (by first | exact Or.inl rfl | exact Or.inr rfl))
      (pfs_one (pfs_if (PW.pt (pfw_and (pft_cmp op_gt o_cmp (pf_b call_len o_len (by rfl) B.len boot_len (pfa_cons (pf_var 1) (pfa_nil))) (pf_int) (nomark _)) (pfw_and1 (pft_cmp (op_eqD hr.units) o_eq (pf_ix ix_seq o_ix (pf_ix ix_seq o_ix (pf_var 1) (pf_un un_neg o_neg (pf_int)) (fun _ _ => rfl)) (pf_int) (fun _ _ => rfl)) (pf_var 2) (nomark _)))))
      (pfs_one (pfs_setIx (pf_tup (pfa_cons (pf_bin op_addA o_add (pf_ix ix_seq o_ix (pf_ix ix_seq o_ix (pf_var 1) (pf_un un_neg o_neg (pf_int)) (fun _ _ => rfl)) (pf_int) (fun _ _ => rfl)) (pf_int)) (pfa_cons (pf_var 2) (pfa_nil)))) (pf_var 1) (pf_un un_neg o_neg (pf_int))))
      (pfs_one (pfs_expr (pf_m PySem.F.plainAttrs_list PySem.F.slot_list_append PySem.F.type_list_append mt_append o_append (pf_var 1) (pfa_cons (pf_tup (pfa_cons (pf_int) (pfa_cons (pf_var 2) (pfa_nil)))) (pfa_nil))))))))
      (pfs_one (pfs_ret (pf_ty call_tuple_of o_tuple (by rfl) B.tuple boot_tuple (pfa_cons (pf_var 1) (pfa_nil))))))
abbrev stsaved_by_runs : Stmt := topS 12
theorem scsaved_by_runs : FnScope ["samples"] ["samples"] (defScope stsaved_by_runs) := ⟨rfl, rfl, rfl, by decide +kernel, rfl, by decide +kernel, by decide +kernel⟩
theorem oksaved_by_runs {f : Addr} {fd : FuncData} (F : FunD K "saved_by_runs" "saved_by_runs" (defArgs stsaved_by_runs) (defBody stsaved_by_runs) (defScope stsaved_by_runs) [] [] f fd) (g : mg "saved_by_runs" = some (.ref f)) (B : Bn mg) (Cruns_packed : Cal P w K mg base 1 "runs_packed" qruns_packed 1) : Cal P w K mg base 2 "saved_by_runs" csaved_by_runs 1 := by
  have nd := scsaved_by_runs.nd
  refine cal_of (ps := ["samples"]) g F.kp (F.bindsN fun _ _ _ _ _ _ us hl => match us, hl with | [_], _ => rfl) (fn_ok (k := 1) F scsaved_by_runs fun cdv A outer s H E hr => ?_)
  exact pfs_one (pfs_ret (pf_bin op_sub o_sub (pf_b call_len o_len (by rfl) B.len boot_len (pfa_cons (pf_var 0) (pfa_nil))) (pf_b call_len o_len (by rfl) B.len boot_len (pfa_cons (pf_callC Cruns_packed (hr.mono (by decide)) (by rfl) (pfa_cons (pf_var 0) (pfa_nil)) (len_cons len_nil)) (pfa_nil)))))
abbrev stfiltered_samples : Stmt := topS 14
theorem scfiltered_samples : FnScope ["samples", "kernel", "found", "at", "step"] ["samples", "kernel"] (defScope stfiltered_samples) := ⟨rfl, rfl, rfl, by decide +kernel, rfl, by decide +kernel, by decide +kernel⟩
theorem okfiltered_samples {f : Addr} {fd : FuncData} (F : FunD K "filtered_samples" "filtered_samples" (defArgs stfiltered_samples) (defBody stfiltered_samples) (defScope stfiltered_samples) [] [] f fd) (g : mg "filtered_samples" = some (.ref f)) (B : Bn mg)  : Cal P w K mg base 1 "filtered_samples" cfiltered_samples 2 := by
  have nd := scfiltered_samples.nd
  refine cal_of (ps := ["samples", "kernel"]) g F.kp (F.bindsN fun _ _ _ _ _ _ us hl => match us, hl with | [_, _], _ => rfl) (fn_ok (k := 0) F scfiltered_samples fun cdv A outer s H E hr => ?_)
  exact pfs_cons (pfs_set (i := 2) nd rfl (by first | exact Or.inl rfl | exact Or.inr rfl) (pf_mut (pfn_lst (pfa_nil))))
      (pfs_cons (pfs_for (vs := [3]) PassesOwn.never rfl (pfi_rg1 (by rfl) B.range (pfa_cons (pf_b call_len o_len (by rfl) B.len boot_len (pfa_cons (pf_var 0) (pfa_nil))) (pfa_nil))) (pfg_name (i := 3) nd rfl (by first | exact Or.inl rfl | exact Or.inr rfl))
      (pfs_one (pfs_expr (pf_m PySem.F.plainAttrs_list PySem.F.slot_list_append PySem.F.type_list_append mt_append o_append (pf_var 2) (pfa_cons (pf_b (cr_sum rfl) o_sum (by rfl) B.sum boot_sum (pfa_cons (pf_fz (pfn_lc (own := [("step", 4)]) rfl nd (pfi_rg1 (by rfl) B.range (pfa_cons (pf_b (call_min2 rfl) o_i2 (by rfl) B.min boot_min (pfa_cons (pf_b call_len o_len (by rfl) B.len boot_len (pfa_cons (pf_var 1) (pfa_nil))) (pfa_cons (pf_bin op_addA o_add (pf_var 3) (pf_int)) (pfa_nil)))) (pfa_nil))) (blkOk_by (own := [("step", 4)]) (N := ["samples", "kernel", "found", "at", "step"]) (by with_unfolding_all rfl)) (fun _ _ _ _ _ => pfg_name (i := 4) nd rfl (by first | exact Or.inl rfl | exact Or.inr rfl)) (fun _ _ _ _ _ => pfts_nil) (fun _ _ _ _ _ => pf_bin op_mulA o_mul (pf_ix ix_seq o_ix (pf_var 1) (pf_var 4) (fun _ _ => rfl)) (pf_ix ix_seq o_ix (pf_var 0) (pf_bin op_sub o_sub (pf_var 3) (pf_var 4)) (fun _ _ => rfl))))) (pfa_nil))) (pfa_nil))))))
      (pfs_one (pfs_ret (pf_ty call_tuple_of o_tuple (by rfl) B.tuple boot_tuple (pfa_cons (pf_var 2) (pfa_nil))))))
abbrev stdifferences : Stmt := topS 15
theorem scdifferences : FnScope ["samples", "at"] ["samples"] (defScope stdifferences) := ⟨rfl, rfl, rfl, by decide +kernel, rfl, by decide +kernel, by decide +kernel⟩
theorem okdifferences {f : Addr} {fd : FuncData} (F : FunD K "differences" "differences" (defArgs stdifferences) (defBody stdifferences) (defScope stdifferences) [] [] f fd) (g : mg "differences" = some (.ref f)) (B : Bn mg)  : Cal P w K mg base 1 "differences" cdifferences 1 := by
  have nd := scdifferences.nd
  refine cal_of (ps := ["samples"]) g F.kp (F.bindsN fun _ _ _ _ _ _ us hl => match us, hl with | [_], _ => rfl) (fn_ok (k := 0) F scdifferences fun cdv A outer s H E hr => ?_)
  exact pfs_one (pfs_ret (pf_ty call_tuple_of o_tuple (by rfl) B.tuple boot_tuple (pfa_cons (pf_fz (pfn_lc (own := [("at", 1)]) rfl nd (pfi_rg1 (by rfl) B.range (pfa_cons (pf_b call_len o_len (by rfl) B.len boot_len (pfa_cons (pf_var 0) (pfa_nil))) (pfa_nil))) (blkOk_by (own := [("at", 1)]) (N := ["samples", "at"]) (by with_unfolding_all rfl)) (fun _ _ _ _ _ => pfg_name (i := 1) nd rfl (by first | exact Or.inl rfl | exact Or.inr rfl)) (fun _ _ _ _ _ => pfts_nil) (fun _ _ _ _ _ => pf_bin op_sub o_sub (pf_ix ix_seq o_ix (pf_var 0) (pf_var 1) (fun _ _ => rfl)) (pf_if (pft_cmp op_gt o_cmp (pf_var 1) (pf_int) (nomark _)) (pf_ix ix_seq o_ix (pf_var 0) (pf_bin op_sub o_sub (pf_var 1) (pf_int)) (fun _ _ => rfl)) (pf_int))))) (pfa_nil))))
abbrev stsummed_samples : Stmt := topS 16
theorem scsummed_samples : FnScope ["samples", "found", "total", "sample"] ["samples"] (defScope stsummed_samples) := ⟨rfl, rfl, rfl, by decide +kernel, rfl, by decide +kernel, by decide +kernel⟩
theorem oksummed_samples {f : Addr} {fd : FuncData} (F : FunD K "summed_samples" "summed_samples" (defArgs stsummed_samples) (defBody stsummed_samples) (defScope stsummed_samples) [] [] f fd) (g : mg "summed_samples" = some (.ref f)) (B : Bn mg)  : Cal P w K mg base 1 "summed_samples" csummed_samples 1 := by
  have nd := scsummed_samples.nd
  refine cal_of (ps := ["samples"]) g F.kp (F.bindsN fun _ _ _ _ _ _ us hl => match us, hl with | [_], _ => rfl) (fn_ok (k := 0) F scsummed_samples fun cdv A outer s H E hr => ?_)
  exact pfs_cons (pfs_set (i := 1) nd rfl (by first | exact Or.inl rfl | exact Or.inr rfl) (pf_tup (pfa_nil)))
      (pfs_cons (pfs_set (i := 2) nd rfl (by first | exact Or.inl rfl | exact Or.inr rfl) (pf_int))
      (pfs_cons (pfs_for (vs := [3]) PassesOwn.never rfl (pfi_sq (pf_var 0)) (pfg_name (i := 3) nd rfl (by first | exact Or.inl rfl | exact Or.inr rfl))
      (pfs_cons (pfs_aug (i := 2) nd rfl (by first | exact Or.inl rfl | exact Or.inr rfl) (pf_var 3) iop_addA o_iaddA)
      (pfs_one (pfs_aug (i := 1) nd rfl (by first | exact Or.inl rfl | exact Or.inr rfl) (pf_tup (pfa_cons (pf_var 2) (pfa_nil))) iop_addA o_iaddA))))
      (pfs_one (pfs_ret (pf_var 1)))))
abbrev st_law_draws : Stmt := topS 18
theorem sc_law_draws : FnScope ["script", "many", "cells", "cell", "rest", "drawn", "k", "at", "once"] ["script", "many"] (defScope st_law_draws) := ⟨rfl, rfl, rfl, by decide +kernel, rfl, by decide +kernel, by decide +kernel⟩
theorem ok_law_draws {f : Addr} {fd : FuncData} (F : FunD K "_law_draws" "_law_draws" (defArgs st_law_draws) (defBody st_law_draws) (defScope st_law_draws) [] [] f fd) (g : mg "_law_draws" = some (.ref f)) (B : Bn mg)  : Cal P w K mg base 1 "_law_draws" c_law_draws 2 := by
  have nd := sc_law_draws.nd
  refine cal_of (ps := ["script", "many"]) g F.kp (F.bindsN fun _ _ _ _ _ _ us hl => match us, hl with | [_, _], _ => rfl) (fn_ok (k := 0) F sc_law_draws fun cdv A outer s H E hr => ?_)
  exact pfs_cons (pfs_setLcM (own := [("cell", 3)]) (i := 2) rfl nd rfl rfl (sw_true rfl rfl rfl (by decide +kernel)) (pfi_sq (pf_var 0)) (blkOk_by (own := [("cell", 3)]) (N := ["script", "many", "cells", "cell", "rest", "drawn", "k", "at", "once"]) (by with_unfolding_all rfl)) (fun _ _ _ _ _ => pfg_name (i := 3) nd rfl (by first | exact Or.inl rfl | exact Or.inr rfl)) (fun _ _ _ _ _ => pfts_nil) (fun _ _ _ _ _ => pf_ty call_int1 o_int (by rfl) B.int boot_int (pfa_cons (pf_var 3) (pfa_nil))))
      (pfs_cons (pfs_if (pft_cmp (op_eqD hr.units) o_eq (pf_b call_len o_len (by rfl) B.len boot_len (pfa_cons (pf_var 2) (pfa_nil))) (pf_int) (nomark _))
      (pfs_one (pfs_expr (pf_m PySem.F.plainAttrs_list PySem.F.slot_list_append PySem.F.type_list_append mt_append o_append (pf_var 2) (pfa_cons (pf_int) (pfa_nil)))))
      (pfs_nil))
      (pfs_cons (pfs_set (i := 4) nd rfl (by first | exact Or.inl rfl | exact Or.inr rfl) (pf_mut (pfn_ty call_list_of o_list (by rfl) B.list boot_list (pfa_cons (pf_var 2) (pfa_nil)))))
      (pfs_cons (pfs_set (i := 5) nd rfl (by first | exact Or.inl rfl | exact Or.inr rfl) (pf_mut (pfn_lst (pfa_nil))))
      (pfs_cons (pfs_for (vs := [6]) PassesOwn.never rfl (pfi_rg1 (by rfl) B.range (pfa_cons (pf_var 1) (pfa_nil))) (pfg_name (i := 6) nd rfl (by first | exact Or.inl rfl | exact Or.inr rfl))
      (pfs_cons (pfs_set (i := 7) nd rfl (by first | exact Or.inl rfl | exact Or.inr rfl) (pf_bin op_modN o_mod (pf_var 6) (pf_b call_len o_len (by rfl) B.len boot_len (pfa_cons (pf_var 2) (pfa_nil)))))
      (pfs_one (pfs_if (PW.pt (pfw_and (pft_cmp op_ge o_cmp (pf_ix ix_seq o_ix (pf_var 2) (pf_var 7) (fun _ _ => rfl)) (pf_bin op_pow o_pow (pf_int) (pf_int)) (nomark _)) (pfw_and1 (pft_cmp op_gt o_cmp (pf_ix ix_seq o_ix (pf_var 4) (pf_var 7) (fun _ _ => rfl)) (pf_int) (nomark _)))))
      (pfs_cons (pfs_expr (pf_m PySem.F.plainAttrs_list PySem.F.slot_list_append PySem.F.type_list_append mt_append o_append (pf_var 5) (pfa_cons (pf_bin op_modN o_mod (pf_ty call_int1 o_int (by rfl) B.int boot_int (pfa_cons (pf_ix ix_seq o_ix (pf_var 4) (pf_var 7) (fun _ _ => rfl)) (pfa_nil))) (pf_int)) (pfa_nil))))
      (pfs_one (pfs_setIx (pf_bin op_fdivA o_fdiv (pf_ix ix_seq o_ix (pf_var 4) (pf_var 7) (fun _ _ => rfl)) (pf_int)) (pf_var 4) (pf_var 7))))
      (pfs_cons (pfs_set (i := 8) nd rfl (by first | exact Or.inl rfl | exact Or.inr rfl) (pf_bin op_modN o_mod (pf_ty call_int1 o_int (by rfl) B.int boot_int (pfa_cons (pf_bin op_addA o_add (pf_bin op_addA o_add (pf_bin op_mulA o_mul (pf_ix ix_seq o_ix (pf_var 2) (pf_var 7) (fun _ _ => rfl)) (pf_int)) (pf_bin op_mulA o_mul (pf_var 6) (pf_int))) (pf_int)) (pfa_nil))) (pf_int)))
      (pfs_one (pfs_expr (pf_m PySem.F.plainAttrs_list PySem.F.slot_list_append PySem.F.type_list_append mt_append o_append (pf_var 5) (pfa_cons (pf_bin op_modN o_mod (pf_ty call_int1 o_int (by rfl) B.int boot_int (pfa_cons (pf_bin op_addA o_add (pf_bin op_addA o_add (pf_bin op_mulA o_mul (pf_var 8) (pf_var 8)) (pf_bin op_mulA o_mul (pf_int) (pf_var 8))) (pf_var 6)) (pfa_nil))) (pf_int)) (pfa_nil))))))))))
      (pfs_cons (pfs_expr (pf_m0 PySem.F.plainAttrs_list PySem.F.slot_list_reverse PySem.F.type_list_reverse mt_reverse o_reverse (pf_var 5)))
      (pfs_one (pfs_ret (pf_var 5))))))))
abbrev st_law_take : Stmt := topS 19
theorem sc_law_take : FnScope ["draws", "many"] ["draws", "many"] (defScope st_law_take) := ⟨rfl, rfl, rfl, by decide +kernel, rfl, by decide +kernel, by decide +kernel⟩
theorem ok_law_take {f : Addr} {fd : FuncData} (F : FunD K "_law_take" "_law_take" (defArgs st_law_take) (defBody st_law_take) (defScope st_law_take) [] [] f fd) (g : mg "_law_take" = some (.ref f)) (B : Bn mg)  : Cal P w K mg base 1 "_law_take" c_law_take 2 := by
  have nd := sc_law_take.nd
  refine cal_of (ps := ["draws", "many"]) g F.kp (F.bindsN fun _ _ _ _ _ _ us hl => match us, hl with | [_, _], _ => rfl) (fn_ok (k := 0) F sc_law_take fun cdv A outer s H E hr => ?_)
  exact pfs_cons (pfs_if (pft_cmp (op_eqD hr.units) o_eq (pf_b call_len o_len (by rfl) B.len boot_len (pfa_cons (pf_var 0) (pfa_nil))) (pf_int) (nomark _))
      (pfs_one (pfs_ret (pf_int)))
      (pfs_nil))
      (pfs_one (pfs_ret (pf_bin op_modN o_mod (pf_ty call_int1 o_int (by rfl) B.int boot_int (pfa_cons (pf_m0 PySem.F.plainAttrs_list PySem.F.slot_list_pop PySem.F.type_list_pop mt_pop o_pop (pf_var 0)) (pfa_nil))) (pf_var 1))))
abbrev st_law_cell : Stmt := topS 20
theorem sc_law_cell : FnScope ["script", "draws", "cell"] ["script", "draws"] (defScope st_law_cell) := ⟨rfl, rfl, rfl, by decide +kernel, rfl, by decide +kernel, by decide +kernel⟩
theorem ok_law_cell {f : Addr} {fd : FuncData} (F : FunD K "_law_cell" "_law_cell" (defArgs st_law_cell) (defBody st_law_cell) (defScope st_law_cell) [] [] f fd) (g : mg "_law_cell" = some (.ref f)) (B : Bn mg) (C_law_take : Cal P w K mg base 1 "_law_take" q_law_take 2) : Cal P w K mg base 2 "_law_cell" c_law_cell 2 := by
  have nd := sc_law_cell.nd
  refine cal_of (ps := ["script", "draws"]) g F.kp (F.bindsN fun _ _ _ _ _ _ us hl => match us, hl with | [_, _], _ => rfl) (fn_ok (k := 1) F sc_law_cell fun cdv A outer s H E hr => ?_)
  exact pfs_cons (pfs_if (pft_cmp (op_eqD hr.units) o_eq (pf_b call_len o_len (by rfl) B.len boot_len (pfa_cons (pf_var 0) (pfa_nil))) (pf_int) (nomark _))
      (pfs_one (pfs_ret (pf_int)))
      (pfs_nil))
      (pfs_cons (pfs_set (i := 2) nd rfl (by first | exact Or.inl rfl | exact Or.inr rfl) (pf_ty call_int1 o_int (by rfl) B.int boot_int (pfa_cons (pf_ix ix_seq o_ix (pf_var 0) (pf_callCS 0 C_law_take (hr.mono (by decide)) (by rfl) (pfa_cons (pf_var 1) (pfa_cons (pf_b call_len o_len (by rfl) B.len boot_len (pfa_cons (pf_var 0) (pfa_nil))) (pfa_nil))) (len_cons (len_cons len_nil))) (fun _ _ => rfl)) (pfa_nil))))
      (pfs_one (pfs_ret (pf_bin op_mulA o_mul (pf_bin op_modN o_mod (pf_b call_abs o_i1 (by rfl) B.abs boot_abs (pfa_cons (pf_var 2) (pfa_nil))) (pf_bin op_pow o_pow (pf_int) (pf_int))) (pf_ix ix_seq o_ix (pf_fz (pfn_lst (pfa_cons (pf_int) (pfa_cons (pf_un un_neg o_neg (pf_int)) (pfa_nil))))) (pf_ty call_int1 o_int (by rfl) B.int boot_int (pfa_cons (pf_cmp op_lt o_cmp (pf_var 2) (pf_int) (nomark _)) (pfa_nil))) (fun _ _ => rfl))))))
abbrev st_law_same : Stmt := topS 21
theorem sc_law_same : FnScope ["actual", "due", "k"] ["actual", "due"] (defScope st_law_same) := ⟨rfl, rfl, rfl, by decide +kernel, rfl, by decide +kernel, by decide +kernel⟩
theorem ok_law_same {f : Addr} {fd : FuncData} (F : FunD K "_law_same" "_law_same" (defArgs st_law_same) (defBody st_law_same) (defScope st_law_same) [] [] f fd) (g : mg "_law_same" = some (.ref f)) (B : Bn mg)  : ∀ n, Cal P w K mg base (1 + n) "_law_same" (c_law_same n) 2 := by
  have nd := sc_law_same.nd
  intro n
  induction n with
  | zero => exact cal_none (ps := ["actual", "due"]) g F.kp (F.bindsN fun _ _ _ _ _ _ us hl => match us, hl with | [_, _], _ => rfl) F (fun _ _ => rfl)
  | succ n ih =>
    refine cal_of (ps := ["actual", "due"]) g F.kp (F.bindsN fun _ _ _ _ _ _ us hl => match us, hl with | [_, _], _ => rfl) (fn_ok (k := 1 + n) F sc_law_same fun cdv A outer s H E hr => ?_)
    exact pfs_cons (pfs_if (pft_cmp op_isA o_is (pf_var 1) (pf_non) (nomark _))
      (pfs_one (pfs_ret (pf_cmp op_isA o_is (pf_var 0) (pf_non) (nomark _))))
      (pfs_nil))
      (pfs_cons (pfs_if (pft_tru (pf_isi .bl (by decide) (by rfl) B.isinstance (pf_var 1) (by rfl) B.bool boot_bool))
      (pfs_one (pfs_ret (pf_and (pf_isi .bl (by decide) (by rfl) B.isinstance (pf_var 0) (by rfl) B.bool boot_bool) (pf_one (pf_cmp (op_eqD hr.units) o_eq (pf_var 0) (pf_var 1) (nomark _))))))
      (pfs_nil))
      (pfs_cons (pfs_if (pft_tru (pf_isi .int (by decide) (by rfl) B.isinstance (pf_var 1) (by rfl) B.int boot_int))
      (pfs_one (pfs_ret (pf_and (pf_isi .int (by decide) (by rfl) B.isinstance (pf_var 0) (by rfl) B.int boot_int) (pf_and (pf_not (pf_isi .bl (by decide) (by rfl) B.isinstance (pf_var 0) (by rfl) B.bool boot_bool)) (pf_one (pf_cmp (op_eqD hr.units) o_eq (pf_var 0) (pf_var 1) (nomark _)))))))
      (pfs_nil))
      (pfs_cons (pfs_if (pft_tru (pf_isi .str (by decide) (by rfl) B.isinstance (pf_var 1) (by rfl) B.str boot_str))
      (pfs_one (pfs_ret (pf_and (pf_isi .str (by decide) (by rfl) B.isinstance (pf_var 0) (by rfl) B.str boot_str) (pf_one (pf_cmp (op_eqD hr.units) o_eq (pf_var 0) (pf_var 1) (nomark _))))))
      (pfs_nil))
      (pfs_cons (pfs_if (PW.pt (pfw_or (pft_not (pft_tru (pf_isi .tup (by decide) (by rfl) B.isinstance (pf_var 0) (by rfl) B.tuple boot_tuple))) (pfw_or1 (pft_cmp (op_neD hr.units) o_ne (pf_b call_len o_len (by rfl) B.len boot_len (pfa_cons (pf_var 0) (pfa_nil))) (pf_b call_len o_len (by rfl) B.len boot_len (pfa_cons (pf_var 1) (pfa_nil))) (nomark _)))))
      (pfs_one (pfs_ret (pf_bl)))
      (pfs_nil))
      (pfs_cons (pfs_for (vs := [2]) PassesOwn.never rfl (pfi_rg1 (by rfl) B.range (pfa_cons (pf_b call_len o_len (by rfl) B.len boot_len (pfa_cons (pf_var 1) (pfa_nil))) (pfa_nil))) (pfg_name (i := 2) nd rfl (by first | exact Or.inl rfl | exact Or.inr rfl))
      (pfs_one (pfs_if (pft_not (pft_tru (pf_callC ih (hr.mono (Nat.le_refl _)) (by rfl) (pfa_cons (pf_ix ix_seq o_ix (pf_var 0) (pf_var 2) (fun _ _ => rfl)) (pfa_cons (pf_ix ix_seq o_ix (pf_var 1) (pf_var 2) (fun _ _ => rfl)) (pfa_nil))) (len_cons (len_cons len_nil)))))
      (pfs_one (pfs_ret (pf_bl)))
      (pfs_nil))))
      (pfs_one (pfs_ret (pf_bl))))))))
abbrev st_law_is_integer : Stmt := topS 22
theorem sc_law_is_integer : FnScope ["actual"] ["actual"] (defScope st_law_is_integer) := ⟨rfl, rfl, rfl, by decide +kernel, rfl, by decide +kernel, by decide +kernel⟩
theorem ok_law_is_integer {f : Addr} {fd : FuncData} (F : FunD K "_law_is_integer" "_law_is_integer" (defArgs st_law_is_integer) (defBody st_law_is_integer) (defScope st_law_is_integer) [] [] f fd) (g : mg "_law_is_integer" = some (.ref f)) (B : Bn mg)  : Cal P w K mg base 1 "_law_is_integer" c_law_is_integer 1 := by
  have nd := sc_law_is_integer.nd
  refine cal_of (ps := ["actual"]) g F.kp (F.bindsN fun _ _ _ _ _ _ us hl => match us, hl with | [_], _ => rfl) (fn_ok (k := 0) F sc_law_is_integer fun cdv A outer s H E hr => ?_)
  exact pfs_one (pfs_ret (pf_and (pf_isi .int (by decide) (by rfl) B.isinstance (pf_var 0) (by rfl) B.int boot_int) (pf_one (pf_not (pf_isi .bl (by decide) (by rfl) B.isinstance (pf_var 0) (by rfl) B.bool boot_bool)))))
abbrev st_law_samples : Stmt := topS 23
theorem sc_law_samples : FnScope ["draws", "script", "many", "style", "found", "last", "k", "edge", "step"] ["draws", "script", "many"] (defScope st_law_samples) := ⟨rfl, rfl, rfl, by decide +kernel, rfl, by decide +kernel, by decide +kernel⟩
theorem ok_law_samples {f : Addr} {fd : FuncData} (F : FunD K "_law_samples" "_law_samples" (defArgs st_law_samples) (defBody st_law_samples) (defScope st_law_samples) [] [] f fd) (g : mg "_law_samples" = some (.ref f)) (B : Bn mg) (C_law_take : Cal P w K mg base 1 "_law_take" q_law_take 2) (C_law_cell : Cal P w K mg base 2 "_law_cell" q_law_cell 2) : Cal P w K mg base 3 "_law_samples" c_law_samples 3 := by
  have nd := sc_law_samples.nd
  refine cal_of (ps := ["draws", "script", "many"]) g F.kp (F.bindsN fun _ _ _ _ _ _ us hl => match us, hl with | [_, _, _], _ => rfl) (fn_ok (k := 2) F sc_law_samples fun cdv A outer s H E hr => ?_)
  exact pfs_cons (pfs_set (i := 3) nd rfl (by first | exact Or.inl rfl | exact Or.inr rfl) (pf_callCS 0 C_law_take (hr.mono (by decide)) (by rfl) (pfa_cons (pf_var 0) (pfa_cons (pf_int) (pfa_nil))) (len_cons (len_cons len_nil))))
      (pfs_cons (pfs_set (i := 4) nd rfl (by first | exact Or.inl rfl | exact Or.inr rfl) (pf_mut (pfn_lst (pfa_nil))))
      (pfs_cons (pfs_set (i := 5) nd rfl (by first | exact Or.inl rfl | exact Or.inr rfl) (pf_int))
      (pfs_cons (pfs_for (vs := [6]) PassesOwn.never rfl (pfi_rg1 (by rfl) B.range (pfa_cons (pf_var 2) (pfa_nil))) (pfg_name (i := 6) nd rfl (by first | exact Or.inl rfl | exact Or.inr rfl))
      (pfs_cons (pfs_set (i := 7) nd rfl (by first | exact Or.inl rfl | exact Or.inr rfl) (pf_ix ix_seq o_ix (pf_fz (pfn_lst (pfa_cons (pf_int) (pfa_cons (pf_int) (pfa_cons (pf_un un_neg o_neg (pf_int)) (pfa_cons (pf_int) (pfa_cons (pf_un un_neg o_neg (pf_int)) (pfa_cons (pf_int) (pfa_cons (pf_un un_neg o_neg (pf_int)) (pfa_cons (pf_int) (pfa_cons (pf_un un_neg o_neg (pf_int)) (pfa_cons (pf_int) (pfa_nil))))))))))))) (pf_callCS 0 C_law_take (hr.mono (by decide)) (by rfl) (pfa_cons (pf_var 0) (pfa_cons (pf_int) (pfa_nil))) (len_cons (len_cons len_nil))) (fun _ _ => rfl)))
      (pfs_cons (pfs_set (i := 8) nd rfl (by first | exact Or.inl rfl | exact Or.inr rfl) (pf_ix ix_seq o_ix (pf_fz (pfn_lst (pfa_cons (pf_bin op_sub o_sub (pf_callCS 0 C_law_take (hr.mono (by decide)) (by rfl) (pfa_cons (pf_var 0) (pfa_cons (pf_int) (pfa_nil))) (len_cons (len_cons len_nil))) (pf_int)) (pfa_cons (pf_bin op_sub o_sub (pf_callCS 0 C_law_take (hr.mono (by decide)) (by rfl) (pfa_cons (pf_var 0) (pfa_cons (pf_int) (pfa_nil))) (len_cons (len_cons len_nil))) (pf_int)) (pfa_cons (pf_var 7) (pfa_cons (pf_bin op_sub o_sub (pf_bin op_modN o_mod (pf_callCS 1 C_law_cell (hr.mono (by decide)) (by rfl) (pfa_cons (pf_var 1) (pfa_cons (pf_var 0) (pfa_nil))) (len_cons (len_cons len_nil))) (pf_int)) (pf_int)) (pfa_nil))))))) (pf_var 3) (fun _ _ => rfl)))
      (pfs_cons (pfs_if (pft_cmp (op_eqD hr.units) o_eq (pf_callCS 0 C_law_take (hr.mono (by decide)) (by rfl) (pfa_cons (pf_var 0) (pfa_cons (pf_int) (pfa_nil))) (len_cons (len_cons len_nil))) (pf_int) (nomark _))
      (pfs_one (pfs_set (i := 8) nd rfl (by first | exact Or.inl rfl | exact Or.inr rfl) (pf_int)))
      (pfs_nil))
      (pfs_cons (pfs_set (i := 5) nd rfl (by first | exact Or.inl rfl | exact Or.inr rfl) (pf_bin op_addA o_add (pf_var 5) (pf_var 8)))
      (pfs_one (pfs_expr (pf_m PySem.F.plainAttrs_list PySem.F.slot_list_append PySem.F.type_list_append mt_append o_append (pf_var 4) (pfa_cons (pf_var 5) (pfa_nil))))))))))
      (pfs_one (pfs_ret (pf_ty call_tuple_of o_tuple (by rfl) B.tuple boot_tuple (pfa_cons (pf_var 4) (pfa_nil))))))))
abbrev st_law_single : Stmt := topS 24
theorem sc_law_single : FnScope ["values", "value"] ["values"] (defScope st_law_single) := ⟨rfl, rfl, rfl, by decide +kernel, rfl, by decide +kernel, by decide +kernel⟩
theorem ok_law_single {f : Addr} {fd : FuncData} (F : FunD K "_law_single" "_law_single" (defArgs st_law_single) (defBody st_law_single) (defScope st_law_single) [] [] f fd) (g : mg "_law_single" = some (.ref f)) (B : Bn mg) (Cbits_of : Cal P w K mg base 3 "bits_of" qbits_of 1) : Cal P w K mg base 4 "_law_single" c_law_single 1 := by
  have nd := sc_law_single.nd
  refine cal_of (ps := ["values"]) g F.kp (F.bindsN fun _ _ _ _ _ _ us hl => match us, hl with | [_], _ => rfl) (fn_ok (k := 3) F sc_law_single fun cdv A outer s H E hr => ?_)
  exact pfs_one (pfs_ret (pf_b (cr_sum rfl) o_sum (by rfl) B.sum boot_sum (pfa_cons (pf_fz (pfn_lc (own := [("value", 1)]) rfl nd (pfi_sq (pf_var 0)) (blkOk_by (own := [("value", 1)]) (N := ["values", "value"]) (by with_unfolding_all rfl)) (fun _ _ _ _ _ => pfg_name (i := 1) nd rfl (by first | exact Or.inl rfl | exact Or.inr rfl)) (fun _ _ _ _ _ => pfts_nil) (fun _ _ _ _ _ => pf_callC Cbits_of (hr.mono (by decide)) (by rfl) (pfa_cons (pf_tup (pfa_cons (pf_var 1) (pfa_nil))) (pfa_nil)) (len_cons len_nil)))) (pfa_nil))))
abbrev st_law_is_packing_right : Stmt := topS 25
theorem sc_law_is_packing_right : FnScope ["draws", "samples", "pairs", "row", "pair", "some"] ["draws", "samples"] (defScope st_law_is_packing_right) := ⟨rfl, rfl, rfl, by decide +kernel, rfl, by decide +kernel, by decide +kernel⟩
theorem ok_law_is_packing_right {f : Addr} {fd : FuncData} (F : FunD K "_law_is_packing_right" "_law_is_packing_right" (defArgs st_law_is_packing_right) (defBody st_law_is_packing_right) (defScope st_law_is_packing_right) [] [] f fd) (g : mg "_law_is_packing_right" = some (.ref f)) (B : Bn mg) (Cpacked_of : Cal P w K mg base 2 "packed_of" qpacked_of 1) (Cdifferences : Cal P w K mg base 1 "differences" qdifferences 1) (C_law_same : Cal P w K mg base 13 "_law_same" q_law_same 2) (Cfiltered_samples : Cal P w K mg base 1 "filtered_samples" qfiltered_samples 2) (C_law_is_integer : Cal P w K mg base 1 "_law_is_integer" q_law_is_integer 1) (Cbits_of : Cal P w K mg base 3 "bits_of" qbits_of 1) (Cunpacked : Cal P w K mg base 2 "unpacked" qunpacked 1) (Csummed_samples : Cal P w K mg base 1 "summed_samples" qsummed_samples 1) (C_law_take : Cal P w K mg base 1 "_law_take" q_law_take 2) : Cal P w K mg base 14 "_law_is_packing_right" c_law_is_packing_right 2 := by
  have nd := sc_law_is_packing_right.nd
  refine cal_of (ps := ["draws", "samples"]) g F.kp (F.bindsN fun _ _ _ _ _ _ us hl => match us, hl with | [_, _], _ => rfl) (fn_ok (k := 13) F sc_law_is_packing_right fun cdv A outer s H E hr => ?_)
  exact pfs_cons (pfs_set (i := 2) nd rfl (by first | exact Or.inl rfl | exact Or.inr rfl) (pf_callC Cpacked_of (hr.mono (by decide)) (by rfl) (pfa_cons (pf_var 1) (pfa_nil)) (len_cons len_nil)))
      (pfs_cons (pfs_set (i := 3) nd rfl (by first | exact Or.inl rfl | exact Or.inr rfl) (pf_callC Cdifferences (hr.mono (by decide)) (by rfl) (pfa_cons (pf_var 1) (pfa_nil)) (len_cons len_nil)))
      (pfs_cons (pfs_if (PW.pt (pfw_or (pft_not (pft_tru (pf_isi .tup (by decide) (by rfl) B.isinstance (pf_var 2) (by rfl) B.tuple boot_tuple))) (pfw_or1 (pft_cmp op_gt o_cmp (pf_b call_len o_len (by rfl) B.len boot_len (pfa_cons (pf_fz (pfn_lc (own := [("pair", 4)]) rfl nd (pfi_sq (pf_var 2)) (blkOk_by (own := [("pair", 4)]) (N := ["draws", "samples", "pairs", "row", "pair", "some"]) (by with_unfolding_all rfl)) (fun _ _ _ _ _ => pfg_name (i := 4) nd rfl (by first | exact Or.inl rfl | exact Or.inr rfl)) (fun _ _ _ _ _ => pfts_one (PW.pt (pfw_or (pft_not (pft_tru (pf_isi .tup (by decide) (by rfl) B.isinstance (pf_var 4) (by rfl) B.tuple boot_tuple))) (pfw_or1 (pft_cmp (op_neD hr.units) o_ne (pf_b call_len o_len (by rfl) B.len boot_len (pfa_cons (pf_var 4) (pfa_nil))) (pf_int) (nomark _)))))) (fun _ _ _ _ _ => pf_var 4))) (pfa_nil))) (pf_int) (nomark _)))))
      (pfs_one (pfs_ret (pf_bl)))
      (pfs_nil))
      (pfs_cons (pfs_if (PW.pt (pfw_or (pft_not (pft_tru (pf_callC C_law_same (hr.mono (by decide)) (by rfl) (pfa_cons (pf_ty call_tuple_of o_tuple (by rfl) B.tuple boot_tuple (pfa_cons (pf_fz (pfn_lc (own := [("pair", 4)]) rfl nd (pfi_sq (pf_var 2)) (blkOk_by (own := [("pair", 4)]) (N := ["draws", "samples", "pairs", "row", "pair", "some"]) (by with_unfolding_all rfl)) (fun _ _ _ _ _ => pfg_name (i := 4) nd rfl (by first | exact Or.inl rfl | exact Or.inr rfl)) (fun _ _ _ _ _ => pfts_nil) (fun _ _ _ _ _ => pf_ix ix_seq o_ix (pf_var 4) (pf_int) (fun _ _ => rfl)))) (pfa_nil))) (pfa_cons (pf_var 3) (pfa_nil))) (len_cons (len_cons len_nil))))) (pfw_or1 (pft_not (pft_tru (pf_callC C_law_same (hr.mono (by decide)) (by rfl) (pfa_cons (pf_callC Cfiltered_samples (hr.mono (by decide)) (by rfl) (pfa_cons (pf_var 1) (pfa_cons (pf_tup (pfa_cons (pf_int) (pfa_cons (pf_un un_neg o_neg (pf_int)) (pfa_nil)))) (pfa_nil))) (len_cons (len_cons len_nil))) (pfa_cons (pf_var 3) (pfa_nil))) (len_cons (len_cons len_nil))))))))
      (pfs_one (pfs_ret (pf_bl)))
      (pfs_nil))
      (pfs_cons (pfs_if (pft_cmp op_gt o_cmp (pf_b call_len o_len (by rfl) B.len boot_len (pfa_cons (pf_fz (pfn_lc (own := [("pair", 4)]) rfl nd (pfi_sq (pf_var 2)) (blkOk_by (own := [("pair", 4)]) (N := ["draws", "samples", "pairs", "row", "pair", "some"]) (by with_unfolding_all rfl)) (fun _ _ _ _ _ => pfg_name (i := 4) nd rfl (by first | exact Or.inl rfl | exact Or.inr rfl)) (fun _ _ _ _ _ => pfts_one (PW.pt (pfw_or (pft_not (pft_tru (pf_callC C_law_is_integer (hr.mono (by decide)) (by rfl) (pfa_cons (pf_ix ix_seq o_ix (pf_var 4) (pf_int) (fun _ _ => rfl)) (pfa_nil)) (len_cons len_nil)))) (pfw_or1 (pft_cmp (op_neD hr.units) o_ne (pf_bin op_addA o_add (pf_bin op_mulA o_mul (pf_int) (pf_ix ix_seq o_ix (pf_var 4) (pf_int) (fun _ _ => rfl))) (pf_int)) (pf_callC Cbits_of (hr.mono (by decide)) (by rfl) (pfa_cons (pf_tup (pfa_cons (pf_ix ix_seq o_ix (pf_var 4) (pf_int) (fun _ _ => rfl)) (pfa_nil))) (pfa_nil)) (len_cons len_nil)) (nomark _)))))) (fun _ _ _ _ _ => pf_var 4))) (pfa_nil))) (pf_int) (nomark _))
      (pfs_one (pfs_ret (pf_bl)))
      (pfs_nil))
      (pfs_cons (pfs_if (PW.pt (pfw_or (pft_not (pft_tru (pf_callC C_law_same (hr.mono (by decide)) (by rfl) (pfa_cons (pf_callC Cunpacked (hr.mono (by decide)) (by rfl) (pfa_cons (pf_var 2) (pfa_nil)) (len_cons len_nil)) (pfa_cons (pf_var 1) (pfa_nil))) (len_cons (len_cons len_nil))))) (pfw_or1 (pft_not (pft_tru (pf_callC C_law_same (hr.mono (by decide)) (by rfl) (pfa_cons (pf_callC Csummed_samples (hr.mono (by decide)) (by rfl) (pfa_cons (pf_var 3) (pfa_nil)) (len_cons len_nil)) (pfa_cons (pf_var 1) (pfa_nil))) (len_cons (len_cons len_nil))))))))
      (pfs_one (pfs_ret (pf_bl)))
      (pfs_nil))
      (pfs_cons (pfs_set (i := 5) nd rfl (by first | exact Or.inl rfl | exact Or.inr rfl) (pf_slice (pf_var 2) (pfo_none) (pfo_some (pf_callCS 0 C_law_take (hr.mono (by decide)) (by rfl) (pfa_cons (pf_var 0) (pfa_cons (pf_bin op_addA o_add (pf_b call_len o_len (by rfl) B.len boot_len (pfa_cons (pf_var 2) (pfa_nil))) (pf_int)) (pfa_nil))) (len_cons (len_cons len_nil))))))
      (pfs_one (pfs_ret (pf_and (pf_callC C_law_same (hr.mono (by decide)) (by rfl) (pfa_cons (pf_callC Cunpacked (hr.mono (by decide)) (by rfl) (pfa_cons (pf_var 5) (pfa_nil)) (len_cons len_nil)) (pfa_cons (pf_slice (pf_var 1) (pfo_none) (pfo_some (pf_b call_len o_len (by rfl) B.len boot_len (pfa_cons (pf_var 5) (pfa_nil))))) (pfa_nil))) (len_cons (len_cons len_nil))) (pf_one (pf_callC C_law_same (hr.mono (by decide)) (by rfl) (pfa_cons (pf_callC Cpacked_of (hr.mono (by decide)) (by rfl) (pfa_cons (pf_callC Cunpacked (hr.mono (by decide)) (by rfl) (pfa_cons (pf_var 5) (pfa_nil)) (len_cons len_nil)) (pfa_nil)) (len_cons len_nil)) (pfa_cons (pf_var 5) (pfa_nil))) (len_cons (len_cons len_nil)))))))))))))
abbrev st_law_is_second_right : Stmt := topS 26
theorem sc_law_is_second_right : FnScope ["samples", "row", "second"] ["samples"] (defScope st_law_is_second_right) := ⟨rfl, rfl, rfl, by decide +kernel, rfl, by decide +kernel, by decide +kernel⟩
theorem ok_law_is_second_right {f : Addr} {fd : FuncData} (F : FunD K "_law_is_second_right" "_law_is_second_right" (defArgs st_law_is_second_right) (defBody st_law_is_second_right) (defScope st_law_is_second_right) [] [] f fd) (g : mg "_law_is_second_right" = some (.ref f)) (B : Bn mg) (Cdifferences : Cal P w K mg base 1 "differences" qdifferences 1) (Csecond_differences : Cal P w K mg base 2 "second_differences" qsecond_differences 1) (C_law_same : Cal P w K mg base 13 "_law_same" q_law_same 2) (Cfiltered_samples : Cal P w K mg base 1 "filtered_samples" qfiltered_samples 2) (Csummed_samples : Cal P w K mg base 1 "summed_samples" qsummed_samples 1) : Cal P w K mg base 14 "_law_is_second_right" c_law_is_second_right 1 := by
  have nd := sc_law_is_second_right.nd
  refine cal_of (ps := ["samples"]) g F.kp (F.bindsN fun _ _ _ _ _ _ us hl => match us, hl with | [_], _ => rfl) (fn_ok (k := 13) F sc_law_is_second_right fun cdv A outer s H E hr => ?_)
  exact pfs_cons (pfs_set (i := 1) nd rfl (by first | exact Or.inl rfl | exact Or.inr rfl) (pf_callC Cdifferences (hr.mono (by decide)) (by rfl) (pfa_cons (pf_var 0) (pfa_nil)) (len_cons len_nil)))
      (pfs_cons (pfs_set (i := 2) nd rfl (by first | exact Or.inl rfl | exact Or.inr rfl) (pf_callC Csecond_differences (hr.mono (by decide)) (by rfl) (pfa_cons (pf_var 0) (pfa_nil)) (len_cons len_nil)))
      (pfs_cons (pfs_if (PW.pt (pfw_or (pft_not (pft_tru (pf_isi .tup (by decide) (by rfl) B.isinstance (pf_var 2) (by rfl) B.tuple boot_tuple))) (pfw_or (pft_cmp (op_neD hr.units) o_ne (pf_b call_len o_len (by rfl) B.len boot_len (pfa_cons (pf_var 2) (pfa_nil))) (pf_b call_len o_len (by rfl) B.len boot_len (pfa_cons (pf_var 0) (pfa_nil))) (nomark _)) (pfw_or1 (pft_not (pft_tru (pf_callC C_law_same (hr.mono (by decide)) (by rfl) (pfa_cons (pf_slice (pf_var 2) (pfo_none) (pfo_some (pf_int))) (pfa_cons (pf_slice (pf_var 1) (pfo_none) (pfo_some (pf_int))) (pfa_nil))) (len_cons (len_cons len_nil)))))))))
      (pfs_one (pfs_ret (pf_bl)))
      (pfs_nil))
      (pfs_cons (pfs_if (PW.pt (pfw_or (pft_not (pft_tru (pf_callC C_law_same (hr.mono (by decide)) (by rfl) (pfa_cons (pf_slice (pf_var 2) (pfo_some (pf_int)) (pfo_none)) (pfa_cons (pf_slice (pf_callC Cdifferences (hr.mono (by decide)) (by rfl) (pfa_cons (pf_var 1) (pfa_nil)) (len_cons len_nil)) (pfo_some (pf_int)) (pfo_none)) (pfa_nil))) (len_cons (len_cons len_nil))))) (pfw_or1 (pft_not (pft_tru (pf_callC C_law_same (hr.mono (by decide)) (by rfl) (pfa_cons (pf_slice (pf_var 2) (pfo_some (pf_int)) (pfo_none)) (pfa_cons (pf_slice (pf_callC Cfiltered_samples (hr.mono (by decide)) (by rfl) (pfa_cons (pf_var 0) (pfa_cons (pf_tup (pfa_cons (pf_int) (pfa_cons (pf_un un_neg o_neg (pf_int)) (pfa_cons (pf_int) (pfa_nil))))) (pfa_nil))) (len_cons (len_cons len_nil))) (pfo_some (pf_int)) (pfo_none)) (pfa_nil))) (len_cons (len_cons len_nil))))))))
      (pfs_one (pfs_ret (pf_bl)))
      (pfs_nil))
      (pfs_one (pfs_ret (pf_callC C_law_same (hr.mono (by decide)) (by rfl) (pfa_cons (pf_callC Csummed_samples (hr.mono (by decide)) (by rfl) (pfa_cons (pf_bin op_addA o_add (pf_slice (pf_var 2) (pfo_none) (pfo_some (pf_int))) (pf_callC Csummed_samples (hr.mono (by decide)) (by rfl) (pfa_cons (pf_slice (pf_var 2) (pfo_some (pf_int)) (pfo_none)) (pfa_nil)) (len_cons len_nil))) (pfa_nil)) (len_cons len_nil)) (pfa_cons (pf_var 0) (pfa_nil))) (len_cons (len_cons len_nil))))))))
abbrev st_law_are_bits_right : Stmt := topS 27
theorem sc_law_are_bits_right : FnScope ["samples", "other", "row", "second", "value", "seam", "bits"] ["samples", "other"] (defScope st_law_are_bits_right) := ⟨rfl, rfl, rfl, by decide +kernel, rfl, by decide +kernel, by decide +kernel⟩
theorem ok_law_are_bits_right {f : Addr} {fd : FuncData} (F : FunD K "_law_are_bits_right" "_law_are_bits_right" (defArgs st_law_are_bits_right) (defBody st_law_are_bits_right) (defScope st_law_are_bits_right) [] [] f fd) (g : mg "_law_are_bits_right" = some (.ref f)) (B : Bn mg) (Cdifferences : Cal P w K mg base 1 "differences" qdifferences 1) (Csecond_differences : Cal P w K mg base 2 "second_differences" qsecond_differences 1) (Cbits_of : Cal P w K mg base 3 "bits_of" qbits_of 1) (C_law_same : Cal P w K mg base 13 "_law_same" q_law_same 2) (C_law_single : Cal P w K mg base 4 "_law_single" q_law_single 1) (Cbest_order : Cal P w K mg base 3 "best_order" qbest_order 1) : Cal P w K mg base 14 "_law_are_bits_right" c_law_are_bits_right 2 := by
  have nd := sc_law_are_bits_right.nd
  refine cal_of (ps := ["samples", "other"]) g F.kp (F.bindsN fun _ _ _ _ _ _ us hl => match us, hl with | [_, _], _ => rfl) (fn_ok (k := 13) F sc_law_are_bits_right fun cdv A outer s H E hr => ?_)
  exact pfs_cons (pfs_set (i := 2) nd rfl (by first | exact Or.inl rfl | exact Or.inr rfl) (pf_callC Cdifferences (hr.mono (by decide)) (by rfl) (pfa_cons (pf_var 0) (pfa_nil)) (len_cons len_nil)))
      (pfs_cons (pfs_set (i := 3) nd rfl (by first | exact Or.inl rfl | exact Or.inr rfl) (pf_callC Csecond_differences (hr.mono (by decide)) (by rfl) (pfa_cons (pf_var 0) (pfa_nil)) (len_cons len_nil)))
      (pfs_cons (pfs_for (vs := [4]) PassesOwn.never rfl (pfi_sq (pf_slice (pf_var 0) (pfo_none) (pfo_some (pf_int)))) (pfg_name (i := 4) nd rfl (by first | exact Or.inl rfl | exact Or.inr rfl))
      (pfs_one (pfs_if (pft_cmp op_notIn_seq o_notIn (pf_callC Cbits_of (hr.mono (by decide)) (by rfl) (pfa_cons (pf_tup (pfa_cons (pf_var 4) (pfa_nil))) (pfa_nil)) (len_cons len_nil)) (pf_fz (pfn_lst (pfa_cons (pf_int) (pfa_cons (pf_int) (pfa_cons (pf_int) (pfa_nil)))))) (by with_unfolding_all rfl))
      (pfs_one (pfs_ret (pf_bl)))
      (pfs_nil))))
      (pfs_cons (pfs_if (pft_not (pft_tru (pf_callC C_law_same (hr.mono (by decide)) (by rfl) (pfa_cons (pf_callC Cbits_of (hr.mono (by decide)) (by rfl) (pfa_cons (pf_var 0) (pfa_nil)) (len_cons len_nil)) (pfa_cons (pf_callC C_law_single (hr.mono (by decide)) (by rfl) (pfa_cons (pf_var 2) (pfa_nil)) (len_cons len_nil)) (pfa_nil))) (len_cons (len_cons len_nil)))))
      (pfs_one (pfs_ret (pf_bl)))
      (pfs_nil))
      (pfs_cons (pfs_if (PW.pt (pfw_and (pft_cmp op_gt o_cmp (pf_b call_len o_len (by rfl) B.len boot_len (pfa_cons (pf_var 0) (pfa_nil))) (pf_int) (nomark _)) (pfw_and1 (pft_cmp op_gt o_cmp (pf_b call_len o_len (by rfl) B.len boot_len (pfa_cons (pf_var 1) (pfa_nil))) (pf_int) (nomark _)))))
      (pfs_cons (pfs_set (i := 5) nd rfl (by first | exact Or.inl rfl | exact Or.inr rfl) (pf_bin op_sub o_sub (pf_callC Cbits_of (hr.mono (by decide)) (by rfl) (pfa_cons (pf_tup (pfa_cons (pf_bin op_sub o_sub (pf_ix ix_seq o_ix (pf_var 1) (pf_int) (fun _ _ => rfl)) (pf_ix ix_seq o_ix (pf_var 0) (pf_un un_neg o_neg (pf_int)) (fun _ _ => rfl))) (pfa_nil))) (pfa_nil)) (len_cons len_nil)) (pf_callC Cbits_of (hr.mono (by decide)) (by rfl) (pfa_cons (pf_slice (pf_var 1) (pfo_none) (pfo_some (pf_int))) (pfa_nil)) (len_cons len_nil))))
      (pfs_one (pfs_if (pft_not (pft_tru (pf_callC C_law_same (hr.mono (by decide)) (by rfl) (pfa_cons (pf_callC Cbits_of (hr.mono (by decide)) (by rfl) (pfa_cons (pf_bin op_addA o_add (pf_var 0) (pf_var 1)) (pfa_nil)) (len_cons len_nil)) (pfa_cons (pf_bin op_addA o_add (pf_bin op_addA o_add (pf_callC Cbits_of (hr.mono (by decide)) (by rfl) (pfa_cons (pf_var 0) (pfa_nil)) (len_cons len_nil)) (pf_callC Cbits_of (hr.mono (by decide)) (by rfl) (pfa_cons (pf_var 1) (pfa_nil)) (len_cons len_nil))) (pf_var 5)) (pfa_nil))) (len_cons (len_cons len_nil)))))
      (pfs_one (pfs_ret (pf_bl)))
      (pfs_nil))))
      (pfs_nil))
      (pfs_cons (pfs_set (i := 6) nd rfl (by first | exact Or.inl rfl | exact Or.inr rfl) (pf_fz (pfn_lst (pfa_cons (pf_callC C_law_single (hr.mono (by decide)) (by rfl) (pfa_cons (pf_var 0) (pfa_nil)) (len_cons len_nil)) (pfa_cons (pf_callC C_law_single (hr.mono (by decide)) (by rfl) (pfa_cons (pf_var 2) (pfa_nil)) (len_cons len_nil)) (pfa_cons (pf_callC C_law_single (hr.mono (by decide)) (by rfl) (pfa_cons (pf_var 3) (pfa_nil)) (len_cons len_nil)) (pfa_nil)))))))
      (pfs_one (pfs_ret (pf_callC C_law_same (hr.mono (by decide)) (by rfl) (pfa_cons (pf_callC Cbest_order (hr.mono (by decide)) (by rfl) (pfa_cons (pf_var 0) (pfa_nil)) (len_cons len_nil)) (pfa_cons (pf_m PySem.F.plainAttrs_list PySem.F.slot_list_index PySem.F.type_list_index mt_index o_index (pf_var 6) (pfa_cons (pf_b (cr_minDt rfl hr.units) o_min1 (by rfl) B.min boot_min (pfa_cons (pf_var 6) (pfa_nil))) (pfa_nil))) (pfa_nil))) (len_cons (len_cons len_nil))))))))))
abbrev st_law_are_runs_right : Stmt := topS 28
theorem sc_law_are_runs_right : FnScope ["samples", "runs", "run", "found", "many", "sample", "beside", "at"] ["samples"] (defScope st_law_are_runs_right) := ⟨rfl, rfl, rfl, by decide +kernel, rfl, by decide +kernel, by decide +kernel⟩
theorem ok_law_are_runs_right {f : Addr} {fd : FuncData} (F : FunD K "_law_are_runs_right" "_law_are_runs_right" (defArgs st_law_are_runs_right) (defBody st_law_are_runs_right) (defScope st_law_are_runs_right) [] [] f fd) (g : mg "_law_are_runs_right" = some (.ref f)) (B : Bn mg) (Cruns_packed : Cal P w K mg base 1 "runs_packed" qruns_packed 1) (C_law_is_integer : Cal P w K mg base 1 "_law_is_integer" q_law_is_integer 1) (C_law_same : Cal P w K mg base 13 "_law_same" q_law_same 2) (Csaved_by_runs : Cal P w K mg base 2 "saved_by_runs" qsaved_by_runs 1) : Cal P w K mg base 14 "_law_are_runs_right" c_law_are_runs_right 1 := by
  have nd := sc_law_are_runs_right.nd
  refine cal_of (ps := ["samples"]) g F.kp (F.bindsN fun _ _ _ _ _ _ us hl => match us, hl with | [_], _ => rfl) (fn_ok (k := 13) F sc_law_are_runs_right fun cdv A outer s H E hr => ?_)
  exact pfs_cons (pfs_set (i := 1) nd rfl (by first | exact Or.inl rfl | exact Or.inr rfl) (pf_callC Cruns_packed (hr.mono (by decide)) (by rfl) (pfa_cons (pf_var 0) (pfa_nil)) (len_cons len_nil)))
      (pfs_cons (pfs_if (PW.pt (pfw_or (pft_not (pft_tru (pf_isi .tup (by decide) (by rfl) B.isinstance (pf_var 1) (by rfl) B.tuple boot_tuple))) (pfw_or1 (pft_cmp op_gt o_cmp (pf_b call_len o_len (by rfl) B.len boot_len (pfa_cons (pf_fz (pfn_lc (own := [("run", 2)]) rfl nd (pfi_sq (pf_var 1)) (blkOk_by (own := [("run", 2)]) (N := ["samples", "runs", "run", "found", "many", "sample", "beside", "at"]) (by with_unfolding_all rfl)) (fun _ _ _ _ _ => pfg_name (i := 2) nd rfl (by first | exact Or.inl rfl | exact Or.inr rfl)) (fun _ _ _ _ _ => pfts_one (PW.pt (pfw_or (pft_not (pft_tru (pf_isi .tup (by decide) (by rfl) B.isinstance (pf_var 2) (by rfl) B.tuple boot_tuple))) (pfw_or1 (pft_cmp (op_neD hr.units) o_ne (pf_b call_len o_len (by rfl) B.len boot_len (pfa_cons (pf_var 2) (pfa_nil))) (pf_int) (nomark _)))))) (fun _ _ _ _ _ => pf_var 2))) (pfa_nil))) (pf_int) (nomark _)))))
      (pfs_one (pfs_ret (pf_bl)))
      (pfs_nil))
      (pfs_cons (pfs_set (i := 3) nd rfl (by first | exact Or.inl rfl | exact Or.inr rfl) (pf_tup (pfa_nil)))
      (pfs_cons (pfs_for (vs := [4, 5]) PassesOwn.never rfl (pfi_sq (pf_var 1)) (pfg_tup rfl (pfgs_cons (pfg_name (i := 4) nd rfl (by first | exact Or.inl rfl | exact Or.inr rfl)) (pfgs_cons (pfg_name (i := 5) nd rfl (by first | exact Or.inl rfl | exact Or.inr rfl)) (pfgs_nil))))
      (pfs_cons (pfs_if (PW.pt (pfw_or (pft_not (pft_tru (pf_callC C_law_is_integer (hr.mono (by decide)) (by rfl) (pfa_cons (pf_var 4) (pfa_nil)) (len_cons len_nil)))) (pfw_or (pft_not (pft_tru (pf_callC C_law_is_integer (hr.mono (by decide)) (by rfl) (pfa_cons (pf_var 5) (pfa_nil)) (len_cons len_nil)))) (pfw_or (pft_cmp op_lt o_cmp (pf_var 4) (pf_int) (nomark _)) (pfw_or1 (pft_cmp op_gt o_cmp (pf_var 4) (pf_b call_len o_len (by rfl) B.len boot_len (pfa_cons (pf_var 0) (pfa_nil))) (nomark _)))))))
      (pfs_one (pfs_ret (pf_bl)))
      (pfs_nil))
      (pfs_one (pfs_set (i := 3) nd rfl (by first | exact Or.inl rfl | exact Or.inr rfl) (pf_bin op_addA o_add (pf_var 3) (pf_bin op_repTA o_repT (pf_tup (pfa_cons (pf_var 5) (pfa_nil))) (pf_var 4)))))))
      (pfs_cons (pfs_setLcF (own := [("at", 7)]) (i := 6) rfl nd rfl rfl (sw_true rfl rfl rfl (by decide +kernel)) (pfi_rg2 (by rfl) B.range (pfa_cons (pf_int) (pfa_cons (pf_b call_len o_len (by rfl) B.len boot_len (pfa_cons (pf_var 1) (pfa_nil))) (pfa_nil)))) (blkOk_by (own := [("at", 7)]) (N := ["samples", "runs", "run", "found", "many", "sample", "beside", "at"]) (by with_unfolding_all rfl)) (fun _ _ _ _ _ => pfg_name (i := 7) nd rfl (by first | exact Or.inl rfl | exact Or.inr rfl)) (fun _ _ _ _ _ => pfts_one (pft_cmp (op_eqD hr.units) o_eq (pf_ix ix_seq o_ix (pf_ix ix_seq o_ix (pf_var 1) (pf_var 7) (fun _ _ => rfl)) (pf_int) (fun _ _ => rfl)) (pf_ix ix_seq o_ix (pf_ix ix_seq o_ix (pf_var 1) (pf_bin op_sub o_sub (pf_var 7) (pf_int)) (fun _ _ => rfl)) (pf_int) (fun _ _ => rfl)) (nomark _))) (fun _ _ _ _ _ => pf_var 7))
      (pfs_one (pfs_ret (pf_and (pf_cmp (op_eqD hr.units) o_eq (pf_var 3) (pf_var 0) (nomark _)) (pf_and (pf_cmp (op_eqD hr.units) o_eq (pf_b call_len o_len (by rfl) B.len boot_len (pfa_cons (pf_var 6) (pfa_nil))) (pf_int) (nomark _)) (pf_one (pf_callC C_law_same (hr.mono (by decide)) (by rfl) (pfa_cons (pf_callC Csaved_by_runs (hr.mono (by decide)) (by rfl) (pfa_cons (pf_var 0) (pfa_nil)) (len_cons len_nil)) (pfa_cons (pf_bin op_sub o_sub (pf_b call_len o_len (by rfl) B.len boot_len (pfa_cons (pf_var 0) (pfa_nil))) (pf_b call_len o_len (by rfl) B.len boot_len (pfa_cons (pf_var 1) (pfa_nil)))) (pfa_nil))) (len_cons (len_cons len_nil))))))))))))
abbrev stlaw : Stmt := topS 29
theorem sclaw : FnScope ["script", "draws", "samples", "other", "line", "k", "some", "long", "few"] ["script"] (defScope stlaw) := ⟨rfl, rfl, rfl, by decide +kernel, rfl, by decide +kernel, by decide +kernel⟩
theorem oklaw {f : Addr} {fd : FuncData} (F : FunD K "law" "law" (defArgs stlaw) (defBody stlaw) (defScope stlaw) [] [] f fd) (g : mg "law" = some (.ref f)) (B : Bn mg) (C_law_draws : Cal P w K mg base 1 "_law_draws" q_law_draws 2) (C_law_samples : Cal P w K mg base 3 "_law_samples" q_law_samples 3) (C_law_take : Cal P w K mg base 1 "_law_take" q_law_take 2) (C_law_is_packing_right : Cal P w K mg base 14 "_law_is_packing_right" q_law_is_packing_right 2) (C_law_is_second_right : Cal P w K mg base 14 "_law_is_second_right" q_law_is_second_right 1) (C_law_are_runs_right : Cal P w K mg base 14 "_law_are_runs_right" q_law_are_runs_right 1) (C_law_are_bits_right : Cal P w K mg base 14 "_law_are_bits_right" q_law_are_bits_right 2) (C_law_same : Cal P w K mg base 13 "_law_same" q_law_same 2) (Cbest_order : Cal P w K mg base 3 "best_order" qbest_order 1) (Cunpacked : Cal P w K mg base 2 "unpacked" qunpacked 1) : FnOk P w K mg base CX0 15 f fd ["script"] (spOf K claw 1) := by
  have nd := sclaw.nd
  refine (fn_ok (k := 14) F sclaw fun cdv A outer s H E hr => ?_)
  exact pfs_cons (pfs_set (i := 1) nd rfl (by first | exact Or.inl rfl | exact Or.inr rfl) (pf_callC C_law_draws (hr.mono (by decide)) (by rfl) (pfa_cons (pf_var 0) (pfa_cons (pf_int) (pfa_nil))) (len_cons (len_cons len_nil))))
      (pfs_cons (pfs_set (i := 2) nd rfl (by first | exact Or.inl rfl | exact Or.inr rfl) (pf_callCS 0 C_law_samples (hr.mono (by decide)) (by rfl) (pfa_cons (pf_var 1) (pfa_cons (pf_var 0) (pfa_cons (pf_callCS 0 C_law_take (hr.mono (by decide)) (by rfl) (pfa_cons (pf_var 1) (pfa_cons (pf_ix ix_seq o_ix (pf_fz (pfn_lst (pfa_cons (pf_int) (pfa_cons (pf_int) (pfa_nil))))) (pf_callCS 0 C_law_take (hr.mono (by decide)) (by rfl) (pfa_cons (pf_var 1) (pfa_cons (pf_int) (pfa_nil))) (len_cons (len_cons len_nil))) (fun _ _ => rfl)) (pfa_nil))) (len_cons (len_cons len_nil))) (pfa_nil)))) (len_cons (len_cons (len_cons len_nil)))))
      (pfs_cons (pfs_set (i := 3) nd rfl (by first | exact Or.inl rfl | exact Or.inr rfl) (pf_callCS 0 C_law_samples (hr.mono (by decide)) (by rfl) (pfa_cons (pf_var 1) (pfa_cons (pf_var 0) (pfa_cons (pf_callCS 0 C_law_take (hr.mono (by decide)) (by rfl) (pfa_cons (pf_var 1) (pfa_cons (pf_int) (pfa_nil))) (len_cons (len_cons len_nil))) (pfa_nil)))) (len_cons (len_cons (len_cons len_nil)))))
      (pfs_cons (pfs_set (i := 4) nd rfl (by first | exact Or.inl rfl | exact Or.inr rfl) (pf_ty call_tuple_of o_tuple (by rfl) B.tuple boot_tuple (pfa_cons (pf_fz (pfn_lc (own := [("k", 5)]) rfl nd (pfi_rg1 (by rfl) B.range (pfa_cons (pf_callCS 0 C_law_take (hr.mono (by decide)) (by rfl) (pfa_cons (pf_var 1) (pfa_cons (pf_int) (pfa_nil))) (len_cons (len_cons len_nil))) (pfa_nil))) (blkOk_by (own := [("k", 5)]) (N := ["script", "draws", "samples", "other", "line", "k", "some", "long", "few"]) (by with_unfolding_all rfl)) (fun _ _ _ _ _ => pfg_name (i := 5) nd rfl (by first | exact Or.inl rfl | exact Or.inr rfl)) (fun _ _ _ _ _ => pfts_nil) (fun _ _ _ _ _ => pf_bin op_mulA o_mul (pf_bin op_mulA o_mul (pf_var 5) (pf_bin op_addA o_add (pf_int) (pf_callCS 0 C_law_take (hr.mono (by decide)) (by rfl) (pfa_cons (pf_var 1) (pfa_cons (pf_int) (pfa_nil))) (len_cons (len_cons len_nil))))) (pf_int)))) (pfa_nil))))
      (pfs_cons (pfs_for (vs := [6]) PassesOwn.never rfl (pfi_sq (pf_fz (pfn_lst (pfa_cons (pf_var 2) (pfa_cons (pf_var 3) (pfa_cons (pf_var 4) (pfa_nil))))))) (pfg_name (i := 6) nd rfl (by first | exact Or.inl rfl | exact Or.inr rfl))
      (pfs_cons (pfs_if (PW.pt (pfw_or (pft_not (pft_tru (pf_callCS 0 C_law_is_packing_right (hr.mono (by decide)) (by rfl) (pfa_cons (pf_var 1) (pfa_cons (pf_var 6) (pfa_nil))) (len_cons (len_cons len_nil))))) (pfw_or (pft_not (pft_tru (pf_callC C_law_is_second_right (hr.mono (by decide)) (by rfl) (pfa_cons (pf_var 6) (pfa_nil)) (len_cons len_nil)))) (pfw_or1 (pft_not (pft_tru (pf_callC C_law_are_runs_right (hr.mono (by decide)) (by rfl) (pfa_cons (pf_var 6) (pfa_nil)) (len_cons len_nil))))))))
      (pfs_one (pfs_ret (pf_bl)))
      (pfs_nil))
      (pfs_one (pfs_if (pft_not (pft_tru (pf_callC C_law_are_bits_right (hr.mono (by decide)) (by rfl) (pfa_cons (pf_var 6) (pfa_cons (pf_var 3) (pfa_nil))) (len_cons (len_cons len_nil)))))
      (pfs_one (pfs_ret (pf_bl)))
      (pfs_nil)))))
      (pfs_cons (pfs_set (i := 7) nd rfl (by first | exact Or.inl rfl | exact Or.inr rfl) (pf_bin op_addA o_add (pf_bin op_repTA o_repT (pf_tup (pfa_cons (pf_int) (pfa_nil))) (pf_bin op_addA o_add (pf_int) (pf_callCS 0 C_law_take (hr.mono (by decide)) (by rfl) (pfa_cons (pf_var 1) (pfa_cons (pf_int) (pfa_nil))) (len_cons (len_cons len_nil))))) (pf_tup (pfa_cons (pf_int) (pfa_nil)))))
      (pfs_cons (pfs_set (i := 8) nd rfl (by first | exact Or.inl rfl | exact Or.inr rfl) (pf_tup (pfa_cons (pf_int) (pfa_cons (pf_int) (pfa_cons (pf_int) (pfa_cons (pf_un un_neg o_neg (pf_int)) (pfa_nil)))))))
      (pfs_cons (pfs_if (PW.pt (pfw_or (pft_not (pft_tru (pf_callC C_law_are_runs_right (hr.mono (by decide)) (by rfl) (pfa_cons (pf_var 7) (pfa_nil)) (len_cons len_nil)))) (pfw_or (pft_not (pft_tru (pf_callC C_law_are_bits_right (hr.mono (by decide)) (by rfl) (pfa_cons (pf_var 8) (pfa_cons (pf_tup (pfa_cons (pf_int) (pfa_nil))) (pfa_nil))) (len_cons (len_cons len_nil))))) (pfw_or (pft_not (pft_tru (pf_callC C_law_is_second_right (hr.mono (by decide)) (by rfl) (pfa_cons (pf_var 8) (pfa_nil)) (len_cons len_nil)))) (pfw_or1 (pft_not (pft_tru (pf_callCS 0 C_law_is_packing_right (hr.mono (by decide)) (by rfl) (pfa_cons (pf_var 1) (pfa_cons (pf_var 8) (pfa_nil))) (len_cons (len_cons len_nil))))))))))
      (pfs_one (pfs_ret (pf_bl)))
      (pfs_nil))
      (pfs_one (pfs_ret (pf_and (pf_callC C_law_same (hr.mono (by decide)) (by rfl) (pfa_cons (pf_callC Cbest_order (hr.mono (by decide)) (by rfl) (pfa_cons (pf_tup (pfa_cons (pf_int) (pfa_cons (pf_int) (pfa_cons (pf_int) (pfa_cons (pf_int) (pfa_cons (pf_int) (pfa_nil))))))) (pfa_nil)) (len_cons len_nil)) (pfa_cons (pf_int) (pfa_nil))) (len_cons (len_cons len_nil))) (pf_and (pf_callC C_law_are_bits_right (hr.mono (by decide)) (by rfl) (pfa_cons (pf_tup (pfa_nil)) (pfa_cons (pf_var 8) (pfa_nil))) (len_cons (len_cons len_nil))) (pf_one (pf_callC C_law_same (hr.mono (by decide)) (by rfl) (pfa_cons (pf_callC Cunpacked (hr.mono (by decide)) (by rfl) (pfa_cons (pf_tup (pfa_nil)) (pfa_nil)) (len_cons len_nil)) (pfa_cons (pf_tup (pfa_nil)) (pfa_nil))) (len_cons (len_cons len_nil)))))))))))))))
end
end LP
namespace LP
open PySem PySem.Spec PyProof.Rows L2 PF
section
open L2
def imL : List (Str × String) := []
def fnL : List He.DefD := [⟨("bytes_of", none), "bytes_of", "bytes_of", defArgs stbytes_of, defBody stbytes_of, defScope stbytes_of, [], []⟩,
  ⟨("first_differences", none), "first_differences", "first_differences", defArgs stfirst_differences, defBody stfirst_differences, defScope stfirst_differences, [], []⟩,
  ⟨("packed_of", none), "packed_of", "packed_of", defArgs stpacked_of, defBody stpacked_of, defScope stpacked_of, [], []⟩,
  ⟨("unpacked", none), "unpacked", "unpacked", defArgs stunpacked, defBody stunpacked, defScope stunpacked, [], []⟩,
  ⟨("bits_for", none), "bits_for", "bits_for", defArgs stbits_for, defBody stbits_for, defScope stbits_for, [], []⟩,
  ⟨("bits_of", none), "bits_of", "bits_of", defArgs stbits_of, defBody stbits_of, defScope stbits_of, [], []⟩,
  ⟨("second_differences", none), "second_differences", "second_differences", defArgs stsecond_differences, defBody stsecond_differences, defScope stsecond_differences, [], []⟩,
  ⟨("best_order", none), "best_order", "best_order", defArgs stbest_order, defBody stbest_order, defScope stbest_order, [], []⟩,
  ⟨("runs_packed", none), "runs_packed", "runs_packed", defArgs struns_packed, defBody struns_packed, defScope struns_packed, [], []⟩,
  ⟨("saved_by_runs", none), "saved_by_runs", "saved_by_runs", defArgs stsaved_by_runs, defBody stsaved_by_runs, defScope stsaved_by_runs, [], []⟩,
  ⟨("filtered_samples", none), "filtered_samples", "filtered_samples", defArgs stfiltered_samples, defBody stfiltered_samples, defScope stfiltered_samples, [], []⟩,
  ⟨("differences", none), "differences", "differences", defArgs stdifferences, defBody stdifferences, defScope stdifferences, [], []⟩,
  ⟨("summed_samples", none), "summed_samples", "summed_samples", defArgs stsummed_samples, defBody stsummed_samples, defScope stsummed_samples, [], []⟩,
  ⟨("_law_draws", none), "_law_draws", "_law_draws", defArgs st_law_draws, defBody st_law_draws, defScope st_law_draws, [], []⟩,
  ⟨("_law_take", none), "_law_take", "_law_take", defArgs st_law_take, defBody st_law_take, defScope st_law_take, [], []⟩,
  ⟨("_law_cell", none), "_law_cell", "_law_cell", defArgs st_law_cell, defBody st_law_cell, defScope st_law_cell, [], []⟩,
  ⟨("_law_same", none), "_law_same", "_law_same", defArgs st_law_same, defBody st_law_same, defScope st_law_same, [], []⟩,
  ⟨("_law_is_integer", none), "_law_is_integer", "_law_is_integer", defArgs st_law_is_integer, defBody st_law_is_integer, defScope st_law_is_integer, [], []⟩,
  ⟨("_law_samples", none), "_law_samples", "_law_samples", defArgs st_law_samples, defBody st_law_samples, defScope st_law_samples, [], []⟩,
  ⟨("_law_single", none), "_law_single", "_law_single", defArgs st_law_single, defBody st_law_single, defScope st_law_single, [], []⟩,
  ⟨("_law_is_packing_right", none), "_law_is_packing_right", "_law_is_packing_right", defArgs st_law_is_packing_right, defBody st_law_is_packing_right, defScope st_law_is_packing_right, [], []⟩,
  ⟨("_law_is_second_right", none), "_law_is_second_right", "_law_is_second_right", defArgs st_law_is_second_right, defBody st_law_is_second_right, defScope st_law_is_second_right, [], []⟩,
  ⟨("_law_are_bits_right", none), "_law_are_bits_right", "_law_are_bits_right", defArgs st_law_are_bits_right, defBody st_law_are_bits_right, defScope st_law_are_bits_right, [], []⟩,
  ⟨("_law_are_runs_right", none), "_law_are_runs_right", "_law_are_runs_right", defArgs st_law_are_runs_right, defBody st_law_are_runs_right, defScope st_law_are_runs_right, [], []⟩,
  ⟨("law", none), "law", "law", defArgs stlaw, defBody stlaw, defScope stlaw, [], []⟩]
def faL : List He.Fa := [.free "len", .free "int", .free "abs", .free "tuple", .free "list", .free "range", .free "isinstance", .free "bool", .free "str", .free "min", .free "max", .free "sum", .free "sorted", .free "any", .free "all", .free "set", .free "dict", .free "type", .glo "bytes_of", .glo "first_differences", .glo "packed_of", .glo "unpacked", .glo "bits_for", .glo "bits_of", .glo "second_differences", .glo "best_order", .glo "runs_packed", .glo "saved_by_runs", .glo "filtered_samples", .glo "differences", .glo "summed_samples", .glo "_law_draws", .glo "_law_take", .glo "_law_cell", .glo "_law_same", .glo "_law_is_integer", .glo "_law_samples", .glo "_law_single", .glo "_law_is_packing_right", .glo "_law_is_second_right", .glo "_law_are_bits_right", .glo "_law_are_runs_right", .glo "law", .int "LEAST" (-2147483648), .int "MOST" (2147483647)]
abbrev LR : PySem.W.OpenRow := PySem.W.OpenLaw.row PySem.Challenge.rw_shocksknown_k61_whole_packing_and_back
abbrev hkL : PySem.W.Hook := hkX 4 imL faL fnL
def obL (s : PySem.W.SharedT) : Bool × He.AlD := obX 4 imL faL fnL (HandSHeadRun.getT s)
theorem obL_eq (s : PySem.W.SharedT) : obL s = hkL.obs s.abs := obX_eq (HandSHeadRun.getT_eq s)
theorem runL (w : World) : HandSHeadRun.RunEq LR (PySem.W.view LR.prog [29]) hkL obL 3000 ["bytes_of", "first_differences", "packed_of", "unpacked", "bits_for", "bits_of", "second_differences", "best_order", "runs_packed", "saved_by_runs", "filtered_samples", "differences", "summed_samples", "_law_draws", "_law_take", "_law_cell", "_law_same", "_law_is_integer", "_law_samples", "_law_single", "_law_is_packing_right", "_law_is_second_right", "_law_are_bits_right", "_law_are_runs_right", "LEAST", "MOST"] w := by
  intro os
  kernel_rfl
theorem bnL : ∀ (i : Nat) (x : Str), bnNames[i]? = some x → faL[i]? = some (He.Fa.free x) := by
  intro i x h
  match i, h with
  | 0, h => cases h; rfl
  | 1, h => cases h; rfl
  | 2, h => cases h; rfl
  | 3, h => cases h; rfl
  | 4, h => cases h; rfl
  | 5, h => cases h; rfl
  | 6, h => cases h; rfl
  | 7, h => cases h; rfl
  | 8, h => cases h; rfl
  | 9, h => cases h; rfl
  | 10, h => cases h; rfl
  | 11, h => cases h; rfl
  | 12, h => cases h; rfl
  | 13, h => cases h; rfl
  | 14, h => cases h; rfl
  | 15, h => cases h; rfl
  | 16, h => cases h; rfl
  | 17, h => cases h; rfl
  | n + 18, h => cases (show (none : Option Str) = _ from h)
theorem factsL {P : Program} {w : World} {K : PySem.W.Frag} {h : Heap} {mg : Str → Option Value} {f : Addr} (X : K.In h) (G : h.Ns mainGlobals mg) (hfa : mg ("law" : Str) = some (.ref f)) (c : SaysX imL faL fnL K) :
    ∃ fd : FuncData, (∀ (s : Shared) (v : Value), BindsTo s fd ⟨[v], []⟩ [("script", v)]) ∧ ∀ base : Heap, K.In base → base.Ns mainGlobals mg → FnOk P w K mg base CX0 15 f fd ["script"] (spLaw K) := by
  have B : Bn mg := bn_at X G c bnL
  have k_LEAST := He.int_ok X G (c.d.fact 43 (f := .int "LEAST" (-2147483648)) rfl)
  have k_MOST := He.int_ok X G (c.d.fact 44 (f := .int "MOST" (2147483647)) rfl)
  obtain ⟨fd, F⟩ := c.d.def_ 24 rfl
  have e := hfa.symm.trans (fun_at X G c (x := "law") 42 rfl)
  cases e
  have b := FunD.bindsA (ps := ["script"]) F fun _ _ _ _ _ _ us hl => match us, hl with | [_], _ => rfl
  refine ⟨fd, fun s v => b s [v] rfl, fun base _ _ => ?_⟩
  obtain ⟨_, Fbytes_of⟩ := c.d.def_ 0 rfl
  have Cbytes_of : Cal P w K mg base 1 "bytes_of" qbytes_of 1 := (okbytes_of Fbytes_of (fun_at X G c (x := "bytes_of") 18 rfl) B).as hqbytes_of
  obtain ⟨_, Ffirst_differences⟩ := c.d.def_ 1 rfl
  have Cfirst_differences : Cal P w K mg base 1 "first_differences" qfirst_differences 1 := (okfirst_differences Ffirst_differences (fun_at X G c (x := "first_differences") 19 rfl) B).as hqfirst_differences
  obtain ⟨_, Fpacked_of⟩ := c.d.def_ 2 rfl
  have Cpacked_of : Cal P w K mg base 2 "packed_of" qpacked_of 1 := (okpacked_of Fpacked_of (fun_at X G c (x := "packed_of") 20 rfl) B Cfirst_differences Cbytes_of).as hqpacked_of
  obtain ⟨_, Funpacked⟩ := c.d.def_ 3 rfl
  have Cunpacked : Cal P w K mg base 2 "unpacked" qunpacked 1 := (okunpacked Funpacked (fun_at X G c (x := "unpacked") 21 rfl) B k_LEAST k_MOST Cbytes_of).as hqunpacked
  obtain ⟨_, Fbits_for⟩ := c.d.def_ 4 rfl
  have Cbits_for : Cal P w K mg base 2 "bits_for" qbits_for 1 := (okbits_for Fbits_for (fun_at X G c (x := "bits_for") 22 rfl) B Cbytes_of).as hqbits_for
  obtain ⟨_, Fbits_of⟩ := c.d.def_ 5 rfl
  have Cbits_of : Cal P w K mg base 3 "bits_of" qbits_of 1 := (okbits_of Fbits_of (fun_at X G c (x := "bits_of") 23 rfl) B Cbits_for Cfirst_differences).as hqbits_of
  obtain ⟨_, Fsecond_differences⟩ := c.d.def_ 6 rfl
  have Csecond_differences : Cal P w K mg base 2 "second_differences" qsecond_differences 1 := (oksecond_differences Fsecond_differences (fun_at X G c (x := "second_differences") 24 rfl) B Cfirst_differences).as hqsecond_differences
  obtain ⟨_, Fbest_order⟩ := c.d.def_ 7 rfl
  have Cbest_order : Cal P w K mg base 3 "best_order" qbest_order 1 := (okbest_order Fbest_order (fun_at X G c (x := "best_order") 25 rfl) B Csecond_differences Cfirst_differences Cbits_for).as hqbest_order
  obtain ⟨_, Fruns_packed⟩ := c.d.def_ 8 rfl
  have Cruns_packed : Cal P w K mg base 1 "runs_packed" qruns_packed 1 := (okruns_packed Fruns_packed (fun_at X G c (x := "runs_packed") 26 rfl) B).as hqruns_packed
  obtain ⟨_, Fsaved_by_runs⟩ := c.d.def_ 9 rfl
  have Csaved_by_runs : Cal P w K mg base 2 "saved_by_runs" qsaved_by_runs 1 := (oksaved_by_runs Fsaved_by_runs (fun_at X G c (x := "saved_by_runs") 27 rfl) B Cruns_packed).as hqsaved_by_runs
  obtain ⟨_, Ffiltered_samples⟩ := c.d.def_ 10 rfl
  have Cfiltered_samples : Cal P w K mg base 1 "filtered_samples" qfiltered_samples 2 := (okfiltered_samples Ffiltered_samples (fun_at X G c (x := "filtered_samples") 28 rfl) B).as hqfiltered_samples
  obtain ⟨_, Fdifferences⟩ := c.d.def_ 11 rfl
  have Cdifferences : Cal P w K mg base 1 "differences" qdifferences 1 := (okdifferences Fdifferences (fun_at X G c (x := "differences") 29 rfl) B).as hqdifferences
  obtain ⟨_, Fsummed_samples⟩ := c.d.def_ 12 rfl
  have Csummed_samples : Cal P w K mg base 1 "summed_samples" qsummed_samples 1 := (oksummed_samples Fsummed_samples (fun_at X G c (x := "summed_samples") 30 rfl) B).as hqsummed_samples
  obtain ⟨_, F_law_draws⟩ := c.d.def_ 13 rfl
  have C_law_draws : Cal P w K mg base 1 "_law_draws" q_law_draws 2 := (ok_law_draws F_law_draws (fun_at X G c (x := "_law_draws") 31 rfl) B).as hq_law_draws
  obtain ⟨_, F_law_take⟩ := c.d.def_ 14 rfl
  have C_law_take : Cal P w K mg base 1 "_law_take" q_law_take 2 := (ok_law_take F_law_take (fun_at X G c (x := "_law_take") 32 rfl) B).as hq_law_take
  obtain ⟨_, F_law_cell⟩ := c.d.def_ 15 rfl
  have C_law_cell : Cal P w K mg base 2 "_law_cell" q_law_cell 2 := (ok_law_cell F_law_cell (fun_at X G c (x := "_law_cell") 33 rfl) B C_law_take).as hq_law_cell
  obtain ⟨_, F_law_same⟩ := c.d.def_ 16 rfl
  have C_law_same : Cal P w K mg base 13 "_law_same" q_law_same 2 := (ok_law_same F_law_same (fun_at X G c (x := "_law_same") 34 rfl) B 12).as hq_law_same
  obtain ⟨_, F_law_is_integer⟩ := c.d.def_ 17 rfl
  have C_law_is_integer : Cal P w K mg base 1 "_law_is_integer" q_law_is_integer 1 := (ok_law_is_integer F_law_is_integer (fun_at X G c (x := "_law_is_integer") 35 rfl) B).as hq_law_is_integer
  obtain ⟨_, F_law_samples⟩ := c.d.def_ 18 rfl
  have C_law_samples : Cal P w K mg base 3 "_law_samples" q_law_samples 3 := (ok_law_samples F_law_samples (fun_at X G c (x := "_law_samples") 36 rfl) B C_law_take C_law_cell).as hq_law_samples
  obtain ⟨_, F_law_single⟩ := c.d.def_ 19 rfl
  have C_law_single : Cal P w K mg base 4 "_law_single" q_law_single 1 := (ok_law_single F_law_single (fun_at X G c (x := "_law_single") 37 rfl) B Cbits_of).as hq_law_single
  obtain ⟨_, F_law_is_packing_right⟩ := c.d.def_ 20 rfl
  have C_law_is_packing_right : Cal P w K mg base 14 "_law_is_packing_right" q_law_is_packing_right 2 := (ok_law_is_packing_right F_law_is_packing_right (fun_at X G c (x := "_law_is_packing_right") 38 rfl) B Cpacked_of Cdifferences C_law_same Cfiltered_samples C_law_is_integer Cbits_of Cunpacked Csummed_samples C_law_take).as hq_law_is_packing_right
  obtain ⟨_, F_law_is_second_right⟩ := c.d.def_ 21 rfl
  have C_law_is_second_right : Cal P w K mg base 14 "_law_is_second_right" q_law_is_second_right 1 := (ok_law_is_second_right F_law_is_second_right (fun_at X G c (x := "_law_is_second_right") 39 rfl) B Cdifferences Csecond_differences C_law_same Cfiltered_samples Csummed_samples).as hq_law_is_second_right
  obtain ⟨_, F_law_are_bits_right⟩ := c.d.def_ 22 rfl
  have C_law_are_bits_right : Cal P w K mg base 14 "_law_are_bits_right" q_law_are_bits_right 2 := (ok_law_are_bits_right F_law_are_bits_right (fun_at X G c (x := "_law_are_bits_right") 40 rfl) B Cdifferences Csecond_differences Cbits_of C_law_same C_law_single Cbest_order).as hq_law_are_bits_right
  obtain ⟨_, F_law_are_runs_right⟩ := c.d.def_ 23 rfl
  have C_law_are_runs_right : Cal P w K mg base 14 "_law_are_runs_right" q_law_are_runs_right 1 := (ok_law_are_runs_right F_law_are_runs_right (fun_at X G c (x := "_law_are_runs_right") 41 rfl) B Cruns_packed C_law_is_integer C_law_same Csaved_by_runs).as hq_law_are_runs_right
  exact (oklaw F (fun_at X G c (x := "law") 42 rfl) B C_law_draws C_law_samples C_law_take C_law_is_packing_right C_law_is_second_right C_law_are_runs_right C_law_are_bits_right C_law_same Cbest_order Cunpacked).imp (law_sp law_data)
end
end LP
open PySem PySem.W PySem.Calls PyProof.Rows
theorem PySem.Challenge.cw_shocksknown_k61_whole_packing_and_back_holds : PySem.Challenge.rw_shocksknown_k61_whole_packing_and_back.Holds := by
  w_on; o_law
  refine HandSHeadRun.head_any (r := LP.LR) (q := view LP.LR.prog [29]) (H := LP.hkL) (ob := LP.obL) (M := 3000) (loose := ["bytes_of", "first_differences", "packed_of", "unpacked", "bits_for", "bits_of", "second_differences", "best_order", "runs_packed", "saved_by_runs", "filtered_samples", "differences", "summed_samples", "_law_draws", "_law_take", "_law_cell", "_law_same", "_law_is_integer", "_law_samples", "_law_single", "_law_is_packing_right", "_law_is_second_right", "_law_are_bits_right", "_law_are_runs_right", "LEAST", "MOST"]) (d := HandSHeadRun.topDef LP.LR.prog 29) (kwd := []) LP.obL_eq
    (by kernel_rfl) (fun s => by kernel_rfl) LP.runL (by kernel_rfl) (by kernel_rfl) (by kernel_rfl) (by rfl) (by first | assumption | decide +kernel) (by decide +kernel) ⟨rfl, rfl, rfl, rfl, rfl, by decide +kernel⟩ ?hw ?hc
  case hw => w_witness2
  case hc =>
    refine L2.walk_ofE (l := PySem.Challenge.rw_shocksknown_k61_whole_packing_and_back) (n := 63) (k := 15) (x := "script") (CX := L2.CX0) rfl (by decide) (by kernel_rfl) ⟨rfl, by decide, by decide⟩ ?F (fun _ _ _ _ z => z)
    intro w mg fa h Y G hmg0
    obtain ⟨K, KX, c⟩ := Y
    have hmg : mg ("law" : PySem.Str) = some (.ref fa) := by
      have e : (HandSHeadRun.topDef LP.LR.prog 29).name = ("law" : PySem.Str) := by kernel_rfl
      rw [← e]
      exact hmg0
    obtain ⟨fd, hb, hF⟩ := LP.factsL (P := (PySem.Challenge.rw_shocksknown_k61_whole_packing_and_back).prog) (w := w) KX G hmg c
    exact ⟨K, fd, PF.spLaw K, KX, hb, fun H a ns hl hO hS => ⟨a, ns, rfl, hS, hO, hl, fun _ => rfl⟩, hF⟩
